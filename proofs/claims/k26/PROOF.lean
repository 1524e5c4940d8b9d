import PyProof.Rows.All
import KE.KIndexOf
import Wide.All
import OpenK.AllK
import Wide.FinOn
import HandS.ForMost
import HandS.Wide
import HandS.IsInst
import HandS.TupAny
import HandS.Zip
import HandS.Deep
import HandS.Style
import HandS.Zip0
import HandS.Conv
import KE.SortData
import HandS.Defaults
import HandS.Property
import HandS.ClsMeth
import HandS.Star
import KE.KOpsOwn
import KE.DataMinMax
import KE.DataAny
import HandS.OwnEq
import PyProof.NeKinds
import HandS.FStr
import HandS.RaiseMore
import KE.KCallOwn
import HandS.Lambda
import HandS.ExcInit
import HandS.WordsExc
import HandS.CallSlots
import HandS.ExcField
import HandS.HotCalls
import KE.KTryMore
import HandS.EndOwn
import KE.GoesEnum
import HandS.TupMul
import KE.KNestM
import HandS.ClsMeth
import PyProof.InstNe
import HandS.MakeKwOnly
import KE.KExcInit
import HandS.Sort
import PyProof.Rows.Range3
import HandS.MakeKw
import HandS.DictComp
import HandS.TupLen
import KE.KEqDict
import PyProof.EqAt
import PySem.Challenge.RW_wishwalls_k26_buyers_told
set_option Elab.async false
set_option linter.all false
set_option maxRecDepth 100000
set_option maxHeartbeats 4000000
/-! DL: a heap-free reading over HandS. Data D, what represents it (Rep), the state of a def's run by slots. -/
namespace DL
open PySem L2

/-- a lambda of the text -/
structure LamC where
  q : Str
  params : Arguments
  body : Expr
  scope : Scope
/-- its function, the cells cl, the defaults dV -/
abbrev lamFn (k : LamC) (cl : List (Str × Addr)) (dV pm cd ct : Value) : FuncData :=
  { name := "<lambda>", qualname := k.q, params := k.params, body := .expr k.body, scope := k.scope, globals := mainGlobals, closure := cl, defaults := dV, kwdefaults := .none, doc := .none, pyModule := pm, annotations := none, code := cd, closureTuple := ct, builtins := builtinsNs }
abbrev lamObj (k : LamC) (cl : List (Str × Addr)) (dV pm : Value) (c' : Addr) (ct : Value) : Obj := { cls := .type "function", data := .func (lamFn k cl dV pm (.ref c') ct) }
/-- the tuple of one int -/
abbrev oneT (n : Int) (t : Tok) : Obj := { cls := .type "tuple", data := .seq #[.int n t] }
/-- an object that is known, and stays -/
def pinO (o : Obj) : HO := .frz o (.ext fun _ => True)
/-- the name of the lambda at a place of the text -/
def lawQ (_ : Pos) : Str := "law.<locals>.<lambda>"
/-- a table of code objects of lambdas -/
def TabL (H : Hp) (P : Addr) : Prop := ∃ ps : Array Value, H P = some (.tbl ps) ∧ TriplesOk ps.toList ∧ ∀ (pos : Pos) (cv : Value), codeAmong pos ps.toList = some cv → ∃ c, cv = .ref c ∧ H c = some (LamX.CodeO c (lawQ pos))
theorem TabL.ext {H H' : Hp} {P : Addr} (t : TabL H P) (e : ∀ b o, H b = some o → H' b = some o) : TabL H' P := by
  obtain ⟨ps, h1, h2, h3⟩ := t
  refine ⟨ps, e _ _ h1, h2, fun pos cv hc => ?_⟩
  obtain ⟨c, e1, e2⟩ := h3 pos cv hc
  exact ⟨c, e1, e _ _ e2⟩
/-- no table of code objects, no code object -/
def NT (o : HO) : Prop := (∀ ps, o ≠ .tbl ps) ∧ ∀ c q, o ≠ LamX.CodeO c q
/-- no code object, no tuple -/
def NCo (o : HO) : Prop := (∀ c q, o ≠ LamX.CodeO c q) ∧ ∀ vs, o ≠ .tup vs
inductive D where
  | non | bl (b : Bool) | int (i : Int) | str (x : Str) | adr (a : Addr) | ty (n : String)
  | tup (xs : List D) | lst (xs : List D) | obj (C : Addr) (fs : List (Str × D)) | dK (kvs : List (Key × D)) | dT (kvs : List (List Key × D))
  | exc (C : Addr) (fs : List (Str × D)) | lmu (k : LamC) (cl : List (Str × Addr))

/-- a tuple of the frozen part -/
def TupG (G : Hp) (a : Addr) (vs : List V) : Prop := G a = some (.tup vs)
theorem TupG.ex {G H : Hp} {a : Addr} {vs : List V} (h : TupG G a vs) (x : Same G H) : TupG H a vs := x _ _ h
theorem TupG.rd {G : Hp} {a : Addr} {vs : List V} (h : TupG G a vs) : Rd G a (.tup vs) := .inl h
theorem TupG.sq {K : PySem.W.Frag} {G H : Hp} {a : Addr} {vs : List V} (h : TupG G a vs) (x : Same G H) : SqT K H a vs := .inl (h.ex x).rd
/-- v stands for d, by the frozen part G of the heap -/
inductive Rep (G : Hp) : V → D → Prop
  | non : Rep G .non .non
  | bl (b : Bool) : Rep G (.bl b) (.bl b)
  | int (i : Int) : Rep G (.int i) (.int i)
  | str (x : Str) : Rep G (.str x) (.str x)
  | adr (a : Addr) : Rep G (.ref a) (.adr a)
  | ty (n : String) : Rep G (.ty n) (.ty n)
  | tup {a : Addr} {vs : List V} {ds : List D} (h : TupG G a vs) (n : vs.length = ds.length) (e : ∀ (i : Nat) (v : V) (d : D), vs[i]? = some v → ds[i]? = some d → Rep G v d) : Rep G (.ref a) (.tup ds)
  | lst {a : Addr} {vs : List V} {ds : List D} (h : G a = some (.lst vs)) (n : vs.length = ds.length) (e : ∀ (i : Nat) (v : V) (d : D), vs[i]? = some v → ds[i]? = some d → Rep G v d) : Rep G (.ref a) (.lst ds)
  | obj {a C dx : Addr} {fvs : List (Str × V)} {fs : List (Str × D)} (h : G a = some (.ins C dx fvs)) (hd : G dx = some (.own a)) (n : fvs.map (·.1) = fs.map (·.1)) (e : ∀ (i : Nat) (v : Str × V) (d : Str × D), fvs[i]? = some v → fs[i]? = some d → Rep G v.2 d.2) : Rep G (.ref a) (.obj C fs)
  | dK {a : Addr} {od : Obj} {kvs : List (Key × V)} {ds : List (Key × D)} (h : G a = some (.frz od (.dK kvs))) (n : kvs.map (·.1) = ds.map (·.1)) (e : ∀ (i : Nat) (v : Key × V) (d : Key × D), kvs[i]? = some v → ds[i]? = some d → Rep G v.2 d.2) : Rep G (.ref a) (.dK ds)
  | dT {a : Addr} {od : Obj} {kvs : List (List Key × V)} {ds : List (List Key × D)} (h : G a = some (.frz od (.dT kvs))) (n : kvs.map (·.1) = ds.map (·.1)) (e : ∀ (i : Nat) (v : List Key × V) (d : List Key × D), kvs[i]? = some v → ds[i]? = some d → Rep G v.2 d.2) : Rep G (.ref a) (.dT ds)

  | exc {a C dx : Addr} {oe : Obj} {fvs : List (Str × V)} {fs : List (Str × D)} (h : G a = some (pinO oe)) (hc : oe.cls = .ref C) (hd : oe.dict = some dx) (hf : ∃ vs, oe.data = .fields vs) (hx : G dx = some (.xd fvs)) (n : fvs.map (·.1) = fs.map (·.1)) (e : ∀ (i : Nat) (v : Str × V) (d : Str × D), fvs[i]? = some v → fs[i]? = some d → Rep G v.2 d.2) : Rep G (.ref a) (.exc C fs)
  | lmu {f c' : Addr} {dV pm ct : Value} {k : LamC} {cl : List (Str × Addr)} (h : G f = some (pinO (lamObj k cl dV pm c' ct))) (hc : G c' = some (LamX.CodeO c' k.q)) (hd : (dV = .none ∧ k.params.defaults = []) ∨ ∃ (T : Addr) (n : Int) (t : Tok), (dV = .ref T ∧ k.params.defaults ≠ []) ∧ G T = some (pinO (oneT n t))) : Rep G (.ref f) (.lmu k cl)

abbrev Ex (H H' : Hp) : Prop := Same H H'
theorem Ex.new {H : Hp} {p : Addr} {o : HO} (h : H p = none) : Ex H (upd H p o) := fun a u e => by
  rw [upd_ne (ne_of_none e h)]; exact e
theorem Ex.upd2 {G H : Hp} {p : Addr} {o : HO} (h : Ex G H) : Ex (upd G p o) (upd H p o) := fun a u e => by
  unfold upd at e ⊢
  by_cases q : a = p
  · rw [if_pos q] at e ⊢; exact e
  · rw [if_neg q] at e ⊢; exact h _ _ e
theorem Ex.out {G H : Hp} {p : Addr} {o : HO} (h : Ex G H) (n : G p = none) : Ex G (upd H p o) := fun a u e => by
  rw [upd_ne (ne_of_none e n)]; exact h _ _ e

theorem Rep.mono {G G' : Hp} {v : V} {d : D} (x : Ex G G') (r : Rep G v d) : Rep G' v d := by
  induction r with
  | non => exact .non
  | bl b => exact .bl b
  | int i => exact .int i
  | str x => exact .str x
  | adr a => exact .adr a
  | ty n => exact .ty n
  | tup h n _ ih => exact .tup (h.ex x) n ih
  | lst h n _ ih => exact .lst (x _ _ h) n ih
  | obj h hd n _ ih => exact .obj (x _ _ h) (x _ _ hd) n ih
  | dK h n _ ih => exact .dK (x _ _ h) n ih
  | dT h n _ ih => exact .dT (x _ _ h) n ih
  | exc h hc hd hf hx n _ ih => exact .exc (x _ _ h) hc hd hf (x _ _ hx) n ih
  | lmu h hc hd => exact .lmu (x _ _ h) (x _ _ hc) (hd.imp id fun ⟨T, n, t, e, q⟩ => ⟨T, n, t, e, x _ _ q⟩)

def RepL (G : Hp) (vs : List V) (ds : List D) : Prop := vs.length = ds.length ∧ ∀ (i : Nat) (v : V) (d : D), vs[i]? = some v → ds[i]? = some d → Rep G v d
theorem RepL.nil {G : Hp} : RepL G [] [] := ⟨rfl, fun i v d h => by simp at h⟩
theorem RepL.cons {G : Hp} {v : V} {d : D} {vs : List V} {ds : List D} (r : Rep G v d) (h : RepL G vs ds) : RepL G (v :: vs) (d :: ds) := by
  refine ⟨by simp [h.1], fun i w e h1 h2 => ?_⟩
  cases i with
  | zero => simp at h1 h2; subst h1; subst h2; exact r
  | succ i => simp at h1 h2; exact h.2 i w e h1 h2
theorem RepL.mono {G G' : Hp} {vs : List V} {ds : List D} (x : Ex G G') (h : RepL G vs ds) : RepL G' vs ds := ⟨h.1, fun i v d a b => (h.2 i v d a b).mono x⟩
theorem RepL.head {G : Hp} {v : V} {d : D} {vs : List V} {ds : List D} (h : RepL G (v :: vs) (d :: ds)) : Rep G v d := h.2 0 v d rfl rfl
theorem RepL.tail {G : Hp} {v : V} {d : D} {vs : List V} {ds : List D} (h : RepL G (v :: vs) (d :: ds)) : RepL G vs ds :=
  ⟨by have := h.1; simpa using this, fun i w e a b => h.2 (i + 1) w e (by simpa using a) (by simpa using b)⟩
theorem RepL.inv {G : Hp} : ∀ {vs : List V} {d : D} {ds : List D}, RepL G vs (d :: ds) → ∃ v r, vs = v :: r ∧ Rep G v d ∧ RepL G r ds
  | [], _, _, h => by have := h.1; simp at this
  | v :: r, _, _, h => ⟨v, r, rfl, h.head, h.tail⟩
theorem RepL.inv0 {G : Hp} : ∀ {vs : List V}, RepL G vs [] → vs = []
  | [], _ => rfl
  | _ :: _, h => by have := h.1; simp at this
theorem RepL.app {G : Hp} : ∀ {vs ws : List V} {ds es : List D}, RepL G vs ds → RepL G ws es → RepL G (vs ++ ws) (ds ++ es)
  | [], _, [], _, _, h => h
  | v :: vs, _, d :: ds, _, h, h' => .cons h.head (RepL.app h.tail h')
  | [], _, _ :: _, _, h, _ => by have := h.1; simp at this
  | _ :: _, _, [], _, h, _ => by have := h.1; simp at this
theorem RepL.snoc {G : Hp} {vs : List V} {ds : List D} {v : V} {d : D} (h : RepL G vs ds) (r : Rep G v d) : RepL G (vs ++ [v]) (ds ++ [d]) := h.app (.cons r .nil)
theorem RepL.get {G : Hp} {vs : List V} {ds : List D} {i : Nat} {d : D} (h : RepL G vs ds) (e : ds[i]? = some d) : ∃ v, vs[i]? = some v ∧ Rep G v d := by
  have hi : i < ds.length := (List.getElem?_eq_some_iff.mp e).1
  have hv : i < vs.length := by rw [h.1]; exact hi
  exact ⟨vs[i], List.getElem?_eq_getElem hv, h.2 i _ _ (List.getElem?_eq_getElem hv) e⟩
theorem RepL.getV {G : Hp} {vs : List V} {ds : List D} {i : Nat} {v : V} (h : RepL G vs ds) (e : vs[i]? = some v) : ∃ d, ds[i]? = some d ∧ Rep G v d := by
  have hi : i < vs.length := (List.getElem?_eq_some_iff.mp e).1
  have hv : i < ds.length := by rw [← h.1]; exact hi
  exact ⟨ds[i], List.getElem?_eq_getElem hv, h.2 i _ _ e (List.getElem?_eq_getElem hv)⟩
theorem RepL.take {G : Hp} {vs : List V} {ds : List D} (n : Nat) (h : RepL G vs ds) : RepL G (vs.take n) (ds.take n) := by
  refine ⟨by simp [h.1], fun i v d a b => ?_⟩
  rw [List.getElem?_take] at a b
  split at a
  · rename_i q; rw [if_pos q] at b; exact h.2 i v d a b
  · cases a
theorem RepL.drop {G : Hp} {vs : List V} {ds : List D} (n : Nat) (h : RepL G vs ds) : RepL G (vs.drop n) (ds.drop n) := by
  refine ⟨by simp [h.1], fun i v d a b => ?_⟩
  rw [List.getElem?_drop] at a b
  exact h.2 _ v d a b
theorem RepL.erase {G : Hp} {vs : List V} {ds : List D} (k : Nat) (h : RepL G vs ds) : RepL G (vs.eraseIdx k) (ds.eraseIdx k) := by
  refine ⟨by simp [List.length_eraseIdx, h.1], fun i v d a b => ?_⟩
  rw [List.getElem?_eraseIdx] at a b
  split at a
  · rename_i q; rw [if_pos q] at b; exact h.2 _ v d a b
  · rename_i q; rw [if_neg q] at b; exact h.2 _ v d a b
theorem RepL.set {G : Hp} {vs : List V} {ds : List D} {v : V} {d : D} (k : Nat) (h : RepL G vs ds) (r : Rep G v d) : RepL G (vs.set k v) (ds.set k d) := by
  refine ⟨by simp [h.1], fun i w e a b => ?_⟩
  rw [List.getElem?_set] at a b
  split at a
  · rename_i q; rw [if_pos q] at b
    split at a
    · rename_i q2; rw [if_pos (by rw [← h.1]; exact q2)] at b
      cases a; cases b; exact r
    · cases a
  · rename_i q; rw [if_neg q] at b; exact h.2 _ w e a b
theorem RepL.ints {G : Hp} : ∀ {vs : List V} {ns : List Int}, RepL G vs (ns.map .int) → vs = ns.map V.int
  | [], [], _ => rfl
  | v :: vs, n :: ns, h => by
    have h1 : Rep G v (.int n) := h.head
    cases h1
    have h2 : RepL G vs (ns.map .int) := h.tail
    rw [RepL.ints h2]; rfl
  | [], _ :: _, h => by have := h.1; simp at this
  | _ :: _, [], h => by have := h.1; simp at this
theorem RepL.bls {G : Hp} : ∀ {vs : List V} {ns : List Bool}, RepL G vs (ns.map .bl) → vs = ns.map V.bl
  | [], [], _ => rfl
  | v :: vs, n :: ns, h => by
    have h1 : Rep G v (.bl n) := h.head
    cases h1
    have h2 : RepL G vs (ns.map .bl) := h.tail
    rw [RepL.bls h2]; rfl
  | [], _ :: _, h => by have := h.1; simp at this
  | _ :: _, [], h => by have := h.1; simp at this
theorem repL_ints {G : Hp} : ∀ (ns : List Int), RepL G (ns.map V.int) (ns.map D.int)
  | [] => .nil
  | n :: ns => .cons (.int n) (repL_ints ns)

/-! ### the bag of a law: a list of five, the first a list of ints -/
structure Bag (G H : Hp) (b : Addr) : Prop where
  out : G b = none
  is : ∃ (c : Addr) (cells : List Int) (at' left st cnt : Int), H b = some (.lst [.ref c, .int at', .int left, .int st, .int cnt]) ∧ G c = some (.lst (cells.map V.int)) ∧
    0 ≤ at' ∧ 0 ≤ left ∧ 0 ≤ st ∧ st < 2147483399 ∧ cells.length ≤ 63

/-- pairs by name -/
def RepF {κ : Type} (G : Hp) (vs : List (κ × V)) (ds : List (κ × D)) : Prop := vs.map (·.1) = ds.map (·.1) ∧ ∀ (i : Nat) (v : κ × V) (d : κ × D), vs[i]? = some v → ds[i]? = some d → Rep G v.2 d.2
theorem RepF.mono {κ : Type} {G G' : Hp} {vs : List (κ × V)} {ds : List (κ × D)} (x : Ex G G') (h : RepF G vs ds) : RepF G' vs ds := ⟨h.1, fun i v d a b => (h.2 i v d a b).mono x⟩
theorem RepF.nil {κ : Type} {G : Hp} : RepF (κ := κ) G [] [] := ⟨rfl, fun i v d h => by simp at h⟩
/-- a thing that a def owns and may change -/
inductive Ob where
  | lst (xs : List D) | ins (C dx : Addr) (fs : List (Str × D)) | dK (kvs : List (Key × D)) | dT (kvs : List (List Key × D))
inductive Slot where
  | un | d (x : D) | own (a : Addr) (o : Ob) | raw (v : V)

structure Ctx where
  β : Option Addr
  G0 : Hp
  H0 : Hp
  ξ : D → Prop

structure Core (c : Ctx) (G H : Hp) : Prop where
  g0 : Ex c.G0 G
  h0 : ∀ a o, c.H0 a = some o → some a ≠ c.β → NT o → H a = some o
  tn : ∀ a o, c.H0 a = some o → ¬ NT o → H a ≠ none
  tb : ∀ P, TabL c.H0 P → TabL H P
  nw : ∀ a o, G a = some o → NCo o → c.G0 a = none → c.H0 a = none
  gh : Ex G H
  bg : ∀ b, c.β = some b → Bag G H b
  b0 : ∀ b, c.β = some b → c.H0 b ≠ none

/-- an owned thing: what stands in the heap -/
def ObR (c : Ctx) (G H : Hp) (a : Addr) : Ob → Prop
  | .lst xs => ∃ vs, H a = some (.lst vs) ∧ RepL G vs xs
  | .ins C dx fs => G dx = none ∧ c.H0 dx = none ∧ H dx = some (.own a) ∧ ∃ fvs, H a = some (.ins C dx fvs) ∧ RepF G fvs fs
  | .dK kvs => ∃ vs, H a = some (.dK vs) ∧ RepF G vs kvs
  | .dT kvs => ∃ vs, H a = some (.dT vs) ∧ RepF G vs kvs
/-- a slot: what it holds -/
def SlotR (c : Ctx) (G H : Hp) (ov : Option (Option V)) : Slot → Prop
  | .un => True
  | .d x => ∃ v, ov = some (some v) ∧ Rep G v x
  | .raw v => ov = some (some v)
  | .own a o => ov = some (some (.ref a)) ∧ G a = none ∧ c.H0 a = none ∧ ObR c G H a o

structure Sta (c : Ctx) (G H : Hp) (σ : St) (ρ : List Slot) : Prop where
  core : Core c G H
  len : σ.length = ρ.length
  sl : ∀ (i : Nat) (s : Slot), ρ[i]? = some s → SlotR c G H σ[i]? s
  dj : ∀ (i j : Nat) (a : Addr) (o o' : Ob), ρ[i]? = some (Slot.own a o) → ρ[j]? = some (Slot.own a o') → i = j

/-- the heap has grown, the frozen part with it -/
structure Grow (β : Option Addr) (G H G' H' : Hp) : Prop where
  gg : Ex G G'
  hh : ∀ a o, H a = some o → some a ≠ β → NT o → H' a = some o
  tn : ∀ a o, H a = some o → ¬ NT o → H' a ≠ none
  tb : ∀ P, TabL H P → TabL H' P
  gh : Ex G' H'
  nw : ∀ a o, G' a = some o → NCo o → G a = none → H a = none
  bg : ∀ b, β = some b → Bag G' H' b

theorem nt_ext {o : HO} (h1 : ∀ ps, o ≠ .tbl ps) (h2 : ∀ φ, o ≠ .ext φ) : NT o := ⟨h1, fun c q => by unfold LamX.CodeO; exact h2 _⟩
theorem nt_lst {xs : List V} : NT (.lst xs) := nt_ext (fun _ h => by cases h) (fun _ h => by cases h)
theorem nt_ins {C dx : Addr} {fs : List (Str × V)} : NT (.ins C dx fs) := nt_ext (fun _ h => by cases h) (fun _ h => by cases h)
theorem nt_own {x : Addr} : NT (.own x) := nt_ext (fun _ h => by cases h) (fun _ h => by cases h)
theorem nt_dK {xs : List (Key × V)} : NT (.dK xs) := nt_ext (fun _ h => by cases h) (fun _ h => by cases h)
theorem nt_dT {xs : List (List Key × V)} : NT (.dT xs) := nt_ext (fun _ h => by cases h) (fun _ h => by cases h)
theorem nt_frz {o : Obj} {u : HO} : NT (.frz o u) := nt_ext (fun _ h => by cases h) (fun _ h => by cases h)
theorem nt_xd {fs : List (Str × V)} : NT (.xd fs) := nt_ext (fun _ h => by cases h) (fun _ h => by cases h)
theorem Bag.th {G H : Hp} {b : Addr} (B : Bag G H b) : H b ≠ none := by
  obtain ⟨c', cells, x1, x2, x3, x4, hb, _⟩ := B.is
  rw [hb]; simp
/-- what was there is there -/
theorem Core.th {c : Ctx} {G H : Hp} {a : Addr} {u : HO} (k : Core c G H) (q : c.H0 a = some u) : H a ≠ none := by
  by_cases n : some a = c.β
  · exact (k.bg a n.symm).th
  · by_cases h : NT u
    · rw [k.h0 a u q n h]; simp
    · exact k.tn a u q h
theorem Core.fr {c : Ctx} {G H : Hp} {a : Addr} (k : Core c G H) (h : H a = none) : c.H0 a = none := by
  cases q : c.H0 a with
  | none => rfl
  | some u => exact absurd h (k.th q)
theorem Grow.th {β : Option Addr} {G H G' H' : Hp} {a : Addr} {u : HO} (g : Grow β G H G' H') (q : H a = some u) : H' a ≠ none := by
  by_cases n : some a = β
  · exact (g.bg a n.symm).th
  · by_cases h : NT u
    · rw [g.hh a u q n h]; simp
    · exact g.tn a u q h
theorem Grow.fr {β : Option Addr} {G H G' H' : Hp} {a : Addr} (g : Grow β G H G' H') (h : H' a = none) : H a = none := by
  cases q : H a with
  | none => rfl
  | some u => exact absurd h (g.th q)
/-- what is there and not frozen stays so -/
theorem Grow.own {β : Option Addr} {G H G' H' : Hp} {b : Addr} {u : HO} (g : Grow β G H G' H') (hb : H b = some u) (nt : NT u) (nq : ∀ vs, u ≠ .tup vs) (nb : some b ≠ β) (gb : G b = none) : G' b = none := by
  cases q : G' b with
  | none => rfl
  | some w =>
    have e := g.gh b w q
    rw [g.hh b u hb nb nt] at e
    cases e
    have z := g.nw b u q ⟨nt.2, nq⟩ gb
    rw [hb] at z
    cases z
theorem Core.grow {c : Ctx} {G H G' H' : Hp} (k : Core c G H) (g : Grow c.β G H G' H') : Core c G' H' := by
  refine ⟨k.g0.trans g.gg, fun a o h n t => g.hh a o (k.h0 a o h n t) n t, fun a o h nt => ?_, fun P h => g.tb P (k.tb P h), fun a o h nt h0 => ?_, g.gh, g.bg, k.b0⟩
  · cases e : H a with
    | none => exact absurd e (k.tn a o h nt)
    | some u => exact g.th e
  · cases e : G a with
    | some u => exact k.nw a u e (by have := g.gg a u e; rw [h] at this; cases this; exact nt) h0
    | none => exact k.fr (g.nw a o h nt e)
theorem ObR.there {c : Ctx} {G H : Hp} {a : Addr} {o : Ob} (h : ObR c G H a o) : ∃ u, H a = some u := by
  cases o with
  | lst xs => obtain ⟨vs, h, _⟩ := h; exact ⟨_, h⟩
  | ins C dx fs => obtain ⟨_, _, _, vs, h, _⟩ := h; exact ⟨_, h⟩
  | dK kvs => obtain ⟨vs, h, _⟩ := h; exact ⟨_, h⟩
  | dT kvs => obtain ⟨vs, h, _⟩ := h; exact ⟨_, h⟩
theorem ObR.nt {c : Ctx} {G H : Hp} {a : Addr} {o : Ob} (h : ObR c G H a o) : ∃ u, H a = some u ∧ NT u ∧ ∀ vs, u ≠ .tup vs := by
  cases o with
  | lst xs => obtain ⟨vs, h, _⟩ := h; exact ⟨_, h, nt_lst, fun _ z => by cases z⟩
  | ins C dx fs => obtain ⟨_, _, _, vs, h, _⟩ := h; exact ⟨_, h, nt_ins, fun _ z => by cases z⟩
  | dK kvs => obtain ⟨vs, h, _⟩ := h; exact ⟨_, h, nt_dK, fun _ z => by cases z⟩
  | dT kvs => obtain ⟨vs, h, _⟩ := h; exact ⟨_, h, nt_dT, fun _ z => by cases z⟩
/-- it stays, where its places stay -/
theorem ObR.stay {c : Ctx} {G H G' H' : Hp} {a : Addr} {o : Ob} (h : ObR c G H a o) (g : Ex G G') (hh : ∀ b u, H b = some u → NT u → (∀ vs, u ≠ .tup vs) → G b = none → c.H0 b = none → (b = a ∨ u = .own a) → G' b = none ∧ H' b = some u) (ga : G a = none) (ha : c.H0 a = none) : ObR c G' H' a o := by
  cases o with
  | lst xs => obtain ⟨vs, h, r⟩ := h; exact ⟨vs, (hh _ _ h nt_lst (fun _ z => by cases z) ga ha (.inl rfl)).2, r.mono g⟩
  | dK xs => obtain ⟨vs, h, r⟩ := h; exact ⟨vs, (hh _ _ h nt_dK (fun _ z => by cases z) ga ha (.inl rfl)).2, r.mono g⟩
  | dT xs => obtain ⟨vs, h, r⟩ := h; exact ⟨vs, (hh _ _ h nt_dT (fun _ z => by cases z) ga ha (.inl rfl)).2, r.mono g⟩
  | ins C dx fs =>
    obtain ⟨gd, hd0, hd, vs, h, r⟩ := h
    have z := hh _ _ hd nt_own (fun _ z => by cases z) gd hd0 (.inr rfl)
    exact ⟨z.1, hd0, z.2, vs, (hh _ _ h nt_ins (fun _ z => by cases z) ga ha (.inl rfl)).2, r.mono g⟩
theorem Sta.grow {c : Ctx} {G H G' H' : Hp} {σ : St} {ρ : List Slot} (k : Sta c G H σ ρ) (g : Grow c.β G H G' H') : Sta c G' H' σ ρ := by
  refine ⟨k.core.grow g, k.len, fun i s e => ?_, k.dj⟩
  have h := k.sl i s e
  cases s with
  | un => trivial
  | d x => obtain ⟨v, e, r⟩ := h; exact ⟨v, e, r.mono g.gg⟩
  | raw v => exact h
  | own a o =>
    obtain ⟨e, n, n0, r⟩ := h
    have key : ∀ b u, H b = some u → NT u → (∀ vs, u ≠ .tup vs) → G b = none → c.H0 b = none → G' b = none ∧ H' b = some u := fun b u hb nt nq gb h0 => by
      refine ⟨?_, g.hh b _ hb (fun z => k.core.b0 b z.symm h0) nt⟩
      exact g.own hb nt nq (fun z => k.core.b0 b z.symm h0) gb
    obtain ⟨u, hu, nu, nq⟩ := r.nt
    exact ⟨e, (key a u hu nu nq n n0).1, n0, r.stay g.gg (fun b u h1 ht hq h2 h3 _ => key b u h1 ht hq h2 h3) n n0⟩
theorem Grow.refl {β : Option Addr} {G H : Hp} (h : Ex G H) (b : ∀ b, β = some b → Bag G H b) : Grow β G H G H :=
  ⟨Same.refl G, fun _ _ h _ _ => h, fun a o h _ => by rw [h]; simp, fun _ h => h, h, fun a o h _ n => absurd (h.symm.trans n) (by simp), b⟩
theorem Grow.trans {β : Option Addr} {G H G1 H1 G2 H2 : Hp} (g : Grow β G H G1 H1) (g' : Grow β G1 H1 G2 H2) (hb : ∀ b, β = some b → H b ≠ none) : Grow β G H G2 H2 := by
  refine ⟨g.gg.trans g'.gg, fun a o h n t => g'.hh a o (g.hh a o h n t) n t, fun a o h nt => ?_, fun P h => g'.tb P (g.tb P h), g'.gh, fun a o h nt n => ?_, g'.bg⟩
  · cases e : H1 a with
    | none => exact absurd e (g.tn a o h nt)
    | some u => exact g'.th e
  · cases e : G1 a with
    | some u => exact g.nw a u e (by have := g'.gg a u e; rw [h] at this; cases this; exact nt) n
    | none => exact g.fr (g'.nw a o h nt e)
theorem tab_ext {H H' : Hp} (e : ∀ b o, H b = some o → H' b = some o) : ∀ P, TabL H P → TabL H' P := fun _ t => t.ext e
/-- what is neither a table nor a code object may change -/
theorem tab_upd {H : Hp} {a : Addr} {o u : HO} (h : H a = some u) (nt : NT u) : ∀ P, TabL H P → TabL (upd H a o) P := fun P t => by
  obtain ⟨ps, h1, h2, h3⟩ := t
  refine ⟨ps, by rw [upd_ne (fun z => by subst z; rw [h] at h1; cases h1; exact nt.1 _ rfl)]; exact h1, h2, fun pos cv hc => ?_⟩
  obtain ⟨c, e1, e2⟩ := h3 pos cv hc
  exact ⟨c, e1, by rw [upd_ne (fun z => by subst z; rw [h] at e2; cases e2; exact nt.2 _ _ rfl)]; exact e2⟩
theorem Bag.mono {G H G' H' : Hp} {b : Addr} (x : Bag G H b) (e : Ex G G') (h : H' b = H b) (n : G' b = none) : Bag G' H' b := by
  refine ⟨n, ?_⟩
  obtain ⟨c, cells, x1, x2, x3, x4, h1, h2, r⟩ := x.is
  exact ⟨c, cells, x1, x2, x3, x4, by rw [h]; exact h1, e _ _ h2, r⟩
/-- an own thing, made since, is changed -/
theorem Grow.put {β : Option Addr} {G H G' H' : Hp} {a : Addr} {o u : HO} (g : Grow β G H G' H') (ha : H a = none) (ga : G' a = none) (hu : H' a = some u) (nt : NT u) (nb : some a ≠ β) : Grow β G H G' (upd H' a o) := by
  have ne : ∀ b w, H b = some w → b ≠ a := fun b w h z => by subst z; rw [ha] at h; cases h
  refine ⟨g.gg, fun b w h n t => by rw [upd_ne (ne b w h)]; exact g.hh b w h n t, fun b w h t => by rw [upd_ne (ne b _ h)]; exact g.tn b w h t, fun P h => tab_upd hu nt P (g.tb P h), g.gh.out ga, g.nw, fun b e => (g.bg b e).mono (Same.refl G') (upd_ne fun z => nb (by rw [← z, e])) (g.bg b e).out⟩
/-- a new object, frozen -/
theorem Grow.new {β : Option Addr} {G H : Hp} {p : Addr} {o : HO} (h : Ex G H) (b : ∀ b, β = some b → Bag G H b) (n : H p = none) : Grow β G H (upd G p o) (upd H p o) := by
  have gn : G p = none := h.free n
  refine ⟨Ex.new gn, fun a u e _ _ => Ex.new n a u e, fun a u e _ => by rw [Ex.new n a _ e]; simp, tab_ext (Ex.new n), h.upd2, fun a u e _ g => ?_, fun b' e => ?_⟩
  · by_cases q : a = p
    · rw [q]; exact n
    · rw [upd_ne q] at e; rw [g] at e; cases e
  · have B := b b' e
    obtain ⟨c', cells, x1, x2, x3, x4, hb, _⟩ := B.is
    have ne : b' ≠ p := ne_of_none hb n
    exact B.mono (Ex.new gn) (upd_ne ne) (by rw [upd_ne ne]; exact B.out)
/-- a new object, not frozen -/
theorem Grow.fresh {β : Option Addr} {G H : Hp} {p : Addr} {o : HO} (h : Ex G H) (b : ∀ b, β = some b → Bag G H b) (n : H p = none) : Grow β G H G (upd H p o) := by
  have gn : G p = none := h.free n
  refine ⟨Same.refl G, fun a u e _ _ => Ex.new n a u e, fun a u e _ => by rw [Ex.new n a _ e]; simp, tab_ext (Ex.new n), h.out gn, fun a u e _ g => absurd (e.symm.trans g) (by simp), fun b' e => ?_⟩
  have B := b b' e
  obtain ⟨c', cells, x1, x2, x3, x4, hb, _⟩ := B.is
  exact B.mono (Same.refl G) (upd_ne (ne_of_none hb n)) B.out
end DL

namespace DL
open PySem L2

/-! ### plain data and equality -/
mutual
def D.py : D → PyData
  | .non => .none
  | .bl b => .bool b
  | .int i => .int i
  | .str x => .str x
  | .tup xs => .tuple (D.pyL xs)
  | .lst xs => .list (D.pyL xs)
  | .adr _ => .none
  | .ty _ => .none
  | .obj _ _ => .none
  | .dK _ => .none
  | .dT _ => .none
  | .exc _ _ => .none
  | .lmu _ _ => .none
def D.pyL : List D → List PyData
  | [] => []
  | x :: xs => x.py :: D.pyL xs
end
mutual
def D.plain : Nat → D → Bool
  | _, .non => true
  | _, .bl _ => true
  | _, .int _ => true
  | _, .str x => PyData.strOk x
  | 0, .tup _ => false
  | 0, .lst _ => false
  | n + 1, .tup xs => D.plainL n xs
  | n + 1, .lst xs => D.plainL n xs
  | _, .adr _ => false
  | _, .ty _ => false
  | _, .obj _ _ => false
  | _, .dK _ => false
  | _, .dT _ => false
  | _, .exc _ _ => false
  | _, .lmu _ _ => false
def D.plainL : Nat → List D → Bool
  | _, [] => true
  | n, x :: xs => D.plain n x && D.plainL n xs
end
mutual
/-- no list or tuple in it is long -/
def D.lens : D → Bool
  | .tup xs => decide (xs.length ≤ 1000) && D.lensL xs
  | .lst xs => decide (xs.length ≤ 1000) && D.lensL xs
  | _ => true
def D.lensL : List D → Bool
  | [] => true
  | x :: xs => D.lens x && D.lensL xs
end
theorem lensL_all (xs : List D) : D.lensL xs = xs.all D.lens := by
  induction xs with
  | nil => rfl
  | cons x xs ih => rw [D.lensL, ih]; rfl
theorem pyL_map (xs : List D) : D.pyL xs = xs.map D.py := by
  induction xs with
  | nil => rfl
  | cons x xs ih => rw [D.pyL, ih]; rfl
theorem plainL_all (n : Nat) (xs : List D) : D.plainL n xs = xs.all (D.plain n) := by
  induction xs with
  | nil => rfl
  | cons x xs ih => rw [D.plainL, ih]; rfl
mutual
theorem plain_lay : ∀ (n : Nat) (d : D), d.plain n = true → d.py.canLay0 = true ∧ d.py.depth ≤ n
  | _, .non, _ => ⟨rfl, Nat.zero_le _⟩
  | _, .bl _, _ => ⟨rfl, Nat.zero_le _⟩
  | _, .int _, _ => ⟨rfl, Nat.zero_le _⟩
  | n, .str x, h => ⟨by simpa [D.plain, D.py, PyData.canLay0] using h, Nat.zero_le _⟩
  | 0, .tup _, h => by simp [D.plain] at h
  | 0, .lst _, h => by simp [D.plain] at h
  | n + 1, .tup xs, h => by
    have := plain_layL n xs (by simpa [D.plain] using h)
    exact ⟨by simpa [D.py, PyData.canLay0] using this.1, by simp [D.py, PyData.depth]; exact this.2⟩
  | n + 1, .lst xs, h => by
    have := plain_layL n xs (by simpa [D.plain] using h)
    exact ⟨by simpa [D.py, PyData.canLay0] using this.1, by simp [D.py, PyData.depth]; exact this.2⟩
  | n, .adr _, h => by cases n <;> simp [D.plain] at h
  | n, .ty _, h => by cases n <;> simp [D.plain] at h
  | n, .obj _ _, h => by cases n <;> simp [D.plain] at h
  | n, .dK _, h => by cases n <;> simp [D.plain] at h
  | n, .dT _, h => by cases n <;> simp [D.plain] at h
  | n, .exc _ _, h => by cases n <;> simp [D.plain] at h
  | n, .lmu _ _, h => by cases n <;> simp [D.plain] at h
theorem plain_layL : ∀ (n : Nat) (xs : List D), D.plainL n xs = true → PyData.canLayAll0 (D.pyL xs) = true ∧ PyData.depthAll (D.pyL xs) ≤ n
  | _, [], _ => ⟨rfl, Nat.zero_le _⟩
  | n, x :: xs, h => by
    rw [D.plainL, Bool.and_eq_true] at h
    have h1 := plain_lay n x h.1
    have h2 := plain_layL n xs h.2
    refine ⟨by simp [D.pyL, PyData.canLayAll0, h1.1, h2.1], ?_⟩
    simp only [D.pyL, PyData.depthAll]
    exact Nat.max_le.mpr ⟨h1.2, h2.2⟩
end
theorem plain_shaped {d : D} (h : d.plain 60 = true) : SeqAt.shaped d.py = true := by
  have := plain_lay 60 d h
  unfold SeqAt.shaped
  rw [this.1, Bool.true_and]
  exact decide_eq_true (Nat.le_trans this.2 (by decide))
theorem plain_mono : ∀ (n m : Nat), n ≤ m → (∀ d : D, d.plain n = true → d.plain m = true) := by
  intro n
  induction n with
  | zero =>
    intro m _ d h
    cases d <;> first | (cases m <;> rfl) | (simp [D.plain] at h; done) | (cases m <;> simpa [D.plain] using h)
  | succ n ih =>
    intro m hm d h
    cases m with
    | zero => omega
    | succ m =>
      have key : ∀ xs : List D, D.plainL n xs = true → D.plainL m xs = true := by
        intro xs hx
        rw [plainL_all, List.all_eq_true] at hx ⊢
        exact fun y hy => ih m (by omega) y (hx y hy)
      cases d <;> first | rfl | (simp [D.plain] at h; done) | (simp only [D.plain] at h ⊢; first | exact h | exact key _ h)
mutual
theorem Rep.dp {K : PySem.W.Frag} {G H : Hp} (x : Ex G H) : ∀ (n : Nat) (d : D) (v : V), d.plain n = true → Rep G v d → Dp K H v d.py
  | _, .non, _, _, r => by cases r; exact .non
  | _, .bl _, _, _, r => by cases r; exact .bl _
  | _, .int _, _, _, r => by cases r; exact .int _
  | _, .str _, _, _, r => by cases r; exact .str _
  | 0, .tup _, _, h, _ => by simp [D.plain] at h
  | 0, .lst _, _, h, _ => by simp [D.plain] at h
  | n + 1, .tup xs, _, h, r => by
    cases r with
    | tup e m q => exact Dp.tup (e.sq x) (Rep.dpL x n xs _ (by simpa [D.plain] using h) ⟨m, q⟩)
  | n + 1, .lst xs, _, h, r => by
    cases r with
    | lst e m q => exact Dp.lst (.inl (.inl (x _ _ e))) (Rep.dpL x n xs _ (by simpa [D.plain] using h) ⟨m, q⟩)
  | n, .adr _, _, h, _ => by cases n <;> simp [D.plain] at h
  | n, .ty _, _, h, _ => by cases n <;> simp [D.plain] at h
  | n, .obj _ _, _, h, _ => by cases n <;> simp [D.plain] at h
  | n, .dK _, _, h, _ => by cases n <;> simp [D.plain] at h
  | n, .dT _, _, h, _ => by cases n <;> simp [D.plain] at h
  | n, .exc _ _, _, h, _ => by cases n <;> simp [D.plain] at h
  | n, .lmu _ _, _, h, _ => by cases n <;> simp [D.plain] at h
theorem Rep.dpL {K : PySem.W.Frag} {G H : Hp} (x : Ex G H) : ∀ (n : Nat) (ds : List D) (vs : List V), D.plainL n ds = true → RepL G vs ds → DpAll K H vs (D.pyL ds)
  | _, [], [], _, _ => .nil
  | n, d :: ds, v :: vs, h, r => by
    rw [D.plainL, Bool.and_eq_true] at h
    exact .cons (Rep.dp x n d v h.1 r.head) (Rep.dpL x n ds vs h.2 r.tail)
  | _, [], _ :: _, _, r => by have := r.1; simp at this
  | _, _ :: _, [], _, r => by have := r.1; simp at this
end
def eqD (a b : D) : Bool := PyData.eqv a.py b.py
theorem eqD_int (i j : Int) : eqD (.int i) (.int j) = (i == j) := rfl
theorem eqD_bl (i j : Bool) : eqD (.bl i) (.bl j) = (i == j) := rfl
theorem eqD_str (i j : Str) : eqD (.str i) (.str j) = (i == j) := rfl

/-! ### judgements -/
abbrev QE := List Slot → (D → Prop) → Prop
abbrev QT := List Slot → (Bool → Prop) → Prop
abbrev QA := List Slot → (List D → Prop) → Prop
section
variable (c : Ctx)
def SndE (t : TE) (q : QE) : Prop := ∀ (ρ : List Slot) (σ : L2.St) (G H : Hp) (Q : D → Prop) (R : VK), Sta c G H σ ρ → q ρ Q → (∀ v d G' H', Grow c.β G H G' H' → Rep G' v d → Q d → R v H') → t σ H R
def SndT (t : TT) (q : QT) : Prop := ∀ (ρ : List Slot) (σ : L2.St) (G H : Hp) (Q : Bool → Prop) (R : Bool → Hp → Prop), Sta c G H σ ρ → q ρ Q → (∀ b G' H', Grow c.β G H G' H' → Q b → R b H') → t σ H R
def SndA (t : TA) (q : QA) : Prop := ∀ (ρ : List Slot) (σ : L2.St) (G H : Hp) (Q : List D → Prop) (R : List V → Hp → Prop), Sta c G H σ ρ → q ρ Q → (∀ vs ds G' H', Grow c.β G H G' H' → RepL G' vs ds → Q ds → R vs H') → t σ H R
/-- a new list, not frozen -/
def SndL (t : TE) (q : QA) : Prop := ∀ (ρ : List Slot) (σ : L2.St) (G H : Hp) (Q : List D → Prop) (R : VK), Sta c G H σ ρ → q ρ Q → (∀ a vs ds G' H', Grow c.β G H G' H' → H a = none → G' a = none → H' a = some (.lst vs) → RepL G' vs ds → Q ds → R (.ref a) H') → t σ H R
structure PD (X : Cx) (e : Expr) (q : QE) : Prop where
  ex : ∃ t, PE X e t ∧ SndE c t q
structure PDT (X : Cx) (e : Expr) (q : QT) : Prop where
  ex : ∃ t, PT X e t ∧ SndT c t q
structure PDA (X : Cx) (es : List Expr) (q : QA) : Prop where
  ex : ∃ t, PA X es t ∧ SndA c t q
structure PDL (X : Cx) (e : Expr) (q : QA) : Prop where
  ex : ∃ t, PE X e t ∧ SndL c t q
end
section
variable {c : Ctx} {G H : Hp} {σ : L2.St} {ρ : List Slot}
theorem Sta.hb (s : Sta c G H σ ρ) : ∀ b, c.β = some b → H b ≠ none := fun b e => by
  obtain ⟨c', cells, x1, x2, x3, x4, hb, _⟩ := (s.core.bg b e).is
  rw [hb]; simp
theorem Sta.refl (s : Sta c G H σ ρ) : Grow c.β G H G H := Grow.refl s.core.gh s.core.bg
end

def qC (d : D) : QE := fun _ Q => Q d
def slotD : Option Slot → (D → Prop) → Prop
  | some (.d d), Q => Q d
  | _, _ => False
def slotO : Option Slot → (Addr → List D → Prop) → Prop
  | some (.own a (.lst xs)), Q => Q a xs
  | _, _ => False
def blR : D → (Bool → Prop) → Prop
  | .bl b, Q => Q b
  | _, _ => False
def inI : D → (Int → Prop) → Prop
  | .int i, Q => Q i
  | _, _ => False
/-- a slot as data -/
def asD : Slot → Option D
  | .d d => some d
  | _ => none
theorem slotD_inv {o : Option Slot} {Q : D → Prop} (h : slotD o Q) : ∃ s d, o = some s ∧ asD s = some d ∧ Q d := by
  match o, h with
  | some (.d d), h => exact ⟨_, d, rfl, rfl, h⟩
theorem Sta.asD {c : Ctx} {G H : Hp} {σ : L2.St} {ρ : List Slot} {i : Nat} {sl : Slot} {d : D} (s : Sta c G H σ ρ) (e : ρ[i]? = some sl) (h : DL.asD sl = some d) : ∃ v, σ[i]? = some (some v) ∧ Rep G v d := by
  cases sl with
  | d x => cases h; exact s.sl i _ e
  | _ => cases h
theorem Sta.dat {c : Ctx} {G H : Hp} {σ : L2.St} {ρ : List Slot} {i : Nat} {Q : D → Prop} (s : Sta c G H σ ρ) (h : slotD ρ[i]? Q) : ∃ v d, σ[i]? = some (some v) ∧ Rep G v d ∧ Q d := by
  obtain ⟨sl, d, e, h1, hq⟩ := slotD_inv h
  obtain ⟨v, e1, r⟩ := s.asD e h1
  exact ⟨v, d, e1, r, hq⟩
theorem slotO_inv {o : Option Slot} {Q : Addr → List D → Prop} (h : slotO o Q) : ∃ a xs, o = some (.own a (.lst xs)) ∧ Q a xs := by
  match o, h with
  | some (.own a (.lst xs)), h => exact ⟨a, xs, rfl, h⟩
theorem blR_inv {x : D} {Q : Bool → Prop} (h : blR x Q) : ∃ b, x = .bl b ∧ Q b := by
  match x, h with
  | .bl b, h => exact ⟨b, rfl, h⟩
theorem inI_inv {x : D} {Q : Int → Prop} (h : inI x Q) : ∃ b, x = .int b ∧ Q b := by
  match x, h with
  | .int b, h => exact ⟨b, rfl, h⟩
def qVar (i : Nat) : QE := fun ρ Q => slotD ρ[i]? Q
def qOp (rd : D → D → (D → Prop) → Prop) (qa qb : QE) : QE := fun ρ Q => qa ρ fun x => qb ρ fun y => rd x y Q
def qUn (rd : D → (D → Prop) → Prop) (qa : QE) : QE := fun ρ Q => qa ρ fun x => rd x Q
def qNil : QA := fun _ Q => Q []
def qCons (qa : QE) (qr : QA) : QA := fun ρ Q => qa ρ fun x => qr ρ fun xs => Q (x :: xs)
def qTup (q : QA) : QE := fun ρ Q => q ρ fun xs => xs.length ≤ 100000 ∧ Q (.tup xs)
def qLst (q : QA) : QE := fun ρ Q => q ρ fun xs => xs.length ≤ 100000 ∧ Q (.lst xs)
def qLstN (q : QA) : QA := fun ρ Q => q ρ fun xs => xs.length ≤ 100000 ∧ Q xs
def qCB (rd : List D → (D → Prop) → Prop) (q : QA) : QE := fun ρ Q => q ρ fun xs => rd xs Q
def qTest (q : QE) : QT := fun ρ Q => q ρ fun x => blR x Q

/-- operations by values, over data -/
def OpD (r : R2) (rd : D → D → (D → Prop) → Prop) : Prop := ∀ (β : Option Addr) (G H : Hp) (x y : V) (a b : D) (Q : D → Prop) (R : VK), Ex G H → (∀ b, β = some b → Bag G H b) → Rep G x a → Rep G y b → rd a b Q →
  (∀ v d G' H', Grow β G H G' H' → Rep G' v d → Q d → R v H') → r x y H R
def UnD (r : V → Hp → VK → Prop) (rd : D → (D → Prop) → Prop) : Prop := ∀ (β : Option Addr) (G H : Hp) (x : V) (a : D) (Q : D → Prop) (R : VK), Ex G H → (∀ b, β = some b → Bag G H b) → Rep G x a → rd a Q →
  (∀ v d G' H', Grow β G H G' H' → Rep G' v d → Q d → R v H') → r x H R
def CallD (r : List V → Hp → VK → Prop) (rd : List D → (D → Prop) → Prop) : Prop := ∀ (β : Option Addr) (G H : Hp) (xs : List V) (ds : List D) (Q : D → Prop) (R : VK), Ex G H → (∀ b, β = some b → Bag G H b) → RepL G xs ds → rd ds Q →
  (∀ v d G' H', Grow β G H G' H' → Rep G' v d → Q d → R v H') → r xs H R

section
variable {c : Ctx} {X : Cx} {a b e : Expr} {es : List Expr} {qa qb q : QE} {qr : QA} {pos : Pos}
theorem snd_op {r : R2} {rd : D → D → (D → Prop) → Prop} {ta tb : TE} (hd : OpD r rd) (ha : SndE c ta qa) (hb : SndE c tb qb) : SndE c (tOp r ta tb) (qOp rd qa qb) := by
  intro ρ σ G H Q R s h k
  refine ha ρ σ G H _ _ s h fun v1 d1 G1 H1 g1 r1 h1 => ?_
  have s1 := s.grow g1
  refine hb ρ σ G1 H1 _ _ s1 h1 fun v2 d2 G2 H2 g2 r2 h2 => ?_
  have s2 := s1.grow g2
  have g12 := g1.trans g2 s.hb
  exact hd c.β G2 H2 v1 v2 d1 d2 Q R s2.core.gh s2.core.bg (r1.mono g2.gg) r2 h2 fun v d G' H' g r q => k v d G' H' (g12.trans g s.hb) r q
theorem PD.op {op : Operator} {r : R2} {rd : D → D → (D → Prop) → Prop} (ho : OpR X (binaryOp op) r) (hd : OpD r rd) (ha : PD c X a qa) (hb : PD c X b qb) : PD c X (.BinOp a op b pos) (qOp rd qa qb) := by
  obtain ⟨ta, pa, sa⟩ := ha.ex
  obtain ⟨tb, pb, sb⟩ := hb.ex
  exact ⟨_, pe_op ho pa pb, snd_op hd sa sb⟩
theorem PD.cmp {op : CmpOp} {r : R2} {rd : D → D → (D → Prop) → Prop} (ho : OpR X (compareOp op) r) (hd : OpD r rd) (ha : PD c X a qa) (hb : PD c X b qb) (hm : behindInMarks op b = false) : PD c X (.Compare a [op] [b] pos) (qOp rd qa qb) := by
  obtain ⟨ta, pa, sa⟩ := ha.ex
  obtain ⟨tb, pb, sb⟩ := hb.ex
  exact ⟨_, pe_cmpR ho pa pb hm, snd_op hd sa sb⟩
theorem snd_test {t : TE} (h : SndE c t q) : SndT c (tTest t) (qTest q) := by
  intro ρ σ G H Q R s hq k
  refine h ρ σ G H _ _ s hq fun v d G' H' g r hk => ?_
  obtain ⟨b, rfl, hk⟩ := blR_inv hk
  cases r
  exact ⟨b, rfl, k b G' H' g hk⟩
theorem PDT.cmp {op : CmpOp} {r : R2} {rd : D → D → (D → Prop) → Prop} (ho : OpR X (compareOp op) r) (hd : OpD r rd) (ha : PD c X a qa) (hb : PD c X b qb) (hm : behindInMarks op b = false) : PDT c X (.Compare a [op] [b] pos) (qTest (qOp rd qa qb)) := by
  obtain ⟨ta, pa, sa⟩ := ha.ex
  obtain ⟨tb, pb, sb⟩ := hb.ex
  exact ⟨_, pt_cmpR ho pa pb hm, snd_test (snd_op hd sa sb)⟩
theorem snd_un {r : V → Hp → VK → Prop} {rd : D → (D → Prop) → Prop} {ta : TE} (hd : UnD r rd) (ha : SndE c ta qa) : SndE c (tUn r ta) (qUn rd qa) := by
  intro ρ σ G H Q R s h k
  refine ha ρ σ G H _ _ s h fun v1 d1 G1 H1 g1 r1 h1 => ?_
  have s1 := s.grow g1
  exact hd c.β G1 H1 v1 d1 Q R s1.core.gh s1.core.bg r1 h1 fun v d G' H' g r q => k v d G' H' (g1.trans g s.hb) r q
theorem PD.un {op : UnaryOp} {r : V → Hp → VK → Prop} {rd : D → (D → Prop) → Prop} (ho : UnR X (unaryOp op) r) (hd : UnD r rd) (ha : PD c X a qa) : PD c X (.UnaryOp op a pos) (qUn rd qa) := by
  obtain ⟨ta, pa, sa⟩ := ha.ex
  exact ⟨_, pe_un ho pa, snd_un hd sa⟩
theorem pa0 : PDA c X [] qNil := ⟨_, pa_nil, fun ρ σ G H Q R s h k => k [] [] G H s.refl .nil h⟩
theorem snd_cons {ta : TE} {tr : TA} (sa : SndE c ta qa) (sr : SndA c tr qr) : SndA c (tCons ta tr) (qCons qa qr) := by
  intro ρ σ G H Q R s h k
  refine sa ρ σ G H _ _ s h fun v1 d1 G1 H1 g1 r1 h1 => ?_
  have s1 := s.grow g1
  exact sr ρ σ G1 H1 _ _ s1 h1 fun vs ds G2 H2 g2 r2 h2 => k _ _ G2 H2 (g1.trans g2 s.hb) (.cons (r1.mono g2.gg) r2) h2
theorem pac (ha : PD c X e qa) (hr : PDA c X es qr) (hs : starEach (e :: es) X.env = (false, eval e X.env) :: starEach es X.env := by rfl) : PDA c X (e :: es) (qCons qa qr) := by
  obtain ⟨ta, pa, sa⟩ := ha.ex
  obtain ⟨tr, pr, sr⟩ := hr.ex
  exact ⟨_, pa_cons pa pr hs, snd_cons sa sr⟩
theorem sz {n : Nat} (h : n ≤ 100000) : n ≤ sizeLine := Nat.le_trans h (by decide)
theorem szl {n : Nat} (h : n < 100000) : n < sizeLine := Nat.lt_of_lt_of_le h (by decide)
theorem dtup {x1} (h : PDA c X es qr) : PD c X (.Tuple es x1 pos) (qTup qr) := by
  obtain ⟨t, p, sd⟩ := h.ex
  refine ⟨_, pe_tup p, fun ρ σ G H Q R s hq k => ?_⟩
  refine sd ρ σ G H _ _ s hq fun vs ds G1 H1 g1 r1 ⟨hl, h1⟩ => ⟨by rw [r1.1]; exact sz hl, fun p hp => ?_⟩
  have s1 := s.grow g1
  have gn := Grow.new (o := .tup vs) s1.core.gh s1.core.bg hp
  exact k _ _ _ _ (g1.trans gn s.hb) (.tup upd_same r1.1 (r1.mono gn.gg).2) h1
theorem dlst (h : PDA c X es qr) : PD c X (.List es pos) (qLst qr) := by
  obtain ⟨t, p, sd⟩ := h.ex
  refine ⟨_, pe_lst p, fun ρ σ G H Q R s hq k => ?_⟩
  refine sd ρ σ G H _ _ s hq fun vs ds G1 H1 g1 r1 ⟨hl, h1⟩ => ⟨by rw [r1.1]; exact sz hl, fun p hp => ?_⟩
  have s1 := s.grow g1
  have gn := Grow.new (o := .lst vs) s1.core.gh s1.core.bg hp
  exact k _ _ _ _ (g1.trans gn s.hb) (.lst upd_same r1.1 (r1.mono gn.gg).2) h1
/-- a new list for a slot of its own -/
theorem dlstN (h : PDA c X es qr) : PDL c X (.List es pos) (qLstN qr) := by
  obtain ⟨t, p, sd⟩ := h.ex
  refine ⟨_, pe_lst p, fun ρ σ G H Q R s hq k => ?_⟩
  refine sd ρ σ G H _ _ s hq fun vs ds G1 H1 g1 r1 ⟨hl, h1⟩ => ⟨by rw [r1.1]; exact sz hl, fun p hp => ?_⟩
  have s1 := s.grow g1
  have gn := Grow.fresh (o := .lst vs) s1.core.gh s1.core.bg hp
  have hp0 : H p = none := g1.fr hp
  exact k p vs ds G1 _ (g1.trans gn s.hb) hp0 (s1.core.gh.free hp) upd_same r1 h1
theorem dv (i : Nat) {x : Str} (hN : X.N[i]? = some x := by rfl) (hv : Vis X.env.scope x := by first | exact Or.inl rfl | exact Or.inr (Or.inl rfl) | exact Or.inr (Or.inr rfl)) (hd : (x == ("__debug__" : Str)) = false := by decide)
    (hcd : (x == ("__classdict__" : Str)) = false := by decide) : PD c X (.Name x pos) (qVar i) := by
  refine ⟨_, pe_var hN hv hd hcd, fun ρ σ G H Q R s hq k => ?_⟩
  obtain ⟨v, d, hv, r, h⟩ := s.dat hq
  exact ⟨v, hv, k v d G H s.refl r h⟩
theorem dC {v : V} {d : D} (p : PE X e (tC v)) (r : ∀ G, Rep G v d) : PD c X e (qC d) := ⟨_, p, fun ρ σ G H Q R s h k => k v d G H s.refl (r G) h⟩
theorem dint {i : Int} {j} : PD c X (.Constant (.int i) j pos) (qC (.int i)) := dC pe_int fun _ => .int i
theorem dbl {i : Bool} {j} : PD c X (.Constant (.bool i) j pos) (qC (.bl i)) := dC pe_bl fun _ => .bl i
theorem dnon {j} : PD c X (.Constant .none j pos) (qC .non) := dC pe_non fun _ => .non
theorem dstr {i : Str} {j} : PD c X (.Constant (.str i) j pos) (qC (.str i)) := dC pe_str fun _ => .str i
theorem dglob {x : Str} {v : V} {u : Value} {d : D} (hm : X.mg x = some u) (r : RelV v u) (hr : ∀ G, Rep G v d) (hg : Gl X x := by rfl) (hd : (x == ("__debug__" : Str)) = false := by decide) : PD c X (.Name x pos) (qC d) := dC (pe_glob hg hm r hd) hr
theorem dty {x : Str} {n : String} (hg : Gl X x) (hm : X.mg x = none) (hv : bootBuiltins x = some (.type n)) (hn : x ≠ "__name__" := by decide) (hd : (x == ("__debug__" : Str)) = false := by decide) : PD c X (.Name x pos) (qC (.ty n)) :=
  dC (v := .ty n) (pe_bltn hg hm hv rfl hn hd) fun _ => .ty n
theorem ty_int (hm : X.mg "int" = none) (hg : Gl X "int" := by rfl) : PD c X (.Name "int" pos) (qC (.ty "int")) := dty hg hm (by decide +kernel)
theorem ty_bool (hm : X.mg "bool" = none) (hg : Gl X "bool" := by rfl) : PD c X (.Name "bool" pos) (qC (.ty "bool")) := dty hg hm (by decide +kernel)
theorem ty_str (hm : X.mg "str" = none) (hg : Gl X "str" := by rfl) : PD c X (.Name "str" pos) (qC (.ty "str")) := dty hg hm (by decide +kernel)
theorem ty_list (hm : X.mg "list" = none) (hg : Gl X "list" := by rfl) : PD c X (.Name "list" pos) (qC (.ty "list")) := dty hg hm (by decide +kernel)
theorem ty_tuple (hm : X.mg "tuple" = none) (hg : Gl X "tuple" := by rfl) : PD c X (.Name "tuple" pos) (qC (.ty "tuple")) := dty hg hm (by decide +kernel)
theorem snd_cb {r : List V → Hp → VK → Prop} {rd : List D → (D → Prop) → Prop} {t : TA} (hd : CallD r rd) (sa : SndA c t qr) : SndE c (tCB r t) (qCB rd qr) := by
  intro ρ σ G H Q R s h k
  refine sa ρ σ G H _ _ s h fun vs ds G1 H1 g1 r1 h1 => ?_
  have s1 := s.grow g1
  exact hd c.β G1 H1 vs ds Q R s1.core.gh s1.core.bg r1 h1 fun v d G' H' g r q => k v d G' H' (g1.trans g s.hb) r q
theorem PD.callB {x : Str} {id : String} {p : Pos} {r : List V → Hp → VK → Prop} {rd : List D → (D → Prop) → Prop} (hc : CallR X (.builtin id) r) (hd : CallD r rd) (hg : Gl X x) (hm : X.mg x = none) (hv : bootBuiltins x = some (.builtin id)) (ha : PDA c X (e :: es) qr)
    (hn : x ≠ "__name__" := by decide) (hdb : (x == ("__debug__" : Str)) = false := by decide)
    (he : starEach (e :: es) X.env = (false, eval e X.env) :: starEach es X.env := by rfl) (hpl : (backTo pos (starEach es X.env)).any (·.1) = false := by rfl) : PD c X (.Call (.Name x p) (e :: es) [] pos) (qCB rd qr) := by
  obtain ⟨t, pa, sa⟩ := ha.ex
  exact ⟨_, pe_callB hc hg hm hv pa hn hdb he hpl, snd_cb hd sa⟩
theorem PD.callTy {x : Str} {T : String} {p : Pos} {r : List V → Hp → VK → Prop} {rd : List D → (D → Prop) → Prop} (hc : CallR X (.type T) r) (hd : CallD r rd) (hg : Gl X x) (hm : X.mg x = none) (hv : bootBuiltins x = some (.type T)) (ha : PDA c X (e :: es) qr)
    (hn : x ≠ "__name__" := by decide) (hdb : (x == ("__debug__" : Str)) = false := by decide)
    (he : starEach (e :: es) X.env = (false, eval e X.env) :: starEach es X.env := by rfl) (hpl : (backTo pos (starEach es X.env)).any (·.1) = false := by rfl) : PD c X (.Call (.Name x p) (e :: es) [] pos) (qCB rd qr) := by
  obtain ⟨t, pa, sa⟩ := ha.ex
  exact ⟨_, pe_callTy hc hg hm hv pa hn hdb he hpl, snd_cb hd sa⟩
end
end DL

namespace DL
open PySem L2

/-! ### operators over data -/
def Wd (i : Int) : Prop := i.natAbs.log2 < 60000000
theorem Wd.of {i : Int} {n : Nat} (h : i.natAbs < 2 ^ n) (h0 : 0 < n) (hn : n ≤ 60000000) : Wd i := Nat.lt_of_lt_of_le (PySem.Flt.log2_lt_of h0 h) hn
theorem Wd.sm {i : Int} (h1 : -(2 ^ 64) < i) (h2 : i < 2 ^ 64) : Wd i := Wd.of (n := 64) (by omega) (by decide) (by decide)
theorem Wd.mul {i j : Int} (h : Wd i) (h' : Wd j) : IntMulOk i j := by
  have b : ∀ x : Int, Builtin.Int.intBits x ≤ x.natAbs.log2 + 1 := fun x => by
    unfold Builtin.Int.intBits
    split <;> omega
  have h1 := b i
  have h2 := b j
  have e : bitsLine = 134217728 := by decide
  unfold Wd at h h'
  unfold IntMulOk
  intro z
  rw [Bool.and_eq_true] at z
  have z2 := z.2
  unfold Builtin.Int.intTooBig at z2
  have z3 := of_decide_eq_true z2
  rw [e] at z3
  omega
def CDivX (_ j : Int) : Prop := j ≠ 0 ∧ j.natAbs.log2 < 9000
theorem CDivX.of {i j : Int} {n : Nat} (h : j ≠ 0) (hj : j.natAbs < 2 ^ n) (h0 : 0 < n) (hn : n ≤ 9000) : CDivX i j := ⟨h, Nat.lt_of_lt_of_le (PySem.Flt.log2_lt_of h0 hj) hn⟩
theorem CDivX.sm {i j : Int} (h : j ≠ 0) (h1 : -(2 ^ 64) < j) (h2 : j < 2 ^ 64) : CDivX i j := CDivX.of (n := 64) h (by omega) (by decide) (by decide)
section
variable {X : Cx}
theorem op_mulX : OpR X (binaryOp .Mult) (rI IntMulOk fun i j => .int (i * j)) := opI fun _ _ _ _ _ _ _ hc q => PyProof.Rows.mul_int q hc
theorem mulL {i j : Int} (h1 : -(2 ^ 64) < i) (h2 : i < 2 ^ 64) : IntMulOk i j := CMul.ok (.inl ⟨h1, h2⟩)
theorem mulRt {i j : Int} (h1 : -(2 ^ 64) < j) (h2 : j < 2 ^ 64) : IntMulOk i j := CMul.ok (.inr ⟨h1, h2⟩)
theorem op_fdivX : OpR X (binaryOp .FloorDiv) (rI CDivX fun i j => .int (i.fdiv j)) := opI fun i j _ _ _ _ _ hc q => PyProof.Rows.floordiv_int hc.1 q (.inl (PyProof.noPylong_of_log2 hc.2))
end
def addR : D → D → (D → Prop) → Prop
  | .int i, .int j, Q => Q (.int (i + j))
  | .str s, .str t, Q => s.length + t.length ≤ 100000 ∧ Q (.str (s ++ t))
  | .lst xs, .lst ys, Q => xs.length + ys.length ≤ 100000 ∧ Q (.lst (xs ++ ys))
  | .tup xs, .tup ys, Q => xs.length + ys.length ≤ 100000 ∧ Q (.tup (xs ++ ys))
  | _, _, _ => False
def subR : D → D → (D → Prop) → Prop
  | .int i, .int j, Q => Q (.int (i - j))
  | _, _, _ => False
def mulR : D → D → (D → Prop) → Prop
  | .int i, .int j, Q => IntMulOk i j ∧ Q (.int (i * j))
  | .lst xs, .int j, Q => (0 ≤ j ∧ j ≤ 1000 ∧ xs.length ≤ 100) ∧ Q (.lst (List.replicate j.toNat xs).flatten)
  | _, _, _ => False
def fdivR : D → D → (D → Prop) → Prop
  | .int i, .int j, Q => CDivX i j ∧ Q (.int (i.fdiv j))
  | _, _, _ => False
def modR : D → D → (D → Prop) → Prop
  | .int i, .int j, Q => 0 < j ∧ Q (.int (i % j))
  | _, _, _ => False
def powR : D → D → (D → Prop) → Prop
  | .int i, .int j, Q => CPow i j ∧ Q (.int (i ^ j.toNat))
  | _, _, _ => False
def iiR (g : Int → Int → D) : D → D → (D → Prop) → Prop
  | .int i, .int j, Q => Q (g i j)
  | _, _, _ => False
def cmR (g : Int → Int → Bool) (gs : List Nat → List Nat → Bool) : D → D → (D → Prop) → Prop
  | .int i, .int j, Q => Q (.bl (g i j))
  | .str i, .str j, Q => Q (.bl (gs i.cps.toList j.cps.toList))
  | _, _, _ => False
def eqR (a b : D) (Q : D → Prop) : Prop := (a.plain 60 = true ∧ b.plain 60 = true) ∧ Q (.bl (eqD a b))
def neR (a b : D) (Q : D → Prop) : Prop := (a.plain 60 = true ∧ b.plain 60 = true) ∧ Q (.bl (!eqD a b))
def isNon : D → Bool
  | .non => true
  | _ => false
def isR (a b : D) (Q : D → Prop) : Prop := b = .non ∧ Q (.bl (isNon a))
def isnR (a b : D) (Q : D → Prop) : Prop := b = .non ∧ Q (.bl (!isNon a))
def negR : D → (D → Prop) → Prop
  | .int i, Q => Q (.int (-i))
  | _, _ => False
def ixR : D → D → (D → Prop) → Prop
  | .lst xs, .int i, Q => ∃ d, atI xs i = some d ∧ Q d
  | .tup xs, .int i, Q => ∃ d, atI xs i = some d ∧ Q d
  | .str z, .int i, Q => ∃ k, z.length ≤ 100000 ∧ atI z.cps.toList i = some k ∧ Q (.str ⟨#[k]⟩)
  | _, _, _ => False
def D.flat : D → Bool
  | .non => true
  | .bl _ => true
  | .int _ => true
  | .str _ => true
  | _ => false
def inR (neg : Bool) (a b : D) (Q : D → Prop) : Prop := match b with
  | .lst xs => (a.plain 50 = true ∧ D.plainL 50 xs = true) ∧ Q (.bl (if neg then !xs.any (fun y => eqD y a) else xs.any (fun y => eqD y a)))
  | .tup xs => (a.flat = true ∧ xs.all D.flat = true) ∧ Q (.bl (if neg then !xs.any (fun y => eqD y a) else xs.any (fun y => eqD y a)))
  | _ => False
section
variable {K : PySem.W.Frag}
theorem opd_ret {β : Option Addr} {G H : Hp} {R : VK} {Q : D → Prop} {v : V} {d : D} (h : Ex G H) (b : ∀ b, β = some b → Bag G H b) (k : ∀ v d G' H', Grow β G H G' H' → Rep G' v d → Q d → R v H') (r : Rep G v d) (q : Q d) : R v H := k v d G H (.refl h b) r q
theorem opd_lst {β : Option Addr} {G H : Hp} {R : VK} {Q : D → Prop} {p : Addr} {vs : List V} {ds : List D} (h : Ex G H) (b : ∀ b, β = some b → Bag G H b) (k : ∀ v d G' H', Grow β G H G' H' → Rep G' v d → Q d → R v H') (hp : H p = none) (r : RepL G vs ds) (q : Q (.lst ds)) : R (.ref p) (upd H p (.lst vs)) := by
  have g := Grow.new (o := .lst vs) h b hp
  exact k _ _ _ _ g (.lst upd_same r.1 (r.mono g.gg).2) q
theorem opd_tup {β : Option Addr} {G H : Hp} {R : VK} {Q : D → Prop} {p : Addr} {vs : List V} {ds : List D} (h : Ex G H) (b : ∀ b, β = some b → Bag G H b) (k : ∀ v d G' H', Grow β G H G' H' → Rep G' v d → Q d → R v H') (hp : H p = none) (r : RepL G vs ds) (q : Q (.tup ds)) : R (.ref p) (upd H p (.tup vs)) := by
  have g := Grow.new (o := .tup vs) h b hp
  exact k _ _ _ _ g (.tup upd_same r.1 (r.mono g.gg).2) q
theorem RepL.flatten {G : Hp} {vs : List V} {ds : List D} (h : RepL G vs ds) : ∀ n, RepL G (List.replicate n vs).flatten (List.replicate n ds).flatten
  | 0 => .nil
  | n + 1 => by
    rw [List.replicate_succ, List.replicate_succ, List.flatten_cons, List.flatten_cons]
    exact h.app (RepL.flatten h n)
theorem opd_add : OpD (fun x y H Q => rI0 (fun i j => .int (i + j)) x y H Q ∨ ((∃ i j, x = .str i ∧ y = .str j ∧ i.length + j.length ≤ sizeLine ∧ Q (.str (i ++ j)) H) ∨ (rCat x y H Q ∨ rCatA K x y H Q))) addR := by
  intro β G H x y a b Q R hgh hbg ra rb h k
  cases ra <;> cases rb <;> try (exact h.elim)
  case int i j => exact .inl ⟨i, j, rfl, rfl, opd_ret hgh hbg k (.int _) h⟩
  case str i j => exact .inr (.inl ⟨i, j, rfl, rfl, sz h.1, opd_ret hgh hbg k (.str _) h.2⟩)
  case tup a vs ds e n r a' vs' ds' e' n' r' =>
    refine .inr (.inr (.inr ⟨a, a', vs, vs', rfl, rfl, e.sq hgh, e'.sq hgh, by rw [n, n']; exact sz h.1, fun z => ?_, fun z1 z2 => ?_, fun z1 z2 p hp => ?_⟩))
    · subst z
      have : ds = [] := List.length_eq_zero_iff.mp n.symm
      subst this
      exact opd_ret hgh hbg k (.tup e' n' r') h.2
    · subst z2
      have : ds' = [] := List.length_eq_zero_iff.mp n'.symm
      subst this
      exact opd_ret hgh hbg k (.tup e n r) (by have := h.2; rw [List.append_nil] at this; exact this)
    · exact opd_tup hgh hbg k hp (RepL.app ⟨n, r⟩ ⟨n', r'⟩) h.2
  case lst a vs ds e n r a' vs' ds' e' n' r' =>
    exact .inr (.inr (.inl ⟨a, a', vs, vs', rfl, rfl, hgh _ _ e, hgh _ _ e', by rw [n, n']; exact sz h.1, fun p hp => opd_lst hgh hbg k hp (RepL.app ⟨n, r⟩ ⟨n', r'⟩) h.2⟩))
theorem opd_sub : OpD (rI0 fun i j => .int (i - j)) subR := by
  intro β G H x y a b Q R hgh hbg ra rb h k
  cases ra <;> cases rb <;> try (exact h.elim)
  exact ⟨_, _, rfl, rfl, opd_ret hgh hbg k (.int _) h⟩
theorem opd_mul : OpD (fun x y H Q => rI IntMulOk (fun i j => .int (i * j)) x y H Q ∨ rRep x y H Q) mulR := by
  intro β G H x y a b Q R hgh hbg ra rb h k
  cases ra <;> cases rb <;> try (exact h.elim)
  case int i j => exact .inl ⟨i, j, rfl, rfl, h.1, opd_ret hgh hbg k (.int _) h.2⟩
  case lst.int a vs ds e n r j =>
    obtain ⟨⟨h0, h1, h2⟩, h3⟩ := h
    refine .inr ⟨a, j, vs, rfl, rfl, hgh _ _ e, by omega, by omega, ?_, fun p hp => opd_lst hgh hbg k hp (RepL.flatten ⟨n, r⟩ _) h3⟩
    rw [n]
    exact sz (Nat.le_trans (Nat.mul_le_mul h2 (show j.toNat ≤ 1000 by omega)) (by decide))
theorem opd_fdiv : OpD (rI CDivX fun i j => .int (i.fdiv j)) fdivR := by
  intro β G H x y a b Q R hgh hbg ra rb h k
  cases ra <;> cases rb <;> try (exact h.elim)
  exact ⟨_, _, rfl, rfl, h.1, opd_ret hgh hbg k (.int _) h.2⟩
theorem opd_mod : OpD (rI (fun _ j => 0 < j) fun i j => .int (i % j)) modR := by
  intro β G H x y a b Q R hgh hbg ra rb h k
  cases ra <;> cases rb <;> try (exact h.elim)
  exact ⟨_, _, rfl, rfl, h.1, opd_ret hgh hbg k (.int _) h.2⟩
theorem opd_pow : OpD (rI CPow fun i j => .int (i ^ j.toNat)) powR := by
  intro β G H x y a b Q R hgh hbg ra rb h k
  cases ra <;> cases rb <;> try (exact h.elim)
  exact ⟨_, _, rfl, rfl, h.1, opd_ret hgh hbg k (.int _) h.2⟩
theorem opd_cm {g : Int → Int → Bool} {gs : List Nat → List Nat → Bool} : OpD (fun x y H Q => rI0 (fun i j => .bl (g i j)) x y H Q ∨ (∃ i j, x = .str i ∧ y = .str j ∧ Q (.bl (gs i.cps.toList j.cps.toList)) H)) (cmR g gs) := by
  intro β G H x y a b Q R hgh hbg ra rb h k
  cases ra <;> cases rb <;> try (exact h.elim)
  case int i j => exact .inl ⟨i, j, rfl, rfl, opd_ret hgh hbg k (.bl _) h⟩
  case str i j => exact .inr ⟨i, j, rfl, rfl, opd_ret hgh hbg k (.bl _) h⟩
theorem opd_eq : OpD (rEqD K) eqR := by
  intro β G H x y a b Q R hgh hbg ra rb h k
  exact ⟨a.py, b.py, Rep.dp hgh 60 a x h.1.1 ra, Rep.dp hgh 60 b y h.1.2 rb, plain_shaped h.1.1, plain_shaped h.1.2, opd_ret hgh hbg k (.bl _) h.2⟩
theorem opd_ne : OpD (rNeD K) neR := by
  intro β G H x y a b Q R hgh hbg ra rb h k
  exact ⟨a.py, b.py, Rep.dp hgh 60 a x h.1.1 ra, Rep.dp hgh 60 b y h.1.2 rb, plain_shaped h.1.1, plain_shaped h.1.2, opd_ret hgh hbg k (.bl _) h.2⟩
theorem isNon_dec {G : Hp} {x : V} {a : D} (r : Rep G x a) : isNon a = decide (x = .non) := by cases r <;> rfl
theorem opd_is : OpD (fun x y H Q => y = .non ∧ Q (.bl (decide (x = .non))) H) isR := by
  intro β G H x y a b Q R hgh hbg ra rb h k
  obtain ⟨rfl, h⟩ := h
  cases rb
  refine ⟨rfl, ?_⟩
  rw [← isNon_dec ra]
  exact opd_ret hgh hbg k (.bl _) h
theorem opd_isn : OpD (fun x y H Q => y = .non ∧ Q (.bl (!decide (x = .non))) H) isnR := by
  intro β G H x y a b Q R hgh hbg ra rb h k
  obtain ⟨rfl, h⟩ := h
  cases rb
  refine ⟨rfl, ?_⟩
  rw [← isNon_dec ra]
  exact opd_ret hgh hbg k (.bl _) h
theorem und_neg : UnD (rU fun i => .int (-i)) negR := by
  intro β G H x a Q R hgh hbg ra h k
  cases ra <;> try (exact h.elim)
  exact ⟨_, rfl, opd_ret hgh hbg k (.int _) h⟩
theorem atI_rep {G : Hp} {vs : List V} {ds : List D} {i : Int} {d : D} (h : RepL G vs ds) (e : atI ds i = some d) : ∃ v, atI vs i = some v ∧ Rep G v d := by
  unfold atI at e ⊢
  rw [h.1]
  cases q : ixN ds.length i with
  | none => rw [q] at e; cases e
  | some j =>
    rw [q] at e
    exact h.get e
theorem opd_ix : OpD (rIx K) ixR := by
  intro β G H x y a b Q R hgh hbg ra rb h k
  cases ra <;> cases rb <;> try (exact h.elim)
  case lst.int a vs ds e n r j =>
    obtain ⟨d, e1, h⟩ := h
    obtain ⟨v, e2, r2⟩ := atI_rep ⟨n, r⟩ e1
    exact .inl ⟨a, vs, j, v, rfl, rfl, .inl (.inl (hgh _ _ e)), e2, opd_ret hgh hbg k r2 h⟩
  case tup.int a vs ds e n r j =>
    obtain ⟨d, e1, h⟩ := h
    obtain ⟨v, e2, r2⟩ := atI_rep ⟨n, r⟩ e1
    exact .inr (.inl ⟨a, vs, j, v, rfl, rfl, e.sq hgh, e2, opd_ret hgh hbg k r2 h⟩)
  case str.int z j =>
    obtain ⟨d, hz, e1, h⟩ := h
    exact .inr (.inr ⟨z, j, d, rfl, rfl, sz hz, e1, opd_ret hgh hbg k (.str _) h⟩)
theorem any_py (a : D) : ∀ xs : List D, (D.pyL xs).any (fun z => PyData.eqv z a.py) = xs.any (fun y => eqD y a)
  | [] => rfl
  | x :: xs => by rw [D.pyL, List.any_cons, List.any_cons, any_py a xs]; rfl
theorem flat_rep {G : Hp} {v w : V} {a b : D} (r : Rep G v a) (r' : Rep G w b) (h : a.flat = true) (h' : b.flat = true) : flatV v = true ∧ eqV w v = eqD b a := by
  cases r <;> cases r' <;> first | exact ⟨rfl, rfl⟩ | (simp [D.flat] at h; done) | (simp [D.flat] at h'; done)
theorem flat_all {G : Hp} {v : V} {a : D} (r : Rep G v a) (h : a.flat = true) : ∀ {vs : List V} {ds : List D}, RepL G vs ds → ds.all D.flat = true → vs.all flatV = true ∧ inV v vs = ds.any (fun y => eqD y a)
  | [], [], _, _ => ⟨rfl, rfl⟩
  | w :: vs, d :: ds, q, hq => by
    rw [List.all_cons, Bool.and_eq_true] at hq
    have h1 := flat_all r h q.tail hq.2
    have h2 := flat_rep r q.head h hq.1
    have h3 := flat_rep q.head q.head hq.1 hq.1
    refine ⟨by rw [List.all_cons, h3.1, h1.1]; rfl, ?_⟩
    unfold inV at h1 ⊢
    rw [List.any_cons, List.any_cons, h2.2, h1.2]
  | [], _ :: _, q, _ => by have := q.1; simp at this
  | _ :: _, [], q, _ => by have := q.1; simp at this
theorem shaped_of_plainL {xs : List D} (h : D.plainL 50 xs = true) : SeqAt.shaped (.list (D.pyL xs)) = true :=
  plain_shaped (d := .lst xs) (plain_mono 51 60 (by decide) _ (by simpa [D.plain] using h))
theorem opd_in : OpD (fun x y H Q => rIn K false x y H Q ∨ rInD K x y H Q) (inR false) := by
  intro β G H x y a b Q R hgh hbg ra rb h k
  cases rb <;> try (exact h.elim)
  case tup p vs ds e n r =>
    have z := flat_all ra h.1.1 ⟨n, r⟩ h.1.2
    have z0 := flat_rep ra ra h.1.1 h.1.1
    refine .inl ⟨p, vs, rfl, .inr (e.sq hgh), z0.1, z.1, ?_⟩
    rw [z.2]
    exact opd_ret hgh hbg k (.bl _) h.2
  case lst p vs ds e n r =>
    refine .inr ⟨a.py, D.pyL ds, Rep.dp hgh 50 a x h.1.1 ra, .lst (.inl (.inl (hgh _ _ e))) (Rep.dpL hgh 50 ds vs h.1.2 ⟨n, r⟩), plain_shaped (plain_mono 50 60 (by decide) _ h.1.1), shaped_of_plainL h.1.2, ?_⟩
    rw [any_py]
    exact opd_ret hgh hbg k (.bl _) h.2
theorem opd_nin : OpD (fun x y H Q => rIn K true x y H Q ∨ rNotInD K x y H Q) (inR true) := by
  intro β G H x y a b Q R hgh hbg ra rb h k
  cases rb <;> try (exact h.elim)
  case tup p vs ds e n r =>
    have z := flat_all ra h.1.1 ⟨n, r⟩ h.1.2
    have z0 := flat_rep ra ra h.1.1 h.1.1
    refine .inl ⟨p, vs, rfl, .inr (e.sq hgh), z0.1, z.1, ?_⟩
    rw [z.2]
    exact opd_ret hgh hbg k (.bl _) h.2
  case lst p vs ds e n r =>
    refine .inr ⟨a.py, D.pyL ds, Rep.dp hgh 50 a x h.1.1 ra, .lst (.inl (.inl (hgh _ _ e))) (Rep.dpL hgh 50 ds vs h.1.2 ⟨n, r⟩), plain_shaped (plain_mono 50 60 (by decide) _ h.1.1), shaped_of_plainL h.1.2, ?_⟩
    rw [any_py]
    exact opd_ret hgh hbg k (.bl _) h.2
end

section
variable {c : Ctx} {X : Cx} {a b e : Expr} {es : List Expr} {qa qb q : QE} {qr : QA} {pos : Pos}
theorem dadd (ha : PD c X a qa) (hb : PD c X b qb) : PD c X (.BinOp a .Add b pos) (qOp addR qa qb) := PD.op (op_add.or (op_add_str.or (op_cat.or op_catA))) opd_add ha hb
theorem dsub (ha : PD c X a qa) (hb : PD c X b qb) : PD c X (.BinOp a .Sub b pos) (qOp subR qa qb) := PD.op op_sub opd_sub ha hb
theorem dmul (ha : PD c X a qa) (hb : PD c X b qb) : PD c X (.BinOp a .Mult b pos) (qOp mulR qa qb) := PD.op (op_mulX.or op_rep) opd_mul ha hb
theorem dfdiv (ha : PD c X a qa) (hb : PD c X b qb) : PD c X (.BinOp a .FloorDiv b pos) (qOp fdivR qa qb) := PD.op op_fdivX opd_fdiv ha hb
theorem dmod (ha : PD c X a qa) (hb : PD c X b qb) : PD c X (.BinOp a .Mod b pos) (qOp modR qa qb) := PD.op op_mod opd_mod ha hb
theorem dpow (ha : PD c X a qa) (hb : PD c X b qb) : PD c X (.BinOp a .Pow b pos) (qOp powR qa qb) := PD.op op_pow opd_pow ha hb
theorem dneg (ha : PD c X a qa) : PD c X (.UnaryOp .USub a pos) (qUn negR qa) := PD.un un_neg und_neg ha
abbrev ltR := cmR (fun i j => decide (i < j)) (fun i j => decide (i < j))
abbrev leR := cmR (fun i j => decide (i ≤ j)) (fun i j => !decide (j < i))
abbrev gtR := cmR (fun i j => decide (j < i)) (fun i j => decide (j < i))
abbrev geR := cmR (fun i j => decide (j ≤ i)) (fun i j => !decide (i < j))
theorem o_lt : OpR X (compareOp .Lt) (fun x y H Q => rI0 (fun i j => .bl (decide (i < j))) x y H Q ∨ (∃ i j, x = .str i ∧ y = .str j ∧ Q (.bl (decide (i.cps.toList < j.cps.toList))) H)) := op_lt.or op_lt_str
theorem o_le : OpR X (compareOp .LtE) (fun x y H Q => rI0 (fun i j => .bl (decide (i ≤ j))) x y H Q ∨ (∃ i j, x = .str i ∧ y = .str j ∧ Q (.bl (!decide (j.cps.toList < i.cps.toList))) H)) := op_le.or op_le_str
theorem o_gt : OpR X (compareOp .Gt) (fun x y H Q => rI0 (fun i j => .bl (decide (j < i))) x y H Q ∨ (∃ i j, x = .str i ∧ y = .str j ∧ Q (.bl (decide (j.cps.toList < i.cps.toList))) H)) := op_gt.or op_gt_str
theorem o_ge : OpR X (compareOp .GtE) (fun x y H Q => rI0 (fun i j => .bl (decide (j ≤ i))) x y H Q ∨ (∃ i j, x = .str i ∧ y = .str j ∧ Q (.bl (!decide (i.cps.toList < j.cps.toList))) H)) := op_ge.or op_ge_str
theorem dlt (ha : PD c X a qa) (hb : PD c X b qb) : PD c X (.Compare a [.Lt] [b] pos) (qOp ltR qa qb) := PD.cmp o_lt opd_cm ha hb (nomark _)
theorem dle (ha : PD c X a qa) (hb : PD c X b qb) : PD c X (.Compare a [.LtE] [b] pos) (qOp leR qa qb) := PD.cmp o_le opd_cm ha hb (nomark _)
theorem dgt (ha : PD c X a qa) (hb : PD c X b qb) : PD c X (.Compare a [.Gt] [b] pos) (qOp gtR qa qb) := PD.cmp o_gt opd_cm ha hb (nomark _)
theorem dge (ha : PD c X a qa) (hb : PD c X b qb) : PD c X (.Compare a [.GtE] [b] pos) (qOp geR qa qb) := PD.cmp o_ge opd_cm ha hb (nomark _)
theorem deq (hu : X.A.units + 65 < cLine) (ha : PD c X a qa) (hb : PD c X b qb) : PD c X (.Compare a [.Eq] [b] pos) (qOp eqR qa qb) := PD.cmp (op_eqD (by omega)) opd_eq ha hb (nomark _)
theorem dne (hu : X.A.units + 65 < cLine) (ha : PD c X a qa) (hb : PD c X b qb) : PD c X (.Compare a [.NotEq] [b] pos) (qOp neR qa qb) := PD.cmp (op_neD (by omega)) opd_ne ha hb (nomark _)
theorem dis (ha : PD c X a qa) (hb : PD c X b qb) : PD c X (.Compare a [.Is] [b] pos) (qOp isR qa qb) := PD.cmp op_isN opd_is ha hb (nomark _)
theorem disn (ha : PD c X a qa) (hb : PD c X b qb) : PD c X (.Compare a [.IsNot] [b] pos) (qOp isnR qa qb) := PD.cmp op_notN opd_isn ha hb (nomark _)
theorem din (hu : X.A.units + 65 < cLine) (ha : PD c X a qa) (hb : PD c X b qb) (hm : behindInMarks .In b = false := by rfl) : PD c X (.Compare a [.In] [b] pos) (qOp (inR false) qa qb) := PD.cmp (op_in_seq.or (op_inD hu)) opd_in ha hb hm
theorem dnin (hu : X.A.units + 65 < cLine) (ha : PD c X a qa) (hb : PD c X b qb) (hm : behindInMarks .NotIn b = false := by rfl) : PD c X (.Compare a [.NotIn] [b] pos) (qOp (inR true) qa qb) := PD.cmp (op_notIn_seq.or (op_notInD hu)) opd_nin ha hb hm
/-- the same as tests -/
theorem tlt (ha : PD c X a qa) (hb : PD c X b qb) : PDT c X (.Compare a [.Lt] [b] pos) (qTest (qOp ltR qa qb)) := PDT.cmp o_lt opd_cm ha hb (nomark _)
theorem tle (ha : PD c X a qa) (hb : PD c X b qb) : PDT c X (.Compare a [.LtE] [b] pos) (qTest (qOp leR qa qb)) := PDT.cmp o_le opd_cm ha hb (nomark _)
theorem tgt (ha : PD c X a qa) (hb : PD c X b qb) : PDT c X (.Compare a [.Gt] [b] pos) (qTest (qOp gtR qa qb)) := PDT.cmp o_gt opd_cm ha hb (nomark _)
theorem tge (ha : PD c X a qa) (hb : PD c X b qb) : PDT c X (.Compare a [.GtE] [b] pos) (qTest (qOp geR qa qb)) := PDT.cmp o_ge opd_cm ha hb (nomark _)
theorem teq (hu : X.A.units + 65 < cLine) (ha : PD c X a qa) (hb : PD c X b qb) : PDT c X (.Compare a [.Eq] [b] pos) (qTest (qOp eqR qa qb)) := PDT.cmp (op_eqD (by omega)) opd_eq ha hb (nomark _)
theorem tne (hu : X.A.units + 65 < cLine) (ha : PD c X a qa) (hb : PD c X b qb) : PDT c X (.Compare a [.NotEq] [b] pos) (qTest (qOp neR qa qb)) := PDT.cmp (op_neD (by omega)) opd_ne ha hb (nomark _)
theorem tis (ha : PD c X a qa) (hb : PD c X b qb) : PDT c X (.Compare a [.Is] [b] pos) (qTest (qOp isR qa qb)) := PDT.cmp op_isN opd_is ha hb (nomark _)
theorem tisn (ha : PD c X a qa) (hb : PD c X b qb) : PDT c X (.Compare a [.IsNot] [b] pos) (qTest (qOp isnR qa qb)) := PDT.cmp op_notN opd_isn ha hb (nomark _)
theorem tin (hu : X.A.units + 65 < cLine) (ha : PD c X a qa) (hb : PD c X b qb) (hm : behindInMarks .In b = false := by rfl) : PDT c X (.Compare a [.In] [b] pos) (qTest (qOp (inR false) qa qb)) := PDT.cmp (op_in_seq.or (op_inD hu)) opd_in ha hb hm
theorem tnin (hu : X.A.units + 65 < cLine) (ha : PD c X a qa) (hb : PD c X b qb) (hm : behindInMarks .NotIn b = false := by rfl) : PDT c X (.Compare a [.NotIn] [b] pos) (qTest (qOp (inR true) qa qb)) := PDT.cmp (op_notIn_seq.or (op_notInD hu)) opd_nin ha hb hm
theorem dix (ha : PD c X a qa) (hb : PD c X b qb) (hs : PlainIx b := by exact fun _ _ => rfl) : PD c X (.Subscript a b pos) (qOp ixR qa qb) := by
  obtain ⟨ta, pa, sa⟩ := ha.ex
  obtain ⟨tb, pb, sb⟩ := hb.ex
  exact ⟨_, pe_ix ix_seq pa pb hs, snd_op opd_ix sa sb⟩
end
end DL

namespace DL
open PySem L2

/-! ### tests -/
def truR : D → (Bool → Prop) → Prop
  | .non, Q => Q false
  | .bl b, Q => Q b
  | .int i, Q => Q (i != 0)
  | .str x, Q => x.length ≤ 100000 ∧ Q ((x.length : Int) != 0)
  | .lst xs, Q => Q (!xs.isEmpty)
  | .tup xs, Q => Q (!xs.isEmpty)
  | _, _ => False
def qTru (q : QE) : QT := fun ρ Q => q ρ fun x => truR x Q
def qAnd (q r : QT) : QT := fun ρ Q => q ρ fun b => if b = true then r ρ Q else Q false
def qOr (q r : QT) : QT := fun ρ Q => q ρ fun b => if b = true then Q true else r ρ Q
def qNot (q : QT) : QT := fun ρ Q => q ρ fun b => Q (!b)
def qAndV (q r : QE) : QE := fun ρ Q => q ρ fun x => blR x fun b => if b = true then r ρ Q else Q (.bl false)
def qOrV (q r : QE) : QE := fun ρ Q => q ρ fun x => blR x fun b => if b = true then Q (.bl true) else r ρ Q
def qNotV (q : QE) : QE := fun ρ Q => q ρ fun x => blR x fun b => Q (.bl (!b))
def qIf (t : QT) (q r : QE) : QE := fun ρ Q => t ρ fun b => if b = true then q ρ Q else r ρ Q
def qChain (rd rd' : D → D → (D → Prop) → Prop) (qa qb qc : QE) : QE := fun ρ Q => qa ρ fun x => qb ρ fun y => rd x y fun z => blR z fun k => if k = true then qc ρ fun w => rd' y w Q else Q (.bl false)
structure PDW (c : Ctx) (X : Cx) (e : Expr) (q : QT) : Prop where
  ex : ∃ t, PW X e t ∧ SndT c t q
section
variable {c : Ctx} {X : Cx} {a b e : Expr} {es : List Expr} {qa qb q : QE} {qr : QA} {pos : Pos} {ta tb : QT} {rest : List Expr}
theorem PDW.pt (h : PDW c X e ta) : PDT c X e ta := by
  obtain ⟨t, p, s⟩ := h.ex
  exact ⟨t, p.pt, s⟩
theorem empty_rep {vs : List V} {ds : List D} (n : vs.length = ds.length) : vs.isEmpty = ds.isEmpty := by
  cases vs <;> cases ds <;> first | rfl | (simp at n)
theorem ttru (ha : PD c X a qa) (he : ∀ whole, isTrue a X.env whole = (do let v ← whole; standAt a.pos; holding [v] (truthy v)) := by intro _; rfl) : PDT c X a (qTru qa) := by
  obtain ⟨t, p, sd⟩ := ha.ex
  refine ⟨_, pt_truth p he, fun ρ σ G H Q R s hq k => sd ρ σ G H _ _ s hq fun v d G' H' g r h => ?_⟩
  have g' := g.gh
  cases r with
  | non => exact ⟨false, rfl, k _ _ _ g h⟩
  | bl b => exact ⟨b, rfl, k _ _ _ g h⟩
  | int i => exact ⟨_, rfl, k _ _ _ g h⟩
  | str x => exact ⟨_, ⟨sz h.1, rfl⟩, k _ _ _ g h.2⟩
  | adr a => exact h.elim
  | ty a => exact h.elim
  | tup e n r => exact ⟨_, .inr (.inl ⟨_, e.sq g', rfl⟩), k _ _ _ g (by rw [empty_rep n]; exact h)⟩
  | lst e n r => exact ⟨_, .inl ⟨_, .inl (.inl (g' _ _ e)), rfl⟩, k _ _ _ g (by rw [empty_rep n]; exact h)⟩
  | obj => exact h.elim
  | dK => exact h.elim
  | dT => exact h.elim
  | exc => exact h.elim
  | lmu => exact h.elim
theorem snd_and {t u : TT} (h1 : SndT c t ta) (h2 : SndT c u tb) : SndT c (tAnd t u) (qAnd ta tb) := by
  intro ρ σ G H Q R s h k
  refine h1 ρ σ G H _ _ s h fun b G1 H1 g1 h' => ?_
  cases b with
  | true => exact h2 ρ σ G1 H1 Q R (s.grow g1) h' fun b G2 H2 g2 q => k b G2 H2 (g1.trans g2 s.hb) q
  | false => exact k false G1 H1 g1 h'
theorem snd_or {t u : TT} (h1 : SndT c t ta) (h2 : SndT c u tb) : SndT c (tOr t u) (qOr ta tb) := by
  intro ρ σ G H Q R s h k
  refine h1 ρ σ G H _ _ s h fun b G1 H1 g1 h' => ?_
  cases b with
  | true => exact k true G1 H1 g1 h'
  | false => exact h2 ρ σ G1 H1 Q R (s.grow g1) h' fun b G2 H2 g2 q => k b G2 H2 (g1.trans g2 s.hb) q
theorem wand1 (ha : PDT c X a ta) : PDW c X (.BoolOp .And [a] pos) ta := by
  obtain ⟨t, p, s⟩ := ha.ex
  exact ⟨t, pw_and1 p, s⟩
theorem wor1 (ha : PDT c X a ta) : PDW c X (.BoolOp .Or [a] pos) ta := by
  obtain ⟨t, p, s⟩ := ha.ex
  exact ⟨t, pw_or1 p, s⟩
theorem wand (ha : PDT c X a ta) (hb : PDW c X (.BoolOp .And (b :: rest) pos) tb) : PDW c X (.BoolOp .And (a :: b :: rest) pos) (qAnd ta tb) := by
  obtain ⟨t, p, s⟩ := ha.ex
  obtain ⟨u, p', s'⟩ := hb.ex
  exact ⟨_, pw_and p p', snd_and s s'⟩
theorem wor (ha : PDT c X a ta) (hb : PDW c X (.BoolOp .Or (b :: rest) pos) tb) : PDW c X (.BoolOp .Or (a :: b :: rest) pos) (qOr ta tb) := by
  obtain ⟨t, p, s⟩ := ha.ex
  obtain ⟨u, p', s'⟩ := hb.ex
  exact ⟨_, pw_or p p', snd_or s s'⟩
theorem tnot (ha : PDT c X a ta) : PDT c X (.UnaryOp .Not a pos) (qNot ta) := by
  obtain ⟨t, p, s⟩ := ha.ex
  exact ⟨_, pt_not p, fun ρ σ G H Q R st h k => s ρ σ G H _ _ st h fun b G1 H1 g1 h' => k _ G1 H1 g1 h'⟩
theorem done1 {op} (ha : PD c X a qa) : PD c X (.BoolOp op [a] pos) qa := by
  obtain ⟨t, p, s⟩ := ha.ex
  exact ⟨t, pe_one p, s⟩
theorem dand (ha : PD c X a qa) (hb : PD c X (.BoolOp .And (b :: rest) pos) qb) : PD c X (.BoolOp .And (a :: b :: rest) pos) (qAndV qa qb) := by
  obtain ⟨t, p, s⟩ := ha.ex
  obtain ⟨u, p', s'⟩ := hb.ex
  refine ⟨_, pe_and p p', fun ρ σ G H Q R st h k => s ρ σ G H _ _ st h fun v d G1 H1 g1 r1 h' => ?_⟩
  obtain ⟨b, rfl, h'⟩ := blR_inv h'
  cases r1
  refine ⟨b, rfl, ?_⟩
  cases b with
  | true => exact s' ρ σ G1 H1 Q R (st.grow g1) h' fun v d G2 H2 g2 r q => k v d G2 H2 (g1.trans g2 st.hb) r q
  | false => exact k _ _ G1 H1 g1 (.bl _) h'
theorem dor (ha : PD c X a qa) (hb : PD c X (.BoolOp .Or (b :: rest) pos) qb) : PD c X (.BoolOp .Or (a :: b :: rest) pos) (qOrV qa qb) := by
  obtain ⟨t, p, s⟩ := ha.ex
  obtain ⟨u, p', s'⟩ := hb.ex
  refine ⟨_, pe_or p p', fun ρ σ G H Q R st h k => s ρ σ G H _ _ st h fun v d G1 H1 g1 r1 h' => ?_⟩
  obtain ⟨b, rfl, h'⟩ := blR_inv h'
  cases r1
  refine ⟨b, rfl, ?_⟩
  cases b with
  | true => exact k _ _ G1 H1 g1 (.bl _) h'
  | false => exact s' ρ σ G1 H1 Q R (st.grow g1) h' fun v d G2 H2 g2 r q => k v d G2 H2 (g1.trans g2 st.hb) r q
theorem dnot (ha : PD c X a qa) : PD c X (.UnaryOp .Not a pos) (qNotV qa) := by
  obtain ⟨t, p, s⟩ := ha.ex
  refine ⟨_, pe_not p, fun ρ σ G H Q R st h k => s ρ σ G H _ _ st h fun v d G1 H1 g1 r1 h' => ?_⟩
  obtain ⟨b, rfl, h'⟩ := blR_inv h'
  cases r1
  exact ⟨b, rfl, k _ _ G1 H1 g1 (.bl _) h'⟩
theorem difx {t : Expr} (ht : PDT c X t ta) (ha : PD c X a qa) (hb : PD c X b qb) : PD c X (.IfExp t a b pos) (qIf ta qa qb) := by
  obtain ⟨tt, p0, s0⟩ := ht.ex
  obtain ⟨t, p, s⟩ := ha.ex
  obtain ⟨u, p', s'⟩ := hb.ex
  refine ⟨_, pe_ifExp p0 p p', fun ρ σ G H Q R st h k => s0 ρ σ G H _ _ st h fun b G1 H1 g1 h' => ?_⟩
  cases b with
  | true => exact s ρ σ G1 H1 Q R (st.grow g1) h' fun v d G2 H2 g2 r q => k v d G2 H2 (g1.trans g2 st.hb) r q
  | false => exact s' ρ σ G1 H1 Q R (st.grow g1) h' fun v d G2 H2 g2 r q => k v d G2 H2 (g1.trans g2 st.hb) r q
theorem snd_chain {r r' : R2} {rd rd' : D → D → (D → Prop) → Prop} {t1 t2 t3 : TE} {q3 : QE} (hd : OpD r rd) (hd' : OpD r' rd') (h1 : SndE c t1 qa) (h2 : SndE c t2 qb) (h3 : SndE c t3 q3) : SndE c (tChain r r' t1 t2 t3) (qChain rd rd' qa qb q3) := by
  intro ρ σ G H Q R s h k
  refine h1 ρ σ G H _ _ s h fun v1 d1 G1 H1 g1 r1 h' => ?_
  have s1 := s.grow g1
  refine h2 ρ σ G1 H1 _ _ s1 h' fun v2 d2 G2 H2 g2 r2 h' => ?_
  have s2 := s1.grow g2
  have g12 := g1.trans g2 s.hb
  refine hd c.β G2 H2 v1 v2 d1 d2 _ _ s2.core.gh s2.core.bg (r1.mono g2.gg) r2 h' fun v3 d3 G3 H3 g3 r3 h' => ?_
  have s3 := s2.grow g3
  have g13 := g12.trans g3 s.hb
  obtain ⟨b, rfl, h'⟩ := blR_inv h'
  cases r3
  refine ⟨b, rfl, ?_⟩
  cases b with
  | true =>
    refine h3 ρ σ G3 H3 _ _ s3 h' fun v4 d4 G4 H4 g4 r4 h' => ?_
    have s4 := s3.grow g4
    have g14 := g13.trans g4 s.hb
    exact hd' c.β G4 H4 v2 v4 d2 d4 Q R s4.core.gh s4.core.bg ((r2.mono g3.gg).mono g4.gg) r4 h' fun v d G' H' g r q => k v d G' H' (g14.trans g s.hb) r q
  | false => exact k _ _ G3 H3 g13 (.bl _) h'
theorem dchain {op op' : CmpOp} {r r' : R2} {rd rd' : D → D → (D → Prop) → Prop} {e3 : Expr} {q3 : QE} (ho : OpR X (compareOp op) r) (ho' : OpR X (compareOp op') r') (hd : OpD r rd) (hd' : OpD r' rd') (ha : PD c X a qa) (hb : PD c X b qb) (hc : PD c X e3 q3)
    (hm : lastMarks [op, op'] [b, e3] = false := by with_unfolding_all rfl) : PD c X (.Compare a [op, op'] [b, e3] pos) (qChain rd rd' qa qb q3) := by
  obtain ⟨t1, p1, s1⟩ := ha.ex
  obtain ⟨t2, p2, s2⟩ := hb.ex
  obtain ⟨t3, p3, s3⟩ := hc.ex
  exact ⟨_, pe_chain ho ho' p1 p2 p3 hm, snd_chain hd hd' s1 s2 s3⟩
theorem tchain {op op' : CmpOp} {r r' : R2} {rd rd' : D → D → (D → Prop) → Prop} {e3 : Expr} {q3 : QE} (ho : OpR X (compareOp op) r) (ho' : OpR X (compareOp op') r') (hd : OpD r rd) (hd' : OpD r' rd') (ha : PD c X a qa) (hb : PD c X b qb) (hc : PD c X e3 q3)
    (hm : lastMarks [op, op'] [b, e3] = false := by with_unfolding_all rfl) : PDT c X (.Compare a [op, op'] [b, e3] pos) (qTest (qChain rd rd' qa qb q3)) := by
  obtain ⟨t1, p1, s1⟩ := ha.ex
  obtain ⟨t2, p2, s2⟩ := hb.ex
  obtain ⟨t3, p3, s3⟩ := hc.ex
  exact ⟨_, pt_chain ho ho' p1 p2 p3 hm, snd_test (snd_chain hd hd' s1 s2 s3)⟩
end

/-! ### statements -/
structure En where
  nx : List Slot → Prop
  rt : D → List Slot → Prop
  bk : List Slot → Prop := fun _ => False
  ct : List Slot → Prop := fun _ => False
  rn : List D → List Slot → Prop := fun _ _ => False
abbrev QS := List Slot → En → Prop
structure Fits (c : Ctx) (G : Hp) (Φ : En) (D' : Ends) : Prop where
  nx : ∀ ρ' σ' G' H', Ex G G' → Sta c G' H' σ' ρ' → Φ.nx ρ' → D'.nx σ' H'
  rt : ∀ v d ρ' σ' G' H', Ex G G' → Sta c G' H' σ' ρ' → Rep G' v d → Φ.rt d ρ' → D'.rt v H'
  bk : ∀ ρ' σ' G' H', Ex G G' → Sta c G' H' σ' ρ' → Φ.bk ρ' → D'.bk σ' H'
  ct : ∀ ρ' σ' G' H', Ex G G' → Sta c G' H' σ' ρ' → Φ.ct ρ' → D'.ct σ' H'
  rn : ∀ a vs ds ρ' σ' G' H', Ex G G' → Sta c G' H' σ' ρ' → c.H0 a = none → G' a = none → H' a = some (.lst vs) → RepL G' vs ds → Φ.rn ds ρ' → D'.rt (.ref a) H'
theorem Fits.mono {c : Ctx} {G G1 : Hp} {Φ : En} {D' : Ends} (f : Fits c G Φ D') (e : Ex G G1) : Fits c G1 Φ D' :=
  ⟨fun ρ' σ' G' H' x => f.nx ρ' σ' G' H' (e.trans x), fun v d ρ' σ' G' H' x => f.rt v d ρ' σ' G' H' (e.trans x), fun ρ' σ' G' H' x => f.bk ρ' σ' G' H' (e.trans x), fun ρ' σ' G' H' x => f.ct ρ' σ' G' H' (e.trans x), fun a vs ds ρ' σ' G' H' x => f.rn a vs ds ρ' σ' G' H' (e.trans x)⟩
def SndS (c : Ctx) (t : TS) (q : QS) : Prop := ∀ (ρ : List Slot) (σ : L2.St) (G H : Hp) (Φ : En) (D' : Ends), Sta c G H σ ρ → q ρ Φ → Fits c G Φ D' → t D' σ H
structure PDS (c : Ctx) (X : Cx) (st : Stmt) (q : QS) : Prop where
  ex : ∃ t, PS X st t ∧ SndS c t q
structure PDB (c : Ctx) (X : Cx) (sts : List Stmt) (q : QS) : Prop where
  ex : ∃ t, PSs X sts t ∧ SndS c t q
def qNext : QS := fun ρ Φ => Φ.nx ρ
def qSeq (q r : QS) : QS := fun ρ Φ => ∃ I : List Slot → Prop, q ρ { Φ with nx := I } ∧ ∀ ρ', I ρ' → r ρ' Φ
def qSet (i : Nat) (q : QE) : QS := fun ρ Φ => q ρ fun d => Φ.nx (ρ.set i (.d d))
def qSetN (i : Nat) (q : QA) : QS := fun ρ Φ => q ρ fun ds => ∀ a, Φ.nx (ρ.set i (.own a (.lst ds)))
def qDrop (q : QE) : QS := fun ρ Φ => q ρ fun _ => Φ.nx ρ
def qRet (q : QE) : QS := fun ρ Φ => q ρ fun d => Φ.rt d ρ
def qIfS (t : QT) (q r : QS) : QS := fun ρ Φ => t ρ fun b => if b = true then q ρ Φ else r ρ Φ
def two_ : List D → (D → D → Prop) → Prop
  | [a, b], Q => Q a b
  | _, _ => False
def three_ : List D → (D → D → D → Prop) → Prop
  | [a, b, d], Q => Q a b d
  | _, _ => False
theorem two_inv {x : List D} {Q : D → D → Prop} (h : two_ x Q) : ∃ a b, x = [a, b] ∧ Q a b := by
  match x, h with
  | [a, b], h => exact ⟨a, b, rfl, h⟩
theorem three_inv {x : List D} {Q : D → D → D → Prop} (h : three_ x Q) : ∃ a b d, x = [a, b, d] ∧ Q a b d := by
  match x, h with
  | [a, b, d], h => exact ⟨a, b, d, rfl, h⟩
def qPar (i j : Nat) (q : QA) : QS := fun ρ Φ => q ρ fun ds => two_ ds fun a b => Φ.nx ((ρ.set i (.d a)).set j (.d b))
def qPar3 (i j l : Nat) (q : QA) : QS := fun ρ Φ => q ρ fun ds => three_ ds fun a b d => Φ.nx (((ρ.set i (.d a)).set j (.d b)).set l (.d d))
def qNever : QS := fun _ _ => False
/-- from here on it is data -/
def Ob.frz : Ob → D
  | .lst xs => .lst xs
  | .ins C _ fs => .obj C fs
  | .dK kvs => .dK kvs
  | .dT kvs => .dT kvs
/-- what a slot owns is frozen: from here on it is data -/
def frzS (i : Nat) (ρ : List Slot) : List Slot := match ρ[i]? with
  | some (.own _ (.dK _)) => ρ
  | some (.own _ (.dT _)) => ρ
  | some (.own _ o) => ρ.set i (.d o.frz)
  | _ => ρ
def qFrz (i : Nat) (q : QS) : QS := fun ρ Φ => q (frzS i ρ) Φ

section
variable {c : Ctx} {X : Cx} {a b e : Expr} {es : List Expr} {qa qb q : QE} {qr : QA} {pos : Pos} {G H : Hp} {σ : L2.St} {ρ : List Slot} {st : Stmt} {sts rest : List Stmt} {q1 q2 : QS}
theorem Sta.setD {i : Nat} {v : V} {d : D} (s : Sta c G H σ ρ) (r : Rep G v d) : Sta c G H (σ.set i (some v)) (ρ.set i (.d d)) := by
  refine ⟨s.core, by simp [s.len], fun j sl e => ?_, fun j k a o1 o2 h1 h2 => ?_⟩
  · rw [List.getElem?_set] at e
    rw [List.getElem?_set]
    by_cases q : i = j
    · rw [if_pos q] at e ⊢
      split at e
      · rename_i z
        rw [if_pos (by rw [s.len]; exact z)]
        cases e
        exact ⟨v, rfl, r⟩
      · cases e
    · rw [if_neg q] at e ⊢
      exact s.sl j sl e
  · rw [List.getElem?_set] at h1 h2
    split at h1
    · split at h1 <;> cases h1
    · split at h2
      · split at h2 <;> cases h2
      · exact s.dj j k a _ _ h1 h2
theorem Sta.setUn {i : Nat} {o : Option V} (s : Sta c G H σ ρ) : Sta c G H (σ.set i o) (ρ.set i .un) := by
  refine ⟨s.core, by simp [s.len], fun j sl e => ?_, fun j k a o1 o2 h1 h2 => ?_⟩
  · rw [List.getElem?_set] at e
    rw [List.getElem?_set]
    by_cases q : i = j
    · rw [if_pos q] at e ⊢
      split at e
      · cases e; trivial
      · cases e
    · rw [if_neg q] at e ⊢
      exact s.sl j sl e
  · rw [List.getElem?_set] at h1 h2
    split at h1
    · split at h1 <;> cases h1
    · split at h2
      · split at h2 <;> cases h2
      · exact s.dj j k a _ _ h1 h2
theorem Sta.setO {i : Nat} {a : Addr} {o : Ob} (s : Sta c G H σ ρ) (hg : G a = none) (h0 : c.H0 a = none) (r : ObR c G H a o) (nw : ∀ (j : Nat) (o' : Ob), ρ[j]? = some (.own a o') → False) : Sta c G H (σ.set i (some (.ref a))) (ρ.set i (.own a o)) := by
  refine ⟨s.core, by simp [s.len], fun j sl e => ?_, fun j k b o1 o2 h1 h2 => ?_⟩
  · rw [List.getElem?_set] at e
    rw [List.getElem?_set]
    by_cases q : i = j
    · rw [if_pos q] at e ⊢
      split at e
      · rename_i z
        rw [if_pos (by rw [s.len]; exact z)]
        cases e
        exact ⟨rfl, hg, h0, r⟩
      · cases e
    · rw [if_neg q] at e ⊢
      exact s.sl j sl e
  · rw [List.getElem?_set] at h1 h2
    by_cases q1 : i = j
    · by_cases q2 : i = k
      · rw [← q1, ← q2]
      · rw [if_pos q1] at h1
        rw [if_neg q2] at h2
        split at h1
        · cases h1; exact (nw k _ h2).elim
        · cases h1
    · rw [if_neg q1] at h1
      by_cases q2 : i = k
      · rw [if_pos q2] at h2
        split at h2
        · cases h2; exact (nw j _ h1).elim
        · cases h2
      · rw [if_neg q2] at h2
        exact s.dj j k b _ _ h1 h2
theorem Sta.setN {i : Nat} {a : Addr} {vs : List V} {ds : List D} (s : Sta c G H σ ρ) (hg : G a = none) (h0 : c.H0 a = none) (hh : H a = some (.lst vs)) (r : RepL G vs ds) (nw : ∀ (j : Nat) (o : Ob), ρ[j]? = some (.own a o) → False) : Sta c G H (σ.set i (some (.ref a))) (ρ.set i (.own a (.lst ds))) :=
  s.setO hg h0 ⟨vs, hh, r⟩ nw
theorem ObR.notOwn {a : Addr} {o : Ob} (h : ObR c G H a o) (b : Addr) : H a ≠ some (.own b) := fun z => by
  cases o with
  | lst xs => obtain ⟨vs, h, _⟩ := h; rw [h] at z; cases z
  | ins C dx fs => obtain ⟨_, _, _, vs, h, _⟩ := h; rw [h] at z; cases z
  | dK kvs => obtain ⟨vs, h, _⟩ := h; rw [h] at z; cases z
  | dT kvs => obtain ⟨vs, h, _⟩ := h; rw [h] at z; cases z
/-- an owned thing is changed -/
theorem Sta.mutO {i : Nat} {a : Addr} {o o' : Ob} {u : HO} (s : Sta c G H σ ρ) (hi : ρ[i]? = some (.own a o)) (r : ObR c G (upd H a u) a o') : Sta c G (upd H a u) σ (ρ.set i (.own a o')) := by
  obtain ⟨es, hg, h0, hr⟩ := s.sl i _ hi
  have nb : ∀ b, c.β = some b → b ≠ a := fun b e z => by subst z; exact s.core.b0 _ e h0
  obtain ⟨w0, hw0, hw1, _⟩ := hr.nt
  refine ⟨⟨s.core.g0, fun x o h n nt => ?_, fun x o h nt => ?_, fun P h => tab_upd hw0 hw1 P (s.core.tb P h), s.core.nw, s.core.gh.out hg, fun b e => (s.core.bg b e).mono (Same.refl G) (upd_ne (nb b e)) (s.core.bg b e).out, s.core.b0⟩, by simp [s.len], fun j sl e => ?_, fun j k b o1 o2 h1 h2 => ?_⟩
  · have : x ≠ a := fun z => by subst z; rw [h0] at h; cases h
    rw [upd_ne this]
    exact s.core.h0 x o h n nt
  · have : x ≠ a := fun z => by subst z; rw [h0] at h; cases h
    rw [upd_ne this]
    exact s.core.tn x o h nt
  · rw [List.getElem?_set] at e
    by_cases q : i = j
    · rw [if_pos q] at e
      split at e
      · cases e
        subst q
        exact ⟨es, hg, h0, r⟩
      · cases e
    · rw [if_neg q] at e
      have z := s.sl j sl e
      cases sl with
      | un => trivial
      | d x => exact z
      | raw v => exact z
      | own b ob =>
        obtain ⟨z1, z2, z3, z4⟩ := z
        have nba : b ≠ a := fun w => by subst w; exact q (s.dj i j b _ _ hi e)
        refine ⟨z1, z2, z3, z4.stay (Same.refl G) (fun y w hy _ _ gy h0y hw => ⟨gy, ?_⟩) z2 z3⟩
        rw [upd_ne (fun e => by
          rcases hw with hw | hw
          · exact nba (hw.symm.trans e)
          · subst e; rw [hw] at hy; exact hr.notOwn b hy)]
        exact hy
  · have key : ∀ (j : Nat) (b : Addr) (ob : Ob), (ρ.set i (.own a o'))[j]? = some (.own b ob) → ∃ ob', ρ[j]? = some (.own b ob') := by
      intro j b ob h
      rw [List.getElem?_set] at h
      by_cases q : i = j
      · rw [if_pos q] at h
        split at h
        · cases h; subst q; exact ⟨_, hi⟩
        · cases h
      · rw [if_neg q] at h; exact ⟨ob, h⟩
    obtain ⟨y1, k1⟩ := key j b _ h1
    obtain ⟨y2, k2⟩ := key k b _ h2
    exact s.dj j k b y1 y2 k1 k2
/-- an owned list is changed -/
theorem Sta.mut {i : Nat} {a : Addr} {xs : List D} {vs' : List V} {ds' : List D} (s : Sta c G H σ ρ) (hi : ρ[i]? = some (.own a (.lst xs))) (r : RepL G vs' ds') : Sta c G (upd H a (.lst vs')) σ (ρ.set i (.own a (.lst ds'))) :=
  s.mutO hi ⟨vs', upd_same, r⟩
theorem ObR.frz {a : Addr} {o : Ob} (nK : ∀ kvs, o ≠ .dK kvs) (nT : ∀ kvs, o ≠ .dT kvs) (h : ObR c G H a o) (ga : G a = none) (h0 : c.H0 a = none) (gh : Ex G H) :
    ∃ G', Ex G G' ∧ Ex G' H ∧ (∀ x u, G' x = some u → G x = some u ∨ (G x = none ∧ c.H0 x = none ∧ H x = some u ∧ (x = a ∨ u = .own a))) ∧ Rep G' (.ref a) o.frz := by
  have one : ∀ {u : HO}, H a = some u → Ex G (upd G a u) ∧ Ex (upd G a u) H ∧ (∀ x w, upd G a u x = some w → G x = some w ∨ (G x = none ∧ c.H0 x = none ∧ H x = some w ∧ (x = a ∨ w = .own a))) := fun {u} hu => by
    refine ⟨Ex.new ga, fun x w e => ?_, fun x w e => ?_⟩
    · by_cases q : x = a
      · subst q; rw [upd_same] at e; rw [hu]; exact e
      · rw [upd_ne q] at e; exact gh x w e
    · by_cases q : x = a
      · subst q; rw [upd_same] at e; cases e; exact .inr ⟨ga, h0, hu, .inl rfl⟩
      · rw [upd_ne q] at e; exact .inl e
  cases o with
  | lst xs =>
    obtain ⟨vs, h, r⟩ := h
    obtain ⟨a1, a2, a3⟩ := one h
    exact ⟨_, a1, a2, a3, .lst upd_same r.1 (r.mono a1).2⟩
  | dK xs => exact absurd rfl (nK xs)
  | dT xs => exact absurd rfl (nT xs)
  | ins C dx fs =>
    obtain ⟨gd, hd0, hd, vs, h, r⟩ := h
    obtain ⟨a1, a2, a3⟩ := one h
    have ne : dx ≠ a := fun z => by subst z; rw [hd] at h; cases h
    have gd' : upd G a (.ins C dx vs) dx = none := by rw [upd_ne ne]; exact gd
    have x2 := a1.trans (Ex.new (o := .own a) gd')
    refine ⟨upd (upd G a (.ins C dx vs)) dx (.own a), x2, fun x w e => ?_, fun x w e => ?_, .obj (by rw [upd_ne (Ne.symm ne), upd_same]) upd_same r.1 (r.mono x2).2⟩
    · by_cases q : x = dx
      · subst q; rw [upd_same] at e; rw [hd]; exact e
      · rw [upd_ne q] at e; exact a2 x w e
    · by_cases q : x = dx
      · subst q; rw [upd_same] at e; cases e; exact .inr ⟨gd, hd0, hd, .inr rfl⟩
      · rw [upd_ne q] at e; exact a3 x w e
theorem Sta.frz {i : Nat} (s : Sta c G H σ ρ) : ∃ G', Sta c G' H σ (frzS i ρ) ∧ Ex G G' := by
  unfold frzS
  split
  · exact ⟨G, s, Same.refl G⟩
  · exact ⟨G, s, Same.refl G⟩
  · rename_i a o nK nT hi
    obtain ⟨es, hg, h0, hr⟩ := s.sl i _ hi
    obtain ⟨G', x1, x2, x3, rp⟩ := ObR.frz (fun kvs z => nK kvs (by rw [z])) (fun kvs z => nT kvs (by rw [z])) hr hg h0 s.core.gh
    have bo : ∀ b, c.β = some b → G' b = none := fun b e => by
      cases q : G' b with
      | none => rfl
      | some u =>
        rcases x3 b u q with z | z
        · rw [(s.core.bg b e).out] at z; cases z
        · exact absurd z.2.1 (s.core.b0 b e)
    refine ⟨G', ⟨⟨s.core.g0.trans x1, s.core.h0, s.core.tn, s.core.tb, fun x o h nt n => ?_, x2, fun b e => (s.core.bg b e).mono x1 rfl (bo b e), s.core.b0⟩, by simp [s.len], fun j sl e => ?_, fun j k b o1 o2 h1 h2 => ?_⟩, x1⟩
    · rcases x3 x o h with z | z
      · exact s.core.nw x o z nt n
      · exact z.2.1
    · rw [List.getElem?_set] at e
      by_cases q : i = j
      · rw [if_pos q] at e
        split at e
        · cases e
          subst q
          exact ⟨.ref a, es, rp⟩
        · cases e
      · rw [if_neg q] at e
        have z := s.sl j sl e
        cases sl with
        | un => trivial
        | raw v => exact z
        | d x => obtain ⟨v, e1, r1⟩ := z; exact ⟨v, e1, r1.mono x1⟩
        | own b ob =>
          obtain ⟨z1, z2, z3, z4⟩ := z
          have nba : b ≠ a := fun w => by subst w; exact q (s.dj i j b _ _ hi e)
          have key : ∀ y w, H y = some w → G y = none → (y = b ∨ w = .own b) → G' y = none := fun y w hy gy hw => by
            cases q : G' y with
            | none => rfl
            | some u =>
              exfalso
              rcases x3 y u q with z | ⟨_, _, zh, z⟩
              · rw [gy] at z; cases z
              · rw [hy] at zh
                cases zh
                rcases hw with hw | hw
                · subst hw
                  rcases z with z | z
                  · exact nba z
                  · subst z; exact z4.notOwn a hy
                · subst hw
                  rcases z with z | z
                  · subst z; exact hr.notOwn b hy
                  · cases z; exact nba rfl
          obtain ⟨u, hu⟩ := z4.there
          exact ⟨z1, key b u hu z2 (.inl rfl), z3, z4.stay x1 (fun y w hy _ _ gy h0y hw => ⟨key y w hy gy hw, hy⟩) z2 z3⟩
    · rw [List.getElem?_set] at h1 h2
      split at h1
      · split at h1 <;> cases h1
      · split at h2
        · split at h2 <;> cases h2
        · exact s.dj j k b _ _ h1 h2
  · exact ⟨G, s, Same.refl G⟩
theorem sfrz (i : Nat) (h : PDS c X st q1) : PDS c X st (qFrz i q1) := by
  obtain ⟨t, p, sd⟩ := h.ex
  refine ⟨t, p, fun ρ σ G H Φ D' s hq f => ?_⟩
  obtain ⟨G', s', x⟩ := s.frz (i := i)
  exact sd _ σ G' H Φ D' s' hq (f.mono x)
theorem bfrz (i : Nat) (h : PDB c X sts q1) : PDB c X sts (qFrz i q1) := by
  obtain ⟨t, p, sd⟩ := h.ex
  refine ⟨t, p, fun ρ σ G H Φ D' s hq f => ?_⟩
  obtain ⟨G', s', x⟩ := s.frz (i := i)
  exact sd _ σ G' H Φ D' s' hq (f.mono x)
theorem b0 : PDB c X [] qNext := ⟨_, pss_nil, fun ρ σ G H Φ D' s h f => f.nx ρ σ G H (Same.refl G) s h⟩
theorem bc (h1 : PDS c X st q1) (h2 : PDB c X rest q2) : PDB c X (st :: rest) (qSeq q1 q2) := by
  obtain ⟨t, p, s1⟩ := h1.ex
  obtain ⟨u, p', s2⟩ := h2.ex
  refine ⟨_, pss_cons p p', fun ρ σ G H Φ D' s ⟨I, h, hI⟩ f => s1 ρ σ G H _ _ s h ⟨fun ρ' σ' G' H' x s' h' => s2 ρ' σ' G' H' Φ D' s' (hI ρ' h') (f.mono x), f.rt, f.bk, f.ct, f.rn⟩⟩
theorem b1 (h1 : PDS c X st q1) : PDB c X [st] q1 := by
  obtain ⟨t, p, s1⟩ := h1.ex
  exact ⟨_, pss_one p, s1⟩
theorem snever : PDS c X st qNever := ⟨_, ps_never, fun _ _ _ _ _ _ _ h _ => h.elim⟩
theorem bnever : PDB c X sts qNever := ⟨_, pss_never, fun _ _ _ _ _ _ _ h _ => h.elim⟩
theorem spass : PDS c X (.Pass pos) qNext := ⟨_, ps_pass, fun ρ σ G H Φ D' s h f => f.nx ρ σ G H (Same.refl G) s h⟩
theorem sbreak : PDS c X (.Break pos) (fun ρ Φ => Φ.bk ρ) := ⟨_, ps_break, fun ρ σ G H Φ D' s h f => f.bk ρ σ G H (Same.refl G) s h⟩
theorem scont : PDS c X (.Continue pos) (fun ρ Φ => Φ.ct ρ) := ⟨_, ps_continue, fun ρ σ G H Φ D' s h f => f.ct ρ σ G H (Same.refl G) s h⟩
theorem sret (he : PD c X e q) : PDS c X (.Return (some e) pos) (qRet q) := by
  obtain ⟨t, p, sd⟩ := he.ex
  exact ⟨_, ps_ret p, fun ρ σ G H Φ D' s h f => sd ρ σ G H _ _ s h fun v d G' H' g r hq => f.rt v d ρ σ G' H' g.gg (s.grow g) r hq⟩
/-- return of a new list, which is the caller's own -/
def qRetL (q : QA) : QS := fun ρ Φ => q ρ fun ds => Φ.rn ds ρ
theorem sretL (he : PDL c X e qr) : PDS c X (.Return (some e) pos) (qRetL qr) := by
  obtain ⟨t, p, sd⟩ := he.ex
  refine ⟨_, ps_ret p, fun ρ σ G H Φ D' s h f => sd ρ σ G H _ _ s h fun a vs ds G' H' g ha ga hh r hq => f.rn a vs ds ρ σ G' H' g.gg (s.grow g) (s.core.fr ha) ga hh r hq⟩
/-- return of a list that the def owns, as it is -/
def qRetO (i : Nat) : QS := fun ρ Φ => slotO ρ[i]? fun _ xs => Φ.rn xs ρ
theorem sretO (i : Nat) {x : Str} {npos : Pos} (hN : X.N[i]? = some x := by rfl) (hv : Vis X.env.scope x := by first | exact Or.inl rfl | exact Or.inr (Or.inl rfl) | exact Or.inr (Or.inr rfl)) (hd : (x == ("__debug__" : Str)) = false := by decide)
    (hcd : (x == ("__classdict__" : Str)) = false := by decide) : PDS c X (.Return (some (.Name x npos)) pos) (qRetO i) := by
  refine ⟨_, ps_ret (pe_var hN hv hd hcd), fun ρ σ G H Φ D' s h f => ?_⟩
  obtain ⟨a, xs, ea, h⟩ := slotO_inv h
  obtain ⟨e1, e2, e3, vs, e4, e5⟩ := s.sl i _ ea
  exact ⟨.ref a, e1, f.rn a vs xs ρ σ G H (Same.refl G) s e3 e2 e4 e5 h⟩
theorem sretN : PDS c X (.Return none pos) (fun ρ Φ => Φ.rt .non ρ) := ⟨_, ps_retN, fun ρ σ G H Φ D' s h f => f.rt _ _ ρ σ G H (Same.refl G) s .non h⟩
theorem sexpr (he : PD c X e q) (hs : swapsWith e none pos.line X.env = pure false := by rfl) : PDS c X (.Expr e pos) (qDrop q) := by
  obtain ⟨t, p, sd⟩ := he.ex
  exact ⟨_, ps_expr p hs, fun ρ σ G H Φ D' s h f => sd ρ σ G H _ _ s h fun v d G' H' g r hq => f.nx ρ σ G' H' g.gg (s.grow g) hq⟩
theorem sif {t : Expr} {qt : QT} {as bs : List Stmt} (ht : PDT c X t qt) (ha : PDB c X as q1) (hb : PDB c X bs q2) : PDS c X (.If t as bs pos) (qIfS qt q1 q2) := by
  obtain ⟨t0, p0, s0⟩ := ht.ex
  obtain ⟨t1, p1, s1⟩ := ha.ex
  obtain ⟨t2, p2, s2⟩ := hb.ex
  refine ⟨_, ps_if p0 p1 p2, fun ρ σ G H Φ D' s h f => s0 ρ σ G H _ _ s h fun b G1 H1 g1 h' => ?_⟩
  cases b with
  | true => exact s1 ρ σ G1 H1 Φ D' (s.grow g1) h' (f.mono g1.gg)
  | false => exact s2 ρ σ G1 H1 Φ D' (s.grow g1) h' (f.mono g1.gg)
theorem snd_asg {i : Nat} {t : TE} (sd : SndE c t q) : SndS c (tAsg t (gName i)) (qSet i q) := fun ρ σ G H Φ D' s h f =>
  sd ρ σ G H _ _ s h fun v d G' H' g r hq => f.nx _ _ G' H' g.gg ((s.grow g).setD r) hq
theorem sset (i : Nat) {x : Str} {pos' : Pos} (hN : X.N.Nodup) (he : PD c X e q) (hi : X.N[i]? = some x := by rfl) (hx : Loc X.env.scope x := by first | exact .inl rfl | exact .inr rfl) (hs : swapsWith e (some (.Name x pos')) pos.line X.env = pure false := by rfl) (hf : X.fn x = true ∨ X.env.scope.names.lookup x = some .local := by first | exact .inl rfl | exact .inr rfl | assumption) :
    PDS c X (.Assign [.Name x pos'] e pos) (qSet i q) := by
  obtain ⟨t, p, sd⟩ := he.ex
  exact ⟨_, ps_set hN hi hx p hs hf, snd_asg sd⟩
theorem free_of {a : Addr} {G' H' : Hp} (s : Sta c G H σ ρ) (h : H a = none) : c.H0 a = none ∧ ∀ (j : Nat) (o : Ob), ρ[j]? = some (.own a o) → False := by
  constructor
  · exact s.core.fr h
  · intro j o e
    obtain ⟨_, _, _, hv⟩ := s.sl j _ e
    obtain ⟨u, hu⟩ := hv.there
    rw [hu] at h; cases h
/-- name = a new list that the name owns -/
theorem ssetN (i : Nat) {x : Str} {pos' : Pos} (hN : X.N.Nodup) (he : PDL c X e qr) (hi : X.N[i]? = some x := by rfl) (hx : Loc X.env.scope x := by first | exact .inl rfl | exact .inr rfl) (hs : swapsWith e (some (.Name x pos')) pos.line X.env = pure false := by rfl) (hf : X.fn x = true ∨ X.env.scope.names.lookup x = some .local := by first | exact .inl rfl | exact .inr rfl | assumption) :
    PDS c X (.Assign [.Name x pos'] e pos) (qSetN i qr) := by
  obtain ⟨t, p, sd⟩ := he.ex
  refine ⟨_, ps_set hN hi hx p hs hf, fun ρ σ G H Φ D' s h f => sd ρ σ G H _ _ s h fun a vs ds G' H' g ha ga hh r hq => ?_⟩
  have z := free_of (G' := G) (H' := H) s ha
  exact f.nx _ _ G' H' g.gg ((s.grow g).setN ga z.1 hh r z.2) (hq a)
theorem RepL.two {vs : List V} {x y : D} (h : RepL G vs [x, y]) : ∃ v w, vs = [v, w] ∧ Rep G v x ∧ Rep G w y := by
  obtain ⟨v, r, rfl, r1, h⟩ := h.inv
  obtain ⟨w, r, rfl, r2, h⟩ := h.inv
  obtain rfl := h.inv0
  exact ⟨v, w, rfl, r1, r2⟩
theorem RepL.three {vs : List V} {x y z : D} (h : RepL G vs [x, y, z]) : ∃ u v w, vs = [u, v, w] ∧ Rep G u x ∧ Rep G v y ∧ Rep G w z := by
  obtain ⟨v, r, rfl, r1, h⟩ := h.inv
  obtain ⟨w, u, rfl, r2, r3⟩ := h.two
  exact ⟨v, w, u, rfl, r1, r2, r3⟩
theorem spar (i j : Nat) {x y : Str} {px py pt : Pos} {kt k2 pt2} (hc : X.calm = true) (hN : X.N.Nodup) (ha : PDA c X [a, b] qr) (hi : X.N[i]? = some x := by rfl) (hj : X.N[j]? = some y := by rfl) (hij : i ≠ j := by decide)
    (hx : X.env.scope.names.lookup x = some .local := by rfl) (hy : X.env.scope.names.lookup y = some .local := by rfl)
    (hw : swappedStores [.Tuple [.Name x px, .Name y py] kt pt] (.Tuple [a, b] k2 pt2) X.env = pure (some [x, y]) := by rfl)
    (hs : swapsWithSole [.Tuple [.Name x px, .Name y py] kt pt] (.Tuple [a, b] k2 pt2) pos.line X.env = pure false := by rfl) :
    PDS c X (.Assign [.Tuple [.Name x px, .Name y py] kt pt] (.Tuple [a, b] k2 pt2) pos) (qPar i j qr) := by
  obtain ⟨t, p, sd⟩ := ha.ex
  refine ⟨_, ps_par hc hN hi hj hij hx hy p hw hs, fun ρ σ G H Φ D' s h f => sd ρ σ G H _ _ s h fun vs ds G' H' g r hq => ?_⟩
  obtain ⟨d1, d2, rfl, hq⟩ := two_inv hq
  obtain ⟨v, w, rfl, r1, r2⟩ := r.two
  exact ⟨v, w, rfl, f.nx _ _ G' H' g.gg (((s.grow g).setD r1).setD r2) hq⟩
theorem spar3 (i j l : Nat) {x y z : Str} {e3 : Expr} {px py pz pt : Pos} {kt k2 pt2} (hc : X.calm = true) (hN : X.N.Nodup) (ha : PDA c X [a, b, e3] qr) (hi : X.N[i]? = some x := by rfl) (hj : X.N[j]? = some y := by rfl) (hl : X.N[l]? = some z := by rfl) (hij : i ≠ j := by decide) (hil : i ≠ l := by decide) (hjl : j ≠ l := by decide)
    (hx : X.env.scope.names.lookup x = some .local := by rfl) (hy : X.env.scope.names.lookup y = some .local := by rfl) (hz : X.env.scope.names.lookup z = some .local := by rfl)
    (hw : swappedStores [.Tuple [.Name x px, .Name y py, .Name z pz] kt pt] (.Tuple [a, b, e3] k2 pt2) X.env = pure (some [x, y, z]) := by rfl)
    (hs : swapsWithSole [.Tuple [.Name x px, .Name y py, .Name z pz] kt pt] (.Tuple [a, b, e3] k2 pt2) pos.line X.env = pure false := by rfl) :
    PDS c X (.Assign [.Tuple [.Name x px, .Name y py, .Name z pz] kt pt] (.Tuple [a, b, e3] k2 pt2) pos) (qPar3 i j l qr) := by
  obtain ⟨t, p, sd⟩ := ha.ex
  refine ⟨_, ps_par3 hc hN hi hj hl hij hil hjl hx hy hz p hw hs, fun ρ σ G H Φ D' s h f => sd ρ σ G H _ _ s h fun vs ds G' H' g r hq => ?_⟩
  obtain ⟨d1, d2, d3, rfl, hq⟩ := three_inv hq
  obtain ⟨u, v, w, rfl, r1, r2, r3⟩ := r.three
  exact ⟨u, v, w, rfl, f.nx _ _ G' H' g.gg ((((s.grow g).setD r1).setD r2).setD r3) hq⟩
/-- x += e -/
def qAug (i : Nat) (rd : D → D → (D → Prop) → Prop) (q : QE) : QS := fun ρ Φ => slotD ρ[i]? fun x => q ρ fun y => rd x y fun z => Φ.nx (ρ.set i (.d z))
theorem saugI (i : Nat) {x : Str} {pos' : Pos} (hN : X.N.Nodup) (he : PD c X e q) (hi : X.N[i]? = some x := by rfl) (hx : Loc X.env.scope x := by first | exact .inl rfl | exact .inr rfl) (hf : X.fn x = true ∨ X.env.scope.names.lookup x = some .local := by first | exact .inl rfl | exact .inr rfl | assumption) :
    PDS c X (.AugAssign (.Name x pos') .Add e pos) (qAug i (iiR fun i j => .int (i + j)) q) := by
  obtain ⟨t, p, sd⟩ := he.ex
  refine ⟨_, ps_aug hN hi hx p ip_add hf, fun ρ σ G H Φ D' s h f => ?_⟩
  obtain ⟨v0, d0, ev, r0, h⟩ := s.dat h
  refine ⟨v0, ev, sd ρ σ G H _ _ s h fun v d G' H' g r hq => ?_⟩
  cases r0 <;> cases r <;> try (exact hq.elim)
  exact ⟨_, _, rfl, rfl, f.nx _ _ G' H' g.gg ((s.grow g).setD (.int _)) hq⟩
end
end DL

namespace DL
open PySem L2

/-! ### what is walked -/
abbrev QI := List Slot → (List D → Prop) → Prop
def Walks (c : Ctx) (J : It) (G : Hp) (items : List D) : Prop := ∀ G1 H1, Ex G G1 → Ex G1 H1 → (∀ b, c.β = some b → Bag G1 H1 b) → (∀ a o, c.H0 a = some o → some a ≠ c.β → NT o → H1 a = some o) →
  (∀ (i : Nat) (it : D), items[i]? = some it → J.go i H1 ∧ ∀ x H2, J.yld i H1 x H2 → ∃ G2, Grow c.β G1 H1 G2 H2 ∧ Rep G2 x it) ∧ J.stop items.length H1
def SndI (c : Ctx) (wi : TI) (q : QI) : Prop := ∀ (ρ : List Slot) (σ : L2.St) (G H : Hp) (Q : List D → Prop) (R : It → Hp → Prop), Sta c G H σ ρ → q ρ Q →
  (∀ J items G' H', Grow c.β G H G' H' → Walks c J G' items → Q items → R J H') → wi σ H R
structure PDI (c : Ctx) (X : Cx) (tg iter : Expr) (q : QI) : Prop where
  ex : ∃ wi, PI X tg iter wi ∧ SndI c wi q
/-- a list or a tuple -/
def iSeq (K : PySem.W.Frag) (tl : TE) : TI := fun σ H R => tl σ H fun x H1 => ∃ a, x = .ref a ∧ (((∃ xs, SqL K H1 a xs) ∧ R (Itl K a) H1) ∨ ((∃ xs, SqT K H1 a xs) ∧ R (Itt K a) H1))
theorem pi_seqA {X : Cx} {tg l : Expr} {tl : TE} (hl : PE X l tl) : PI X tg l (iSeq X.K tl) := by
  refine ⟨fun pins s σ H R I h => ?_⟩
  refine thn (hl.run pins s σ H _ I h) fun v s1 ⟨x, H1, I1, r1, q1⟩ => ?_
  obtain ⟨a, e, q1⟩ := q1
  subst e
  cases r1
  rcases q1 with ⟨⟨xs, hq⟩, q⟩ | ⟨⟨xs, hq⟩, q⟩
  · obtain ⟨its, rv, p, hz⟩ := I1.list hq
    refine wpAny_pyIter_list p.isList ?_
    refine ⟨s1.heap.objs.size, [s1.heap.objs.size], _, _, H1, rfl, I1.kept (t' := s1.toks) fun b o e => Heap.get?_push_of_some _ e, turn_list a _, ⟨_, Heap.get?_push_size _ rfl, rfl, rfl⟩, fun b hb => ?_, q⟩
    have e : b = s1.heap.objs.size := by simpa using hb
    subst e
    exact I1.fpOk (Nat.le_refl _) (I1.hok.fresh (Nat.le_refl _))
  · obtain ⟨its, rv, p, hz⟩ := I1.tuple hq
    refine wpAny_pyIter_tuple (show s1.heap.IsTuple a its.toArray from p) ?_
    refine ⟨s1.heap.objs.size, [s1.heap.objs.size], _, _, H1, rfl, I1.kept (t' := s1.toks) fun b o e => Heap.get?_push_of_some _ e, turn_tuple a _, ⟨_, Heap.get?_push_size _ rfl, rfl, rfl⟩, fun b hb => ?_, q⟩
    have e : b = s1.heap.objs.size := by simpa using hb
    subst e
    exact I1.fpOk (Nat.le_refl _) (I1.hok.fresh (Nat.le_refl _))
theorem walks_lst {c : Ctx} {K : PySem.W.Frag} {G : Hp} {a : Addr} {vs : List V} {ds : List D} (e : G a = some (.lst vs)) (r : RepL G vs ds) : Walks c (Itl K a) G ds := by
  intro G1 H1 g gh b _
  have e1 : SqL K H1 a vs := .inl (.inl (gh _ _ (g _ _ e)))
  refine ⟨fun i it h => ?_, ⟨vs, e1, by rw [r.1]; exact Nat.le_refl _⟩⟩
  obtain ⟨v, hv, rv⟩ := r.get h
  refine ⟨⟨vs, v, e1, hv⟩, fun x H2 y => ?_⟩
  obtain ⟨rfl, y⟩ := y
  have := y vs e1
  rw [hv] at this
  cases this
  exact ⟨G1, .refl gh b, rv.mono g⟩
theorem walks_tup {c : Ctx} {K : PySem.W.Frag} {G : Hp} {a : Addr} {vs : List V} {ds : List D} (e : TupG G a vs) (r : RepL G vs ds) : Walks c (Itt K a) G ds := by
  intro G1 H1 g gh b _
  have e1 : SqT K H1 a vs := (e.ex g).sq gh
  refine ⟨fun i it h => ?_, ⟨vs, e1, by rw [r.1]; exact Nat.le_refl _⟩⟩
  obtain ⟨v, hv, rv⟩ := r.get h
  refine ⟨⟨vs, v, e1, hv⟩, fun x H2 y => ?_⟩
  obtain ⟨rfl, y⟩ := y
  have := y vs e1
  rw [hv] at this
  cases this
  exact ⟨G1, .refl gh b, rv.mono g⟩
def rangeD (lo : Int) (n : Nat) : List D := (List.range n).map fun (i : Nat) => .int (lo + (i : Int))
theorem rangeD_get {lo : Int} {n i : Nat} {d : D} (h : (rangeD lo n)[i]? = some d) : i < n ∧ d = .int (lo + (i : Int)) := by
  unfold rangeD at h
  rw [List.getElem?_map] at h
  by_cases q : i < n
  · rw [List.getElem?_range q] at h
    cases h
    exact ⟨q, rfl⟩
  · rw [List.getElem?_eq_none (by simpa using q)] at h
    cases h
theorem rangeD_len (lo : Int) (n : Nat) : (rangeD lo n).length = n := by simp [rangeD]
theorem walks_rng {c : Ctx} {G : Hp} {lo : Int} {n : Nat} : Walks c (Itr lo n) G (rangeD lo n) := by
  intro G1 H1 g gh b _
  refine ⟨fun i it h => ?_, by rw [rangeD_len]; exact Nat.le_refl _⟩
  obtain ⟨hi, rfl⟩ := rangeD_get h
  refine ⟨hi, fun x H2 y => ?_⟩
  obtain ⟨rfl, rfl⟩ := y
  exact ⟨G1, .refl gh b, .int _⟩
def seqR : D → (List D → Prop) → Prop
  | .lst xs, Q => Q xs
  | .tup xs, Q => Q xs
  | _, _ => False
def iSq (q : QE) : QI := fun ρ Q => q ρ fun x => seqR x Q
def rg1R : List D → (List D → Prop) → Prop
  | [.int j], Q => (j < 2 ^ 62 ∧ -(2 ^ 62) ≤ j) ∧ Q (rangeD 0 j.toNat)
  | _, _ => False
def rg2R : List D → (List D → Prop) → Prop
  | [.int i, .int j], Q => (-(2 ^ 62) ≤ i ∧ i < 2 ^ 62 ∧ -(2 ^ 62) ≤ j ∧ j < 2 ^ 62) ∧ Q (rangeD i (j - i).toNat)
  | _, _ => False
def iRg1 (q : QA) : QI := fun ρ Q => q ρ fun ds => rg1R ds Q
def iRg2 (q : QA) : QI := fun ρ Q => q ρ fun ds => rg2R ds Q
def pairD (p : D × D) : D := .tup [p.1, p.2]
def zipR : List D → (List D → Prop) → Prop
  | [.lst xs, .lst ys], Q => Q ((xs.zip ys).map pairD)
  | [.tup xs, .tup ys], Q => Q ((xs.zip ys).map pairD)
  | _, _ => False
def iZp (q : QA) : QI := fun ρ Q => q ρ fun ds => zipR ds Q
def enumD (xs : List D) : List D := xs.zipIdx.map fun p => .tup [.int (p.2 : Int), p.1]
def enumR : List D → (List D → Prop) → Prop
  | [.lst xs], Q => Q (enumD xs)
  | _, _ => False
def iEn (q : QA) : QI := fun ρ Q => q ρ fun ds => enumR ds Q
section
variable {c : Ctx} {X : Cx} {a b e : Expr} {es : List Expr} {qa qb q : QE} {qr : QA} {pos : Pos} {tg : Expr}
theorem isq (he : PD c X e q) : PDI c X tg e (iSq q) := by
  obtain ⟨t, p, sd⟩ := he.ex
  refine ⟨_, pi_seqA p, fun ρ σ G H Q R s hq k => sd ρ σ G H _ _ s hq fun v d G' H' g r h => ?_⟩
  have g' := g.gh
  cases r with
  | lst e n r => exact ⟨_, rfl, .inl ⟨⟨_, .inl (.inl (g' _ _ e))⟩, k _ _ G' H' g (walks_lst e ⟨n, r⟩) h⟩⟩
  | tup e n r => exact ⟨_, rfl, .inr ⟨⟨_, e.sq g'⟩, k _ _ G' H' g (walks_tup e ⟨n, r⟩) h⟩⟩
  | _ => exact h.elim
theorem irg1 {p : Pos} (hm : X.mg "range" = none) (ha : PDA c X [a] qr) (hg : Gl X "range" := by rfl) (hs : starEach [a] X.env = [(false, eval a X.env)] := by rfl) : PDI c X tg (.Call (.Name "range" p) [a] [] pos) (iRg1 qr) := by
  obtain ⟨t, pp, sd⟩ := ha.ex
  refine ⟨_, pi_range1 hg hm pp hs, fun ρ σ G H Q R s hq k => sd ρ σ G H _ _ s hq fun vs ds G' H' g r h => ?_⟩
  match ds, h with
  | [.int j], ⟨⟨h1, h2⟩, h⟩ =>
    obtain ⟨v, r', rfl, rv, rr⟩ := r.inv
    obtain rfl := rr.inv0
    cases rv
    exact ⟨j, rfl, h2, h1, k _ _ G' H' g walks_rng h⟩
theorem irg2 {p : Pos} (hm : X.mg "range" = none) (ha : PDA c X [a, b] qr) (hg : Gl X "range" := by rfl) (hs : starEach [a, b] X.env = [(false, eval a X.env), (false, eval b X.env)] := by rfl) (hs2 : starEach [b] X.env = [(false, eval b X.env)] := by rfl) : PDI c X tg (.Call (.Name "range" p) [a, b] [] pos) (iRg2 qr) := by
  obtain ⟨t, pp, sd⟩ := ha.ex
  refine ⟨_, pi_range2 hg hm pp hs hs2, fun ρ σ G H Q R s hq k => sd ρ σ G H _ _ s hq fun vs ds G' H' g r h => ?_⟩
  match ds, h with
  | [.int i, .int j], ⟨h1, h⟩ =>
    obtain ⟨v, w, rfl, rv, rw'⟩ := r.two
    cases rv
    cases rw'
    exact ⟨i, j, rfl, h1, k _ _ G' H' g walks_rng h⟩
theorem zip_get {xs ys : List D} {i : Nat} {it : D} (h : ((xs.zip ys).map pairD)[i]? = some it) : ∃ x y, xs[i]? = some x ∧ ys[i]? = some y ∧ it = .tup [x, y] := by
  rw [List.getElem?_map] at h
  cases e : (xs.zip ys)[i]? with
  | none => rw [e] at h; cases h
  | some p =>
    rw [e] at h
    cases h
    have := List.getElem?_zip_eq_some.mp e
    exact ⟨p.1, p.2, this.1, this.2, rfl⟩
theorem izp {elts : List Expr} {kk : Nat} {p tpos : Pos} (hm : X.mg "zip" = none) (ha : PDA c X [a, b] qr) (hg : Gl X "zip" := by rfl) (hs : starEach [a, b] X.env = (false, eval a X.env) :: starEach [b] X.env := by rfl) (hpl : (backTo pos (starEach [b] X.env)).any (·.1) = false := by rfl) :
    PDI c X (.Tuple elts kk tpos) (.Call (.Name "zip" p) [a, b] [] pos) (iZp qr) := by
  obtain ⟨t, pp, sd⟩ := ha.ex
  refine ⟨_, RZ.pi_zipA hg hm pp hs hpl, fun ρ σ G H Q R s hq k => sd ρ σ G H _ _ s hq fun vs ds G' H' g r h => ?_⟩
  have g' := g.gh
  match ds, h with
  | [.lst xs, .lst ys], h =>
    obtain ⟨v, w, rfl, rv, rw'⟩ := r.two
    cases rv with
    | lst e n q =>
    cases rw' with
    | lst e' n' q' =>
    refine ⟨_, _, _, _, rfl, .inl ⟨.inl (.inl (g' _ _ e)), .inl (.inl (g' _ _ e')), k _ _ G' H' g ?_ h⟩⟩
    intro G1 H1 x1 gh b _
    have e1 := gh _ _ (x1 _ _ e)
    have e2 := gh _ _ (x1 _ _ e')
    refine ⟨fun i it hi => ?_, ?_⟩
    · obtain ⟨x, y, hx, hy, rfl⟩ := zip_get hi
      obtain ⟨v1, hv1, r1⟩ := RepL.get ⟨n, q⟩ hx
      obtain ⟨v2, hv2, r2⟩ := RepL.get ⟨n', q'⟩ hy
      refine ⟨⟨_, _, _, _, .inl (.inl e1), .inl (.inl e2), hv1, hv2⟩, fun z H2 yl => ?_⟩
      obtain ⟨T, y1, y2, rfl, hT, rfl, f1, f2⟩ := yl
      have z1 := f1 _ (.inl (.inl e1))
      have z2 := f2 _ (.inl (.inl e2))
      rw [hv1] at z1; rw [hv2] at z2
      cases z1; cases z2
      have gn := Grow.new (o := .tup [v1, v2]) gh b hT
      exact ⟨_, gn, .tup upd_same rfl (RepL.mono gn.gg (.cons (r1.mono x1) (.cons (r2.mono x1) .nil))).2⟩
    · refine ⟨_, _, .inl (.inl e1), .inl (.inl e2), ?_⟩
      rw [List.length_map, List.length_zip, n, n']
      omega
  | [.tup xs, .tup ys], h =>
    obtain ⟨v, w, rfl, rv, rw'⟩ := r.two
    cases rv with
    | tup e n q =>
    cases rw' with
    | tup e' n' q' =>
    refine ⟨_, _, _, _, rfl, .inr ⟨e.sq g', e'.sq g', k _ _ G' H' g ?_ h⟩⟩
    intro G1 H1 x1 gh b _
    have e1 : SqT X.K H1 _ _ := (e.ex x1).sq gh
    have e2 : SqT X.K H1 _ _ := (e'.ex x1).sq gh
    refine ⟨fun i it hi => ?_, ?_⟩
    · obtain ⟨x, y, hx, hy, rfl⟩ := zip_get hi
      obtain ⟨v1, hv1, r1⟩ := RepL.get ⟨n, q⟩ hx
      obtain ⟨v2, hv2, r2⟩ := RepL.get ⟨n', q'⟩ hy
      refine ⟨⟨_, _, _, _, e1, e2, hv1, hv2⟩, fun z H2 yl => ?_⟩
      obtain ⟨T, y1, y2, rfl, hT, rfl, f1, f2⟩ := yl
      have z1 := f1 _ e1
      have z2 := f2 _ e2
      rw [hv1] at z1; rw [hv2] at z2
      cases z1; cases z2
      have gn := Grow.new (o := .tup [v1, v2]) gh b hT
      exact ⟨_, gn, .tup upd_same rfl (RepL.mono gn.gg (.cons (r1.mono x1) (.cons (r2.mono x1) .nil))).2⟩
    · refine ⟨_, _, e1, e2, ?_⟩
      rw [List.length_map, List.length_zip, n, n']
      omega
theorem enum_get {xs : List D} {i : Nat} {it : D} (h : (enumD xs)[i]? = some it) : ∃ x, xs[i]? = some x ∧ it = .tup [.int (i : Int), x] := by
  unfold enumD at h
  rw [List.getElem?_map, List.getElem?_zipIdx] at h
  cases e : xs[i]? with
  | none => rw [e] at h; cases h
  | some x =>
    rw [e] at h
    simp at h
    exact ⟨x, rfl, h.symm⟩
theorem ien {elts : List Expr} {kk : Nat} {p tpos : Pos} (hm : X.mg "enumerate" = none) (ha : PDA c X [a] qr) (hg : Gl X "enumerate" := by rfl) (hs : starEach [a] X.env = [(false, eval a X.env)] := by rfl) :
    PDI c X (.Tuple elts kk tpos) (.Call (.Name "enumerate" p) [a] [] pos) (iEn qr) := by
  obtain ⟨t, pp, sd⟩ := ha.ex
  refine ⟨_, pi_enum hg hm pp hs, fun ρ σ G H Q R s hq k => sd ρ σ G H _ _ s hq fun vs ds G' H' g r h => ?_⟩
  have g' := g.gh
  match ds, h with
  | [.lst xs], h =>
    obtain ⟨v, r', rfl, rv, rr⟩ := r.inv
    obtain rfl := rr.inv0
    cases rv with
    | lst e n q =>
    refine ⟨_, _, rfl, .inl (.inl (g' _ _ e)), k _ _ G' H' g ?_ h⟩
    intro G1 H1 x1 gh b _
    have e1 := gh _ _ (x1 _ _ e)
    refine ⟨fun i it hi => ?_, ⟨_, .inl (.inl e1), by rw [n]; simp [enumD]⟩⟩
    obtain ⟨x, hx, rfl⟩ := enum_get hi
    obtain ⟨v1, hv1, r1⟩ := RepL.get ⟨n, q⟩ hx
    refine ⟨⟨_, _, .inl (.inl e1), hv1⟩, fun z H2 yl => ?_⟩
    obtain ⟨T, y1, rfl, hT, rfl, f1⟩ := yl
    have z1 := f1 _ (.inl (.inl e1))
    rw [hv1] at z1
    cases z1
    have gn := Grow.new (o := .tup [.int ((i : Nat) : Int), v1]) gh b hT
    exact ⟨_, gn, .tup upd_same rfl (RepL.mono gn.gg (.cons (.int _) (.cons (r1.mono x1) .nil))).2⟩
end

/-! ### targets -/
abbrev QG := D → List Slot → (List Slot → Prop) → Prop
abbrev QGs := List D → List Slot → (List Slot → Prop) → Prop
/-- no new owned lists -/
def OwnIn (ρ' ρ : List Slot) : Prop := ∀ (j : Nat) (a : Addr) (o : Ob), ρ'[j]? = some (Slot.own a o) → ρ[j]? = some (Slot.own a o)
theorem OwnIn.set {ρ : List Slot} {i : Nat} {d : D} : OwnIn (ρ.set i (.d d)) ρ := fun j a xs h => by
  rw [List.getElem?_set] at h
  split at h
  · split at h <;> cases h
  · exact h
theorem OwnIn.setUn {ρ : List Slot} {i : Nat} : OwnIn (ρ.set i .un) ρ := fun j a xs h => by
  rw [List.getElem?_set] at h
  split at h
  · split at h <;> cases h
  · exact h
theorem OwnIn.trans {ρ ρ1 ρ2 : List Slot} (a : OwnIn ρ2 ρ1) (b : OwnIn ρ1 ρ) : OwnIn ρ2 ρ := fun j x xs h => b j x xs (a j x xs h)
/-- ws: the slots that are stored -/
def SndG (c : Ctx) (g : TG) (q : QG) (ws : List Nat) : Prop := ∀ (v : V) (d : D) (ρ : List Slot) (σ : L2.St) (G H : Hp) (Q : List Slot → Prop) (R : L2.St → Hp → Prop), Sta c G H σ ρ → Rep G v d → q d ρ Q →
  (∀ ρ' σ', Sta c G H σ' ρ' → (∀ vs : List Nat, (∀ w ∈ ws, w ∈ vs) → wipe σ' vs = wipe σ vs) → OwnIn ρ' ρ → Q ρ' → R σ' H) → g v σ H R
def SndGs (c : Ctx) (g : TGs) (q : QGs) (ws : List Nat) : Prop := ∀ (vs : List V) (ds : List D) (ρ : List Slot) (σ : L2.St) (G H : Hp) (Q : List Slot → Prop) (R : L2.St → Hp → Prop), Sta c G H σ ρ → RepL G vs ds → q ds ρ Q →
  (∀ ρ' σ', Sta c G H σ' ρ' → (∀ vs : List Nat, (∀ w ∈ ws, w ∈ vs) → wipe σ' vs = wipe σ vs) → OwnIn ρ' ρ → Q ρ' → R σ' H) → g vs σ H R
structure PDG (c : Ctx) (X : Cx) (tg : Expr) (q : QG) (ws : List Nat) : Prop where
  ex : ∃ g, PG X tg g ∧ SndG c g q ws
structure PDGs (c : Ctx) (X : Cx) (tgs : List Expr) (q : QGs) (ws : List Nat) : Prop where
  ex : ∃ g, PGs X tgs g ∧ SndGs c g q ws
def gN (i : Nat) : QG := fun d ρ Q => Q (ρ.set i (.d d))
def tupR : D → (List D → Prop) → Prop
  | .tup xs, Q => Q xs
  | _, _ => False
theorem tupR_inv {x : D} {Q : List D → Prop} (h : tupR x Q) : ∃ b, x = .tup b ∧ Q b := by
  match x, h with
  | .tup b, h => exact ⟨b, rfl, h⟩
def gT (n : Nat) (q : QGs) : QG := fun d ρ Q => tupR d fun ds => ds.length = n ∧ q ds ρ Q
def g0 : QGs := fun ds ρ Q => ds = [] ∧ Q ρ
def consR : List D → (D → List D → Prop) → Prop
  | x :: xs, Q => Q x xs
  | _, _ => False
theorem consR_inv {x : List D} {Q : D → List D → Prop} (h : consR x Q) : ∃ a b, x = a :: b ∧ Q a b := by
  match x, h with
  | a :: b, h => exact ⟨a, b, rfl, h⟩
def gC (q : QG) (r : QGs) : QGs := fun ds ρ Q => consR ds fun d rest => q d ρ fun ρ' => r rest ρ' Q
theorem wipe_set (σ : L2.St) (i : Nat) (o : Option V) : ∀ vs : List Nat, i ∈ vs → wipe (σ.set i o) vs = wipe σ vs := by
  have comm : ∀ vs : List Nat, ∀ τ : L2.St, (∀ j, j ≠ i → τ[j]? = σ[j]?) → τ.length = σ.length → i ∈ vs → wipe τ vs = wipe σ vs := by
    intro vs τ h hl hi
    apply List.ext_getElem?
    intro j
    have key : ∀ (vs : List Nat) (τ : L2.St) (j : Nat), (wipe τ vs)[j]? = if j ∈ vs then (if j < τ.length then some none else none) else τ[j]? := by
      intro vs τ j
      induction vs with
      | nil => simp [wipe]
      | cons v vs ih =>
        unfold wipe
        rw [List.getElem?_set, wipe_length, ih]
        by_cases q : v = j
        · subst q; simp
        · rw [if_neg q]
          have : (j ∈ v :: vs) ↔ j ∈ vs := by simp [Ne.symm q]
          simp only [this]
    rw [key, key, hl]
    by_cases q : j ∈ vs
    · rw [if_pos q, if_pos q]
    · rw [if_neg q, if_neg q]
      exact h j fun e => q (e ▸ hi)
  intro vs hi
  refine comm vs _ (fun j hj => ?_) (by simp) hi
  rw [List.getElem?_set_ne (Ne.symm hj)]
section
variable {c : Ctx} {X : Cx} {pos : Pos} {tg : Expr} {es : List Expr}
theorem gname (i : Nat) {x : Str} (hN : X.N.Nodup) (hi : X.N[i]? = some x := by rfl) (hx : Loc X.env.scope x := by first | exact .inl rfl | exact .inr rfl) (hf : X.fn x = true ∨ X.env.scope.names.lookup x = some .local := by first | exact .inl rfl | exact .inr rfl | assumption) : PDG c X (.Name x pos) (gN i) [i] := by
  refine ⟨_, pg_name hN hi hx hf, fun v d ρ σ G H Q R s r h k => k _ _ (s.setD r) (fun vs hv => wipe_set σ i _ vs (hv i (by simp))) OwnIn.set h⟩
theorem gs0 : PDGs c X [] g0 [] := by
  refine ⟨_, pgs_nil, fun vs ds ρ σ G H Q R s r h k => ?_⟩
  obtain ⟨rfl, h⟩ := h
  obtain rfl := r.inv0
  exact ⟨rfl, k ρ σ s (fun _ _ => rfl) (fun _ _ _ h => h) h⟩
theorem gsc {q : QG} {r : QGs} {ws ws' : List Nat} (h1 : PDG c X tg q ws) (h2 : PDGs c X es r ws') (hs : (assignEach (tg :: es) X.env).map (·.2) = assign tg X.env :: (assignEach es X.env).map (·.2) := by rfl) : PDGs c X (tg :: es) (gC q r) (ws ++ ws') := by
  obtain ⟨g, p, s1⟩ := h1.ex
  obtain ⟨g', p', s2⟩ := h2.ex
  refine ⟨_, pgs_cons p p' hs, fun vs ds ρ σ G H Q R s rr h k => ?_⟩
  obtain ⟨d, rest, rfl, h⟩ := consR_inv h
  obtain ⟨v, vr, rfl, rv, rvr⟩ := rr.inv
  refine ⟨v, vr, rfl, s1 v d ρ σ G H _ _ s rv h fun ρ1 σ1 st1 w1 o1 h1 => s2 vr rest ρ1 σ1 G H _ _ st1 rvr h1 fun ρ2 σ2 st2 w2 o2 h2 => k ρ2 σ2 st2 (fun us hu => ?_) (o2.trans o1) h2⟩
  rw [w2 us fun w hw => hu w (by simp [hw]), w1 us fun w hw => hu w (by simp [hw])]
theorem gtup {k : Nat} {q : QGs} {n : Nat} {ws : List Nat} (hc : X.calm = true) (h : PDGs c X es q ws) (hn : (assignEach es X.env).length = n := by rfl) (hst : (assignEach es X.env).findIdx? (·.1) = none := by rfl) : PDG c X (.Tuple es k pos) (gT n q) ws := by
  obtain ⟨g, p, sd⟩ := h.ex
  refine ⟨_, pg_tup hc p hn hst, fun v d ρ σ G H Q R s r h k => ?_⟩
  obtain ⟨ds, rfl, hl, h⟩ := tupR_inv h
  cases r with
  | tup e n' q' =>
    exact ⟨_, _, rfl, e.sq s.core.gh, by rw [n', hl], sd _ _ ρ σ G H _ _ s ⟨n', q'⟩ h k⟩
/-- an assignment to any target -/
def qAsg (q : QE) (g : QG) : QS := fun ρ Φ => q ρ fun d => g d ρ Φ.nx
theorem sasg {e : Expr} {q : QE} {g : QG} {ws : List Nat} (he : PD c X e q) (hg : PDG c X tg g ws) (hs : swapsWithSole [tg] e pos.line X.env = pure false := by rfl) (hw : swappedStores [tg] e X.env = pure none := by rfl) (h1 : (assignEach [tg] X.env).map (·.2) = [assign tg X.env] := by rfl) : PDS c X (.Assign [tg] e pos) (qAsg q g) := by
  obtain ⟨t, p, sd⟩ := he.ex
  obtain ⟨g', p', s2⟩ := hg.ex
  refine ⟨_, ps_asg p p' hs hw h1, fun ρ σ G H Φ D' s h f => sd ρ σ G H _ _ s h fun v d G' H' gr r hq => ?_⟩
  exact s2 v d ρ σ G' H' _ _ (s.grow gr) r hq fun ρ' σ' s' _ _ h' => f.nx ρ' σ' G' H' gr.gg s' h'
end

/-! ### loops -/
def forI (items : List D) (g : QG) (qb : QS) (ρ : List Slot) (Φ : En) : Prop := ∃ Pv : Nat → List Slot → Prop, Pv 0 ρ ∧ (∀ (k : Nat) (it : D) (ρ' : List Slot), items[k]? = some it → Pv k ρ' → g it ρ' fun ρ2 => qb ρ2 { nx := Pv (k + 1), ct := Pv (k + 1), bk := Φ.nx, rt := Φ.rt, rn := Φ.rn }) ∧ ∀ ρ', Pv items.length ρ' → Φ.nx ρ'
/-- turn by turn -/
def forR (g : QG) (qb : QS) (Φ : En) : List D → List Slot → Prop
  | [], ρ => Φ.nx ρ
  | x :: xs, ρ => g x ρ fun ρ2 => qb ρ2 { nx := fun ρ3 => forR g qb Φ xs ρ3, ct := fun ρ3 => forR g qb Φ xs ρ3, bk := Φ.nx, rt := Φ.rt, rn := Φ.rn }
def forB (items : List D) (g : QG) (qb : QS) (ρ : List Slot) (Φ : En) : Prop := forI items g qb ρ Φ ∨ forR g qb Φ items ρ
def qFor (qi : QI) (g : QG) (qb : QS) : QS := fun ρ Φ => qi ρ fun items => forB items g qb ρ Φ
def qWhile (qt : QT) (qb : QS) : QS := fun ρ Φ => ∃ W : Nat → List Slot → Prop, (∃ m, W m ρ) ∧ ∀ m ρ', W m ρ' → qt ρ' fun b => if b = true then qb ρ' { nx := fun ρ2 => ∃ m', m' < m ∧ W m' ρ2, ct := fun ρ2 => ∃ m', m' < m ∧ W m' ρ2, bk := Φ.nx, rt := Φ.rt, rn := Φ.rn } else Φ.nx ρ'
section
variable {c : Ctx} {X : Cx} {pos : Pos} {tg iter : Expr} {body : List Stmt} {qi : QI} {g : QG} {ws : List Nat} {qb : QS}
theorem sfor (hp : PassesOwn (model X.prog X.w) X.A X.env X.xe) (hc : X.calm = true) (hi : PDI c X tg iter qi) (hg : PDG c X tg g ws) (hb : PDB c X body qb) (hs : ∀ x, foldedSetIterable iter X.env x = pure x := by intro _; rfl) : PDS c X (.For tg iter body [] pos) (qFor qi g qb) := by
  obtain ⟨wi, pi, si⟩ := hi.ex
  obtain ⟨tg', pg, sg⟩ := hg.ex
  obtain ⟨tb, pb, sb⟩ := hb.ex
  refine ⟨_, ps_for hp hc pi pg pb hs, fun ρ σ G H Φ D' s h f => si ρ σ G H _ _ s h fun J items G0 H0 g0 wk hq => ?_⟩
  obtain ⟨Pv, p0, turn, fin⟩ : ∃ W : Nat → List Slot → Prop, W 0 ρ ∧ (∀ (k : Nat) (it : D) (ρ' : List Slot), items[k]? = some it → W k ρ' → g it ρ' fun ρ2 => qb ρ2 { nx := W (k + 1), ct := W (k + 1), bk := Φ.nx, rt := Φ.rt, rn := Φ.rn }) ∧ ∀ ρ', W items.length ρ' → Φ.nx ρ' := by
    rcases hq with hq | hq
    · exact hq
    · refine ⟨fun k ρ' => forR g qb Φ (items.drop k) ρ', hq, fun k it ρ' hk h => ?_, fun ρ' h => ?_⟩
      · have hk' : k < items.length := (List.getElem?_eq_some_iff.mp hk).1
        have e : items[k] = it := (List.getElem?_eq_some_iff.mp hk).2
        dsimp only at h
        rw [List.drop_eq_getElem_cons hk', e] at h
        exact h
      · dsimp only at h
        rw [List.drop_length] at h
        exact h
  refine ⟨fun i m σ' H' => ∃ G' ρ', i + m = items.length ∧ Ex G0 G' ∧ Sta c G' H' σ' ρ' ∧ Pv i ρ', ⟨items.length, G0, ρ, by omega, Same.refl _, s.grow g0, p0⟩, fun i m σ' H' hW => ?_⟩
  obtain ⟨G', ρ', hm, ex, s', pv⟩ := hW
  have w := wk G' H' ex s'.core.gh s'.core.bg s'.core.h0
  by_cases hi : i < items.length
  · obtain ⟨go, yl⟩ := w.1 i items[i] (List.getElem?_eq_getElem hi)
    refine .inr ⟨go, fun σ2 H2 => ∃ G2 ρ2, Ex G0 G2 ∧ Sta c G2 H2 σ2 ρ2 ∧ Pv (i + 1) ρ2, fun σ2 H2 ⟨G2, ρ2, e2, s2, p2⟩ => ⟨m - 1, by omega, G2, ρ2, by omega, e2, s2, p2⟩, fun x H2 y => ?_⟩
    obtain ⟨G2, g2, r2⟩ := yl x H2 y
    have s2 := s'.grow g2
    refine sg x _ ρ' σ' G2 H2 _ _ s2 r2 (turn i _ ρ' (List.getElem?_eq_getElem hi) pv) fun ρ3 σ3 s3 _ _ h3 => ?_
    have f2 := f.mono ((g0.gg.trans ex).trans g2.gg)
    exact sb ρ3 σ3 G2 H2 _ _ s3 h3 ⟨fun ρ4 σ4 G4 H4 x4 s4 h4 => ⟨G4, ρ4, (ex.trans g2.gg).trans x4, s4, h4⟩, f2.rt, f2.nx, fun ρ4 σ4 G4 H4 x4 s4 h4 => ⟨G4, ρ4, (ex.trans g2.gg).trans x4, s4, h4⟩, f2.rn⟩
  · have : i = items.length := by omega
    subst this
    exact .inl ⟨w.2, f.nx ρ' σ' G' H' (g0.gg.trans ex) s' (fin ρ' pv)⟩
end
end DL

namespace DL
open PySem L2

section
variable {c : Ctx} {X : Cx} {pos : Pos} {tg iter : Expr} {body : List Stmt} {qi : QI} {g : QG} {ws : List Nat} {qb : QS}
theorem swhile {t : Expr} {qt : QT} (hp : PassesOwn (model X.prog X.w) X.A X.env X.xe) (ht : PDT c X t qt) (hb : PDB c X body qb) : PDS c X (.While t body [] pos) (qWhile qt qb) := by
  obtain ⟨tt, pt, st⟩ := ht.ex
  obtain ⟨tb, pb, sb⟩ := hb.ex
  refine ⟨_, ps_while hp pt pb, fun ρ σ G H Φ D' s h f => ?_⟩
  obtain ⟨W, ⟨m0, w0⟩, turn⟩ := h
  refine ⟨fun m σ' H' => ∃ G' ρ', Ex G G' ∧ Sta c G' H' σ' ρ' ∧ W m ρ', ⟨m0, G, ρ, Same.refl G, s, w0⟩, fun m σ' H' hW => ?_⟩
  obtain ⟨G', ρ', ex, s', w⟩ := hW
  refine st ρ' σ' G' H' _ _ s' (turn m ρ' w) fun b G1 H1 g1 h1 => ?_
  have s1 := s'.grow g1
  have f1 := f.mono (ex.trans g1.gg)
  cases b with
  | true =>
    refine ⟨fun σ2 H2 => ∃ G2 ρ2, Ex G G2 ∧ Sta c G2 H2 σ2 ρ2 ∧ ∃ m', m' < m ∧ W m' ρ2, fun σ2 H2 ⟨G2, ρ2, e2, s2, m', hm, w2⟩ => ⟨m', hm, G2, ρ2, e2, s2, w2⟩, ?_⟩
    exact sb ρ' σ' G1 H1 _ _ s1 h1 ⟨fun ρ4 σ4 G4 H4 x4 s4 h4 => ⟨G4, ρ4, (ex.trans g1.gg).trans x4, s4, h4⟩, f1.rt, f1.nx, fun ρ4 σ4 G4 H4 x4 s4 h4 => ⟨G4, ρ4, (ex.trans g1.gg).trans x4, s4, h4⟩, f1.rn⟩
  | false => exact f.nx ρ' σ' G1 H1 (ex.trans g1.gg) s1 h1
end

/-! ### comprehensions -/
def wipeS (ρ : List Slot) : List Nat → List Slot
  | [] => ρ
  | v :: vs => (wipeS ρ vs).set v .un
theorem Sta.wipe {c : Ctx} {G H : Hp} {σ : L2.St} {ρ : List Slot} (s : Sta c G H σ ρ) : ∀ vs : List Nat, Sta c G H (L2.wipe σ vs) (wipeS ρ vs)
  | [] => s
  | _ :: vs => (s.wipe vs).setUn
def lcB (items : List D) (g : QG) (qt : QT) (qe : QE) (vs : List Nat) (ρ : List Slot) (Q : List D → Prop) : Prop := items.length ≤ 90000 ∧ ∃ Pv : Nat → List D → Prop, Pv 0 [] ∧
  (∀ (k : Nat) (it : D) (acc : List D), items[k]? = some it → Pv k acc → g it (wipeS ρ vs) fun ρ2 => qt ρ2 fun b => if b = true then qe ρ2 fun d => Pv (k + 1) (acc ++ [d]) else Pv (k + 1) acc) ∧ ∀ acc, Pv items.length acc → Q acc
def qLc (qi : QI) (g : QG) (qt : QT) (qe : QE) (vs : List Nat) : QA := fun ρ Q => qi ρ fun items => lcB items g qt qe vs ρ Q
def qLst' (q : QA) : QE := fun ρ Q => q ρ fun xs => Q (.lst xs)
def qYes : QT := fun _ Q => Q true
theorem wipe_wipe (σ : L2.St) (vs : List Nat) : L2.wipe (L2.wipe σ vs) vs = L2.wipe σ vs := by
  have fix : ∀ us : List Nat, ∀ τ : L2.St, (∀ j ∈ us, τ[j]? = none ∨ τ[j]? = some none) → L2.wipe τ us = τ := by
    intro us
    induction us with
    | nil => intro τ _; rfl
    | cons u us ih =>
      intro τ h
      unfold L2.wipe
      rw [ih τ fun j hj => h j (by simp [hj])]
      apply List.ext_getElem?
      intro j
      rw [List.getElem?_set]
      by_cases q : u = j
      · subst q
        rw [if_pos rfl]
        rcases h u (by simp) with e | e
        · rw [if_neg (by intro z; rw [List.getElem?_eq_getElem z] at e; cases e), e]
        · rw [if_pos (by
            cases Nat.lt_or_ge u τ.length with
            | inl z => exact z
            | inr z => rw [List.getElem?_eq_none z] at e; cases e), e]
      · rw [if_neg q]
  have key : ∀ (us : List Nat) (τ : L2.St) (j : Nat), j ∈ us → (L2.wipe τ us)[j]? = none ∨ (L2.wipe τ us)[j]? = some none := by
    intro us τ j
    induction us with
    | nil => intro h; simp at h
    | cons u us ih =>
      intro h
      unfold L2.wipe
      rw [List.getElem?_set]
      by_cases q : u = j
      · rw [if_pos q]
        split
        · exact .inr rfl
        · exact .inl rfl
      · rw [if_neg q]
        exact ih (by simpa [Ne.symm q] using h)
  exact fix vs _ fun j hj => key vs σ j hj
theorem wipeS_own (ρ : List Slot) : ∀ vs : List Nat, OwnIn (wipeS ρ vs) ρ
  | [] => fun _ _ _ h => h
  | _ :: vs => OwnIn.setUn.trans (wipeS_own ρ vs)
/-- a list that no slot owns is changed -/
theorem Sta.other {c : Ctx} {G H : Hp} {σ : L2.St} {ρ : List Slot} {a : Addr} {vs0 : List V} {o : HO} (s : Sta c G H σ ρ) (hg : G a = none) (h0 : c.H0 a = none) (hl : H a = some (.lst vs0)) (hn : ∀ (j : Nat) (o : Ob), ρ[j]? = some (.own a o) → False) : Sta c G (upd H a o) σ ρ := by
  have nb : ∀ b, c.β = some b → b ≠ a := fun b e z => by subst z; exact s.core.b0 _ e h0
  refine ⟨⟨s.core.g0, fun x u h n nt => ?_, fun x o h nt => ?_, fun P h => tab_upd hl nt_lst P (s.core.tb P h), s.core.nw, s.core.gh.out hg, fun b e => (s.core.bg b e).mono (Same.refl G) (upd_ne (nb b e)) (s.core.bg b e).out, s.core.b0⟩, s.len, fun j sl e => ?_, s.dj⟩
  · have : x ≠ a := fun z => by subst z; rw [h0] at h; cases h
    rw [upd_ne this]
    exact s.core.h0 x u h n nt
  · have : x ≠ a := fun z => by subst z; rw [h0] at h; cases h
    rw [upd_ne this]
    exact s.core.tn x o h nt
  · have z := s.sl j sl e
    cases sl with
    | un => trivial
    | d x => exact z
    | raw v => exact z
    | own b ob =>
      obtain ⟨z1, z2, z3, z4⟩ := z
      refine ⟨z1, z2, z3, z4.stay (Same.refl G) (fun y w hy _ _ gy h0y hw => ⟨gy, ?_⟩) z2 z3⟩
      rw [upd_ne (fun e' => by
        rcases hw with hw | hw
        · subst hw; subst e'; exact hn j ob e
        · subst e'; rw [hl, hw] at hy; cases hy)]
      exact hy
theorem snd_lc {c : Ctx} {wi : TI} {g' : TG} {tt : TT} {te : TE} {qi : QI} {g : QG} {qt : QT} {qe : QE} {ws vs : List Nat} (hw : ∀ w ∈ ws, w ∈ vs) (si : SndI c wi qi) (sg : SndG c g' g ws) (st : SndT c tt qt) (se : SndE c te qe) : SndL c (tLc wi g' tt te vs) (qLc qi g qt qe vs) := by
  intro ρ σ G H Q R s h k
  refine si ρ σ G H _ _ s h fun J items G0 H0 g0 wk hq D' hD => ?_
  obtain ⟨hl, Pv, p0, turn, fin⟩ := hq
  have s0 := s.grow g0
  have hD0 : H D' = none := g0.fr hD
  have nb : some D' ≠ c.β := fun e => by
    obtain ⟨c', cells, x1, x2, x3, x4, hb, _⟩ := (s0.core.bg D' e.symm).is
    rw [hb] at hD; cases hD
  have gD := s0.core.gh.free hD
  have gf := Grow.fresh (β := c.β) (o := .lst []) s0.core.gh s0.core.bg hD
  refine ⟨fun i m H' => ∃ G' us acc, i + m = items.length ∧ Grow c.β G H G' H' ∧ Ex G0 G' ∧ G' D' = none ∧ H' D' = some (.lst us) ∧ RepL G' us acc ∧ acc.length ≤ i ∧ Pv i acc, ⟨items.length, G0, [], [], by omega, g0.trans gf s.hb, Same.refl _, gD, upd_same, .nil, Nat.le_refl _, p0⟩, fun i m H' hW => ?_⟩
  obtain ⟨G', us, acc, hm, gg, ex, nD, hh, ra, hacc, pv⟩ := hW
  have s' := s.grow gg
  have w := wk G' H' ex s'.core.gh s'.core.bg s'.core.h0
  by_cases hi : i < items.length
  · obtain ⟨go, yl⟩ := w.1 i items[i] (List.getElem?_eq_getElem hi)
    refine .inr ⟨go, fun H2 => ∃ G2 us acc, Grow c.β G H G2 H2 ∧ Ex G0 G2 ∧ G2 D' = none ∧ H2 D' = some (.lst us) ∧ RepL G2 us acc ∧ acc.length ≤ i + 1 ∧ Pv (i + 1) acc, fun H2 ⟨G2, us, acc, x1, x2, x3, x4, x5, x6, x7⟩ => ⟨m - 1, by omega, G2, us, acc, by omega, x1, x2, x3, x4, x5, x6, x7⟩, fun x H2 y => ?_⟩
    obtain ⟨G2, g2, r2⟩ := yl x H2 y
    have keepD : ∀ {Ga Ha Gb Hb : Hp} {u : List V}, Grow c.β Ga Ha Gb Hb → Ga D' = none → Ha D' = some (.lst u) → Gb D' = none ∧ Hb D' = some (.lst u) := fun {Ga Ha Gb Hb u} gr h1 h2 => by
      exact ⟨gr.own h2 nt_lst (fun _ z => by cases z) nb h1, gr.hh _ _ h2 nb nt_lst⟩
    obtain ⟨nD2, hh2⟩ := keepD g2 nD hh
    have gg2 := gg.trans g2 s.hb
    have s2 := (s.grow gg2).wipe vs
    refine sg x _ (wipeS ρ vs) (L2.wipe σ vs) G2 H2 _ _ s2 r2 (turn i _ acc (List.getElem?_eq_getElem hi) pv) fun ρ3 σ3 s3 w3 _ h3 => ⟨?_, ?_⟩
    · rw [w3 vs hw]
      exact wipe_wipe σ vs
    · refine st ρ3 σ3 G2 H2 _ _ s3 h3 fun b G3 H3 g3 h4 => ?_
      obtain ⟨nD3, hh3⟩ := keepD g3 nD2 hh2
      have gg3 := gg2.trans g3 s.hb
      cases b with
      | true =>
        refine se ρ3 σ3 G3 H3 _ _ (s3.grow g3) h4 fun v d G4 H4 g4 r4 h5 => ?_
        obtain ⟨nD4, hh4⟩ := keepD g4 nD3 hh3
        have gg4 := gg3.trans g4 s.hb
        refine ⟨us, hh4, ?_, G4, us ++ [v], acc ++ [d], ?_, ((ex.trans g2.gg).trans g3.gg).trans g4.gg, nD4, upd_same, ((((ra.mono g2.gg).mono g3.gg).mono g4.gg)).snoc r4, by simp; omega, h5⟩
        · rw [ra.1]; exact szl (by omega)
        · exact gg4.put hD0 nD4 hh4 nt_lst nb
      | false => exact ⟨G3, us, acc, gg3, (ex.trans g2.gg).trans g3.gg, nD3, hh3, (ra.mono g2.gg).mono g3.gg, by omega, h4⟩
  · have : i = items.length := by omega
    subst this
    exact .inl ⟨w.2, k D' us acc G' H' gg hD0 nD hh ra (fin acc pv)⟩
theorem snd_ofL {c : Ctx} {t : TE} {q : QA} (h : SndL c t q) : SndE c t (qLst' q) := by
  intro ρ σ G H Q R s hq k
  refine h ρ σ G H _ _ s hq fun a vs ds G' H' g ha ga hh r hq => ?_
  have s' := s.grow g
  have ex : Ex G' (upd G' a (.lst vs)) := Ex.new ga
  have nb : ∀ b, c.β = some b → b ≠ a := fun b e z => by
    subst z
    obtain ⟨c', cells, x1, x2, x3, x4, hb, _⟩ := (s.core.bg b e).is
    rw [hb] at ha; cases ha
  refine k _ _ (upd G' a (.lst vs)) H' ⟨g.gg.trans ex, g.hh, g.tn, g.tb, fun x o h => ?_, fun x o h nt n => ?_, fun b e => (g.bg b e).mono ex rfl (by rw [upd_ne (nb b e)]; exact (g.bg b e).out)⟩ (.lst upd_same r.1 (r.mono ex).2) hq
  · by_cases q : x = a
    · subst q; rw [upd_same] at h; rw [hh]; exact h
    · rw [upd_ne q] at h; exact g.gh x o h
  · by_cases q : x = a
    · rw [q]; exact ha
    · rw [upd_ne q] at h; exact g.nw x o h nt n
theorem PDL.pd {c : Ctx} {X : Cx} {e : Expr} {q : QA} (h : PDL c X e q) : PD c X e (qLst' q) := by
  obtain ⟨t, p, s⟩ := h.ex
  exact ⟨t, p, snd_ofL s⟩
structure PDTs (c : Ctx) (X : Cx) (ifs : List Expr) (q : QT) : Prop where
  ex : ∃ t, PTs X ifs t ∧ SndT c t q
theorem ts0 {c : Ctx} {X : Cx} : PDTs c X [] qYes := ⟨_, pts_nil, fun ρ σ G H Q R s h k => k true G H s.refl h⟩
theorem ts1 {c : Ctx} {X : Cx} {e : Expr} {q : QT} (h : PDT c X e q) : PDTs c X [e] q := by
  obtain ⟨t, p, s⟩ := h.ex
  exact ⟨_, pts_one p, s⟩
/-! canonical readings -/
def rdE (c : Ctx) (q : QE) : TE := fun σ H R => ∃ (ρ : List Slot) (G : Hp) (Q : D → Prop), Sta c G H σ ρ ∧ q ρ Q ∧ ∀ v d G' H', Grow c.β G H G' H' → Rep G' v d → Q d → R v H'
theorem PD.can {c : Ctx} {X : Cx} {e : Expr} {q : QE} (h : PD c X e q) : PE X e (rdE c q) := by
  obtain ⟨t, p, s⟩ := h.ex
  refine ⟨fun pins sh σ H Q I hw => p.run pins sh σ H Q I ?_⟩
  obtain ⟨ρ, G, Q', st, hq, k⟩ := hw
  exact s ρ σ G H Q' Q st hq k
theorem snd_rdE {c : Ctx} {q : QE} : SndE c (rdE c q) q := fun ρ σ G H Q R s h k => ⟨ρ, G, Q, s, h, k⟩
def rdT (c : Ctx) (q : QT) : TT := fun σ H R => ∃ (ρ : List Slot) (G : Hp) (Q : Bool → Prop), Sta c G H σ ρ ∧ q ρ Q ∧ ∀ b G' H', Grow c.β G H G' H' → Q b → R b H'
theorem PDTs.can {c : Ctx} {X : Cx} {e : List Expr} {q : QT} (h : PDTs c X e q) : PTs X e (rdT c q) := by
  obtain ⟨t, p, s⟩ := h.ex
  refine ⟨fun pins sh σ H Q I hw => p.run pins sh σ H Q I ?_⟩
  obtain ⟨ρ, G, Q', st, hq, k⟩ := hw
  exact s ρ σ G H Q' Q st hq k
theorem snd_rdT {c : Ctx} {q : QT} : SndT c (rdT c q) q := fun ρ σ G H Q R s h k => ⟨ρ, G, Q, s, h, k⟩
def rdG (c : Ctx) (q : QG) (ws : List Nat) : TG := fun v σ H R => ∃ (d : D) (ρ : List Slot) (G : Hp) (Q : List Slot → Prop), Sta c G H σ ρ ∧ Rep G v d ∧ q d ρ Q ∧ ∀ ρ' σ', Sta c G H σ' ρ' → (∀ vs : List Nat, (∀ w ∈ ws, w ∈ vs) → wipe σ' vs = wipe σ vs) → OwnIn ρ' ρ → Q ρ' → R σ' H
theorem PDG.can {c : Ctx} {X : Cx} {e : Expr} {q : QG} {ws : List Nat} (h : PDG c X e q ws) : PG X e (rdG c q ws) := by
  obtain ⟨t, p, s⟩ := h.ex
  refine ⟨fun pins sh σ H v u Q I r hw => p.run pins sh σ H v u Q I r ?_⟩
  obtain ⟨d, ρ, G, Q', st, rp, hq, k⟩ := hw
  exact s v d ρ σ G H Q' Q st rp hq k
theorem snd_rdG {c : Ctx} {q : QG} {ws : List Nat} : SndG c (rdG c q ws) q ws := fun v d ρ σ G H Q R s r h k => ⟨d, ρ, G, Q, s, r, h, k⟩
section
variable {c : Ctx} {X : Cx} {pos : Pos} {elt tg iter : Expr} {ifs : List Expr} {scope : Scope} {qi : QI} {g : QG} {ws : List Nat} {qt : QT} {qe : QE}
/-- the parts of a block, whatever its frame is -/
abbrev Blk (X : Cx) (scope : Scope) (P : Cx → Prop) : Prop := ∀ (s : Shared) (H : Hp) (C : Addr) (cl : List (Str × Addr)) (fp : List Addr), P (X.blk s H scope (compEnvC scope cl C X.env) fp)
theorem dlc (own : List (Str × Nat)) (hc : X.calm = true) (hN : X.N.Nodup) (hi : PDI c X tg iter qi) (hg : Blk X scope fun Y => PDG c Y tg g ws) (ht : Blk X scope fun Y => PDTs c Y ifs qt) (he : Blk X scope fun Y => PD c Y elt qe)
    (ok : blkC X.N X.env.scope scope own = true := by kernel_rfl) (hw : ∀ w ∈ ws, w ∈ own.map (·.2) := by decide) (hs : ∀ x, foldedSetIterable iter X.env x = pure x := by intro _; rfl) :
    PDL c X (.ListComp elt [⟨tg, iter, ifs, 0⟩] scope pos) (qLc qi g qt qe (own.map (·.2))) := by
  obtain ⟨wi, pi, si⟩ := hi.ex
  exact ⟨_, pe_lc hc hN pi (blkOk_by ok) (fun s H C cl fp => (hg s H C cl fp).can) (fun s H C cl fp => (ht s H C cl fp).can) (fun s H C cl fp => (he s H C cl fp).can) hs, snd_lc hw si snd_rdG snd_rdT snd_rdE⟩
/-- y = [..] where y is a plain local -/
theorem ssetLc (i : Nat) {y : Str} {py spos : Pos} (own : List (Str × Nat)) (hc : X.calm = true) (hN : X.N.Nodup) (hi : PDI c X tg iter qi) (hg : Blk X scope fun Y => PDG c Y tg g ws) (ht : Blk X scope fun Y => PDTs c Y ifs qt) (he : Blk X scope fun Y => PD c Y elt qe)
    (hy : X.N[i]? = some y := by rfl) (hyl : X.env.scope.names.lookup y = some .local := by rfl) (hsw : swapsWith (.ListComp elt [⟨tg, iter, ifs, 0⟩] scope pos) (some (.Name y py)) spos.line X.env = pure true := by exact sw_true rfl rfl rfl (by decide +kernel))
    (ok : blkC X.N X.env.scope scope own = true := by kernel_rfl) (hw : ∀ w ∈ ws, w ∈ own.map (·.2) := by decide) (hs : ∀ x, foldedSetIterable iter X.env x = pure x := by intro _; rfl) :
    PDS c X (.Assign [.Name y py] (.ListComp elt [⟨tg, iter, ifs, 0⟩] scope pos) spos) (qSet i (qLst' (qLc qi g qt qe (own.map (·.2))))) := by
  obtain ⟨wi, pi, si⟩ := hi.ex
  exact ⟨_, ps_setLc hc hN hy hyl hsw pi (blkOk_by ok) (fun s H C cl fp => (hg s H C cl fp).can) (fun s H C cl fp => (ht s H C cl fp).can) (fun s H C cl fp => (he s H C cl fp).can) hs, snd_asg (snd_ofL (snd_lc hw si snd_rdG snd_rdT snd_rdE))⟩
end

/-! ### built-ins -/
def lenR : List D → (D → Prop) → Prop
  | [.lst xs], Q => Q (.int xs.length)
  | [.tup xs], Q => Q (.int xs.length)
  | [.str x], Q => x.length ≤ 100000 ∧ Q (.int x.length)
  | _, _ => False
def absR : List D → (D → Prop) → Prop
  | [.int i], Q => Q (.int (if i < 0 then -i else i))
  | _, _ => False
def intR : List D → (D → Prop) → Prop
  | [.int i], Q => Q (.int i)
  | [.bl k], Q => Q (.int (if k then 1 else 0))
  | _, _ => False
def tupleR : List D → (D → Prop) → Prop
  | [.lst xs], Q => Q (.tup xs)
  | [.tup xs], Q => Q (.tup xs)
  | _, _ => False
def listR : List D → (D → Prop) → Prop
  | [.lst xs], Q => Q (.lst xs)
  | [.tup xs], Q => Q (.lst xs)
  | _, _ => False
def blsOf : List D → Option (List Bool)
  | [] => some []
  | .bl b :: xs => (blsOf xs).map (b :: ·)
  | _ :: _ => none
def intsOf : List D → Option (List Int)
  | [] => some []
  | .int b :: xs => (intsOf xs).map (b :: ·)
  | _ :: _ => none
theorem blsOf_eq : ∀ {xs : List D} {bs : List Bool}, blsOf xs = some bs → xs = bs.map .bl
  | [], bs, h => by cases h; rfl
  | x :: xs, bs, h => by
    cases x <;> simp only [blsOf] at h <;> try (cases h; done)
    cases e : blsOf xs with
    | none => rw [e] at h; cases h
    | some r => rw [e] at h; cases h; rw [blsOf_eq e]; rfl
theorem intsOf_eq : ∀ {xs : List D} {bs : List Int}, intsOf xs = some bs → xs = bs.map .int
  | [], bs, h => by cases h; rfl
  | x :: xs, bs, h => by
    cases x <;> simp only [intsOf] at h <;> try (cases h; done)
    cases e : intsOf xs with
    | none => rw [e] at h; cases h
    | some r => rw [e] at h; cases h; rw [intsOf_eq e]; rfl
theorem blsOf_map : ∀ bs : List Bool, blsOf (bs.map .bl) = some bs
  | [] => rfl
  | b :: bs => by show (blsOf (bs.map .bl)).map (b :: ·) = _; rw [blsOf_map bs]; rfl
theorem intsOf_map : ∀ bs : List Int, intsOf (bs.map .int) = some bs
  | [] => rfl
  | b :: bs => by show (intsOf (bs.map .int)).map (b :: ·) = _; rw [intsOf_map bs]; rfl
def allR : List D → (D → Prop) → Prop
  | [.lst xs], Q => ∃ bs, blsOf xs = some bs ∧ Q (.bl (bs.all id))
  | _, _ => False
def anyR : List D → (D → Prop) → Prop
  | [.lst xs], Q => ∃ bs, blsOf xs = some bs ∧ Q (.bl (bs.any id))
  | _, _ => False
def sumR : List D → (D → Prop) → Prop
  | [.lst xs], Q => ∃ bs, intsOf xs = some bs ∧ Q (.int bs.sum)
  | _, _ => False
theorem RepL.one {G : Hp} {vs : List V} {x : D} (h : RepL G vs [x]) : ∃ v, vs = [v] ∧ Rep G v x := by
  obtain ⟨v, r, rfl, r1, h⟩ := h.inv
  obtain rfl := h.inv0
  exact ⟨v, rfl, r1⟩
section
variable {K : PySem.W.Frag}
theorem cd_len : CallD (fun xs H Q => (∃ p ys, xs = [.ref p] ∧ (SqL K H p ys ∨ SqT K H p ys) ∧ Q (.int ys.length) H) ∨ (∃ z, xs = [.str z] ∧ z.length ≤ sizeLine ∧ Q (.int z.length) H)) lenR := by
  intro β G H xs ds Q R hgh hbg r h k
  match ds, h with
  | [.lst ys], h =>
    obtain ⟨v, rfl, rv⟩ := r.one
    cases rv with
    | lst e n q => exact .inl ⟨_, _, rfl, .inl (.inl (.inl (hgh _ _ e))), by rw [n]; exact opd_ret hgh hbg k (.int _) h⟩
  | [.tup ys], h =>
    obtain ⟨v, rfl, rv⟩ := r.one
    cases rv with
    | tup e n q => exact .inl ⟨_, _, rfl, .inr (e.sq hgh), by rw [n]; exact opd_ret hgh hbg k (.int _) h⟩
  | [.str x], h =>
    obtain ⟨v, rfl, rv⟩ := r.one
    cases rv
    exact .inr ⟨_, rfl, sz h.1, opd_ret hgh hbg k (.int _) h.2⟩
theorem cd_abs : CallD (fun xs H Q => ∃ i, xs = [.int i] ∧ Q (.int (if i < 0 then -i else i)) H) absR := by
  intro β G H xs ds Q R hgh hbg r h k
  match ds, h with
  | [.int i], h =>
    obtain ⟨v, rfl, rv⟩ := r.one
    cases rv
    exact ⟨_, rfl, opd_ret hgh hbg k (.int _) h⟩
theorem cd_int : CallD (fun xs H Q => (∃ i, xs = [.int i] ∧ Q (.int i) H) ∨ ∃ k, xs = [.bl k] ∧ Q (.int (if k then 1 else 0)) H) intR := by
  intro β G H xs ds Q R hgh hbg r h k
  match ds, h with
  | [.int i], h =>
    obtain ⟨v, rfl, rv⟩ := r.one
    cases rv
    exact .inl ⟨_, rfl, opd_ret hgh hbg k (.int _) h⟩
  | [.bl i], h =>
    obtain ⟨v, rfl, rv⟩ := r.one
    cases rv
    exact .inr ⟨_, rfl, opd_ret hgh hbg k (.int _) h⟩
theorem cd_tuple : CallD (fun xs H Q => ∃ p ys, xs = [.ref p] ∧ ((SqL K H p ys ∧ ∀ l, H l = none → Q (.ref l) (upd H l (.tup ys))) ∨ (SqT K H p ys ∧ Q (.ref p) H))) tupleR := by
  intro β G H xs ds Q R hgh hbg r h k
  match ds, h with
  | [.lst ys], h =>
    obtain ⟨v, rfl, rv⟩ := r.one
    cases rv with
    | lst e n q => exact ⟨_, _, rfl, .inl ⟨.inl (.inl (hgh _ _ e)), fun l hl => opd_tup hgh hbg k hl ⟨n, q⟩ h⟩⟩
  | [.tup ys], h =>
    obtain ⟨v, rfl, rv⟩ := r.one
    cases rv with
    | tup e n q => exact ⟨_, _, rfl, .inr ⟨e.sq hgh, opd_ret hgh hbg k (.tup e n q) h⟩⟩
theorem cd_list : CallD (fun xs H Q => ∃ p ys, xs = [.ref p] ∧ (SqL K H p ys ∨ SqT K H p ys) ∧ ∀ l, H l = none → Q (.ref l) (upd H l (.lst ys))) listR := by
  intro β G H xs ds Q R hgh hbg r h k
  match ds, h with
  | [.lst ys], h =>
    obtain ⟨v, rfl, rv⟩ := r.one
    cases rv with
    | lst e n q => exact ⟨_, _, rfl, .inl (.inl (.inl (hgh _ _ e))), fun l hl => opd_lst hgh hbg k hl ⟨n, q⟩ h⟩
  | [.tup ys], h =>
    obtain ⟨v, rfl, rv⟩ := r.one
    cases rv with
    | tup e n q => exact ⟨_, _, rfl, .inr (e.sq hgh), fun l hl => opd_lst hgh hbg k hl ⟨n, q⟩ h⟩
theorem cd_all : CallD (rAll K) allR := by
  intro β G H xs ds Q R hgh hbg r h k
  match ds, h with
  | [.lst ys], ⟨bs, hb, h⟩ =>
    obtain ⟨v, rfl, rv⟩ := r.one
    cases rv with
    | lst e n q =>
      have := blsOf_eq hb
      subst this
      have := RepL.bls ⟨n, q⟩
      subst this
      exact ⟨_, _, rfl, .inl (.inl (hgh _ _ e)), opd_ret hgh hbg k (.bl _) h⟩
theorem cd_any : CallD (rAny K) anyR := by
  intro β G H xs ds Q R hgh hbg r h k
  match ds, h with
  | [.lst ys], ⟨bs, hb, h⟩ =>
    obtain ⟨v, rfl, rv⟩ := r.one
    cases rv with
    | lst e n q =>
      have := blsOf_eq hb
      subst this
      have := RepL.bls ⟨n, q⟩
      subst this
      exact ⟨_, _, rfl, .inl (.inl (hgh _ _ e)), opd_ret hgh hbg k (.bl _) h⟩
theorem cd_sum : CallD (rSum K) sumR := by
  intro β G H xs ds Q R hgh hbg r h k
  match ds, h with
  | [.lst ys], ⟨bs, hb, h⟩ =>
    obtain ⟨v, rfl, rv⟩ := r.one
    cases rv with
    | lst e n q =>
      have := intsOf_eq hb
      subst this
      have := RepL.ints ⟨n, q⟩
      subst this
      exact ⟨_, _, rfl, .inl (.inl (hgh _ _ e)), opd_ret hgh hbg k (.int _) h⟩
/-- isinstance -/
def tyD : D → Option String
  | .non => some "NoneType"
  | .bl _ => some "bool"
  | .int _ => some "int"
  | .str _ => some "str"
  | .tup _ => some "tuple"
  | .lst _ => some "list"
  | _ => none
def isB : String → String → Bool
  | "bool", "int" => true
  | a, b => a == b
def isT (d : D) (n : String) : Bool := match tyD d with
  | some t => isB t n
  | none => false
def fiveT : List String := ["int", "bool", "str", "list", "tuple"]
theorem kitB_tab : ∀ a ∈ ["NoneType", "bool", "int", "str", "tuple", "list"], ∀ b ∈ fiveT, kitB a b = some (isB a b) := by decide +kernel
theorem tyD_mem {d : D} {t : String} (h : tyD d = some t) : t ∈ ["NoneType", "bool", "int", "str", "tuple", "list"] := by
  cases d <;> simp [tyD] at h <;> subst h <;> decide
theorem Rep.tyx {G H : Hp} {v : V} {d : D} {t : String} (r : Rep G v d) (hgh : Ex G H) (h : tyD d = some t) : TyX K H v (.type t) := by
  cases r <;> simp [tyD] at h <;> subst h
  · exact .base .non
  · exact .base (.bl _)
  · exact .base (.int _)
  · exact .base (.str _)
  · exact .base (.tup ((‹TupG G _ _›).ex hgh))
  · exact .base (.lst (hgh _ _ ‹_›))
def tysOf : List D → Option (List String)
  | [] => some []
  | .ty b :: xs => (tysOf xs).map (b :: ·)
  | _ :: _ => none
def isiR : List D → (D → Prop) → Prop
  | [d, .ty n], Q => ((tyD d).isSome = true ∧ n ∈ fiveT) ∧ Q (.bl (isT d n))
  | [d, .tup cs], Q => ∃ ns, tysOf cs = some ns ∧ ((tyD d).isSome = true ∧ ∀ n ∈ ns, n ∈ fiveT) ∧ Q (.bl (ns.any (isT d)))
  | _, _ => False
theorem kitAny_tab {t : String} (ht : t ∈ ["NoneType", "bool", "int", "str", "tuple", "list"]) : ∀ ns : List String, (∀ n ∈ ns, n ∈ fiveT) → PySem.W.kitAny K (.type t) (ns.map Value.type) = some (ns.any (isB t))
  | [], _ => kitAny_nil
  | n :: ns, h => by
    rw [List.map_cons, List.any_cons]
    refine kitAny_cons (b := isB t n) (kit_ty (kitB_tab t ht n (h n (by simp)))) (fun e => ?_) (fun e => ?_)
    · rw [e, Bool.false_or]
      exact kitAny_tab ht ns fun m hm => h m (by simp [hm])
    · rw [e]; rfl
theorem tys_rep {G : Hp} : ∀ {vs : List V} {cs : List D} {ns : List String}, RepL G vs cs → tysOf cs = some ns → Paired ClsV vs (ns.map Value.type)
  | [], [], ns, _, h => by cases h; exact .nil
  | v :: vs, d :: cs, ns, r, h => by
    have r1 := r.head
    cases d <;> simp only [tysOf] at h <;> try (cases h; done)
    rename_i n
    cases r1
    cases e : tysOf cs with
    | none => rw [e] at h; cases h
    | some ms =>
      rw [e] at h
      cases h
      exact .cons (.ty n) (tys_rep r.tail e)
  | [], _ :: _, _, r, _ => by have := r.1; simp at this
  | _ :: _, [], _, r, _ => by have := r.1; simp at this
theorem tupG_ty {G : Hp} {a : Addr} {vs : List V} {ts : List D} {ns : List String} (h : TupG G a vs) (r : RepL G vs ts) (e : tysOf ts = some ns) : G a = some (.tup vs) := by
  exact h
theorem cd_isi : CallD (fun xs H Q => rIsi K xs H Q ∨ rIsiT K xs H Q) isiR := by
  intro β G H xs ds Q R hgh hbg r h k
  match ds, h with
  | [d, .ty n], ⟨⟨h1, h2⟩, h⟩ =>
    obtain ⟨v, w, rfl, r1, r2⟩ := r.two
    cases r2
    obtain ⟨t, et⟩ := Option.isSome_iff_exists.mp h1
    refine .inl ⟨v, .ty n, .type t, .type n, isB t n, rfl, .ty n, r1.tyx hgh et, kit_ty (kitB_tab t (tyD_mem et) n h2), ?_⟩
    have : isT d n = isB t n := by unfold isT; rw [et]
    rw [← this]
    exact opd_ret hgh hbg k (.bl _) h
  | [d, .tup cs], ⟨ns, e, ⟨h1, h2⟩, h⟩ =>
    obtain ⟨v, w, rfl, r1, r2⟩ := r.two
    cases r2 with
    | tup e' n q =>
      have e' := tupG_ty e' ⟨n, q⟩ e
      obtain ⟨t, et⟩ := Option.isSome_iff_exists.mp h1
      refine .inr ⟨v, _, _, .type t, ns.map Value.type, ns.any (isB t), rfl, hgh _ _ e', tys_rep ⟨n, q⟩ e, r1.tyx hgh et, kitAny_tab (tyD_mem et) ns h2, ?_⟩
      have : isT d = isB t := by funext n; unfold isT; rw [et]
      rw [← this]
      exact opd_ret hgh hbg k (.bl _) h
end
section
variable {c : Ctx} {X : Cx} {e : Expr} {es : List Expr} {qr : QA} {p pos : Pos}
theorem dlen (hm : X.mg "len" = none) (ha : PDA c X [e] qr) (hg : Gl X "len" := by rfl) (he : starEach [e] X.env = (false, eval e X.env) :: starEach [] X.env := by rfl) : PD c X (.Call (.Name "len" p) [e] [] pos) (qCB lenR qr) :=
  PD.callB (call_len_seq.or call_len_str) cd_len hg hm PySem.boot_len ha (by decide) (by decide) he rfl
theorem dabs (hm : X.mg "abs" = none) (ha : PDA c X [e] qr) (hg : Gl X "abs" := by rfl) (he : starEach [e] X.env = (false, eval e X.env) :: starEach [] X.env := by rfl) : PD c X (.Call (.Name "abs" p) [e] [] pos) (qCB absR qr) :=
  PD.callB call_abs cd_abs hg hm (by decide +kernel) ha (by decide) (by decide) he rfl
theorem dintc (hm : X.mg "int" = none) (ha : PDA c X [e] qr) (hg : Gl X "int" := by rfl) (he : starEach [e] X.env = (false, eval e X.env) :: starEach [] X.env := by rfl) : PD c X (.Call (.Name "int" p) [e] [] pos) (qCB intR qr) :=
  PD.callTy call_int1 cd_int hg hm (by decide +kernel) ha (by decide) (by decide) he rfl
theorem dtuple (hm : X.mg "tuple" = none) (ha : PDA c X [e] qr) (hg : Gl X "tuple" := by rfl) (he : starEach [e] X.env = (false, eval e X.env) :: starEach [] X.env := by rfl) : PD c X (.Call (.Name "tuple" p) [e] [] pos) (qCB tupleR qr) :=
  PD.callTy call_tuple_of cd_tuple hg hm (by decide +kernel) ha (by decide) (by decide) he rfl
theorem dlist (hm : X.mg "list" = none) (ha : PDA c X [e] qr) (hg : Gl X "list" := by rfl) (he : starEach [e] X.env = (false, eval e X.env) :: starEach [] X.env := by rfl) : PD c X (.Call (.Name "list" p) [e] [] pos) (qCB listR qr) :=
  PD.callTy call_list_of cd_list hg hm (by decide +kernel) ha (by decide) (by decide) he rfl
theorem dall (hc : X.calm = true) (hm : X.mg "all" = none) (ha : PDA c X [e] qr) (hg : Gl X "all" := by rfl) (he : starEach [e] X.env = (false, eval e X.env) :: starEach [] X.env := by rfl) : PD c X (.Call (.Name "all" p) [e] [] pos) (qCB allR qr) :=
  PD.callB (cr_all hc) cd_all hg hm (by decide +kernel) ha (by decide) (by decide) he rfl
theorem dany (hc : X.calm = true) (hm : X.mg "any" = none) (ha : PDA c X [e] qr) (hg : Gl X "any" := by rfl) (he : starEach [e] X.env = (false, eval e X.env) :: starEach [] X.env := by rfl) : PD c X (.Call (.Name "any" p) [e] [] pos) (qCB anyR qr) :=
  PD.callB (cr_any hc) cd_any hg hm (by decide +kernel) ha (by decide) (by decide) he rfl
theorem dsum (hc : X.calm = true) (hm : X.mg "sum" = none) (ha : PDA c X [e] qr) (hg : Gl X "sum" := by rfl) (he : starEach [e] X.env = (false, eval e X.env) :: starEach [] X.env := by rfl) : PD c X (.Call (.Name "sum" p) [e] [] pos) (qCB sumR qr) :=
  PD.callB (cr_sum hc) cd_sum hg hm (by decide +kernel) ha (by decide) (by decide) he rfl
theorem disi {e2 : Expr} (hm : X.mg "isinstance" = none) (ha : PDA c X [e, e2] qr) (hg : Gl X "isinstance" := by rfl) (he : starEach [e, e2] X.env = (false, eval e X.env) :: starEach [e2] X.env := by rfl) (hpl : (backTo pos (starEach [e2] X.env)).any (·.1) = false := by rfl) : PD c X (.Call (.Name "isinstance" p) [e, e2] [] pos) (qCB isiR qr) :=
  PD.callB (call_isi.or call_isiT) cd_isi hg hm (by decide +kernel) ha (by decide) (by decide) he hpl
end
end DL

namespace DL
open PySem L2

/-! ### defs -/
/-- a promise over data -/
abbrev SpD := Option Addr → List D → (D → Prop) → Prop
def lf (sp : SpD) : Sp := fun vs H R _ => ∃ (β : Option Addr) (G : Hp) (ds : List D) (Q : D → Prop), RepL G vs ds ∧ Ex G H ∧ (∀ b, β = some b → Bag G H b) ∧ sp β ds Q ∧ ∀ v d G' H', Grow β G H G' H' → Rep G' v d → Q d → R v H'
def qCall (sp : SpD) (β : Option Addr) (q : QA) : QE := fun ρ Q => q ρ fun ds => sp β ds Q
def startS (N : List Str) (ds : List D) : List Slot := ds.map Slot.d ++ List.replicate (N.length - ds.length) .un
theorem sta_start {β : Option Addr} {G H : Hp} {N : List Str} {vs : List V} {ds : List D} (r : RepL G vs ds) (gh : Ex G H) (bg : ∀ b, β = some b → Bag G H b) {ξ : D → Prop} : Sta ⟨β, G, H, ξ⟩ G H (L2.start N vs) (startS N ds) := by
  refine ⟨⟨Same.refl G, fun a o h _ _ => h, fun a o h _ => by rw [show H a = _ from h]; simp, fun _ h => h, fun a o h _ n => absurd (h.symm.trans n) (by simp), gh, bg, fun b e => ?_⟩, by simp [L2.start, startS, r.1], fun i s e => ?_, fun i j a o1 o2 h1 h2 => ?_⟩
  · obtain ⟨c', cells, x1, x2, x3, x4, hb, _⟩ := (bg b e).is
    show H b ≠ none
    rw [hb]; simp
  · unfold startS at e
    unfold L2.start
    by_cases hi : i < ds.length
    · rw [List.getElem?_append_left (by simpa using hi), List.getElem?_map] at e
      rw [List.getElem?_append_left (by simpa [r.1] using hi), List.getElem?_map]
      cases q : ds[i]? with
      | none => rw [q] at e; cases e
      | some d =>
        rw [q] at e
        cases e
        obtain ⟨v, hv, rv⟩ := r.get q
        exact ⟨v, by rw [hv]; rfl, rv⟩
    · rw [List.getElem?_append_right (by simpa using hi), List.getElem?_replicate] at e
      split at e
      · cases e; trivial
      · cases e
  · exfalso
    unfold startS at h1
    by_cases hi : i < ds.length
    · rw [List.getElem?_append_left (by simpa using hi), List.getElem?_map] at h1
      cases q : ds[i]? with
      | none => rw [q] at h1; cases h1
      | some d => rw [q] at h1; cases h1
    · rw [List.getElem?_append_right (by simpa using hi), List.getElem?_replicate] at h1
      split at h1
      · cases h1
      · cases h1
section
variable {P : Program} {w : World} {K : PySem.W.Frag} {mg : Str → Option Value} {base : Heap}
theorem fn_dl {x qual : Str} {st : Stmt} {f : Addr} {fd : FuncData} {N ps : List Str} {k : Nat} {sp : SpD} (F : Fun K x qual st f fd) (S : FnScope N ps (defScope st)) (hl : ∀ β ds Q, sp β ds Q → ds.length = ps.length)
    (body : ∀ (cdv : Value) (A : Around) (outer : List Env) (s : Shared) (H : Hp) (E : XK) (c : Ctx), Room k (A.deeper (PyProof.Rows.envOfC qual (defScope st) s.heap.objs.size f cdv)) →
      ∃ q, PDB c (cxOf CX0 P w K mg base N qual (defScope st) f cdv A outer s H E).nox (defBody st) q ∧ ∀ ds Q, sp c.β ds Q → q (startS N ds) { nx := fun _ => Q .non, rt := fun d _ => Q d }) : FnOk P w K mg base CX0 (k + 1) f fd ps (lf sp) := by
  refine F.ok S (fun vs H Q E h => ?_) (fun cdv A outer s H vs R E hr h => ?_)
  · obtain ⟨β, G, ds, Q, r, _, _, h, _⟩ := h
    rw [r.1]; exact hl β ds Q h
  · obtain ⟨β, G, ds, Q, r, gh, bg, h, kk⟩ := h
    obtain ⟨q, pb, hq⟩ := body cdv A outer s H E ⟨β, G, H, fun _ => False⟩ hr
    obtain ⟨t, p, sd⟩ := pb.ex
    refine ⟨t, p, sd _ _ G H _ _ (sta_start r gh bg) (hq ds Q h) ⟨fun ρ' σ' G' H' x s' h' => ?_, fun v d ρ' σ' G' H' x s' rv h' => ?_, fun _ _ _ _ _ _ h => h.elim, fun _ _ _ _ _ _ h => h.elim, fun _ _ _ _ _ _ _ _ _ _ _ _ _ h => h.elim⟩⟩
    · exact kk .non .non G' H' ⟨s'.core.g0, s'.core.h0, s'.core.tn, s'.core.tb, s'.core.gh, s'.core.nw, s'.core.bg⟩ .non h'
    · exact kk v d G' H' ⟨s'.core.g0, s'.core.h0, s'.core.tn, s'.core.tb, s'.core.gh, s'.core.nw, s'.core.bg⟩ rv h'
/-- a promise of a new list -/
abbrev SpN := Option Addr → List D → (List D → Prop) → Prop
def lfN (sp : SpN) : Sp := fun vs H R _ => ∃ (β : Option Addr) (G : Hp) (ds : List D) (Q : List D → Prop), RepL G vs ds ∧ Ex G H ∧ (∀ b, β = some b → Bag G H b) ∧ sp β ds Q ∧ ∀ a vs' es G' H', Grow β G H G' H' → H a = none → G' a = none → H' a = some (.lst vs') → RepL G' vs' es → Q es → R (.ref a) H'
def spOfN (sp : SpN) : SpD := fun β ds Q => sp β ds fun es => Q (.lst es)
theorem frz_grow {β : Option Addr} {G H G' H' : Hp} {a : Addr} {vs : List V} (g : Grow β G H G' H') (ha : H a = none) (ga : G' a = none) (hh : H' a = some (.lst vs)) (hb : ∀ b, β = some b → H b ≠ none) : Grow β G H (upd G' a (.lst vs)) H' := by
  have ex : Ex G' (upd G' a (.lst vs)) := Ex.new ga
  have nb : ∀ b, β = some b → b ≠ a := fun b e z => by subst z; exact hb _ e ha
  refine ⟨g.gg.trans ex, g.hh, g.tn, g.tb, fun x o h => ?_, fun x o h nt n => ?_, fun b e => (g.bg b e).mono ex rfl (by rw [upd_ne (nb b e)]; exact (g.bg b e).out)⟩
  · by_cases q : x = a
    · subst q; rw [upd_same] at h; rw [hh]; exact h
    · rw [upd_ne q] at h; exact g.gh x o h
  · by_cases q : x = a
    · rw [q]; exact ha
    · rw [upd_ne q] at h; exact g.nw x o h nt n
theorem bag_there {β : Option Addr} {G H : Hp} (bg : ∀ b, β = some b → Bag G H b) : ∀ b, β = some b → H b ≠ none := fun b e => by
  obtain ⟨c', cells, x1, x2, x3, x4, hb, _⟩ := (bg b e).is
  rw [hb]; simp
theorem lfN_lf {sp : SpN} {vs : List V} {H : Hp} {R : VK} {E : XK} (h : lf (spOfN sp) vs H R E) : lfN sp vs H R E := by
  obtain ⟨β, G, ds, Q, r, gh, bg, h, kk⟩ := h
  refine ⟨β, G, ds, _, r, gh, bg, h, fun a vs' es G' H' g ha ga hh r' q => ?_⟩
  have ex : Ex G' (upd G' a (.lst vs')) := Ex.new ga
  exact kk _ _ _ _ (frz_grow g ha ga hh (bag_there bg)) (.lst upd_same r'.1 (r'.mono ex).2) q
theorem fn_dlN {x qual : Str} {st : Stmt} {f : Addr} {fd : FuncData} {N ps : List Str} {k : Nat} {sp : SpN} (F : Fun K x qual st f fd) (S : FnScope N ps (defScope st)) (hl : ∀ β ds Q, sp β ds Q → ds.length = ps.length)
    (body : ∀ (cdv : Value) (A : Around) (outer : List Env) (s : Shared) (H : Hp) (E : XK) (c : Ctx), Room k (A.deeper (PyProof.Rows.envOfC qual (defScope st) s.heap.objs.size f cdv)) →
      ∃ q, PDB c (cxOf CX0 P w K mg base N qual (defScope st) f cdv A outer s H E).nox (defBody st) q ∧ ∀ ds Q, sp c.β ds Q → q (startS N ds) { nx := fun _ => False, rt := fun _ _ => False, rn := fun es _ => Q es }) : FnOk P w K mg base CX0 (k + 1) f fd ps (lfN sp) := by
  refine F.ok S (fun vs H Q E h => ?_) (fun cdv A outer s H vs R E hr h => ?_)
  · obtain ⟨β, G, ds, Q, r, _, _, h, _⟩ := h
    rw [r.1]; exact hl β ds Q h
  · obtain ⟨β, G, ds, Q, r, gh, bg, h, kk⟩ := h
    obtain ⟨q, pb, hq⟩ := body cdv A outer s H E ⟨β, G, H, fun _ => False⟩ hr
    obtain ⟨t, p, sd⟩ := pb.ex
    refine ⟨t, p, sd _ _ G H _ _ (sta_start r gh bg) (hq ds Q h) ⟨fun _ _ _ _ _ _ h => h.elim, fun _ _ _ _ _ _ _ _ _ h => h.elim, fun _ _ _ _ _ _ h => h.elim, fun _ _ _ _ _ _ h => h.elim, fun a vs' es ρ' σ' G' H' x s' h0 ga hh rv h' => ?_⟩⟩
    exact kk a vs' es G' H' ⟨s'.core.g0, s'.core.h0, s'.core.tn, s'.core.tb, s'.core.gh, s'.core.nw, s'.core.bg⟩ h0 ga hh rv h'
end
section
variable {c : Ctx} {X : Cx} {e : Expr} {es : List Expr} {qr : QA} {p pos : Pos}
theorem snd_call {sp : SpD} {t : TA} (sa : SndA c t qr) : SndE c (tCall (lf sp) [] E0 t) (qCall sp c.β qr) := by
  intro ρ σ G H Q R s h k
  refine sa ρ σ G H _ _ s h fun vs ds G1 H1 g1 r1 h1 => ?_
  have s1 := s.grow g1
  rw [List.append_nil]
  exact ⟨c.β, G1, ds, Q, r1, s1.core.gh, s1.core.bg, h1, fun v d G' H' g r q => k v d G' H' (g1.trans g s.hb) r q⟩
theorem dcall {x : Str} {sp : SpD} {k : Nat} {f : Addr} {fd : FuncData} {ps : List Str} (F : FnOk X.prog X.w X.K X.mg X.base CX0 k f fd ps (lf sp)) (hr : Room k X.A) (hm : X.mg x = some (.ref f)) (hk : PySem.W.keepIn X.K (.ref f) = true) (hb : Binds X.K fd ps []) (ha : PDA c X (e :: es) qr)
    (hg : Gl X x := by rfl) (hdb : (x == ("__debug__" : Str)) = false := by decide) (he : starEach (e :: es) X.env = (false, eval e X.env) :: starEach es X.env := by rfl) (hpl : (backTo pos (starEach es X.env)).any (·.1) = false := by rfl) : PD c X (.Call (.Name x p) (e :: es) [] pos) (qCall sp c.β qr) := by
  obtain ⟨t, pa, sa⟩ := ha.ex
  exact ⟨_, pe_call F hr hg hm hk hb .nil pass0 pa hdb he hpl, snd_call sa⟩
theorem dcall0 {x : Str} {sp : SpD} {k : Nat} {f : Addr} {fd : FuncData} {ps : List Str} (F : FnOk X.prog X.w X.K X.mg X.base CX0 k f fd ps (lf sp)) (hr : Room k X.A) (hm : X.mg x = some (.ref f)) (hk : PySem.W.keepIn X.K (.ref f) = true) (hb : Binds X.K fd ps [])
    (hg : Gl X x := by rfl) (hdb : (x == ("__debug__" : Str)) = false := by decide) : PD c X (.Call (.Name x p) [] [] pos) (qCall sp c.β qNil) :=
  ⟨_, pe_call0 F hr hg hm hk hb .nil pass0 hdb, snd_call (fun ρ σ G H Q R s h k => k [] [] G H s.refl .nil h)⟩
end

/-! ### a def called by keyword alone: f(k=e) -/
structure PDK (c : Ctx) (X : Cx) (ks : List Keyword) (q : QA) : Prop where
  ex : ∃ t, PK X ks t ∧ SndA c t q
section
variable {c : Ctx} {X : Cx} {e : Expr} {es : List Expr} {qr qk : QA} {qa : QE} {p pos : Pos} {ks : List Keyword}
theorem k0 : PDK c X [] qNil := ⟨_, pk_nil, fun ρ σ G H Q R s h k => k [] [] G H s.refl .nil h⟩
theorem kc {nm : Option Str} {kpos : Pos} (ha : PD c X e qa) (hr : PDK c X ks qr) : PDK c X (⟨nm, e, kpos⟩ :: ks) (qCons qa qr) := by
  obtain ⟨t, p, s⟩ := ha.ex
  obtain ⟨u, p', s'⟩ := hr.ex
  exact ⟨_, pk_cons p p', snd_cons s s'⟩
end

/-! ### slices -/
def cutD (xs : List D) (lo hi : Option Int) : List D := (xs.drop (HT.sIx xs.length 0 lo)).take (HT.sIx xs.length xs.length hi - HT.sIx xs.length 0 lo)
def slR (x : D) (lo hi : Option Int) (Q : D → Prop) : Prop := match x with
  | .lst xs => Q (.lst (cutD xs lo hi))
  | .tup xs => Q (.tup (cutD xs lo hi))
  | _ => False
abbrev QO := List Slot → (Option Int → Prop) → Prop
def SndO (c : Ctx) (t : TO) (q : QO) : Prop := ∀ (ρ : List Slot) (σ : L2.St) (G H : Hp) (Q : Option Int → Prop) (R : Option Int → Hp → Prop), Sta c G H σ ρ → q ρ Q → (∀ o G' H', Grow c.β G H G' H' → Q o → R o H') → t σ H R
structure PDO (c : Ctx) (X : Cx) (e : Option Expr) (q : QO) : Prop where
  ex : ∃ t, PO X e t ∧ SndO c t q
def qO0 : QO := fun _ Q => Q none
def qO1 (q : QE) : QO := fun ρ Q => q ρ fun x => inI x fun i => Q (some i)
def qSl (q : QE) (ql qh : QO) : QE := fun ρ Q => q ρ fun x => ql ρ fun l => qh ρ fun h => slR x l h Q
theorem RepL.cut {G : Hp} {vs : List V} {ds : List D} (r : RepL G vs ds) (lo hi : Option Int) : RepL G (cutV vs lo hi) (cutD ds lo hi) := by
  unfold cutV cutD
  rw [r.1]
  exact (r.drop _).take _
section
variable {c : Ctx} {X : Cx} {e : Expr} {lo hi : Option Expr} {q : QE} {ql qh : QO} {p2 pos : Pos}
theorem o0 : PDO c X none qO0 := ⟨_, po_none, fun ρ σ G H Q R s h k => k none G H s.refl h⟩
theorem o1 (h : PD c X e q) : PDO c X (some e) (qO1 q) := by
  obtain ⟨t, p, sd⟩ := h.ex
  refine ⟨_, po_some p, fun ρ σ G H Q R s h k => sd ρ σ G H _ _ s h fun v d G' H' g r hq => ?_⟩
  obtain ⟨i, rfl, hq⟩ := inI_inv hq
  cases r
  exact ⟨i, rfl, k _ G' H' g hq⟩
theorem cutD_whole {xs : List D} {lo hi : Option Int} (h : HT.sIx xs.length 0 lo = 0 ∧ HT.sIx xs.length xs.length hi = xs.length) : cutD xs lo hi = xs := by
  unfold cutD
  rw [h.1, h.2, List.drop_zero, Nat.sub_zero, List.take_length]
theorem dsl (h : PD c X e q) (hl : PDO c X lo ql) (hh : PDO c X hi qh) : PD c X (.Subscript e (.Slice lo hi none p2) pos) (qSl q ql qh) := by
  obtain ⟨t, p, sd⟩ := h.ex
  obtain ⟨tl, pl, sl⟩ := hl.ex
  obtain ⟨th, ph, sh⟩ := hh.ex
  refine ⟨_, pe_slice (sl_list.or sl_tupA) p pl ph, fun ρ σ G H Q R s h k => ?_⟩
  refine sd ρ σ G H _ _ s h fun v d G1 H1 g1 r1 h => ?_
  have s1 := s.grow g1
  refine sl ρ σ G1 H1 _ _ s1 h fun o1 G2 H2 g2 h => ?_
  have s2 := s1.grow g2
  refine sh ρ σ G2 H2 _ _ s2 h fun o2 G3 H3 g3 h => ?_
  have s3 := s2.grow g3
  have gg := (g1.trans g2 s.hb).trans g3 s.hb
  have kk : ∀ v d G' H', Grow c.β G3 H3 G' H' → Rep G' v d → Q d → R v H' := fun v d G' H' g r q => k v d G' H' (gg.trans g s.hb) r q
  have r3 := (r1.mono g2.gg).mono g3.gg
  cases r3 with
  | lst e n r => exact .inl ⟨_, _, rfl, .inl (.inl (s3.core.gh _ _ e)), fun p hp => opd_lst s3.core.gh s3.core.bg kk hp (RepL.cut ⟨n, r⟩ _ _) h⟩
  | tup e n r =>
    refine .inr ⟨_, _, rfl, e.sq s3.core.gh, fun z => ?_, fun _ p hp => opd_tup s3.core.gh s3.core.bg kk hp (RepL.cut ⟨n, r⟩ _ _) h⟩
    rw [n] at z
    refine opd_ret s3.core.gh s3.core.bg kk (.tup e n r) ?_
    have h' : Q (.tup (cutD _ o1 o2)) := h
    rw [cutD_whole z] at h'
    exact h'
  | _ => exact h.elim
end

/-! ### owned lists -/
abbrev QX := List Slot → (D → List Slot → Prop) → Prop
/-- an expression that may change owned lists -/
def SndX (c : Ctx) (t : TE) (q : QX) : Prop := ∀ (ρ : List Slot) (σ : L2.St) (G H : Hp) (Q : D → List Slot → Prop) (R : VK), Sta c G H σ ρ → q ρ Q → (∀ v d ρ' G' H', Ex G G' → Sta c G' H' σ ρ' → Rep G' v d → Q d ρ' → R v H') → t σ H R
structure PDX (c : Ctx) (X : Cx) (e : Expr) (q : QX) : Prop where
  ex : ∃ t, PE X e t ∧ SndX c t q
def qX (q : QE) : QX := fun ρ Q => q ρ fun d => Q d ρ
theorem snd_x {c : Ctx} {t : TE} {q : QE} (h : SndE c t q) : SndX c t (qX q) := fun ρ σ G H Q R s hq k =>
  h ρ σ G H _ _ s hq fun v d G' H' g r hq => k v d ρ G' H' g.gg (s.grow g) r hq
theorem PD.x {c : Ctx} {X : Cx} {e : Expr} {q : QE} (h : PD c X e q) : PDX c X e (qX q) := by
  obtain ⟨t, p, s⟩ := h.ex
  exact ⟨t, p, snd_x s⟩
def qApp (i : Nat) (q : QX) : QS := fun ρ Φ => slotO ρ[i]? fun _ _ => q ρ fun d ρ' => slotO ρ'[i]? fun a xs => xs.length < 90000 ∧ Φ.nx (ρ'.set i (.own a (.lst (xs ++ [d]))))
def qPopX (i : Nat) (q : QE) : QX := fun ρ Q => slotO ρ[i]? fun a xs => q ρ fun d => inI d fun z => ∃ (k : Nat) (y : D), z = (k : Int) ∧ k < 90000 ∧ xs[k]? = some y ∧ Q y (ρ.set i (.own a (.lst (xs.eraseIdx k))))
def qLenO (i : Nat) : QE := fun ρ Q => slotO ρ[i]? fun _ xs => Q (.int xs.length)
def qIxO (i : Nat) (q : QE) : QE := fun ρ Q => slotO ρ[i]? fun _ xs => q ρ fun d => inI d fun k => ∃ y, atI xs k = some y ∧ Q y
section
variable {c : Ctx} {X : Cx} {e : Expr} {q : QE} {qx : QX} {apos npos p pos : Pos} {x : Str}
theorem sapp (i : Nat) (he : PDX c X e qx) (hN : X.N[i]? = some x := by rfl) (hv : Vis X.env.scope x := by first | exact Or.inl rfl | exact Or.inr (Or.inl rfl) | exact Or.inr (Or.inr rfl)) (hd : (x == ("__debug__" : Str)) = false := by decide)
    (hcd : (x == ("__classdict__" : Str)) = false := by decide) (h1 : attributeBase (.Name x npos) "append" X.env (eval (.Name x npos) X.env) = eval (.Name x npos) X.env := by rfl) (h2 : starEach [e] X.env = (false, eval e X.env) :: starEach [] X.env := by rfl) (h3 : (apos.endLine == p.line) = true := by rfl) (hfew : ((backTo p (starEach [e] X.env)).all (fun x => !x.1) && (backToKw p (keywordEach [] X.env)).all (fun x => x.1.isSome)
      && decide ([e].length + ([] : List Keyword).length + (if ([] : List Keyword).isEmpty then 0 else 1) < 30)) = true := by rfl) (hs : swapsWith (.Call (.Attribute (.Name x npos) "append" apos) [e] [] p) none pos.line X.env = pure false := by rfl) :
    PDS c X (.Expr (.Call (.Attribute (.Name x npos) "append" apos) [e] [] p) pos) (qApp i qx) := by
  obtain ⟨t, pe, sd⟩ := he.ex
  refine ⟨_, ps_expr (pe_bm PySem.F.plainAttrs_list PySem.F.slot_list_append PySem.F.type_list_append mt_append (pe_var hN hv hd hcd) (pa_cons pe pa_nil h2) h1 hfew h3 h2 rfl) hs, fun ρ σ G H Φ D' s h f => ?_⟩
  obtain ⟨a, xs, ea, h⟩ := slotO_inv h
  obtain ⟨e1, e2, e3, vs, e4, e5⟩ := s.sl i _ ea
  refine ⟨.ref a, e1, .inl ⟨rfl, vs, .inl (.inl e4)⟩, sd ρ σ G H _ _ s h fun v d ρ' G' H' ex s' r h' => ?_⟩
  obtain ⟨a', xs', ea', hl, h'⟩ := slotO_inv h'
  obtain ⟨e1', e2', e3', vs', e4', e5'⟩ := s'.sl i _ ea'
  rw [e1] at e1'
  cases e1'
  exact ⟨a, vs', v, rfl, rfl, e4', by rw [e5'.1]; exact szl (by omega), f.nx _ _ G' _ ex (s'.mut ea' (e5'.snoc r)) h'⟩
theorem xpop (i : Nat) (he : PD c X e q) (hN : X.N[i]? = some x := by rfl) (hv : Vis X.env.scope x := by first | exact Or.inl rfl | exact Or.inr (Or.inl rfl) | exact Or.inr (Or.inr rfl)) (hd : (x == ("__debug__" : Str)) = false := by decide)
    (hcd : (x == ("__classdict__" : Str)) = false := by decide) (h1 : attributeBase (.Name x npos) "pop" X.env (eval (.Name x npos) X.env) = eval (.Name x npos) X.env := by rfl) (h2 : starEach [e] X.env = (false, eval e X.env) :: starEach [] X.env := by rfl) (h3 : (apos.endLine == p.line) = true := by rfl)
    (hfew : ((backTo p (starEach [e] X.env)).all (fun x => !x.1) && (backToKw p (keywordEach [] X.env)).all (fun x => x.1.isSome)
      && decide ([e].length + ([] : List Keyword).length + (if ([] : List Keyword).isEmpty then 0 else 1) < 30)) = true := by rfl) :
    PDX c X (.Call (.Attribute (.Name x npos) "pop" apos) [e] [] p) (qPopX i q) := by
  obtain ⟨t, pe, sd⟩ := he.ex
  refine ⟨_, pe_bm PySem.F.plainAttrs_list PySem.F.slot_list_pop PySem.F.type_list_pop mt_popAt (pe_var hN hv hd hcd) (pa_cons pe pa_nil h2) h1 hfew h3 h2 rfl, fun ρ σ G H Q R s h k => ?_⟩
  obtain ⟨a, xs, ea, h⟩ := slotO_inv h
  obtain ⟨e1, e2, e3, vs, e4, e5⟩ := s.sl i _ ea
  refine ⟨.ref a, e1, .inl ⟨rfl, vs, .inl (.inl e4)⟩, sd ρ σ G H _ _ s h fun v d G' H' g r h' => ?_⟩
  obtain ⟨z, rfl, j, y, rfl, hj, hy, h'⟩ := inI_inv h'
  cases r
  have s' := s.grow g
  obtain ⟨_, _, _, vs', e4', e5'⟩ := s'.sl i _ ea
  obtain ⟨w, hw, rw'⟩ := e5'.get hy
  have hlt : j < vs'.length := (List.getElem?_eq_some_iff.mp hw).1
  refine ⟨a, vs', j, j, w, rfl, rfl, e4', by omega, by omega, ?_, hw, k w y _ G' _ g.gg (s'.mut ea (e5'.erase j)) rw' h'⟩
  have z := ixN_seq (n := vs'.length) (i := (j : Int)) (j := j) (by
    unfold ixN
    rw [if_pos (by omega), if_pos (by omega)]
    rfl)
  exact z.1
theorem dlenO (i : Nat) (hm : X.mg "len" = none) (hg : Gl X "len" := by rfl) (hN : X.N[i]? = some x := by rfl) (hv : Vis X.env.scope x := by first | exact Or.inl rfl | exact Or.inr (Or.inl rfl) | exact Or.inr (Or.inr rfl)) (hd : (x == ("__debug__" : Str)) = false := by decide)
    (hcd : (x == ("__classdict__" : Str)) = false := by decide) (he : starEach [.Name x npos] X.env = (false, eval (.Name x npos) X.env) :: starEach [] X.env := by rfl) : PD c X (.Call (.Name "len" p) [.Name x npos] [] pos) (qLenO i) := by
  refine ⟨_, pe_callB call_len_seq hg hm PySem.boot_len (pa_cons (pe_var hN hv hd hcd) pa_nil he) (by decide) (by decide) he rfl, fun ρ σ G H Q R s h k => ?_⟩
  obtain ⟨a, xs, ea, h⟩ := slotO_inv h
  obtain ⟨e1, e2, e3, vs, e4, e5⟩ := s.sl i _ ea
  exact ⟨.ref a, e1, a, vs, rfl, .inl (.inl (.inl e4)), k _ _ G H s.refl (.int _) (by rw [e5.1]; exact h)⟩
theorem dixO (i : Nat) (he : PD c X e q) (hN : X.N[i]? = some x := by rfl) (hv : Vis X.env.scope x := by first | exact Or.inl rfl | exact Or.inr (Or.inl rfl) | exact Or.inr (Or.inr rfl)) (hd : (x == ("__debug__" : Str)) = false := by decide)
    (hcd : (x == ("__classdict__" : Str)) = false := by decide) (hs : PlainIx e := by exact fun _ _ => rfl) : PD c X (.Subscript (.Name x npos) e pos) (qIxO i q) := by
  obtain ⟨t, pe, sd⟩ := he.ex
  refine ⟨_, pe_ix ix_list (pe_var hN hv hd hcd) pe hs, fun ρ σ G H Q R s h k => ?_⟩
  obtain ⟨a, xs, ea, h⟩ := slotO_inv h
  obtain ⟨e1, e2, e3, vs, e4, e5⟩ := s.sl i _ ea
  refine ⟨.ref a, e1, sd ρ σ G H _ _ s h fun v d G' H' g r h' => ?_⟩
  obtain ⟨j, rfl, y, hy, h'⟩ := inI_inv h'
  cases r
  obtain ⟨_, _, _, vs', e4', e5'⟩ := (s.grow g).sl i _ ea
  obtain ⟨w, hw, rw'⟩ := atI_rep e5' hy
  exact ⟨a, vs', j, w, rfl, rfl, .inl (.inl e4'), hw, k w y G' H' g rw' h'⟩
/-- x[k] = e for an owned list -/
def qSetI (i : Nat) (qe qk : QE) : QS := fun ρ Φ => qe ρ fun d => slotO ρ[i]? fun a xs => qk ρ fun kd => inI kd fun k => ∃ j, ixN xs.length k = some j ∧ Φ.nx (ρ.set i (.own a (.lst (xs.set j d))))
theorem ssetI {ek : Expr} {qk : QE} (i : Nat) (he : PD c X e q) (hk : PD c X ek qk) (hN : X.N[i]? = some x := by rfl) (hv : Vis X.env.scope x := by first | exact Or.inl rfl | exact Or.inr (Or.inl rfl) | exact Or.inr (Or.inr rfl)) (hd : (x == ("__debug__" : Str)) = false := by decide)
    (hcd : (x == ("__classdict__" : Str)) = false := by decide)
    (h0 : ∀ v, assign (.Subscript (.Name x npos) ek p) X.env v = (do
      let ov ← holding [v] (eval (.Name x npos) X.env)
      let iv ← holding [v, ov] (eval ek X.env)
      standAt p
      holding [v, ov, iv] (setItem ov iv v)
      release [v, ov, iv] []) := by intro _; rfl)
    (hs : swapsWithSole [.Subscript (.Name x npos) ek p] e pos.line X.env = pure false := by rfl) (hw : swappedStores [.Subscript (.Name x npos) ek p] e X.env = pure none := by rfl)
    (h1 : (assignEach [.Subscript (.Name x npos) ek p] X.env).map (·.2) = [assign (.Subscript (.Name x npos) ek p) X.env] := by rfl) :
    PDS c X (.Assign [.Subscript (.Name x npos) ek p] e pos) (qSetI i q qk) := by
  obtain ⟨t, pe, sd⟩ := he.ex
  obtain ⟨tk, pk, sk⟩ := hk.ex
  refine ⟨_, ps_asg pe (pg_sub (pe_var hN hv hd hcd) pk set_list h0) hs hw h1, fun ρ σ G H Φ D' s h f => ?_⟩
  refine sd ρ σ G H _ _ s h fun v d G1 H1 g1 r1 h' => ?_
  obtain ⟨a, xs, ea, h'⟩ := slotO_inv h'
  have s1 := s.grow g1
  obtain ⟨e1, e2, e3, vs, e4, e5⟩ := s1.sl i _ ea
  refine ⟨.ref a, e1, sk ρ σ G1 H1 _ _ s1 h' fun w kd G2 H2 g2 r2 h' => ?_⟩
  obtain ⟨k, rfl, j, ek, h'⟩ := inI_inv h'
  cases r2
  have s2 := s1.grow g2
  obtain ⟨_, _, _, vs', e4', e5'⟩ := s2.sl i _ ea
  exact ⟨a, vs', k, j, rfl, rfl, e4', by rw [e5'.1]; exact ek, f.nx _ _ G2 _ (g1.gg.trans g2.gg) (s2.mut ea (e5'.set j (r1.mono g2.gg))) h'⟩
end
end DL

namespace DL
open PySem L2

/-- the built-ins' names are not the module's -/
structure Bi (mg : Str → Option Value) : Prop where
  abs : mg "abs" = none
  all : mg "all" = none
  any : mg "any" = none
  bool : mg "bool" = none
  dict : mg "dict" = none
  enumerate : mg "enumerate" = none
  int : mg "int" = none
  isinstance : mg "isinstance" = none
  len : mg "len" = none
  list : mg "list" = none
  max : mg "max" = none
  min : mg "min" = none
  range : mg "range" = none
  repr : mg "repr" = none
  sorted : mg "sorted" = none
  str : mg "str" = none
  sum : mg "sum" = none
  tuple : mg "tuple" = none
  zip : mg "zip" = none
/-- all by keyword, in the parameters' order -/
def kwG {α : Type} : List α → List α → List α
  | [], ws => ws
  | _ :: _, _ => []
abbrev KB (K : PySem.W.Frag) (fd : FuncData) (ps : List Str) : Prop := KBinds K fd ps ps kwG kwG
theorem Fun.kb {K : PySem.W.Frag} {x qual : Str} {st : Stmt} {f : Addr} {fd : FuncData} {ps : List Str} (F : Fun K x qual st f fd) (hp : ps ≠ [])
    (h : ∀ (kV doc pm : Value) (an : Option Addr) (cdv ct : Value) (ws : List Value), ws.length = ps.length → bindArgs (PySem.W.fnOf x qual (defArgs st) (defBody st) (defScope st) .none kV doc pm an cdv ct) ⟨[], ps.zip ws⟩ = pure (ps.zip ws)) : KB K fd ps := by
  obtain ⟨oc, od, kV, doc, pm, an, cdv, ct, osl, rfl, lk, hcd⟩ := F.ex
  refine ⟨fun s us ws _ hl => ?_, fun {vs us zs ws} r rz => ?_⟩
  · cases us with
    | nil => exact .of_eq (h kV doc pm an cdv ct ws hl)
    | cons u us => exact absurd (List.length_eq_zero_iff.mp hl.symm) hp
  · cases r with
    | nil => exact rz
    | cons a b => exact .nil
/-- the function's record at its address -/
def FdAt (K : PySem.W.Frag) (f : Addr) (fd : FuncData) : Prop := ∃ oc od osl, K.lookup f = some ⟨oc, od, .func fd, osl⟩
/-- a def of the text -/
def Df (K : PySem.W.Frag) (mg : Str → Option Value) (x : Str) (st : Stmt) (ps : List Str) : Prop := ∃ f fd, Fun K x x st f fd ∧ mg x = some (.ref f) ∧ Binds K fd ps [] ∧ KB K fd ps ∧ FdAt K f fd
/-- a def that keeps a promise -/
def Dn (P : Program) (w : World) (K : PySem.W.Frag) (mg : Str → Option Value) (base : Heap) (k : Nat) (x : Str) (ps : List Str) (sp : SpD) : Prop :=
  ∃ f fd, FnOk P w K mg base CX0 k f fd ps (lf sp) ∧ mg x = some (.ref f) ∧ PySem.W.keepIn K (.ref f) = true ∧ Binds K fd ps [] ∧ KB K fd ps ∧ FdAt K f fd
section
variable {P : Program} {w : World} {K : PySem.W.Frag} {mg : Str → Option Value} {base : Heap}
theorem Dn.mono {k j : Nat} {x : Str} {ps : List Str} {sp : SpD} (h : Dn P w K mg base k x ps sp) (e : k ≤ j) : Dn P w K mg base j x ps sp := by
  obtain ⟨f, fd, a, b⟩ := h
  exact ⟨f, fd, a.mono e, b⟩
theorem Dn.imp {k : Nat} {x : Str} {ps : List Str} {sp sp' : SpD} (h : Dn P w K mg base k x ps sp) (e : ∀ β ds Q, sp' β ds Q → sp β ds Q) : Dn P w K mg base k x ps sp' := by
  obtain ⟨f, fd, a, b⟩ := h
  refine ⟨f, fd, a.imp fun vs H Q E hq => ?_, b⟩
  obtain ⟨β, G, ds, Q', r, gh, bg, h, kk⟩ := hq
  exact ⟨β, G, ds, Q', r, gh, bg, e _ _ _ h, kk⟩
theorem Df.ok {x : Str} {st : Stmt} {N ps : List Str} {k : Nat} {sp : SpD} (F : Df K mg x st ps) (S : FnScope N ps (defScope st)) (hl : ∀ β ds Q, sp β ds Q → ds.length = ps.length)
    (body : ∀ (f : Addr) (cdv : Value) (A : Around) (outer : List Env) (s : Shared) (H : Hp) (E : XK) (c : Ctx), Room k (A.deeper (PyProof.Rows.envOfC x (defScope st) s.heap.objs.size f cdv)) →
      ∃ q, PDB c (cxOf CX0 P w K mg base N x (defScope st) f cdv A outer s H E).nox (defBody st) q ∧ ∀ ds Q, sp c.β ds Q → q (startS N ds) { nx := fun _ => Q .non, rt := fun d _ => Q d }) : Dn P w K mg base (k + 1) x ps sp := by
  obtain ⟨f, fd, F, m, b⟩ := F
  exact ⟨f, fd, fn_dl F S hl (body f), m, F.kp, b⟩
end
/-- a def that promises a new list -/
def DnN (P : Program) (w : World) (K : PySem.W.Frag) (mg : Str → Option Value) (base : Heap) (k : Nat) (x : Str) (ps : List Str) (sp : SpN) : Prop :=
  ∃ f fd, FnOk P w K mg base CX0 k f fd ps (lfN sp) ∧ mg x = some (.ref f) ∧ PySem.W.keepIn K (.ref f) = true ∧ Binds K fd ps [] ∧ KB K fd ps ∧ FdAt K f fd
section
variable {P : Program} {w : World} {K : PySem.W.Frag} {mg : Str → Option Value} {base : Heap}
theorem DnN.dn {k : Nat} {x : Str} {ps : List Str} {sp : SpN} (h : DnN P w K mg base k x ps sp) : Dn P w K mg base k x ps (spOfN sp) := by
  obtain ⟨f, fd, a, b⟩ := h
  exact ⟨f, fd, a.imp fun vs H Q E hq => lfN_lf hq, b⟩
theorem DnN.mono {k j : Nat} {x : Str} {ps : List Str} {sp : SpN} (h : DnN P w K mg base k x ps sp) (e : k ≤ j) : DnN P w K mg base j x ps sp := by
  obtain ⟨f, fd, a, b⟩ := h
  exact ⟨f, fd, a.mono e, b⟩
theorem Df.okN {x : Str} {st : Stmt} {N ps : List Str} {k : Nat} {sp : SpN} (F : Df K mg x st ps) (S : FnScope N ps (defScope st)) (hl : ∀ β ds Q, sp β ds Q → ds.length = ps.length)
    (body : ∀ (f : Addr) (cdv : Value) (A : Around) (outer : List Env) (s : Shared) (H : Hp) (E : XK) (c : Ctx), Room k (A.deeper (PyProof.Rows.envOfC x (defScope st) s.heap.objs.size f cdv)) →
      ∃ q, PDB c (cxOf CX0 P w K mg base N x (defScope st) f cdv A outer s H E).nox (defBody st) q ∧ ∀ ds Q, sp c.β ds Q → q (startS N ds) { nx := fun _ => False, rt := fun _ _ => False, rn := fun es _ => Q es }) : DnN P w K mg base (k + 1) x ps sp := by
  obtain ⟨f, fd, F, m, b⟩ := F
  exact ⟨f, fd, fn_dlN F S hl (body f), m, F.kp, b⟩
end
theorem Df.nil_ {P : Program} {w : World} {K : PySem.W.Frag} {mg : Str → Option Value} {base : Heap} {k : Nat} {x : Str} {st : Stmt} {ps : List Str} (F : Df K mg x st ps) : Dn P w K mg base k x ps (fun _ _ _ => False) := by
  obtain ⟨f, fd, F, m, b⟩ := F
  exact ⟨f, fd, ⟨fun vs H Q E h => (by obtain ⟨_, _, _, _, _, _, _, h, _⟩ := h; exact h.elim), fun A outer s H args us vs Q E _ _ _ _ h => (by obtain ⟨_, _, _, _, _, _, _, h, _⟩ := h; exact h.elim)⟩, m, F.kp, b⟩
theorem hu_ {k : Nat} {A : Around} (r : Room k A) : A.units + 65 < cLine := by have := r.un; omega
section
variable {c : Ctx} {X : Cx} {e : Expr} {es : List Expr} {qr : QA} {p pos : Pos}
theorem dc {x : Str} {sp : SpD} {j k : Nat} {ps : List Str} (F : Dn X.prog X.w X.K X.mg X.base j x ps sp) (hr : Room k X.A) (ha : PDA c X (e :: es) qr) (hj : j ≤ k := by decide)
    (hg : Gl X x := by rfl) (hdb : (x == ("__debug__" : Str)) = false := by decide) (he : starEach (e :: es) X.env = (false, eval e X.env) :: starEach es X.env := by rfl) (hpl : (backTo pos (starEach es X.env)).any (·.1) = false := by rfl) : PD c X (.Call (.Name x p) (e :: es) [] pos) (qCall sp c.β qr) := by
  obtain ⟨f, fd, F, m, kp, b, _⟩ := F
  exact dcall F (hr.mono hj) m kp b ha hg hdb he hpl
def qCallN (sp : SpN) (β : Option Addr) (q : QA) : QA := fun ρ Q => q ρ fun ds => sp β ds Q
theorem grow_none {c : Ctx} {G H G' H' : Hp} {σ : L2.St} {ρ : List Slot} {a : Addr} (s : Sta c G H σ ρ) (g : Grow c.β G H G' H') (h : H' a = none) : H a = none := g.fr h
/-- a new list by a call -/
theorem dcN {x : Str} {sp : SpN} {j k : Nat} {ps : List Str} (F : DnN X.prog X.w X.K X.mg X.base j x ps sp) (hr : Room k X.A) (ha : PDA c X (e :: es) qr) (hj : j ≤ k := by decide)
    (hg : Gl X x := by rfl) (hdb : (x == ("__debug__" : Str)) = false := by decide) (he : starEach (e :: es) X.env = (false, eval e X.env) :: starEach es X.env := by rfl) (hpl : (backTo pos (starEach es X.env)).any (·.1) = false := by rfl) : PDL c X (.Call (.Name x p) (e :: es) [] pos) (qCallN sp c.β qr) := by
  obtain ⟨f, fd, F, m, kp, b, _⟩ := F
  obtain ⟨t, pa, sa⟩ := ha.ex
  refine ⟨_, pe_call F (hr.mono hj) hg m kp b .nil pass0 pa hdb he hpl, fun ρ σ G H Q R s h k => ?_⟩
  refine sa ρ σ G H _ _ s h fun vs ds G1 H1 g1 r1 h1 => ?_
  have s1 := s.grow g1
  rw [List.append_nil]
  exact ⟨c.β, G1, ds, Q, r1, s1.core.gh, s1.core.bg, h1, fun a vs' es G' H' g hn gn hh r q => k a vs' es G' H' (g1.trans g s.hb) (grow_none s g1 hn) gn hh r q⟩
theorem dc0 {x : Str} {sp : SpD} {j k : Nat} {ps : List Str} (F : Dn X.prog X.w X.K X.mg X.base j x ps sp) (hr : Room k X.A) (hj : j ≤ k := by decide) (hg : Gl X x := by rfl) (hdb : (x == ("__debug__" : Str)) = false := by decide) : PD c X (.Call (.Name x p) [] [] pos) (qCall sp c.β qNil) := by
  obtain ⟨f, fd, F, m, kp, b, _⟩ := F
  exact dcall0 F (hr.mono hj) m kp b hg hdb
end
section
variable {c : Ctx} {X : Cx} {e : Expr} {kws : List Keyword} {qr : QA} {p pos : Pos}
theorem pe_callK0 {CX : CXT} {k : Nat} {f : Addr} {fd : FuncData} {ps ks : List Str} {sp : Sp} {E : XK} {tk : TA} {x : Str} {g : List Value → List Value → List Value} {gV : List V → List V → List V} (F : FnOk X.prog X.w X.K X.mg X.base CX k f fd ps sp) (hr : Room k X.A) (hg : Gl X x) (hm : X.mg x = some (.ref f)) (hk : PySem.W.keepIn X.K (.ref f) = true) (hb : KBinds X.K fd ps ks g gV) (hx : Passes CX X E)
    (hkw : PK X kws tk) (hall : (backToKw pos (keywordEach kws X.env)).all (·.1.isSome) = true) (hks : (backToKw pos (keywordEach kws X.env)).filterMap (·.1) = ks)
    (hdb : (x == ("__debug__" : Str)) = false) (hpl : ((backTo pos (starEach [] X.env)).any (·.1) || (backToKw pos (keywordEach kws X.env)).any (·.1.isNone)) = false) :
    PE X (.Call (.Name x p) [] kws pos) (tCallK sp gV E tNil tk) := by
  refine ⟨fun pins s σ H Q I h => ?_⟩
  refine wpAny_Call_Name_kw (ld_glob I hg hm ?_ hdb)
  refine PySem.W.callWith_KW0 (h₀ := X.base) I.ok.mod.kin hk hall (thn (hkw.run pos pins s σ H _ I h) fun ws s2 ⟨zs, H2, I2, rz, q2⟩ => ⟨I2.kIn, ?_⟩) hpl
  rw [hks]
  exact run_fnk (us := []) (vs := []) F hr hb hx I2 .nil rz q2
theorem dck {x : Str} {sp : SpD} {j k : Nat} {ps : List Str} (F : Dn X.prog X.w X.K X.mg X.base j x ps sp) (hr : Room k X.A) (ha : PDK c X kws qr) (hj : j ≤ k := by decide) (hg : Gl X x := by rfl)
    (hall : (backToKw pos (keywordEach kws X.env)).all (·.1.isSome) = true := by rfl) (hks : (backToKw pos (keywordEach kws X.env)).filterMap (·.1) = ps := by rfl)
    (hdb : (x == ("__debug__" : Str)) = false := by decide) (hpl : ((backTo pos (starEach [] X.env)).any (·.1) || (backToKw pos (keywordEach kws X.env)).any (·.1.isNone)) = false := by rfl) :
    PD c X (.Call (.Name x p) [] kws pos) (qCall sp c.β qr) := by
  obtain ⟨f, fd, F, m, kp, _, b, _⟩ := F
  obtain ⟨t, pk, sk⟩ := ha.ex
  refine ⟨_, pe_callK0 F (hr.mono hj) hg m kp b pass0 pk hall hks hdb hpl, fun ρ σ G H Q R s h k => ?_⟩
  refine sk ρ σ G H _ _ s h fun vs ds G1 H1 g1 r1 h1 => ?_
  have s1 := s.grow g1
  exact ⟨c.β, G1, ds, Q, r1, s1.core.gh, s1.core.bg, h1, fun v d G' H' g r q => k v d G' H' (g1.trans g s.hb) r q⟩
def qLRg (q : QE) : QE := fun ρ Q => q ρ fun x => inI x fun n => 0 ≤ n ∧ n ≤ 100000 ∧ Q (.lst (rangeD 0 n.toNat))
theorem rgV_rep {G : Hp} (a b : Int) : RepL G (rgV a b) (rangeD a (b - a).toNat) := by
  unfold rgV rangeD
  refine ⟨by simp, fun i v d h1 h2 => ?_⟩
  rw [List.getElem?_map] at h1 h2
  cases q : (List.range (b - a).toNat)[i]? with
  | none => rw [q] at h1; cases h1
  | some j => rw [q] at h1 h2; cases h1; cases h2; exact .int _
theorem dlrg {q : QE} {p2 pos2 : Pos} (hc : X.calm = true) (hm : X.mg "list" = none) (hm2 : X.mg "range" = none) (ha : PD c X e q) (hg : Gl X "list" := by rfl) (hg2 : Gl X "range" := by rfl) (na : starEach [.Call (.Name "range" p2) [e] [] pos2] X.env = (false, eval (.Call (.Name "range" p2) [e] [] pos2) X.env) :: starEach [] X.env := by rfl) (nb : starEach [e] X.env = (false, eval e X.env) :: starEach [] X.env := by rfl) :
    PD c X (.Call (.Name "list" p) [.Call (.Name "range" p2) [e] [] pos2] [] pos) (qLRg q) := by
  obtain ⟨t, pa, sa⟩ := ha.ex
  refine ⟨_, pe_listRg hc hg hm (prg_1 hg2 hm2 pa nb) na, fun ρ σ G H Q R s h k => ?_⟩
  refine sa ρ σ G H _ _ s h fun v d G1 H1 g1 r1 h1 => ?_
  have s1 := s.grow g1
  obtain ⟨n, rfl, h0, hn, h1⟩ := inI_inv h1
  cases r1
  refine ⟨n, rfl, ⟨by omega, by omega, by omega, by omega, by omega⟩, fun p hp => ?_⟩
  refine opd_lst (Q := Q) s1.core.gh s1.core.bg (fun v d G' H' g r q => k v d G' H' (g1.trans g s.hb) r q) hp (rgV_rep 0 n) ?_
  rw [Int.sub_zero]
  exact h1
end
/-! fresh lists -/
section
variable {c : Ctx} {X : Cx} {a b e : Expr} {qr qa qb : QA} {p pos : Pos}
def listN : List D → (List D → Prop) → Prop
  | [.lst xs], Q => Q xs
  | [.tup xs], Q => Q xs
  | _, _ => False
def qListN (q : QA) : QA := fun ρ Q => q ρ fun ds => listN ds Q
theorem dlistN (hm : X.mg "list" = none) (ha : PDA c X [e] qr) (hg : Gl X "list" := by rfl) (he : starEach [e] X.env = (false, eval e X.env) :: starEach [] X.env := by rfl) : PDL c X (.Call (.Name "list" p) [e] [] pos) (qListN qr) := by
  obtain ⟨t, pa, sa⟩ := ha.ex
  refine ⟨_, pe_callTy call_list_of hg hm (by decide +kernel) pa (by decide) (by decide) he rfl, fun ρ σ G H Q R s h k => ?_⟩
  refine sa ρ σ G H _ _ s h fun vs ds G1 H1 g1 r1 h1 => ?_
  have s1 := s.grow g1
  have fin : ∀ (l : Addr) (us : List V) (xs : List D), H1 l = none → RepL G1 us xs → Q xs → R (.ref l) (upd H1 l (.lst us)) := fun l us xs hl r q => by
    have gn := Grow.fresh (o := .lst us) s1.core.gh s1.core.bg hl
    have hp0 : H l = none := g1.fr hl
    exact k l us xs G1 _ (g1.trans gn s.hb) hp0 (s1.core.gh.free hl) upd_same r q
  match ds, h1 with
  | [.lst ys], h1 =>
    obtain ⟨v, rfl, rv⟩ := r1.one
    cases rv with
    | lst e n q => exact ⟨_, _, rfl, .inl (.inl (.inl (s1.core.gh _ _ e))), fun l hl => fin l _ _ hl ⟨n, q⟩ h1⟩
  | [.tup ys], h1 =>
    obtain ⟨v, rfl, rv⟩ := r1.one
    cases rv with
    | tup e n q => exact ⟨_, _, rfl, .inr (e.sq s1.core.gh), fun l hl => fin l _ _ hl ⟨n, q⟩ h1⟩
def qParN (i j : Nat) (qa qb : QA) : QS := fun ρ Φ => qa ρ fun xs => qb ρ fun ys => ∀ a b, Φ.nx ((ρ.set i (.own a (.lst xs))).set j (.own b (.lst ys)))
theorem sparN (i j : Nat) {x y : Str} {px py pt : Pos} {kt k2 pt2} (hc : X.calm = true) (hN : X.N.Nodup) (ha : PDL c X a qa) (hb : PDL c X b qb) (hi : X.N[i]? = some x := by rfl) (hj : X.N[j]? = some y := by rfl) (hij : i ≠ j := by decide)
    (hx : X.env.scope.names.lookup x = some .local := by rfl) (hy : X.env.scope.names.lookup y = some .local := by rfl)
    (hw : swappedStores [.Tuple [.Name x px, .Name y py] kt pt] (.Tuple [a, b] k2 pt2) X.env = pure (some [x, y]) := by rfl)
    (hs : swapsWithSole [.Tuple [.Name x px, .Name y py] kt pt] (.Tuple [a, b] k2 pt2) pos.line X.env = pure false := by rfl) (h1 : starEach [a, b] X.env = (false, eval a X.env) :: starEach [b] X.env := by rfl) (h2 : starEach [b] X.env = (false, eval b X.env) :: starEach [] X.env := by rfl) :
    PDS c X (.Assign [.Tuple [.Name x px, .Name y py] kt pt] (.Tuple [a, b] k2 pt2) pos) (qParN i j qa qb) := by
  obtain ⟨ta, pa, sa⟩ := ha.ex
  obtain ⟨tb, pb, sb⟩ := hb.ex
  refine ⟨_, ps_par hc hN hi hj hij hx hy (pa_cons pa (pa_cons pb pa_nil h2) h1) hw hs, fun ρ σ G H Φ D' s h f => ?_⟩
  refine sa ρ σ G H _ _ s h fun p vs xs G1 H1 g1 hp gp hh r1 h1 => ?_
  have s1 := s.grow g1
  refine sb ρ σ G1 H1 _ _ s1 h1 fun p2 ws ys G2 H2 g2 hp2 gp2 hh2 r2 h2 => ?_
  have s2 := s1.grow g2
  have ne : p ≠ p2 := ne_of_none hh hp2
  have z1 := free_of (G' := G) (H' := H) s hp
  have z2 := free_of (G' := G) (H' := H) s1 hp2
  have nb : some p ≠ c.β := fun e => s.hb p e.symm hp
  have gp' : G2 p = none := by
    exact g2.own hh nt_lst (fun _ z => by cases z) nb gp
  refine ⟨.ref p, .ref p2, rfl, f.nx _ _ G2 H2 (g1.gg.trans g2.gg) ?_ (h2 p p2)⟩
  refine (s2.setN (i := i) gp' z1.1 (g2.hh p _ hh nb nt_lst) (r1.mono g2.gg) z1.2).setN gp2 z2.1 hh2 r2 fun m zs e => ?_
  rw [List.getElem?_set] at e
  split at e
  · split at e
    · cases e; exact ne rfl
    · cases e
  · exact z2.2 m zs e
end
end DL

namespace DL
open PySem L2

/-! ### steps over readings -/
theorem log9 {j : Int} {n : Nat} (hj : j.natAbs < 2 ^ n) (h0 : 0 < n) (hn : n ≤ 9000) : j.natAbs.log2 < 9000 := Nat.lt_of_lt_of_le (PySem.Flt.log2_lt_of h0 hj) hn
theorem cutD_from (xs : List D) (k : Nat) : cutD xs (some (k : Int)) none = xs.drop k := by
  unfold cutD
  rw [HT.sIx_nat, HT.sIx_none]
  by_cases h : k ≤ xs.length
  · rw [Nat.min_eq_left h, ← List.length_drop, List.take_length]
  · rw [Nat.min_eq_right (by omega), List.drop_eq_nil_of_le (Nat.le_refl _), List.drop_eq_nil_of_le (by omega), List.take_nil]
theorem cutD_to (xs : List D) (k : Nat) : cutD xs none (some (k : Int)) = xs.take k := by
  unfold cutD
  rw [HT.sIx_nat, HT.sIx_none, List.drop_zero, Nat.sub_zero]
  by_cases h : k ≤ xs.length
  · rw [Nat.min_eq_left h]
  · rw [Nat.min_eq_right (by omega), List.take_length, List.take_of_length_le (by omega)]
theorem cutD1 (xs : List D) : cutD xs (some 1) none = xs.drop 1 := cutD_from xs 1
theorem at0 {α : Type} {x : α} {xs : List α} : atI (x :: xs) 0 = some x := atI_nat (j := 0) rfl
theorem at1 {α : Type} {x y : α} {xs : List α} : atI (x :: y :: xs) 1 = some y := atI_nat (j := 1) rfl
theorem at2 {α : Type} {x y z : α} {xs : List α} : atI (x :: y :: z :: xs) 2 = some z := atI_nat (j := 2) rfl
theorem at3 {α : Type} {x y z u : α} {xs : List α} : atI (x :: y :: z :: u :: xs) 3 = some u := atI_nat (j := 3) rfl
theorem at4 {α : Type} {x y z u v : α} {xs : List α} : atI (x :: y :: z :: u :: v :: xs) 4 = some v := atI_nat (j := 4) rfl
theorem ix51 : ixN 5 1 = some 1 := by decide
theorem ix52 : ixN 5 2 = some 2 := by decide
theorem ix53 : ixN 5 3 = some 3 := by decide
theorem ix54 : ixN 5 4 = some 4 := by decide
theorem atI_map {α β : Type} (f : α → β) (xs : List α) (i : Int) : atI (xs.map f) i = (atI xs i).map f := by
  unfold atI
  rw [List.length_map]
  cases ixN xs.length i with
  | none => rfl
  | some j => simp
theorem atI_lt {α : Type} {xs : List α} {i : Int} (h0 : 0 ≤ i) (h : i < (xs.length : Int)) : ∃ x, xs[i.toNat]? = some x ∧ atI xs i = some x := by
  have hl : i.toNat < xs.length := by omega
  refine ⟨xs[i.toNat], List.getElem?_eq_getElem hl, ?_⟩
  have := atI_nat (xs := xs) (j := i.toNat) (List.getElem?_eq_getElem hl)
  rwa [Int.toNat_of_nonneg h0] at this
section
variable {Q : D → Prop} {i j : Int} {x y z : D} {xs ys : List D} {b : Bool} {u v : Str}
theorem slotD_d {R : D → Prop} : slotD (some (.d x)) R = R x := rfl
theorem slotO_o {R : Addr → List D → Prop} {a : Addr} : slotO (some (.own a (.lst xs))) R = R a xs := rfl
theorem blR_b {R : Bool → Prop} : blR (.bl b) R = R b := rfl
theorem inI_i {R : Int → Prop} : inI (.int i) R = R i := rfl
theorem tupR_t {R : List D → Prop} : tupR (.tup xs) R = R xs := rfl
theorem consR_c {R : D → List D → Prop} : consR (x :: xs) R = R x xs := rfl
theorem two_c {R : D → D → Prop} : two_ [x, y] R = R x y := rfl
theorem three_c {R : D → D → D → Prop} : three_ [x, y, z] R = R x y z := rfl
theorem addR_ii : addR (.int i) (.int j) Q = Q (.int (i + j)) := rfl
theorem addR_ss : addR (.str u) (.str v) Q = (u.length + v.length ≤ 100000 ∧ Q (.str (u ++ v))) := rfl
theorem addR_ll : addR (.lst xs) (.lst ys) Q = (xs.length + ys.length ≤ 100000 ∧ Q (.lst (xs ++ ys))) := rfl
theorem addR_tt : addR (.tup xs) (.tup ys) Q = (xs.length + ys.length ≤ 100000 ∧ Q (.tup (xs ++ ys))) := rfl
theorem subR_ii : subR (.int i) (.int j) Q = Q (.int (i - j)) := rfl
theorem mulR_ii : mulR (.int i) (.int j) Q = (IntMulOk i j ∧ Q (.int (i * j))) := rfl
theorem mulR_li : mulR (.lst xs) (.int j) Q = ((0 ≤ j ∧ j ≤ 1000 ∧ xs.length ≤ 100) ∧ Q (.lst (List.replicate j.toNat xs).flatten)) := rfl
theorem fdivR_ii : fdivR (.int i) (.int j) Q = (CDivX i j ∧ Q (.int (i.fdiv j))) := rfl
theorem modR_ii : modR (.int i) (.int j) Q = (0 < j ∧ Q (.int (i % j))) := rfl
theorem powR_ii : powR (.int i) (.int j) Q = (CPow i j ∧ Q (.int (i ^ j.toNat))) := rfl
theorem cmR_ii {g : Int → Int → Bool} {gs : List Nat → List Nat → Bool} : cmR g gs (.int i) (.int j) Q = Q (.bl (g i j)) := rfl
theorem cmR_ss {g : Int → Int → Bool} {gs : List Nat → List Nat → Bool} : cmR g gs (.str u) (.str v) Q = Q (.bl (gs u.cps.toList v.cps.toList)) := rfl
theorem iiR_ii {g : Int → Int → D} : iiR g (.int i) (.int j) Q = Q (g i j) := rfl
theorem eqR_ii : eqR (.int i) (.int j) Q = Q (.bl (i == j)) := by simp [eqR, D.plain, eqD_int]
theorem neR_ii : neR (.int i) (.int j) Q = Q (.bl (!(i == j))) := by simp [neR, D.plain, eqD_int]
theorem eqR_ss : eqR (.str u) (.str v) Q = ((PyData.strOk u = true ∧ PyData.strOk v = true) ∧ Q (.bl (u == v))) := by simp [eqR, D.plain, eqD_str]
theorem negR_i : negR (.int i) Q = Q (.int (-i)) := rfl
theorem ixR_li : ixR (.lst xs) (.int i) Q = ∃ d, atI xs i = some d ∧ Q d := rfl
theorem ixR_ti : ixR (.tup xs) (.int i) Q = ∃ d, atI xs i = some d ∧ Q d := rfl
theorem ixR_si : ixR (.str u) (.int i) Q = ∃ k, u.length ≤ 100000 ∧ atI u.cps.toList i = some k ∧ Q (.str ⟨#[k]⟩) := rfl
theorem isR_n : isR x .non Q = Q (.bl (isNon x)) := by simp [isR]
theorem isnR_n : isnR x .non Q = Q (.bl (!isNon x)) := by simp [isnR]
theorem lenR_l : lenR [.lst xs] Q = Q (.int xs.length) := rfl
theorem lenR_t : lenR [.tup xs] Q = Q (.int xs.length) := rfl
theorem lenR_s : lenR [.str u] Q = (u.length ≤ 100000 ∧ Q (.int u.length)) := rfl
theorem absR_i : absR [.int i] Q = Q (.int (if i < 0 then -i else i)) := rfl
theorem intR_i : intR [.int i] Q = Q (.int i) := rfl
theorem intR_b : intR [.bl b] Q = Q (.int (if b then 1 else 0)) := rfl
theorem tupleR_l : tupleR [.lst xs] Q = Q (.tup xs) := rfl
theorem tupleR_t : tupleR [.tup xs] Q = Q (.tup xs) := rfl
theorem listR_l : listR [.lst xs] Q = Q (.lst xs) := rfl
theorem listR_t : listR [.tup xs] Q = Q (.lst xs) := rfl
theorem listN_l {R : List D → Prop} : listN [.lst xs] R = R xs := rfl
theorem listN_t {R : List D → Prop} : listN [.tup xs] R = R xs := rfl
theorem allR_l : allR [.lst xs] Q = ∃ bs, blsOf xs = some bs ∧ Q (.bl (bs.all id)) := rfl
theorem anyR_l : anyR [.lst xs] Q = ∃ bs, blsOf xs = some bs ∧ Q (.bl (bs.any id)) := rfl
theorem sumR_l : sumR [.lst xs] Q = ∃ bs, intsOf xs = some bs ∧ Q (.int bs.sum) := rfl
theorem zipR_l {R : List D → Prop} : zipR [.lst xs, .lst ys] R = R ((xs.zip ys).map pairD) := rfl
theorem zipR_t {R : List D → Prop} : zipR [.tup xs, .tup ys] R = R ((xs.zip ys).map pairD) := rfl
theorem enumR_l {R : List D → Prop} : enumR [.lst xs] R = R (enumD xs) := rfl
theorem seqR_l {R : List D → Prop} : seqR (.lst xs) R = R xs := rfl
theorem seqR_t {R : List D → Prop} : seqR (.tup xs) R = R xs := rfl
theorem rg1R_i {R : List D → Prop} : rg1R [.int j] R = ((j < 2 ^ 62 ∧ -(2 ^ 62) ≤ j) ∧ R (rangeD 0 j.toNat)) := rfl
theorem rg2R_i {R : List D → Prop} : rg2R [.int i, .int j] R = ((-(2 ^ 62) ≤ i ∧ i < 2 ^ 62 ∧ -(2 ^ 62) ≤ j ∧ j < 2 ^ 62) ∧ R (rangeD i (j - i).toNat)) := rfl
theorem truR_n {R : Bool → Prop} : truR .non R = R false := rfl
theorem truR_b {R : Bool → Prop} : truR (.bl b) R = R b := rfl
theorem truR_i {R : Bool → Prop} : truR (.int i) R = R (i != 0) := rfl
theorem truR_l {R : Bool → Prop} : truR (.lst xs) R = R (!xs.isEmpty) := rfl
theorem truR_t {R : Bool → Prop} : truR (.tup xs) R = R (!xs.isEmpty) := rfl
theorem slR_l {lo hi : Option Int} : slR (.lst xs) lo hi Q = Q (.lst (cutD xs lo hi)) := rfl
theorem slR_t {lo hi : Option Int} : slR (.tup xs) lo hi Q = Q (.tup (cutD xs lo hi)) := rfl
theorem isiR_1 {n : String} : isiR [x, .ty n] Q = (((tyD x).isSome = true ∧ n ∈ fiveT) ∧ Q (.bl (isT x n))) := rfl
theorem isiR_2 : isiR [x, .tup xs] Q = ∃ ns, tysOf xs = some ns ∧ ((tyD x).isSome = true ∧ ∀ n ∈ ns, n ∈ fiveT) ∧ Q (.bl (ns.any (isT x))) := rfl
theorem isT_nint : isT .non "int" = false := rfl
theorem isT_nbool : isT .non "bool" = false := rfl
theorem isT_nstr : isT .non "str" = false := rfl
theorem isT_nlist : isT .non "list" = false := rfl
theorem isT_ntuple : isT .non "tuple" = false := rfl
theorem tyS_n : (tyD .non).isSome = true := rfl
theorem isT_bint : isT (.bl b) "int" = true := rfl
theorem isT_bbool : isT (.bl b) "bool" = true := rfl
theorem isT_bstr : isT (.bl b) "str" = false := rfl
theorem isT_blist : isT (.bl b) "list" = false := rfl
theorem isT_btuple : isT (.bl b) "tuple" = false := rfl
theorem tyS_b : (tyD (.bl b)).isSome = true := rfl
theorem isT_iint : isT (.int i) "int" = true := rfl
theorem isT_ibool : isT (.int i) "bool" = false := rfl
theorem isT_istr : isT (.int i) "str" = false := rfl
theorem isT_ilist : isT (.int i) "list" = false := rfl
theorem isT_ituple : isT (.int i) "tuple" = false := rfl
theorem tyS_i : (tyD (.int i)).isSome = true := rfl
theorem isT_sint : isT (.str u) "int" = false := rfl
theorem isT_sbool : isT (.str u) "bool" = false := rfl
theorem isT_sstr : isT (.str u) "str" = true := rfl
theorem isT_slist : isT (.str u) "list" = false := rfl
theorem isT_stuple : isT (.str u) "tuple" = false := rfl
theorem tyS_s : (tyD (.str u)).isSome = true := rfl
theorem isT_tint : isT (.tup xs) "int" = false := rfl
theorem isT_tbool : isT (.tup xs) "bool" = false := rfl
theorem isT_tstr : isT (.tup xs) "str" = false := rfl
theorem isT_tlist : isT (.tup xs) "list" = false := rfl
theorem isT_ttuple : isT (.tup xs) "tuple" = true := rfl
theorem tyS_t : (tyD (.tup xs)).isSome = true := rfl
theorem isT_lint : isT (.lst xs) "int" = false := rfl
theorem isT_lbool : isT (.lst xs) "bool" = false := rfl
theorem isT_lstr : isT (.lst xs) "str" = false := rfl
theorem isT_llist : isT (.lst xs) "list" = true := rfl
theorem isT_ltuple : isT (.lst xs) "tuple" = false := rfl
theorem tyS_l : (tyD (.lst xs)).isSome = true := rfl
theorem five_int : "int" ∈ fiveT := by decide
theorem five_bool : "bool" ∈ fiveT := by decide
theorem five_str : "str" ∈ fiveT := by decide
theorem five_list : "list" ∈ fiveT := by decide
theorem five_tuple : "tuple" ∈ fiveT := by decide
theorem tys2 {m n : String} : tysOf [.ty m, .ty n] = some [m, n] := rfl
theorem five2 : (∀ n ∈ ["list", "tuple"], n ∈ fiveT) = True := by decide
theorem eqR_bb {c : Bool} : eqR (.bl b) (.bl c) Q = Q (.bl (b == c)) := by simp [eqR, D.plain, eqD_bl]
theorem neR_bb {c : Bool} : neR (.bl b) (.bl c) Q = Q (.bl (!(b == c))) := by simp [neR, D.plain, eqD_bl]
theorem bff : (false == false) = true := rfl
theorem btt : (true == true) = true := rfl
theorem bft : (false == true) = false := rfl
theorem btf : (true == false) = false := rfl
end
theorem seq_ {q r : QS} {ρ : List Slot} {Φ : En} (h : q ρ { Φ with nx := fun ρ' => r ρ' Φ }) : qSeq q r ρ Φ := ⟨_, h, fun _ h => h⟩
theorem cut_ {q r : QS} {ρ : List Slot} {Φ : En} (I : List Slot → Prop) (h : q ρ { Φ with nx := I }) (h2 : ∀ ρ', I ρ' → r ρ' Φ) : qSeq q r ρ Φ := ⟨I, h, h2⟩
theorem if_ {b : Bool} {A B : Prop} (h1 : b = true → A) (h2 : b = false → B) : if b = true then A else B := by
  cases b
  · exact h2 rfl
  · exact h1 rfl
theorem ifd_ {p : Prop} [Decidable p] {A B : Prop} (h1 : p → A) (h2 : ¬ p → B) : if decide p = true then A else B := by
  by_cases h : p
  · rw [if_pos (decide_eq_true h)]; exact h1 h
  · rw [if_neg (by simp [h])]; exact h2 h
theorem ifnd_ {p : Prop} [Decidable p] {A B : Prop} (h1 : ¬ p → A) (h2 : p → B) : if (!decide p) = true then A else B := by
  by_cases h : p
  · rw [if_neg (by simp [h])]; exact h2 h
  · rw [if_pos (by simp [h])]; exact h1 h
/-- the source first, then the turns -/
theorem lc_ {qi : QI} {g : QG} {qt : QT} {qe : QE} {vs : List Nat} {ρ : List Slot} {Q : List D → Prop} (h : qi ρ fun items => lcB items g qt qe vs ρ Q) : qLc qi g qt qe vs ρ Q := h
theorem forb_ {qi : QI} {g : QG} {qb : QS} {ρ : List Slot} {Φ : En} (h : qi ρ fun items => forB items g qb ρ Φ) : qFor qi g qb ρ Φ := h
/-- a comprehension: the items mapped -/
theorem lcb_map {g : QG} {qe : QE} {vs : List Nat} {ρ : List Slot} {Q : List D → Prop} (α : Type) (xs : List α) (enc f : α → D) {items : List D} (he : items = xs.map enc)
    (hb : ∀ (k : Nat) (x : α), xs[k]? = some x → ∀ R : D → Prop, R (f x) → g (enc x) (wipeS ρ vs) fun ρ2 => qe ρ2 R)
    (hl : xs.length ≤ 90000) (hQ : Q (xs.map f)) : lcB items g qYes qe vs ρ Q := by
  subst he
  refine ⟨by simpa using hl, fun k acc => acc = (xs.take k).map f, rfl, fun k it acc e pv => ?_, fun acc e => ?_⟩
  · subst pv
    rw [List.getElem?_map] at e
    cases q : xs[k]? with
    | none => rw [q] at e; cases e
    | some x =>
      rw [q] at e
      cases e
      refine hb k x q _ ?_
      dsimp only
      rw [List.take_add_one, q, List.map_append]
      rfl
  · dsimp only at e
    rw [List.length_map, List.take_length] at e
    rw [e]; exact hQ
theorem lc_map {qi : QI} {g : QG} {qe : QE} {vs : List Nat} {ρ : List Slot} {Q : List D → Prop} (α : Type) (xs : List α) (enc f : α → D)
    (hb : ∀ (k : Nat) (x : α), xs[k]? = some x → ∀ R : D → Prop, R (f x) → g (enc x) (wipeS ρ vs) fun ρ2 => qe ρ2 R)
    (hl : xs.length ≤ 90000) (hQ : Q (xs.map f)) (hi : ∀ S : List D → Prop, S (xs.map enc) → qi ρ S) : qLc qi g qYes qe vs ρ Q := hi _ (lcb_map α xs enc f rfl hb hl hQ)
/-- .. with a test -/
theorem lcb_filter {g : QG} {qt : QT} {qe : QE} {vs : List Nat} {ρ : List Slot} {Q : List D → Prop} (α : Type) (xs : List α) (enc f : α → D) (p : α → Bool) {items : List D} (he : items = xs.map enc)
    (hb : ∀ (k : Nat) (x : α), xs[k]? = some x → ∀ (R : D → Prop) (S : Prop), (p x = true → R (f x)) → (p x = false → S) → g (enc x) (wipeS ρ vs) fun ρ2 => qt ρ2 fun b => if b = true then qe ρ2 R else S)
    (hl : xs.length ≤ 90000) (hQ : Q ((xs.filter p).map f)) : lcB items g qt qe vs ρ Q := by
  subst he
  refine ⟨by simpa using hl, fun k acc => acc = ((xs.take k).filter p).map f, rfl, fun k it acc e pv => ?_, fun acc e => ?_⟩
  · subst pv
    rw [List.getElem?_map] at e
    cases q : xs[k]? with
    | none => rw [q] at e; cases e
    | some x =>
      rw [q] at e
      cases e
      refine hb k x q _ _ (fun hp => ?_) (fun hp => ?_)
      · dsimp only
        rw [List.take_add_one, q, List.filter_append, List.map_append]
        simp [hp]
      · dsimp only
        rw [List.take_add_one, q, List.filter_append, List.map_append]
        simp [hp]
  · dsimp only at e
    rw [List.length_map, List.take_length] at e
    rw [e]; exact hQ
theorem lc_filter {qi : QI} {g : QG} {qt : QT} {qe : QE} {vs : List Nat} {ρ : List Slot} {Q : List D → Prop} (α : Type) (xs : List α) (enc f : α → D) (p : α → Bool)
    (hb : ∀ (k : Nat) (x : α), xs[k]? = some x → ∀ (R : D → Prop) (S : Prop), (p x = true → R (f x)) → (p x = false → S) → g (enc x) (wipeS ρ vs) fun ρ2 => qt ρ2 fun b => if b = true then qe ρ2 R else S)
    (hl : xs.length ≤ 90000) (hQ : Q ((xs.filter p).map f)) (hi : ∀ S : List D → Prop, S (xs.map enc) → qi ρ S) : qLc qi g qt qe vs ρ Q := hi _ (lcb_filter α xs enc f p rfl hb hl hQ)
/-- .. whose items are only known by a property -/
theorem lcb_all {g : QG} {qe : QE} {vs : List Nat} {ρ : List Slot} {Q : List D → Prop} (β : Type) {items : List D} (enc' : β → D) (P : β → Prop)
    (hb : ∀ (k : Nat) (x : D), items[k]? = some x → ∀ R : D → Prop, (∀ y, P y → R (enc' y)) → g x (wipeS ρ vs) fun ρ2 => qe ρ2 R)
    (hl : items.length ≤ 90000) (hQ : ∀ ys : List β, ys.length = items.length → (∀ y ∈ ys, P y) → Q (ys.map enc')) : lcB items g qYes qe vs ρ Q := by
  refine ⟨hl, fun k acc => ∃ ys : List β, ys.length = min k items.length ∧ (∀ y ∈ ys, P y) ∧ acc = ys.map enc', ⟨[], by simp, by simp, rfl⟩, fun k it acc e pv => ?_, fun acc e => ?_⟩
  · obtain ⟨ys, h1, h2, rfl⟩ := pv
    have hk : k < items.length := (List.getElem?_eq_some_iff.mp e).1
    refine hb k it e _ fun y hy => ⟨ys ++ [y], by simp; omega, ?_, by simp⟩
    intro z hz
    rcases List.mem_append.mp hz with hz | hz
    · exact h2 z hz
    · cases List.mem_singleton.mp hz; exact hy
  · obtain ⟨ys, h1, h2, rfl⟩ := e
    rw [Nat.min_self] at h1
    exact hQ ys h1 h2
/-- a for over data, by an invariant -/
theorem forb {items : List D} {g : QG} {qb : QS} {ρ : List Slot} {Φ : En} (Pv : Nat → List Slot → Prop) (h0 : Pv 0 ρ)
    (hs : ∀ (k : Nat) (it : D) (ρ' : List Slot), items[k]? = some it → Pv k ρ' → g it ρ' fun ρ2 => qb ρ2 { nx := Pv (k + 1), ct := Pv (k + 1), bk := Φ.nx, rt := Φ.rt, rn := Φ.rn })
    (hd : ∀ ρ', Pv items.length ρ' → Φ.nx ρ') : forB items g qb ρ Φ := Or.inl ⟨Pv, h0, hs, hd⟩
/-- turn by turn -/
theorem forr {items : List D} {g : QG} {qb : QS} {ρ : List Slot} {Φ : En} (h : forR g qb Φ items ρ) : forB items g qb ρ Φ := Or.inr h
theorem forR_c {x : D} {xs : List D} {g : QG} {qb : QS} {ρ : List Slot} {Φ : En} : forR g qb Φ (x :: xs) ρ = g x ρ fun ρ2 => qb ρ2 { nx := fun ρ3 => forR g qb Φ xs ρ3, ct := fun ρ3 => forR g qb Φ xs ρ3, bk := Φ.nx, rt := Φ.rt, rn := Φ.rn } := rfl
theorem forR_n {g : QG} {qb : QS} {ρ : List Slot} {Φ : En} : forR g qb Φ [] ρ = Φ.nx ρ := rfl
theorem for_ {qi : QI} {g : QG} {qb : QS} {ρ : List Slot} {Φ : En} (items : List D) (Pv : Nat → List Slot → Prop) (h0 : Pv 0 ρ)
    (hs : ∀ (k : Nat) (it : D) (ρ' : List Slot), items[k]? = some it → Pv k ρ' → g it ρ' fun ρ2 => qb ρ2 { nx := Pv (k + 1), ct := Pv (k + 1), bk := Φ.nx, rt := Φ.rt, rn := Φ.rn })
    (hd : ∀ ρ', Pv items.length ρ' → Φ.nx ρ') (hi : ∀ S : List D → Prop, S items → qi ρ S) : qFor qi g qb ρ Φ := hi _ (Or.inl ⟨Pv, h0, hs, hd⟩)
theorem rangeD_len' (n : Nat) : (rangeD 0 n).length = n := rangeD_len 0 n
end DL
local macro_rules | `(tactic| walk_at "dl") => `(tactic| try simp only [DL.qC, DL.qVar, DL.qOp, DL.qUn, DL.qNil, DL.qCons, DL.qTup, DL.qLst, DL.qLstN, DL.qCB, DL.qTest, DL.qTru, DL.qAnd, DL.qOr, DL.qNot, DL.qAndV, DL.qOrV, DL.qNotV, DL.qIf, DL.qChain, DL.qNext, DL.qSet, DL.qSetN, DL.qDrop, DL.qRet, DL.qRetL, DL.qRetO, DL.qCallN, DL.qIfS, DL.qPar, DL.qPar3, DL.qFrz, DL.frzS, DL.Ob.frz, DL.qAug, DL.iSq, DL.iRg1, DL.iRg2, DL.iZp, DL.iEn, DL.gN, DL.gT, DL.g0, DL.gC, DL.qAsg, DL.qLst', DL.qYes, DL.qCall, DL.qO0, DL.qO1, DL.qSl, DL.qX, DL.qApp, DL.qPopX, DL.qLenO, DL.qIxO, DL.qSetI, DL.qLRg, DL.qListN, DL.qParN, DL.startS, DL.wipeS, DL.isNon, DL.slotD_d, DL.slotO_o, DL.blR_b, DL.inI_i, DL.tupR_t, DL.consR_c, DL.two_c, DL.three_c, DL.addR_ii, DL.addR_ss, DL.addR_ll, DL.addR_tt, DL.subR_ii, DL.mulR_ii, DL.mulR_li, DL.fdivR_ii, DL.modR_ii, DL.powR_ii, DL.cmR_ii, DL.cmR_ss, DL.iiR_ii, DL.eqR_ii, DL.neR_ii, DL.eqR_ss, DL.negR_i, DL.ixR_li, DL.ixR_ti, DL.ixR_si, DL.isR_n, DL.isnR_n, DL.lenR_l, DL.lenR_t, DL.lenR_s, DL.absR_i, DL.intR_i, DL.intR_b, DL.tupleR_l, DL.tupleR_t, DL.listR_l, DL.listR_t, DL.listN_l, DL.listN_t, DL.allR_l, DL.anyR_l, DL.sumR_l, DL.zipR_l, DL.zipR_t, DL.enumR_l, DL.seqR_l, DL.seqR_t, DL.rg1R_i, DL.rg2R_i, DL.truR_n, DL.truR_b, DL.truR_i, DL.truR_l, DL.truR_t, DL.slR_l, DL.slR_t, DL.isiR_1, DL.isiR_2, DL.isT_nint, DL.isT_nbool, DL.isT_nstr, DL.isT_nlist, DL.isT_ntuple, DL.tyS_n, DL.isT_bint, DL.isT_bbool, DL.isT_bstr, DL.isT_blist, DL.isT_btuple, DL.tyS_b, DL.isT_iint, DL.isT_ibool, DL.isT_istr, DL.isT_ilist, DL.isT_ituple, DL.tyS_i, DL.isT_sint, DL.isT_sbool, DL.isT_sstr, DL.isT_slist, DL.isT_stuple, DL.tyS_s, DL.isT_tint, DL.isT_tbool, DL.isT_tstr, DL.isT_tlist, DL.isT_ttuple, DL.tyS_t, DL.isT_lint, DL.isT_lbool, DL.isT_lstr, DL.isT_llist, DL.isT_ltuple, DL.tyS_l, DL.five_int, DL.five_bool, DL.five_str, DL.five_list, DL.five_tuple, DL.tys2, DL.five2, DL.eqR_bb, DL.neR_bb, DL.bff, DL.btt, DL.bft, DL.btf, List.any_cons, List.any_nil, Bool.or_false, Bool.or_true, Bool.false_or, Bool.true_or, DL.at0, DL.at1, DL.at2, DL.at3, DL.at4, DL.ix51, DL.ix52, DL.ix53, DL.ix54,
  List.set_cons_zero, List.set_cons_succ, List.getElem?_cons_zero, List.getElem?_cons_succ, Option.some.injEq, exists_eq_left', exists_eq_left, and_true, true_and,
  List.map_cons, List.map_nil, List.length_cons, List.length_nil, List.replicate_succ, List.replicate_zero, List.cons_append, List.nil_append, Nat.reduceAdd, Nat.reduceSub, if_true, if_false, Bool.false_eq_true, Bool.not_true, Bool.not_false, ite_true, ite_false])
namespace DL
open PySem L2
/-! ### the law's draws -/
def sp_pull : SpD := fun β ds Q => ∃ b n, β = some b ∧ ds = [.adr b, .int n] ∧ 0 < n ∧ n.natAbs.log2 < 9000 ∧ ∀ d : Int, 0 ≤ d → d < n → Q (.int d)
/-- the bag as an owned list -/
def bagL (cells : List Int) (a l s n : Int) : List D := [.lst (cells.map D.int), .int a, .int l, .int s, .int n]
def BagI (cells : List Int) (a l s : Int) : Prop := 0 ≤ a ∧ 0 ≤ l ∧ 0 ≤ s ∧ s < 2147483399 ∧ cells.length ≤ 63
section
variable {P : Program} {w : World} {K : PySem.W.Frag} {mg : Str → Option Value} {base : Heap}
theorem Df.bag {x : Str} {st : Stmt} {p0 p1 : Str} {N : List Str} {k : Nat} (F : Df K mg x st [p0, p1]) (S : FnScope N [p0, p1] (defScope st))
    (body : ∀ (f : Addr) (cdv : Value) (A : Around) (outer : List Env) (s : Shared) (H : Hp) (E : XK) (c : Ctx), Room k (A.deeper (PyProof.Rows.envOfC x (defScope st) s.heap.objs.size f cdv)) →
      ∃ q, PDB c (cxOf CX0 P w K mg base N x (defScope st) f cdv A outer s H E).nox (defBody st) q ∧ ∀ (b : Addr) (cells : List Int) (a l t m n : Int), BagI cells a l t → 0 < n → n.natAbs.log2 < 9000 →
        q (.own b (.lst (bagL cells a l t m)) :: .d (.int n) :: List.replicate (N.length - 2) .un) { nx := fun _ => False, rt := fun d ρ => (∃ i : Int, d = .int i ∧ 0 ≤ i ∧ i < n) ∧ ∃ a l t m, BagI cells a l t ∧ ρ[0]? = some (.own b (.lst (bagL cells a l t m))) }) : Dn P w K mg base (k + 1) x [p0, p1] sp_pull := by
  obtain ⟨f, fd, F, m, bd⟩ := F
  refine ⟨f, fd, ?_, m, F.kp, bd⟩
  refine F.ok S (fun vs H Q E h => ?_) (fun cdv A outer s H vs R E hr h => ?_)
  · obtain ⟨β, G, ds, Q, r, _, _, ⟨b, n, _, e, _⟩, _⟩ := h
    subst e
    rw [r.1]; rfl
  · obtain ⟨β, G, ds, Q, r, gh, bg, ⟨b, n, rfl, rfl, hn, hn2, hQ⟩, kk⟩ := h
    obtain ⟨v0, v1, rfl, r0, r1⟩ := r.two
    cases r0
    cases r1
    obtain ⟨bo, c', cells, a, l, t, m', hb, hc, ha, hl, ht, ht2, hcl⟩ := (bg b rfl)
    obtain ⟨q, pb, hq⟩ := body f cdv A outer s H E ⟨none, G, fun z => if z = b then none else H z, fun _ => False⟩ hr
    obtain ⟨tr, p, sd⟩ := pb.ex
    have gb : ∀ z o, G z = some o → z ≠ b := fun z o e q => by subst q; rw [bo] at e; cases e
    have st0 : Sta ⟨none, G, fun z => if z = b then none else H z, fun _ => False⟩ G H (L2.start N [.ref b, .int n]) (.own b (.lst (bagL cells a l t m')) :: .d (.int n) :: List.replicate (N.length - 2) .un) := by
      have sub : ∀ z o, (if z = b then none else H z) = some o → H z = some o := fun z o h => by
        split at h
        · cases h
        · exact h
      refine ⟨⟨Same.refl G, fun z o h _ _ => sub z o h, fun z o h _ => by rw [sub z _ h]; simp, fun P t => t.ext sub, fun z o h _ n => absurd (h.symm.trans n) (by simp), gh, fun _ e => (by cases e), fun _ e => (by cases e)⟩, ?_, fun i s e => ?_, fun i j z xs ys h1 h2 => ?_⟩
      · simp [L2.start]
      · match i, e with
        | 0, e =>
          cases e
          refine ⟨rfl, bo, ?_, _, hb, .cons (.lst hc (by simp) (repL_ints cells).2) (.cons (.int _) (.cons (.int _) (.cons (.int _) (.cons (.int _) .nil))))⟩
          show (if b = b then none else H b) = none
          rw [if_pos rfl]
        | 1, e => cases e; exact ⟨_, rfl, .int n⟩
        | i + 2, e =>
          simp only [List.getElem?_cons_succ, List.getElem?_replicate] at e
          split at e
          · cases e; trivial
          · cases e
      · have key : ∀ (i : Nat) (z : Addr) (xs : Ob), (Slot.own b (.lst (bagL cells a l t m')) :: Slot.d (.int n) :: List.replicate (N.length - 2) Slot.un)[i]? = some (.own z xs) → i = 0 := by
          intro i z xs e
          match i, e with
          | 0, _ => rfl
          | 1, e => cases e
          | i + 2, e =>
            simp only [List.getElem?_cons_succ, List.getElem?_replicate] at e
            split at e
            · cases e
            · cases e
        rw [key i z xs h1, key j z ys h2]
    refine ⟨tr, p, sd _ _ G H _ _ st0 (hq b cells a l t m' n ⟨ha, hl, ht, ht2, hcl⟩ hn hn2) ⟨fun _ _ _ _ _ _ h => h.elim, fun v d ρ' σ' G' H' x s' rv h' => ?_, fun _ _ _ _ _ _ h => h.elim, fun _ _ _ _ _ _ h => h.elim, fun _ _ _ _ _ _ _ _ _ _ _ _ _ h => h.elim⟩⟩
    obtain ⟨⟨i, rfl, hi0, hin⟩, a', l', t', m2, ⟨ha', hl', ht', ht2', _⟩, e0⟩ := h'
    cases rv
    obtain ⟨z1, z2, z3, us, z4, z5⟩ := s'.sl 0 _ e0
    have sup : ∀ z o, z ≠ b → H z = some o → (if z = b then none else H z) = some o := fun z o n h => by
      rw [if_neg n]
      exact h
    refine kk (.int i) (.int i) G' H' ⟨s'.core.g0, fun z o h nz nt => s'.core.h0 z o (sup z o (fun q => nz (by rw [q])) h) (by simp) nt, fun z o h t => s'.core.tn z o (sup z _ (fun q => by subst q; rw [hb] at h; cases h; exact t nt_lst) h) t, fun P t => s'.core.tb P ?_, s'.core.gh, fun z o h nt n => ?_, fun b' e => ?_⟩ (.int i) (hQ i hi0 hin)
    · obtain ⟨ps, h1, h2, h3⟩ := t
      refine ⟨ps, sup _ _ (fun q => by subst q; rw [hb] at h1; cases h1) h1, h2, fun pos cv hc => ?_⟩
      obtain ⟨c0, e1, e2⟩ := h3 pos cv hc
      exact ⟨c0, e1, sup _ _ (fun q => by subst q; rw [hb] at e2; unfold LamX.CodeO at e2; cases e2) e2⟩
    · have h1 := s'.core.nw z o h nt n
      have h1 : (if z = b then none else H z) = none := h1
      by_cases q : z = b
      · subst q; rw [z2] at h; cases h
      · rw [if_neg q] at h1; exact h1
    · cases e
      refine ⟨z2, ?_⟩
      obtain ⟨w0, r0, rfl, q0, z5⟩ := z5.inv
      obtain ⟨w1, r1, rfl, q1, z5⟩ := z5.inv
      obtain ⟨w2, r2, rfl, q2, z5⟩ := z5.inv
      obtain ⟨w3, w4, rfl, q3, q4⟩ := z5.two
      cases q1; cases q2; cases q3; cases q4
      cases q0 with
      | lst e n q =>
        have := RepL.ints ⟨n, q⟩
        subst this
        exact ⟨_, cells, a', l', t', m2, z4, e, ha', hl', ht', ht2', hcl⟩
/-! the script: a slot that holds it raw -/
def qScr (i : Nat) (a : Addr) (ns : List Int) (ql qh : QO) : QE := fun ρ Q => ρ[i]? = some (.raw (.ref a)) ∧ ql ρ fun l => qh ρ fun h => Q (.lst (cutD (ns.map D.int) l h))
theorem dscr (i : Nat) {c : Ctx} {X : Cx} {x : Str} {a : Addr} {ns : List Int} {lo hi : Option Expr} {ql qh : QO} {npos p2 pos : Pos} (hS : SqL X.K c.H0 a (ns.map V.int)) (hβ : c.β = none) (hl : PDO c X lo ql) (hh : PDO c X hi qh) (hN : X.N[i]? = some x := by rfl) (hv : Vis X.env.scope x := by first | exact Or.inl rfl | exact Or.inr (Or.inl rfl) | exact Or.inr (Or.inr rfl)) (hd : (x == ("__debug__" : Str)) = false := by decide)
    (hcd : (x == ("__classdict__" : Str)) = false := by decide) : PD c X (.Subscript (.Name x npos) (.Slice lo hi none p2) pos) (qScr i a ns ql qh) := by
  obtain ⟨tl, pl, sl⟩ := hl.ex
  obtain ⟨th, ph, sh⟩ := hh.ex
  refine ⟨_, pe_slice sl_list (pe_var hN hv hd hcd) pl ph, fun ρ σ G H Q R s h k => ?_⟩
  obtain ⟨e, h⟩ := h
  have z := s.sl i _ e
  refine ⟨.ref a, z, ?_⟩
  refine sl ρ σ G H _ _ s h fun o1 G2 H2 g2 h => ?_
  have s2 := s.grow g2
  refine sh ρ σ G2 H2 _ _ s2 h fun o2 G3 H3 g3 h => ?_
  have s3 := s2.grow g3
  have gg := g2.trans g3 s.hb
  have hS3 : SqL X.K H3 a (ns.map V.int) := by
    rcases hS with (h | ⟨o, h⟩) | h
    · exact .inl (.inl (s3.core.h0 a _ h (by rw [hβ]; simp) nt_lst))
    · exact .inl (.inr ⟨o, s3.core.h0 a _ h (by rw [hβ]; simp) nt_frz⟩)
    · exact .inr h
  exact ⟨a, _, rfl, hS3, fun p hp => opd_lst s3.core.gh s3.core.bg (fun v d G' H' g r q => k v d G' H' (gg.trans g s.hb) r q) hp (RepL.cut (repL_ints ns) _ _) h⟩
/-- all but tables stays, what the tables tell stays -/
def ExN (H H' : Hp) : Prop := (∀ a o, H a = some o → NT o → H' a = some o) ∧ ∀ P, TabL H P → TabL H' P
/-- the promise of the law's bag -/
def spBag (K : PySem.W.Frag) : Sp := fun vs H R _ => ∃ (a : Addr) (ns : List Int), vs = [.ref a] ∧ SqL K H a (ns.map V.int) ∧ ns.length ≤ 63 ∧ ∀ (b : Addr) (G H' : Hp), ExN H H' → (∀ a o, G a = some o → NCo o → H a = none) → Ex G H' → H b = none → Bag G H' b → R (.ref b) H'
/-- a def with a promise of another form -/
def DnS (P : Program) (w : World) (K : PySem.W.Frag) (mg : Str → Option Value) (base : Heap) (k : Nat) (x : Str) (ps : List Str) (sp : Sp) : Prop :=
  ∃ f fd, FnOk P w K mg base CX0 k f fd ps sp ∧ mg x = some (.ref f) ∧ PySem.W.keepIn K (.ref f) = true ∧ Binds K fd ps []
theorem cut63 (ns : List Int) (h : ns.length ≤ 63) : cutD (ns.map D.int) none (some 63) = ns.map D.int := by
  unfold cutD
  rw [HT.sIx_none, show HT.sIx (ns.map D.int).length (ns.map D.int).length (some 63) = min 63 (ns.map D.int).length from HT.sIx_nat _ _ 63, List.drop_zero, Nat.sub_zero]
  rw [List.length_map, Nat.min_eq_right h, ← List.length_map (f := D.int) (as := ns), List.take_length]
theorem Df.mkbag {x : Str} {st : Stmt} {p0 : Str} {N : List Str} {k : Nat} (F : Df K mg x st [p0]) (S : FnScope N [p0] (defScope st))
    (body : ∀ (f : Addr) (cdv : Value) (A : Around) (outer : List Env) (s : Shared) (H : Hp) (E : XK) (c : Ctx) (a : Addr) (ns : List Int), SqL K c.H0 a (ns.map V.int) → c.β = none → ns.length ≤ 63 → Room k (A.deeper (PyProof.Rows.envOfC x (defScope st) s.heap.objs.size f cdv)) →
      ∃ q, PDB c (cxOf CX0 P w K mg base N x (defScope st) f cdv A outer s H E).nox (defBody st) q ∧
        q (.raw (.ref a) :: List.replicate (N.length - 1) .un) { nx := fun _ => False, rt := fun d _ => ∃ t : Int, 0 ≤ t ∧ t < 2147483399 ∧ d = .lst (bagL ns 0 0 t 0) }) : DnS P w K mg base (k + 1) x [p0] (spBag K) := by
  obtain ⟨f, fd, F, m, bd, _⟩ := F
  refine ⟨f, fd, ?_, m, F.kp, bd⟩
  refine F.ok S (fun vs H Q E h => ?_) (fun cdv A outer s H vs R E hr h => ?_)
  · obtain ⟨a, ns, rfl, _⟩ := h; rfl
  · obtain ⟨a, ns, rfl, hS, hl, kk⟩ := h
    obtain ⟨q, pb, hq⟩ := body f cdv A outer s H E ⟨none, fun _ => none, H, fun _ => False⟩ a ns hS rfl hl hr
    obtain ⟨tr, p, sd⟩ := pb.ex
    have st0 : Sta ⟨none, fun _ => none, H, fun _ => False⟩ (fun _ => none) H (L2.start N [.ref a]) (.raw (.ref a) :: List.replicate (N.length - 1) .un) := by
      refine ⟨⟨Same.refl _, fun z o h _ _ => h, fun z o h _ => by rw [show H z = _ from h]; simp, fun _ t => t, fun z o h _ _ => (by cases h), fun z o h => (by cases h), fun _ e => (by cases e), fun _ e => (by cases e)⟩, by simp [L2.start], fun i s e => ?_, fun i j z xs ys h1 h2 => ?_⟩
      · match i, e with
        | 0, e => cases e; rfl
        | i + 1, e =>
          simp only [List.getElem?_cons_succ, List.getElem?_replicate] at e
          split at e
          · cases e; trivial
          · cases e
      · exfalso
        match i, h1 with
        | 0, e => cases e
        | i + 1, e =>
          simp only [List.getElem?_cons_succ, List.getElem?_replicate] at e
          split at e
          · cases e
          · cases e
    refine ⟨tr, p, sd _ _ _ H _ _ st0 hq ⟨fun _ _ _ _ _ _ h => h.elim, fun v d ρ' σ' G' H' x s' rv h' => ?_, fun _ _ _ _ _ _ h => h.elim, fun _ _ _ _ _ _ h => h.elim, fun _ _ _ _ _ _ _ _ _ _ _ _ _ h => h.elim⟩⟩
    obtain ⟨t, ht, ht2, rfl⟩ := h'
    cases rv with
    | lst e n q =>
      rename_i b vs
      have r : RepL G' vs (bagL ns 0 0 t 0) := ⟨n, q⟩
      obtain ⟨w0, r0, rfl, q0, z5⟩ := r.inv
      obtain ⟨w1, r1, rfl, q1, z5⟩ := z5.inv
      obtain ⟨w2, r2, rfl, q2, z5⟩ := z5.inv
      obtain ⟨w3, w4, rfl, q3, q4⟩ := z5.two
      cases q1; cases q2; cases q3; cases q4
      cases q0 with
      | lst e' n' q' =>
        rename_i c' vs'
        have := RepL.ints ⟨n', q'⟩
        subst this
        have ne : c' ≠ b := fun z => by
          subst z
          rw [e] at e'
          injection e' with e'
          injection e' with e'
          cases ns with
          | nil => cases e'
          | cons x xs => injection e' with e1 _; cases e1
        refine kk b (fun z => if z = b then none else G' z) H' ⟨fun z o h nt => s'.core.h0 z o h (by simp) nt, s'.core.tb⟩ (fun z o h nc => ?_) (fun z o h => ?_) (s'.core.nw b _ e ⟨nt_lst.2, fun _ z => by cases z⟩ rfl) ⟨if_pos rfl, ?_⟩
        · have h : (if z = b then none else G' z) = some o := h
          split at h
          · cases h
          · exact s'.core.nw z o h nc rfl
        · have h : (if z = b then none else G' z) = some o := h
          split at h
          · cases h
          · exact s'.core.gh z o h
        · refine ⟨c', ns, 0, 0, t, 0, s'.core.gh _ _ e, ?_, by decide, by decide, ht, ht2, hl⟩
          show (if c' = b then none else G' c') = _
          rw [if_neg ne]
          exact e'
/-- the law itself: its first statement makes the bag -/
def spLaw (K : PySem.W.Frag) : Sp := fun vs H Q _ => ∃ (a : Addr) (ns : List Int), vs = [.ref a] ∧ SqL K H a (ns.map V.int) ∧ ns.length ≤ 63 ∧ ∀ H', Q (.bl true) H'
theorem Df.law {x y : Str} {st : Stmt} {p0 b0 : Str} {N : List Str} {k kb i : Nat} {rest : List Stmt} {pn p1 p2 p3 p4 : Pos} {pb : List Str} (F : Df K mg x st [p0]) (S : FnScope N [p0] (defScope st)) (DB : DnS P w K mg base kb y pb (spBag K)) (hk : kb ≤ k)
    (hb : defBody st = .Assign [.Name b0 p1] (.Call (.Name y p2) [.Name p0 p3] [] p4) pn :: rest)
    (ht : ∀ (f : Addr) (cdv : Value) (A : Around) (outer : List Env) (s : Shared) (H : Hp) (E : XK), Room k (A.deeper (PyProof.Rows.envOfC x (defScope st) s.heap.objs.size f cdv)) → Room kb (A.deeper (PyProof.Rows.envOfC x (defScope st) s.heap.objs.size f cdv)) → 
      ∀ (f2 : Addr) (fd2 : FuncData), FnOk P w K mg base CX0 kb f2 fd2 pb (spBag K) → mg y = some (.ref f2) → PySem.W.keepIn K (.ref f2) = true → Binds K fd2 pb [] →
      PS (cxOf CX0 P w K mg base N x (defScope st) f cdv A outer s H E).nox (.Assign [.Name b0 p1] (.Call (.Name y p2) [.Name p0 p3] [] p4) pn) (tAsg (tCall (spBag K) [] E0 (tCons (tVar 0) tNil)) (gName i)))
    (body : ∀ (f : Addr) (cdv : Value) (A : Around) (outer : List Env) (s : Shared) (H : Hp) (E : XK) (c : Ctx), Room k (A.deeper (PyProof.Rows.envOfC x (defScope st) s.heap.objs.size f cdv)) →
      ∃ q, PDB c (cxOf CX0 P w K mg base N x (defScope st) f cdv A outer s H E).nox rest q ∧ ∀ b, c.β = some b →
        q ((List.replicate N.length Slot.un).set i (.d (.adr b))) { nx := fun _ => False, rt := fun d _ => d = .bl true }) : ∃ f fd, Fun K x x st f fd ∧ mg x = some (.ref f) ∧ FnOk P w K mg base CX0 (k + 1) f fd [p0] (spLaw K) := by
  obtain ⟨f, fd, F, m, bd⟩ := F
  refine ⟨f, fd, F, m, ?_⟩
  refine F.ok S (fun vs H Q E h => ?_) (fun cdv A outer s H vs R E hr h => ?_)
  · obtain ⟨a, ns, rfl, _⟩ := h; rfl
  · obtain ⟨a, ns, rfl, hS, hl, kk⟩ := h
    obtain ⟨f2, fd2, F2, m2, k2, b2⟩ := DB
    have p1' := ht f cdv A outer s H E hr (hr.mono hk) f2 fd2 F2 m2 k2 b2
    rw [hb]
    -- the reading of the rest, whatever the bag is
    have key : ∀ (b : Addr) (G H' : Hp), Ex G H' → Bag G H' b → ∃ t, PSs (cxOf CX0 P w K mg base N x (defScope st) f cdv A outer s H E).nox rest t ∧ t { nx := fun _ H' => R .non H', rt := R } ((L2.start N [.ref a]).set i (some (.ref b))) H' := by
      intro b G H' gh B
      obtain ⟨q, pb', hq⟩ := body f cdv A outer s H E ⟨some b, G, H', fun _ => False⟩ hr
      obtain ⟨tr, p, sd⟩ := pb'.ex
      have hNlen : 1 ≤ N.length := by
        have := S.pre
        have h2 := congrArg List.length this
        simp at h2
        omega
      have st0 : Sta ⟨some b, G, H', fun _ => False⟩ G H' (L2.start N [.ref a]) (List.replicate N.length Slot.un) := by
        refine ⟨⟨Same.refl _, fun z o h _ _ => h, fun z o h _ => by rw [show H' z = _ from h]; simp, fun _ t => t, fun z o h _ n => absurd (h.symm.trans n) (by simp), gh, fun b' e => (by cases e; exact B), fun b' e => ?_⟩, ?_, fun i s e => ?_, fun i j z xs ys h1 h2 => ?_⟩
        · cases e
          obtain ⟨c', cells, x1, x2, x3, x4, hb, _⟩ := B.is
          show H' b ≠ none
          rw [hb]; simp
        · simp [L2.start]; omega
        · rw [List.getElem?_replicate] at e
          split at e
          · cases e; trivial
          · cases e
        · rw [List.getElem?_replicate] at h1
          split at h1
          · cases h1
          · cases h1
      refine ⟨tr, p, sd _ _ G H' _ _ (st0.setD (.adr b)) (hq b rfl) ⟨fun _ _ _ _ _ _ h => h.elim, fun v d ρ' σ' G2 H2 x s' rv h' => ?_, fun _ _ _ _ _ _ h => h.elim, fun _ _ _ _ _ _ h => h.elim, fun _ _ _ _ _ _ _ _ _ _ _ _ _ h => h.elim⟩⟩
      subst h'
      cases rv
      exact kk H2
    let tr : TS := fun D' σ' H'' => ∃ t, PSs (cxOf CX0 P w K mg base N x (defScope st) f cdv A outer s H E).nox rest t ∧ t D' σ' H''
    have prest : PSs (cxOf CX0 P w K mg base N x (defScope st) f cdv A outer s H E).nox rest tr := ⟨fun pins sh σ' H'' D' I hw => by
      obtain ⟨t, pt, ht⟩ := hw
      exact pt.run pins sh σ' H'' D' I ht⟩
    refine ⟨_, pss_cons p1' prest, ?_⟩
    refine ⟨.ref a, rfl, ?_⟩
    exact ⟨a, ns, rfl, hS, hl, fun b G H' e1 _ e2 hn B => key b G H' e2 B⟩
end
end DL

namespace DL
open PySem L2
/-- what the top has left of a def -/
def Hd (K : PySem.W.Frag) (x : Str) (st : Stmt) : Prop := ∃ (f : Addr) (oc : Value) (od : Option Addr) (kV dc pm : Value) (an : Option Addr) (cd ct : Value) (sl : Array (Option Value)),
  PySem.W.nsIn K mainGlobals x = some (some (.ref f)) ∧ K.lookup f = some ⟨oc, od, .func (PySem.W.fnOf x x (defArgs st) (defBody st) (defScope st) .none kV dc pm an cd ct), sl⟩ ∧ PySem.W.codeIn K cd x = true ∧ PySem.W.keepIn K (.ref f) = true
theorem hd_mk {K : PySem.W.Frag} {x : Str} {st : Stmt} {f : Addr} {oc : Value} {od : Option Addr} {kV dc pm : Value} {an : Option Addr} {cd ct : Value} {sl : Array (Option Value)} (a : PySem.W.nsIn K mainGlobals x = some (some (.ref f))) (l : K.lookup f = some ⟨oc, od, .func (PySem.W.fnOf x x (defArgs st) (defBody st) (defScope st) .none kV dc pm an cd ct), sl⟩)
    (c : PySem.W.codeIn K cd x = true) (k : PySem.W.keepIn K (.ref f) = true) : Hd K x st := ⟨f, oc, od, kV, dc, pm, an, cd, ct, sl, a, l, c, k⟩
theorem Hd.df {K : PySem.W.Frag} {h : Heap} {mg : Str → Option Value} {x : Str} {st : Stmt} {ps : List Str} (X : K.In h) (G : h.Ns mainGlobals mg) (H : Hd K x st) (hp : ps ≠ [])
    (hb : ∀ (kV doc pm : Value) (an : Option Addr) (cdv ct : Value) (us : List Value), us.length = ps.length → bindArgs (PySem.W.fnOf x x (defArgs st) (defBody st) (defScope st) .none kV doc pm an cdv ct) ⟨us, []⟩ = pure (ps.zip us))
    (hk : ∀ (kV doc pm : Value) (an : Option Addr) (cdv ct : Value) (ws : List Value), ws.length = ps.length → bindArgs (PySem.W.fnOf x x (defArgs st) (defBody st) (defScope st) .none kV doc pm an cdv ct) ⟨[], ps.zip ws⟩ = pure (ps.zip ws)) : Df K mg x st ps := by
  obtain ⟨f, oc, od, kV, dc, pm, an, cd, ct, sl, a, l, c, k⟩ := H
  have F := fun_mk (st := st) l c k
  exact ⟨f, _, F, PySem.W.mg_of X G a, F.binds hb, Fun.kb F hp hk, ⟨_, _, _, l⟩⟩
/-- the built-ins' names, as the head tells them -/
structure BiH (K : PySem.W.Frag) : Prop where
  abs : PySem.W.nsIn K mainGlobals "abs" = some none
  all : PySem.W.nsIn K mainGlobals "all" = some none
  any : PySem.W.nsIn K mainGlobals "any" = some none
  bool : PySem.W.nsIn K mainGlobals "bool" = some none
  dict : PySem.W.nsIn K mainGlobals "dict" = some none
  enumerate : PySem.W.nsIn K mainGlobals "enumerate" = some none
  int : PySem.W.nsIn K mainGlobals "int" = some none
  isinstance : PySem.W.nsIn K mainGlobals "isinstance" = some none
  len : PySem.W.nsIn K mainGlobals "len" = some none
  list : PySem.W.nsIn K mainGlobals "list" = some none
  max : PySem.W.nsIn K mainGlobals "max" = some none
  min : PySem.W.nsIn K mainGlobals "min" = some none
  range : PySem.W.nsIn K mainGlobals "range" = some none
  repr : PySem.W.nsIn K mainGlobals "repr" = some none
  sorted : PySem.W.nsIn K mainGlobals "sorted" = some none
  str : PySem.W.nsIn K mainGlobals "str" = some none
  sum : PySem.W.nsIn K mainGlobals "sum" = some none
  tuple : PySem.W.nsIn K mainGlobals "tuple" = some none
  zip : PySem.W.nsIn K mainGlobals "zip" = some none
theorem BiH.bi {K : PySem.W.Frag} {h : Heap} {mg : Str → Option Value} (X : K.In h) (G : h.Ns mainGlobals mg) (b : BiH K) : Bi mg := by
  have m : ∀ {x : Str}, PySem.W.nsIn K mainGlobals x = some none → mg x = none := fun z => PySem.W.mg_none_of X G z
  exact ⟨m b.abs, m b.all, m b.any, m b.bool, m b.dict, m b.enumerate, m b.int, m b.isinstance, m b.len, m b.list, m b.max, m b.min, m b.range, m b.repr, m b.sorted, m b.str, m b.sum, m b.tuple, m b.zip⟩
/-- from the law's promise to the row's end -/
theorem law_end {P : Program} {w : World} {K : PySem.W.Frag} {mg : Str → Option Value} {st : Stmt} {k : Nat} {fa : Addr} {h : Heap} (X : K.In h) (G : h.Ns mainGlobals mg) (HL : Hd K "law" st) (hfa : mg "law" = some (.ref fa))
    (hb : ∀ (kV doc pm : Value) (an : Option Addr) (cdv ct : Value) (s : Shared) (u : Value), BindsTo s (PySem.W.fnOf "law" "law" (defArgs st) (defBody st) (defScope st) .none kV doc pm an cdv ct) ⟨[u], []⟩ [("_law_script", u)])
    (F : ∀ base : Heap, K.In base → base.Ns mainGlobals mg → ∃ f fd, Fun K "law" "law" st f fd ∧ mg "law" = some (.ref f) ∧ FnOk P w K mg base CX0 k f fd ["_law_script"] (spLaw K)) :
    ∃ fd : FuncData, (∀ (s : Shared) (u : Value), BindsTo s fd ⟨[u], []⟩ [("_law_script", u)]) ∧ ∀ base : Heap, K.In base → base.Ns mainGlobals mg → FnOk P w K mg base CX0 k fa fd ["_law_script"] (spLaw K) := by
  obtain ⟨f, oc, od, kV, dc, pm, an, cd, ct, sl, a, l, c, kp⟩ := HL
  have e := hfa.symm.trans (PySem.W.mg_of X G a)
  cases e
  refine ⟨_, fun s u => hb kV dc pm an cd ct s u, fun base X' G' => ?_⟩
  obtain ⟨f', fd', F', m', ok⟩ := F base X' G'
  rw [hfa] at m'
  cases m'
  obtain ⟨oc', od', kV', doc', pm', an', cdv', ct', osl', rfl, lk, hcd⟩ := F'.ex
  rw [l] at lk
  injection lk with lk
  injection lk with _ _ e3 _
  injection e3 with e3
  rw [e3]
  exact ok
end DL

namespace DL
open PySem L2
/-! ### comprehensions with two clauses -/
def rdI (c : Ctx) (q : QI) : TI := fun σ H R => ∃ (ρ : List Slot) (G : Hp) (Q : List D → Prop), Sta c G H σ ρ ∧ q ρ Q ∧ ∀ J items G' H', Grow c.β G H G' H' → Walks c J G' items → Q items → R J H'
theorem PDI.can {c : Ctx} {X : Cx} {tg iter : Expr} {q : QI} (h : PDI c X tg iter q) : PI X tg iter (rdI c q) := by
  obtain ⟨t, p, s⟩ := h.ex
  refine ⟨fun pins sh σ H Q I hw => p.run pins sh σ H Q I ?_⟩
  obtain ⟨ρ, G, Q', st, hq, k⟩ := hw
  exact s ρ σ G H Q' Q st hq k
theorem snd_rdI {c : Ctx} {q : QI} : SndI c (rdI c q) q := fun ρ σ G H Q R s h k => ⟨ρ, G, Q, s, h, k⟩
def lc2B (items : List D) (g : QG) (qt : QT) (qi1 : QI) (g1 : QG) (qt1 : QT) (qe : QE) (vs vs1 : List Nat) (ρ : List Slot) (Q : List D → Prop) : Prop := ∃ Pv : Nat → List D → Prop, Pv 0 [] ∧
  (∀ (k : Nat) (it : D) (acc : List D), items[k]? = some it → Pv k acc → g it (wipeS ρ vs) fun ρ2 => qt ρ2 fun b => if b = true then qi1 ρ2 fun items1 => ∃ Pw : Nat → List D → Prop, Pw 0 acc ∧
    (∀ (j : Nat) (it1 : D) (acc1 : List D), items1[j]? = some it1 → Pw j acc1 → acc1.length < 90000 ∧ g1 it1 (wipeS ρ2 vs1) fun ρ3 => qt1 ρ3 fun b1 => if b1 = true then qe ρ3 (fun d => Pw (j + 1) (acc1 ++ [d])) else Pw (j + 1) acc1) ∧
    ∀ acc1, Pw items1.length acc1 → Pv (k + 1) acc1 else Pv (k + 1) acc) ∧ ∀ acc, Pv items.length acc → Q acc
def qLc2 (qi : QI) (g : QG) (qt : QT) (qi1 : QI) (g1 : QG) (qt1 : QT) (qe : QE) (vs vs1 : List Nat) : QA := fun ρ Q => qi ρ fun items => lc2B items g qt qi1 g1 qt1 qe vs vs1 ρ Q
theorem snd_lc2 {c : Ctx} {wi wi1 : TI} {g' g1' : TG} {tt tt1 : TT} {te : TE} {qi qi1 : QI} {g g1 : QG} {qt qt1 : QT} {qe : QE} {ws ws1 vs vs1 : List Nat} (hw : ∀ w ∈ ws, w ∈ vs) (hw1 : ∀ w ∈ ws1, w ∈ vs1)
    (si : SndI c wi qi) (sg : SndG c g' g ws) (st : SndT c tt qt) (si1 : SndI c wi1 qi1) (sg1 : SndG c g1' g1 ws1) (st1 : SndT c tt1 qt1) (se : SndE c te qe) : SndL c (tLc2 wi g' tt wi1 g1' tt1 te vs vs1) (qLc2 qi g qt qi1 g1 qt1 qe vs vs1) := by
  intro ρ σ G H Q R s h k
  refine si ρ σ G H _ _ s h fun J items G0 H0 g0 wk hq D' hD => ?_
  obtain ⟨Pv, p0, turn, fin⟩ := hq
  have s0 := s.grow g0
  have nb : some D' ≠ c.β := fun e => by
    obtain ⟨c', cells, x1, x2, x3, x4, hb, _⟩ := (s0.core.bg D' e.symm).is
    rw [hb] at hD; cases hD
  have hD0 : H D' = none := g0.fr hD
  have z := free_of (G' := G) (H' := H) s hD0
  have gD := s0.core.gh.free hD
  have gf := Grow.fresh (β := c.β) (o := .lst []) s0.core.gh s0.core.bg hD
  have keepD : ∀ {Ga Ha Gb Hb : Hp} {u : List V}, Grow c.β Ga Ha Gb Hb → Ga D' = none → Ha D' = some (.lst u) → Gb D' = none ∧ Hb D' = some (.lst u) := fun {Ga Ha Gb Hb u} gr h1 h2 => by
    exact ⟨gr.own h2 nt_lst (fun _ z => by cases z) nb h1, gr.hh _ _ h2 nb nt_lst⟩
  -- the new list may grow
  have app : ∀ {Ga Ha : Hp} {o : HO} {us : List V}, Grow c.β G H Ga Ha → Ga D' = none → Ha D' = some (.lst us) → Grow c.β G H Ga (upd Ha D' o) := fun {Ga Ha o us} gr n hu => gr.put hD0 n hu nt_lst nb
  refine ⟨fun i m H' => ∃ G' us acc, i + m = items.length ∧ Grow c.β G H G' H' ∧ Ex G0 G' ∧ G' D' = none ∧ H' D' = some (.lst us) ∧ RepL G' us acc ∧ Pv i acc, ⟨items.length, G0, [], [], by omega, g0.trans gf s.hb, Same.refl _, gD, upd_same, .nil, p0⟩, fun i m H' hW => ?_⟩
  obtain ⟨G', us, acc, hm, gg, ex, nD, hh, ra, pv⟩ := hW
  have s' := s.grow gg
  have w := wk G' H' ex s'.core.gh s'.core.bg s'.core.h0
  by_cases hi : i < items.length
  · obtain ⟨go, yl⟩ := w.1 i items[i] (List.getElem?_eq_getElem hi)
    refine .inr ⟨go, fun H2 => ∃ G2 us acc, Grow c.β G H G2 H2 ∧ Ex G0 G2 ∧ G2 D' = none ∧ H2 D' = some (.lst us) ∧ RepL G2 us acc ∧ Pv (i + 1) acc, fun H2 ⟨G2, us, acc, x1, x2, x3, x4, x5, x6⟩ => ⟨m - 1, by omega, G2, us, acc, by omega, x1, x2, x3, x4, x5, x6⟩, fun x H2 y => ?_⟩
    obtain ⟨G2, g2, r2⟩ := yl x H2 y
    obtain ⟨nD2, hh2⟩ := keepD g2 nD hh
    have gg2 := gg.trans g2 s.hb
    have s2 := (s.grow gg2).wipe vs
    refine sg x _ (wipeS ρ vs) (L2.wipe σ vs) G2 H2 _ _ s2 r2 (turn i _ acc (List.getElem?_eq_getElem hi) pv) fun ρ3 σ3 s3 w3 o3 h3 => ⟨?_, ?_⟩
    · rw [w3 vs hw]
      exact wipe_wipe σ vs
    · have own3 : ∀ (j : Nat) (xs : Ob), ρ3[j]? = some (.own D' xs) → False := fun j xs e => z.2 j xs (wipeS_own ρ vs j D' xs (o3 j D' xs e))
      refine st ρ3 σ3 G2 H2 _ _ s3 h3 fun b G3 H3 g3 h4 => ?_
      obtain ⟨nD3, hh3⟩ := keepD g3 nD2 hh2
      have gg3 := gg2.trans g3 s.hb
      cases b with
      | false => exact ⟨G3, us, acc, gg3, (ex.trans g2.gg).trans g3.gg, nD3, hh3, (ra.mono g2.gg).mono g3.gg, h4⟩
      | true =>
        have s3' := s3.grow g3
        refine si1 ρ3 σ3 G3 H3 _ _ s3' h4 fun J1 items1 G4 H4 g4 wk1 hq1 => ?_
        obtain ⟨Pw, q0, turn1, fin1⟩ := hq1
        obtain ⟨nD4, hh4⟩ := keepD g4 nD3 hh3
        have gg4 := gg3.trans g4 s.hb
        have s4 := s3'.grow g4
        have ex4 : Ex G0 G4 := ((ex.trans g2.gg).trans g3.gg).trans g4.gg
        refine ⟨fun j kk H' => ∃ G' us acc1, j + kk = items1.length ∧ Grow c.β G H G' H' ∧ Ex G4 G' ∧ Sta c G' H' σ3 ρ3 ∧ G' D' = none ∧ H' D' = some (.lst us) ∧ RepL G' us acc1 ∧ Pw j acc1, ⟨items1.length, G4, us, acc, by omega, gg4, Same.refl _, s4, nD4, hh4, (((ra.mono g2.gg).mono g3.gg).mono g4.gg), q0⟩, fun j kk H5 hW => ?_⟩
        obtain ⟨G5, us5, acc5, hm5, gg5, ex5, s5, nD5, hh5, ra5, pw5⟩ := hW
        have w1 := wk1 G5 H5 ex5 s5.core.gh s5.core.bg s5.core.h0
        by_cases hj : j < items1.length
        · obtain ⟨go1, yl1⟩ := w1.1 j items1[j] (List.getElem?_eq_getElem hj)
          refine .inr ⟨go1, fun H6 => ∃ G6 us acc1, Grow c.β G H G6 H6 ∧ Ex G4 G6 ∧ Sta c G6 H6 σ3 ρ3 ∧ G6 D' = none ∧ H6 D' = some (.lst us) ∧ RepL G6 us acc1 ∧ Pw (j + 1) acc1, fun H6 ⟨G6, us, acc, x1, x2, x3, x4, x5, x6, x7⟩ => ⟨kk - 1, by omega, G6, us, acc, by omega, x1, x2, x3, x4, x5, x6, x7⟩, fun x H6 y => ?_⟩
          obtain ⟨G6, g6, r6⟩ := yl1 x H6 y
          obtain ⟨nD6, hh6⟩ := keepD g6 nD5 hh5
          have gg6 := gg5.trans g6 s.hb
          have s6 := s5.grow g6
          obtain ⟨hlen, ht5⟩ := turn1 j _ acc5 (List.getElem?_eq_getElem hj) pw5
          refine sg1 x _ (wipeS ρ3 vs1) (L2.wipe σ3 vs1) G6 H6 _ _ (s6.wipe vs1) r6 ht5 fun ρ7 σ7 s7 w7 o7 h7 => ⟨?_, ?_⟩
          · rw [w7 vs1 hw1]
            exact wipe_wipe σ3 vs1
          · refine st1 ρ7 σ7 G6 H6 _ _ s7 h7 fun b G7 H7 g7 h8 => ?_
            obtain ⟨nD7, hh7⟩ := keepD g7 nD6 hh6
            have gg7 := gg6.trans g7 s.hb
            have s67 := s6.grow g7
            cases b with
            | false => exact ⟨G7, us5, acc5, gg7, (ex5.trans g6.gg).trans g7.gg, s67, nD7, hh7, (ra5.mono g6.gg).mono g7.gg, h8⟩
            | true =>
              refine se ρ7 σ7 G7 H7 _ _ (s7.grow g7) h8 fun v d G8 H8 g8 r8 h9 => ?_
              obtain ⟨nD8, hh8⟩ := keepD g8 nD7 hh7
              have gg8 := gg7.trans g8 s.hb
              have ra8 := ((ra5.mono g6.gg).mono g7.gg).mono g8.gg
              refine ⟨us5, hh8, by rw [ra8.1]; exact szl (by omega), G8, us5 ++ [v], acc5 ++ [d], app gg8 nD8 hh8, ((ex5.trans g6.gg).trans g7.gg).trans g8.gg, (s67.grow g8).other nD8 z.1 hh8 own3, nD8, upd_same, ra8.snoc r8, h9⟩
        · have : j = items1.length := by omega
          subst this
          exact .inl ⟨w1.2, G5, us5, acc5, gg5, ex4.trans ex5, nD5, hh5, ra5, fin1 acc5 pw5⟩
  · have : i = items.length := by omega
    subst this
    exact .inl ⟨w.2, k D' us acc G' H' gg hD0 nD hh ra (fin acc pv)⟩
section
variable {c : Ctx} {X : Cx} {pos : Pos} {elt tg iter tg1 iter1 : Expr} {ifs ifs1 : List Expr} {scope : Scope} {qi qi1 : QI} {g g1 : QG} {ws ws1 : List Nat} {qt qt1 : QT} {qe : QE}
theorem dlc2 (own : List (Str × Nat)) (vs1 : List Nat) (hc : X.calm = true) (hN : X.N.Nodup) (hi : PDI c X tg iter qi) (hg : Blk X scope fun Y => PDG c Y tg g ws) (ht : Blk X scope fun Y => PDTs c Y ifs qt)
    (hi1 : Blk X scope fun Y => PDI c Y tg1 iter1 qi1) (hg1 : Blk X scope fun Y => PDG c Y tg1 g1 ws1) (ht1 : Blk X scope fun Y => PDTs c Y ifs1 qt1) (he : Blk X scope fun Y => PD c Y elt qe)
    (ok : blkC X.N X.env.scope scope own = true := by kernel_rfl) (hv : ∀ i ∈ vs1, i ∈ own.map (·.2) := by decide) (hw : ∀ w ∈ ws, w ∈ own.map (·.2) := by decide) (hw1 : ∀ w ∈ ws1, w ∈ vs1 := by decide) (hs : ∀ x, foldedSetIterable iter X.env x = pure x := by intro _; rfl) (hs1 : ∀ env x, foldedSetIterable iter1 env x = pure x := by intro _ _; rfl) :
    PDL c X (.ListComp elt [⟨tg, iter, ifs, 0⟩, ⟨tg1, iter1, ifs1, 0⟩] scope pos) (qLc2 qi g qt qi1 g1 qt1 qe (own.map (·.2)) vs1) := by
  obtain ⟨wi, pi, si⟩ := hi.ex
  exact ⟨_, pe_lc2 hc hN pi (blkOk_by ok) hv (fun s H C cl fp => (hg s H C cl fp).can) (fun s H C cl fp => (ht s H C cl fp).can) (fun s H C cl fp => (hi1 s H C cl fp).can) (fun s H C cl fp => (hg1 s H C cl fp).can) (fun s H C cl fp => (ht1 s H C cl fp).can) (fun s H C cl fp => (he s H C cl fp).can) hs hs1, snd_lc2 hw hw1 si snd_rdG snd_rdT snd_rdI snd_rdG snd_rdT snd_rdE⟩
theorem ssetLc2 (i : Nat) {y : Str} {py spos : Pos} (own : List (Str × Nat)) (vs1 : List Nat) (hc : X.calm = true) (hN : X.N.Nodup) (hi : PDI c X tg iter qi) (hg : Blk X scope fun Y => PDG c Y tg g ws) (ht : Blk X scope fun Y => PDTs c Y ifs qt)
    (hi1 : Blk X scope fun Y => PDI c Y tg1 iter1 qi1) (hg1 : Blk X scope fun Y => PDG c Y tg1 g1 ws1) (ht1 : Blk X scope fun Y => PDTs c Y ifs1 qt1) (he : Blk X scope fun Y => PD c Y elt qe)
    (hy : X.N[i]? = some y := by rfl) (hyl : X.env.scope.names.lookup y = some .local := by rfl) (hsw : swapsWith (.ListComp elt [⟨tg, iter, ifs, 0⟩, ⟨tg1, iter1, ifs1, 0⟩] scope pos) (some (.Name y py)) spos.line X.env = pure true := by exact sw_true rfl rfl rfl (by decide +kernel))
    (ok : blkC X.N X.env.scope scope own = true := by kernel_rfl) (hv : ∀ i ∈ vs1, i ∈ own.map (·.2) := by decide) (hw : ∀ w ∈ ws, w ∈ own.map (·.2) := by decide) (hw1 : ∀ w ∈ ws1, w ∈ vs1 := by decide) (hs : ∀ x, foldedSetIterable iter X.env x = pure x := by intro _; rfl) (hs1 : ∀ env x, foldedSetIterable iter1 env x = pure x := by intro _ _; rfl) :
    PDS c X (.Assign [.Name y py] (.ListComp elt [⟨tg, iter, ifs, 0⟩, ⟨tg1, iter1, ifs1, 0⟩] scope pos) spos) (qSet i (qLst' (qLc2 qi g qt qi1 g1 qt1 qe (own.map (·.2)) vs1))) := by
  obtain ⟨wi, pi, si⟩ := hi.ex
  exact ⟨_, ps_setLc2 hc hN hy hyl hsw pi (blkOk_by ok) hv (fun s H C cl fp => (hg s H C cl fp).can) (fun s H C cl fp => (ht s H C cl fp).can) (fun s H C cl fp => (hi1 s H C cl fp).can) (fun s H C cl fp => (hg1 s H C cl fp).can) (fun s H C cl fp => (ht1 s H C cl fp).can) (fun s H C cl fp => (he s H C cl fp).can) hs hs1, snd_asg (snd_ofL (snd_lc2 hw hw1 si snd_rdG snd_rdT snd_rdI snd_rdG snd_rdT snd_rdE))⟩
end
theorem lc2_ {qi : QI} {g : QG} {qt : QT} {qi1 : QI} {g1 : QG} {qt1 : QT} {qe : QE} {vs vs1 : List Nat} {ρ : List Slot} {Q : List D → Prop} (h : qi ρ fun items => lc2B items g qt qi1 g1 qt1 qe vs vs1 ρ Q) : qLc2 qi g qt qi1 g1 qt1 qe vs vs1 ρ Q := h
/-- two clauses without tests: the lists of the first items, one behind the other -/
theorem lc2b_map {g : QG} {qi1 : QI} {g1 : QG} {qe : QE} {vs vs1 : List Nat} {ρ : List Slot} {Q : List D → Prop} {items : List D} (α γ : Type) (xs : List α) (enc : α → D) (he : items = xs.map enc) (ys : α → List γ) (enc1 f : α → γ → D)
    (hb : ∀ (k : Nat) (x : α), xs[k]? = some x → ∀ (T : List Slot → List D → Prop), (∀ ρ2, (∀ (j : Nat) (y : γ), (ys x)[j]? = some y → ∀ R : D → Prop, R (f x y) → g1 (enc1 x y) (wipeS ρ2 vs1) fun ρ3 => qe ρ3 R) → T ρ2 ((ys x).map (enc1 x))) → g (enc x) (wipeS ρ vs) fun ρ2 => qi1 ρ2 (T ρ2))
    (hl : (xs.flatMap fun x => (ys x).map (f x)).length < 90000) (hQ : Q (xs.flatMap fun x => (ys x).map (f x))) : lc2B items g qYes qi1 g1 qYes qe vs vs1 ρ Q := by
  subst he
  refine ⟨fun k acc => acc = (xs.take k).flatMap fun x => (ys x).map (f x), rfl, fun k it acc e pv => ?_, fun acc e => ?_⟩
  · subst pv
    rw [List.getElem?_map] at e
    cases q : xs[k]? with
    | none => rw [q] at e; cases e
    | some x =>
      rw [q] at e
      cases e
      refine hb k x q _ fun ρ2 h1 => ?_
      have step : ((xs.take (k + 1)).flatMap fun x => (ys x).map (f x)) = ((xs.take k).flatMap fun x => (ys x).map (f x)) ++ (ys x).map (f x) := by
        rw [List.take_add_one, q, List.flatMap_append]
        simp
      refine ⟨fun j acc1 => acc1 = ((xs.take k).flatMap fun x => (ys x).map (f x)) ++ ((ys x).take j).map (f x), by simp, fun j it1 acc1 e1 pw => ?_, fun acc1 e1 => ?_⟩
      · subst pw
        rw [List.getElem?_map] at e1
        cases q1 : (ys x)[j]? with
        | none => rw [q1] at e1; cases e1
        | some y =>
          rw [q1] at e1
          cases e1
          refine ⟨?_, h1 j y q1 _ ?_⟩
          · refine Nat.lt_of_le_of_lt ?_ hl
            have h2 : (xs.flatMap fun x => (ys x).map (f x)) = ((xs.take (k + 1)).flatMap fun x => (ys x).map (f x)) ++ (xs.drop (k + 1)).flatMap fun x => (ys x).map (f x) := by
              rw [← List.flatMap_append, List.take_append_drop]
            rw [h2, step]
            simp only [List.length_append, List.length_map, List.length_take]
            omega
          · dsimp only
            rw [List.take_add_one, q1, List.map_append, List.append_assoc]
            rfl
      · rw [e1, List.length_map, List.take_length]
        exact step.symm
  · rw [List.length_map, List.take_length] at e
    rw [e]; exact hQ
end DL

/-! ### sorted of a list or a tuple of alike data -/
namespace DL
open PySem L2 PySem.W PyProof.Rows
section
variable {prog : Program} {w : World} {A : Around} {E : Value → Shared → Prop} {s : Shared}
theorem collect_tuple {l : Addr} {vs : List Value} {Q : List Value → Shared → Prop} (hl : s.heap.IsTuple l vs.toArray)
    (h : Q vs { s with heap := (s.heap.push (seqObj "list" #[] 0)).update s.heap.objs.size (Obj.mapSeq (· ++ vs.toArray)) }) (hsz : vs.length ≤ sizeLine) :
    wpAny (model prog w) A (collect (.ref l)) Q E s := by
  obtain ⟨o, ho, hc, n, hd⟩ := id hl
  unfold collect
  refine wpAny_bind (wpAny_runValue (codeAny_builtin entry_proto_collect' ?_))
  show wpAny _ _ (do again (.builtin "list.__iadd__" ⟨[← newList [], .ref l], []⟩)) _ _ s
  refine wpAny_bind (wpAny_newList (wpAny_pure ⟨Code.quiet_builtin _ (by decide +kernel), codeAny_builtin entry_list_iadd' ?_⟩))
  show wpAny _ _ (Builtin.List.listExtendWith (.ref s.heap.objs.size) (.ref l) (.ref s.heap.objs.size)) _ _ { s with heap := s.heap.push (seqObj "list" #[] 0) }
  unfold Builtin.List.listExtendWith
  have ho' : (s.heap.push (seqObj "list" #[] 0)).get? l = some o := Heap.get?_push_of_some _ ho
  refine wpAny_bind (wpAny_typeOf (T := "tuple") ⟨o, ho', hc⟩ ?_)
  have ht : (Value.type "tuple" == Value.type "tuple") = true := by rfl
  rw [if_pos (by rw [ht]; simp)]
  refine wpAny_bind (listItems_at ho' hd ?_)
  refine wpAny_bind (listItems_at (xs := #[]) (n := 0) (Heap.get?_push_size _ rfl) rfl ?_)
  rw [if_neg (by simp)]
  refine wpAny_bind (listUpdate_at (xs := #[]) (n := 0) (Heap.get?_push_size _ rfl) rfl ?_ (Nat.zero_le _) (by show (#[] ++ vs.toArray).size ≤ sizeLine + 1; simp only [Array.size_append, List.size_toArray, List.length_nil]; omega))
  refine wpAny_pure ?_
  show wpAny (model prog w) A (do
      let o ← load s.heap.objs.size
      match o.data with
      | .seq xs _ => pure xs.toList
      | _ => unsupported "internal:collect") Q E { s with heap := (s.heap.push (seqObj "list" #[] 0)).update s.heap.objs.size (Obj.mapSeq (· ++ vs.toArray)) }
  refine wpAny_bind (wpAny_load (get?_update_seq (Heap.get?_push_size _ rfl) _) ?_)
  show wpAny _ _ (pure ((#[] : Array Value) ++ vs.toArray).toList) Q E _
  rw [show ((#[] : Array Value) ++ vs.toArray).toList = vs by simp]
  exact wpAny_pure h
theorem sorted_tup {β : Type} {R : Value → β → Prop} {enc : β → PyData} {bs : List β} {vs : List Value} {l : Addr} {Q : Value → Shared → Prop} (hl : s.heap.IsTuple l vs.toArray) (e : EachIs R vs bs) (er : EachIs (fun v b => ∃ as, Reads s.heap v (enc b) as) vs bs) (hal : AllAlike (bs.map enc)) (hk : Sortable (bs.map enc)) (hL : bs.length ≤ sizeLine)
    (hu : ∀ b, b ∈ bs → A.units + 2 + (enc b).depth < cLine) (h : ∀ out, out.length = bs.length → EachIs R out (bs.mergeSort (dataLe false enc)) → Q (.ref (s.heap.objs.size + 1)) { s with heap := sortedAll s.heap vs (List.toArray out) }) :
    wpAny (model prog w) A (call (.builtin "sorted") [.ref l]) Q E s := by
  have er' : EachIs (fun v b => ∃ as, Reads (sortingHeap (copyHeap s.heap vs) (s.heap.objs.size + 1) vs) v (enc b) as) vs bs := er.mono fun _ _ ⟨as, r⟩ => ⟨as, PyProof.Rows.Reads.keeps (fun _ _ => sorting_copy_old) r⟩
  have hL' : vs.length ≤ sizeLine := by rw [e.length]; exact hL
  refine call_function_entry_kw kind_sorted plain_sorted entry_sorted (args_sorted1 _) ?_
  unfold Builtin.«sorted»
  refine wpAny_bind (m := checkCount "sorted" 1 1 _) (wpAny_pure ?_)
  refine wpAny_bind (collect_tuple hl ?_ hL')
  refine wpAny_bind (wpAny_newList ?_ hL')
  have hsz : ((s.heap.push (seqObj "list" #[] 0)).update s.heap.objs.size (Obj.mapSeq (· ++ vs.toArray))).objs.size = s.heap.objs.size + 1 := by
    rw [Heap.size_update, size_push']
  show wpAny _ _ _ _ _ { s with heap := copyHeap s.heap vs }
  rw [hsz]
  refine wpAny_bind (wpAny_holding (wpAny_call_entry_kw slot_list_sort ⟨_, copyHeap_at s.heap vs, rfl⟩ entry_list_sort ?body (args_list_sort _)))
  case body =>
    show wpAny (model prog w) A.in1.in1 (Builtin.«list.sort» ⟨[.ref (s.heap.objs.size + 1)], []⟩) _ _ _
    refine wpAny_mono (list_sort_vals (P := fun f s' => f = .done (.ret .none) ∧ Q (.ref (s.heap.objs.size + 1)) s') (s := { s with heap := copyHeap s.heap vs }) (copyHeap_at s.heap vs) (SortsAt.data (s := { s with heap := sortingHeap (copyHeap s.heap vs) (s.heap.objs.size + 1) vs }) (each_map (R := fun v d => ∃ as, Reads (sortingHeap (copyHeap s.heap vs) (s.heap.objs.size + 1) vs) v d as) enc er') hal hk (bound_map hu)) hL' ⟨rfl, h _ (by rw [sortVals_length false rfl]; exact e.length) (sortVals_data false e er' hal)⟩) (fun f s' hf => ?_) fun _ _ e => e
    obtain ⟨rfl, hq⟩ := hf
    exact ⟨_, rfl, wpAny_pure ⟨_, rfl, hq⟩⟩
end
/-- pairs of a value and what it stands for, the list or tuple sorted by the second -/
def rSortA (K : PySem.W.Frag) : List V → Hp → VK → Prop := fun vs H Q => ∃ (a : Addr) (ps : List (V × PyData)), vs = [.ref a] ∧ (SqL K H a (ps.map (·.1)) ∨ SqT K H a (ps.map (·.1))) ∧ (∀ p ∈ ps, Dp K H p.1 p.2) ∧ AllAlike (ps.map (·.2)) ∧ Sortable (ps.map (·.2)) ∧ (∀ p ∈ ps, p.2.depth ≤ 60) ∧
  ∀ p, H p = none → Q (.ref p) (upd H p (.lst ((ps.mergeSort (dataLe false (·.2))).map (·.1))))
theorem eachIs_of {pins : List (Addr × Obj)} {X : Cx} {σ : L2.St} {H : Hp} {s : Shared} (I : Inv X pins σ H s) : ∀ {ps : List (V × PyData)} {us : List Value}, Vals (ps.map (·.1)) us → (∀ p ∈ ps, Dp X.K H p.1 p.2) → EachIs (fun u (p : V × PyData) => RelV p.1 u) us ps ∧ EachIs (fun u (p : V × PyData) => ∃ as, Reads s.heap u p.2 as) us ps
  | [], us, r, _ => by
    have r' : Vals [] us := r
    cases r'
    exact ⟨.nil, .nil⟩
  | p :: ps, us, r, h => by
    have r' : Vals (p.1 :: ps.map (·.1)) us := r
    cases r' with
    | cons r1 r2 =>
      have h1 := eachIs_of I r2 fun q hq => h q (List.mem_cons_of_mem _ hq)
      exact ⟨.cons r1 h1.1, .cons (Dp.reads I p.2 p.1 _ (h p (List.mem_cons_self)) r1) h1.2⟩
theorem vals_of {us : List Value} {ps : List (V × PyData)} (h : EachIs (fun u (p : V × PyData) => RelV p.1 u) us ps) : Vals (ps.map (·.1)) us := by
  induction h with
  | nil => exact .nil
  | cons h1 _ ih => exact .cons h1 ih
theorem cr_sortA {X : Cx} (hu : X.A.units + 65 < cLine) : CallR X (.builtin "sorted") (rSortA X.K) := by
  intro pins s σ H vs us Q I r h
  obtain ⟨a, ps, rfl, hs, hd, ha, hk, hdp, q⟩ := h
  obtain ⟨u, rfl, ru⟩ := vals1 r
  obtain rfl : u = Value.ref a := ru
  have hlen : ∀ its : List Value, Vals (ps.map (·.1)) its → ps.length ≤ sizeLine → ∀ out : List Value, EachIs (fun u (p : V × PyData) => RelV p.1 u) out (ps.mergeSort (dataLe false (·.2))) →
      EP X pins σ Q (.ref (s.heap.objs.size + 1)) { s with heap := sortedAll s.heap its (List.toArray out) } := fun its rv hz out eo => by
    obtain ⟨c, hc⟩ := sortedAll_at s.heap its out.toArray
    refine ⟨.ref (s.heap.objs.size + 1), upd H (s.heap.objs.size + 1) (.lst ((ps.mergeSort (dataLe false (·.2))).map (·.1))), I.laid (t' := s.toks) (fun _ _ => sortedAll_old) (Nat.le_succ _) ⟨?_, out, c, vals_of eo, hc⟩, rfl, q _ (I.hok.fresh (Nat.le_succ _))⟩
    rw [List.length_map, List.length_mergeSort]
    exact hz
  have hub : ∀ b, b ∈ ps → X.A.units + 2 + b.2.depth < cLine := fun b hb => by have := hdp b hb; omega
  rcases hs with hs | hs
  · obtain ⟨its, rv, hl, hz⟩ := I.list hs
    rw [List.length_map] at hz
    obtain ⟨e1, e2⟩ := eachIs_of I rv hd
    exact sorted_data (enc := fun p : V × PyData => p.2) hl.isList e1 e2 ha hk hz hub fun out _ eo => hlen its rv hz out eo
  · obtain ⟨its, rv, hl, hz⟩ := I.tuple hs
    rw [List.length_map] at hz
    obtain ⟨e1, e2⟩ := eachIs_of I rv hd
    exact sorted_tup (enc := fun p : V × PyData => p.2) (show s.heap.IsTuple a its.toArray from hl) e1 e2 ha hk hz hub fun out _ eo => hlen its rv hz out eo
def leD (a b : D) : Bool := dataLe false D.py a b
def sortD (xs : List D) : List D := xs.mergeSort leD
def sortR : List D → (D → Prop) → Prop
  | [.lst xs], Q => (D.plainL 50 xs = true ∧ AllAlike (xs.map D.py) ∧ Sortable (xs.map D.py)) ∧ Q (.lst (sortD xs))
  | [.tup xs], Q => (D.plainL 50 xs = true ∧ AllAlike (xs.map D.py) ∧ Sortable (xs.map D.py)) ∧ Q (.lst (sortD xs))
  | _, _ => False
theorem RepL.zipv {G : Hp} : ∀ {vs : List V} {ds : List D}, RepL G vs ds → (vs.zip ds).map (·.1) = vs ∧ (vs.zip ds).map (·.2) = ds ∧ ∀ p ∈ vs.zip ds, Rep G p.1 p.2
  | [], [], _ => ⟨rfl, rfl, fun p h => by simp at h⟩
  | v :: vs, d :: ds, h => by
    obtain ⟨a, b, c⟩ := RepL.zipv h.tail
    refine ⟨by rw [List.zip_cons_cons, List.map_cons, a], by rw [List.zip_cons_cons, List.map_cons, b], fun p hp => ?_⟩
    rw [List.zip_cons_cons] at hp
    rcases List.mem_cons.mp hp with rfl | hp
    · exact h.head
    · exact c p hp
  | [], _ :: _, h => by have := h.1; simp at this
  | _ :: _, [], h => by have := h.1; simp at this
theorem RepL.of_pairs {G : Hp} : ∀ {ps : List (V × D)}, (∀ p ∈ ps, Rep G p.1 p.2) → RepL G (ps.map (·.1)) (ps.map (·.2))
  | [], _ => .nil
  | p :: ps, h => .cons (h p List.mem_cons_self) (RepL.of_pairs fun q hq => h q (List.mem_cons_of_mem _ hq))
theorem cd_sort {K : PySem.W.Frag} : CallD (rSortA K) sortR := by
  intro β G H xs ds Q R hgh hbg r h k
  have key : ∀ (a : Addr) (vs : List V) (es : List D), (SqL K H a vs ∨ SqT K H a vs) → RepL G vs es → (D.plainL 50 es = true ∧ AllAlike (es.map D.py) ∧ Sortable (es.map D.py)) → Q (.lst (sortD es)) → rSortA K [.ref a] H R := fun a vs es hs rp ⟨hp, ha, hk⟩ hq => by
    obtain ⟨z1, z2, z3⟩ := rp.zipv
    have e1 : ((vs.zip es).map fun p => (p.1, p.2.py)).map (·.1) = vs := by rw [List.map_map]; exact z1
    have e2 : ((vs.zip es).map fun p => (p.1, p.2.py)).map (·.2) = es.map D.py := by
      have z : ((vs.zip es).map fun p => (p.1, p.2.py)).map (·.2) = ((vs.zip es).map (·.2)).map D.py := by rw [List.map_map, List.map_map]; rfl
      rw [z, z2]
    rw [plainL_all, List.all_eq_true] at hp
    have hmem : ∀ p ∈ vs.zip es, p.2 ∈ es := fun p hp => by rw [← z2]; exact List.mem_map.mpr ⟨p, hp, rfl⟩
    refine ⟨a, (vs.zip es).map fun p => (p.1, p.2.py), rfl, by rw [e1]; exact hs, fun p hp' => ?_, by rw [e2]; exact ha, by rw [e2]; exact hk, fun p hp' => ?_, fun p hp' => ?_⟩
    · obtain ⟨q, hq', rfl⟩ := List.mem_map.mp hp'
      exact Rep.dp hgh 50 q.2 q.1 (hp _ (hmem q hq')) (z3 q hq')
    · obtain ⟨q, hq', rfl⟩ := List.mem_map.mp hp'
      have := (plain_lay 50 q.2 (hp _ (hmem q hq'))).2
      show q.2.py.depth ≤ 60
      omega
    · have e3 : ((vs.zip es).map fun p => (p.1, p.2.py)).mergeSort (dataLe false (·.2)) = ((vs.zip es).mergeSort fun p q => leD p.2 q.2).map fun p => (p.1, p.2.py) := (List.map_mergeSort (f := fun p : V × D => (p.1, p.2.py)) (r := fun p q => leD p.2 q.2) (s := dataLe false (·.2)) (l := vs.zip es) fun a _ b _ => rfl).symm
      have e4 : ((vs.zip es).mergeSort fun p q => leD p.2 q.2).map (·.2) = sortD es := by
        rw [List.map_mergeSort (f := fun p : V × D => p.2) (r := fun p q => leD p.2 q.2) (s := leD) (l := vs.zip es) fun a _ b _ => rfl, z2]
        rfl
      rw [e3, List.map_map]
      have rr := RepL.of_pairs (G := G) (ps := (vs.zip es).mergeSort fun p q => leD p.2 q.2) fun p hp => z3 p ((List.mergeSort_perm _ _).mem_iff.mp hp)
      rw [e4] at rr
      exact opd_lst hgh hbg k hp' rr hq
  match ds, h with
  | [.lst ys], h =>
    obtain ⟨v, rfl, rv⟩ := r.one
    cases rv with
    | lst e n q => exact key _ _ _ (.inl (.inl (.inl (hgh _ _ e)))) ⟨n, q⟩ h.1 h.2
  | [.tup ys], h =>
    obtain ⟨v, rfl, rv⟩ := r.one
    cases rv with
    | tup e n q => exact key _ _ _ (.inr (e.sq hgh)) ⟨n, q⟩ h.1 h.2
theorem dsorted {c : Ctx} {X : Cx} {e : Expr} {qr : QA} {p pos : Pos} (hu : X.A.units + 65 < cLine) (hm : X.mg "sorted" = none) (ha : PDA c X [e] qr) (hg : Gl X "sorted" := by rfl) (he : starEach [e] X.env = (false, eval e X.env) :: starEach [] X.env := by rfl) : PD c X (.Call (.Name "sorted" p) [e] [] pos) (qCB sortR qr) :=
  PD.callB (cr_sortA hu) cd_sort hg hm (by decide +kernel) ha (by decide) (by decide) he rfl
theorem sortR_l {xs : List D} {Q : D → Prop} : sortR [.lst xs] Q = ((D.plainL 50 xs = true ∧ AllAlike (xs.map D.py) ∧ Sortable (xs.map D.py)) ∧ Q (.lst (sortD xs))) := rfl
theorem sortR_t {xs : List D} {Q : D → Prop} : sortR [.tup xs] Q = ((D.plainL 50 xs = true ∧ AllAlike (xs.map D.py) ∧ Sortable (xs.map D.py)) ∧ Q (.lst (sortD xs))) := rfl
end DL

namespace DL
open PySem L2
/-! ### owned lists looked at -/
def ViewR (β : Option Addr) (G H : Hp) (v : V) (d : D) : Prop := Rep G v d ∨ ∃ a xs vs, v = .ref a ∧ d = .lst xs ∧ H a = some (.lst vs) ∧ RepL G vs xs ∧ some a ≠ β
theorem ViewR.grow {β : Option Addr} {G H G' H' : Hp} {v : V} {d : D} (h : ViewR β G H v d) (g : Grow β G H G' H') : ViewR β G' H' v d := by
  rcases h with h | ⟨a, xs, vs, rfl, rfl, h, r, n⟩
  · exact .inl (h.mono g.gg)
  · exact .inr ⟨a, xs, vs, rfl, rfl, g.hh a _ h n nt_lst, r.mono g.gg, n⟩
theorem ViewR.dp {K : PySem.W.Frag} {β : Option Addr} {G H : Hp} {v : V} {d : D} (h : ViewR β G H v d) (gh : Ex G H) (n : Nat) (hp : d.plain n = true) : Dp K H v d.py := by
  rcases h with h | ⟨a, xs, vs, rfl, rfl, h, r, _⟩
  · exact Rep.dp gh n d v hp h
  · cases n with
    | zero => simp [D.plain] at hp
    | succ n => exact Dp.lst (.inl (.inl h)) (Rep.dpL gh n xs vs (by simpa [D.plain] using hp) r)
def SndV (c : Ctx) (t : TE) (q : QE) : Prop := ∀ (ρ : List Slot) (σ : L2.St) (G H : Hp) (Q : D → Prop) (R : VK), Sta c G H σ ρ → q ρ Q → (∀ v d G' H', Grow c.β G H G' H' → ViewR c.β G' H' v d → Q d → R v H') → t σ H R
structure PDV (c : Ctx) (X : Cx) (e : Expr) (q : QE) : Prop where
  ex : ∃ t, PE X e t ∧ SndV c t q
def qVarO (i : Nat) : QE := fun ρ Q => slotO ρ[i]? fun _ xs => Q (.lst xs)
def OpV (r : R2) (rd : D → D → (D → Prop) → Prop) : Prop := ∀ (β : Option Addr) (G H : Hp) (x y : V) (a b : D) (Q : D → Prop) (R : VK), Ex G H → (∀ b, β = some b → Bag G H b) → ViewR β G H x a → ViewR β G H y b → rd a b Q →
  (∀ v d G' H', Grow β G H G' H' → Rep G' v d → Q d → R v H') → r x y H R
section
variable {c : Ctx} {X : Cx} {a b e : Expr} {qa qb q : QE} {pos npos : Pos} {x : Str}
theorem PD.v (h : PD c X e q) : PDV c X e q := by
  obtain ⟨t, p, s⟩ := h.ex
  exact ⟨t, p, fun ρ σ G H Q R st hq k => s ρ σ G H Q R st hq fun v d G' H' g r q => k v d G' H' g (.inl r) q⟩
theorem vo (i : Nat) (hN : X.N[i]? = some x := by rfl) (hv : Vis X.env.scope x := by first | exact Or.inl rfl | exact Or.inr (Or.inl rfl) | exact Or.inr (Or.inr rfl)) (hd : (x == ("__debug__" : Str)) = false := by decide)
    (hcd : (x == ("__classdict__" : Str)) = false := by decide) : PDV c X (.Name x npos) (qVarO i) := by
  refine ⟨_, pe_var hN hv hd hcd, fun ρ σ G H Q R s h k => ?_⟩
  obtain ⟨a, xs, ea, h⟩ := slotO_inv h
  obtain ⟨e1, e2, e3, vs, e4, e5⟩ := s.sl i _ ea
  exact ⟨.ref a, e1, k _ _ G H s.refl (.inr ⟨a, xs, vs, rfl, rfl, e4, e5, fun z => s.core.b0 a z.symm e3⟩) h⟩
theorem snd_opV {r : R2} {rd : D → D → (D → Prop) → Prop} {ta tb : TE} (hd : OpV r rd) (ha : SndV c ta qa) (hb : SndV c tb qb) : SndE c (tOp r ta tb) (qOp rd qa qb) := by
  intro ρ σ G H Q R s h k
  refine ha ρ σ G H _ _ s h fun v1 d1 G1 H1 g1 r1 h1 => ?_
  have s1 := s.grow g1
  refine hb ρ σ G1 H1 _ _ s1 h1 fun v2 d2 G2 H2 g2 r2 h2 => ?_
  have s2 := s1.grow g2
  have g12 := g1.trans g2 s.hb
  exact hd c.β G2 H2 v1 v2 d1 d2 Q R s2.core.gh s2.core.bg (r1.grow g2) r2 h2 fun v d G' H' g r q => k v d G' H' (g12.trans g s.hb) r q
theorem opv_eq {K : PySem.W.Frag} : OpV (rEqD K) eqR := by
  intro β G H x y a b Q R hgh hbg ra rb h k
  exact ⟨a.py, b.py, ra.dp hgh 60 h.1.1, rb.dp hgh 60 h.1.2, plain_shaped h.1.1, plain_shaped h.1.2, opd_ret hgh hbg k (.bl _) h.2⟩
theorem opv_ne {K : PySem.W.Frag} : OpV (rNeD K) neR := by
  intro β G H x y a b Q R hgh hbg ra rb h k
  exact ⟨a.py, b.py, ra.dp hgh 60 h.1.1, rb.dp hgh 60 h.1.2, plain_shaped h.1.1, plain_shaped h.1.2, opd_ret hgh hbg k (.bl _) h.2⟩
def inLR (neg : Bool) (a b : D) (Q : D → Prop) : Prop := match b with
  | .lst xs => (a.plain 50 = true ∧ D.plainL 50 xs = true) ∧ Q (.bl (if neg then !xs.any (fun y => eqD y a) else xs.any (fun y => eqD y a)))
  | _ => False
theorem opv_in {K : PySem.W.Frag} : OpV (rInD K) (inLR false) := by
  intro β G H x y a b Q R hgh hbg ra rb h k
  match b, rb, h with
  | .lst xs, rb, h =>
    refine ⟨a.py, D.pyL xs, ra.dp hgh 50 h.1.1, rb.dp (d := .lst xs) hgh 51 (by simpa [D.plain] using h.1.2), plain_shaped (plain_mono 50 60 (by decide) _ h.1.1), shaped_of_plainL h.1.2, ?_⟩
    rw [any_py]
    exact opd_ret hgh hbg k (.bl _) h.2
theorem opv_nin {K : PySem.W.Frag} : OpV (rNotInD K) (inLR true) := by
  intro β G H x y a b Q R hgh hbg ra rb h k
  match b, rb, h with
  | .lst xs, rb, h =>
    refine ⟨a.py, D.pyL xs, ra.dp hgh 50 h.1.1, rb.dp (d := .lst xs) hgh 51 (by simpa [D.plain] using h.1.2), plain_shaped (plain_mono 50 60 (by decide) _ h.1.1), shaped_of_plainL h.1.2, ?_⟩
    rw [any_py]
    exact opd_ret hgh hbg k (.bl _) h.2
theorem PDV.cmp {op : CmpOp} {r : R2} {rd : D → D → (D → Prop) → Prop} (ho : OpR X (compareOp op) r) (hd : OpV r rd) (ha : PDV c X a qa) (hb : PDV c X b qb) (hm : behindInMarks op b = false) : PD c X (.Compare a [op] [b] pos) (qOp rd qa qb) := by
  obtain ⟨ta, pa, sa⟩ := ha.ex
  obtain ⟨tb, pb, sb⟩ := hb.ex
  exact ⟨_, pe_cmpR ho pa pb hm, snd_opV hd sa sb⟩
theorem PDV.cmpT {op : CmpOp} {r : R2} {rd : D → D → (D → Prop) → Prop} (ho : OpR X (compareOp op) r) (hd : OpV r rd) (ha : PDV c X a qa) (hb : PDV c X b qb) (hm : behindInMarks op b = false) : PDT c X (.Compare a [op] [b] pos) (qTest (qOp rd qa qb)) := by
  obtain ⟨ta, pa, sa⟩ := ha.ex
  obtain ⟨tb, pb, sb⟩ := hb.ex
  exact ⟨_, pt_cmpR ho pa pb hm, snd_test (snd_opV hd sa sb)⟩
theorem deqV (hu : X.A.units + 65 < cLine) (ha : PDV c X a qa) (hb : PDV c X b qb) : PD c X (.Compare a [.Eq] [b] pos) (qOp eqR qa qb) := PDV.cmp (op_eqD (by omega)) opv_eq ha hb (nomark _)
theorem dneV (hu : X.A.units + 65 < cLine) (ha : PDV c X a qa) (hb : PDV c X b qb) : PD c X (.Compare a [.NotEq] [b] pos) (qOp neR qa qb) := PDV.cmp (op_neD (by omega)) opv_ne ha hb (nomark _)
theorem dinV (hu : X.A.units + 65 < cLine) (ha : PDV c X a qa) (hb : PDV c X b qb) (hm : behindInMarks .In b = false := by rfl) : PD c X (.Compare a [.In] [b] pos) (qOp (inLR false) qa qb) := PDV.cmp (op_inD hu) opv_in ha hb hm
theorem dninV (hu : X.A.units + 65 < cLine) (ha : PDV c X a qa) (hb : PDV c X b qb) (hm : behindInMarks .NotIn b = false := by rfl) : PD c X (.Compare a [.NotIn] [b] pos) (qOp (inLR true) qa qb) := PDV.cmp (op_notInD hu) opv_nin ha hb hm
theorem teqV (hu : X.A.units + 65 < cLine) (ha : PDV c X a qa) (hb : PDV c X b qb) : PDT c X (.Compare a [.Eq] [b] pos) (qTest (qOp eqR qa qb)) := PDV.cmpT (op_eqD (by omega)) opv_eq ha hb (nomark _)
theorem tneV (hu : X.A.units + 65 < cLine) (ha : PDV c X a qa) (hb : PDV c X b qb) : PDT c X (.Compare a [.NotEq] [b] pos) (qTest (qOp neR qa qb)) := PDV.cmpT (op_neD (by omega)) opv_ne ha hb (nomark _)
theorem tinV (hu : X.A.units + 65 < cLine) (ha : PDV c X a qa) (hb : PDV c X b qb) (hm : behindInMarks .In b = false := by rfl) : PDT c X (.Compare a [.In] [b] pos) (qTest (qOp (inLR false) qa qb)) := PDV.cmpT (op_inD hu) opv_in ha hb hm
theorem tninV (hu : X.A.units + 65 < cLine) (ha : PDV c X a qa) (hb : PDV c X b qb) (hm : behindInMarks .NotIn b = false := by rfl) : PDT c X (.Compare a [.NotIn] [b] pos) (qTest (qOp (inLR true) qa qb)) := PDV.cmpT (op_notInD hu) opv_nin ha hb hm
end
theorem inLR_l {neg : Bool} {a : D} {xs : List D} {Q : D → Prop} : inLR neg a (.lst xs) Q = ((a.plain 50 = true ∧ D.plainL 50 xs = true) ∧ Q (.bl (if neg then !xs.any (fun y => eqD y a) else xs.any (fun y => eqD y a)))) := rfl
section
variable {c : Ctx} {X : Cx} {pos : Pos} {elt tg iter : Expr} {ifs : List Expr} {scope : Scope} {qi : QI} {g : QG} {ws : List Nat} {qt : QT} {qe : QE}
/-- y = [..] where y is a plain local that owns the list -/
theorem ssetLcN (i : Nat) {y : Str} {py spos : Pos} (own : List (Str × Nat)) (hc : X.calm = true) (hN : X.N.Nodup) (hi : PDI c X tg iter qi) (hg : Blk X scope fun Y => PDG c Y tg g ws) (ht : Blk X scope fun Y => PDTs c Y ifs qt) (he : Blk X scope fun Y => PD c Y elt qe)
    (hy : X.N[i]? = some y := by rfl) (hyl : X.env.scope.names.lookup y = some .local := by rfl) (hsw : swapsWith (.ListComp elt [⟨tg, iter, ifs, 0⟩] scope pos) (some (.Name y py)) spos.line X.env = pure true := by exact sw_true rfl rfl rfl (by decide +kernel))
    (ok : blkC X.N X.env.scope scope own = true := by kernel_rfl) (hw : ∀ w ∈ ws, w ∈ own.map (·.2) := by decide) (hs : ∀ x, foldedSetIterable iter X.env x = pure x := by intro _; rfl) :
    PDS c X (.Assign [.Name y py] (.ListComp elt [⟨tg, iter, ifs, 0⟩] scope pos) spos) (qSetN i (qLc qi g qt qe (own.map (·.2)))) := by
  obtain ⟨wi, pi, si⟩ := hi.ex
  refine ⟨_, ps_setLc hc hN hy hyl hsw pi (blkOk_by ok) (fun s H C cl fp => (hg s H C cl fp).can) (fun s H C cl fp => (ht s H C cl fp).can) (fun s H C cl fp => (he s H C cl fp).can) hs, fun ρ σ G H Φ D' s h f => ?_⟩
  refine snd_lc hw si snd_rdG snd_rdT snd_rdE ρ σ G H _ _ s h fun a vs ds G' H' g ha ga hh r hq => ?_
  have z := free_of (G' := G) (H' := H) s ha
  exact f.nx _ _ G' H' g.gg ((s.grow g).setN ga z.1 hh r z.2) (hq a)
end
/-! ### owned lists lent to a def that gives back something flat -/
def SndAV (c : Ctx) (t : TA) (q : QA) : Prop := ∀ (ρ : List Slot) (σ : L2.St) (G H : Hp) (Q : List D → Prop) (R : List V → Hp → Prop), Sta c G H σ ρ → q ρ Q → (∀ vs ds G' H', Grow c.β G H G' H' → vs.length = ds.length → (∀ (i : Nat) (v : V) (d : D), vs[i]? = some v → ds[i]? = some d → ViewR c.β G' H' v d) → Q ds → R vs H') → t σ H R
structure PDAV (c : Ctx) (X : Cx) (es : List Expr) (q : QA) : Prop where
  ex : ∃ t, PA X es t ∧ SndAV c t q
def qCallV (sp : SpD) (q : QA) : QE := fun ρ Q => q ρ fun ds => sp none ds fun d => d.flat = true ∧ Q d
theorem view_frz {β : Option Addr} {G H G1 : Hp} {v : V} {d : D} (h : ViewR β G H v d) (x : Ex G G1) (y : Ex G1 H) : ∃ G2, Ex G1 G2 ∧ Ex G2 H ∧ Rep G2 v d := by
  rcases h with h | ⟨a, xs, vs, rfl, rfl, h, r, n⟩
  · exact ⟨G1, Same.refl G1, y, h.mono x⟩
  · cases q : G1 a with
    | some u =>
      have z := y _ _ q
      rw [h] at z
      cases z
      exact ⟨G1, Same.refl G1, y, .lst q r.1 (r.mono x).2⟩
    | none =>
      have ex : Ex G1 (upd G1 a (.lst vs)) := Ex.new q
      refine ⟨_, ex, fun b o e => ?_, .lst upd_same r.1 (r.mono (x.trans ex)).2⟩
      by_cases qq : b = a
      · subst qq; rw [upd_same] at e; rw [h]; exact e
      · rw [upd_ne qq] at e; exact y b o e
theorem views_frz {β : Option Addr} {G H : Hp} (gh : Ex G H) : ∀ {vs : List V} {ds : List D}, vs.length = ds.length → (∀ (i : Nat) (v : V) (d : D), vs[i]? = some v → ds[i]? = some d → ViewR β G H v d) → ∃ G1, Ex G G1 ∧ Ex G1 H ∧ RepL G1 vs ds
  | [], [], _, _ => ⟨G, Same.refl G, gh, .nil⟩
  | v :: vs, d :: ds, hl, h => by
    obtain ⟨G1, x, y, r⟩ := views_frz gh (by simpa using hl) fun i w e h1 h2 => h (i + 1) w e (by simpa using h1) (by simpa using h2)
    obtain ⟨G2, x2, y2, r2⟩ := view_frz (h 0 v d rfl rfl) x y
    exact ⟨G2, x.trans x2, y2, .cons r2 (r.mono x2)⟩
  | [], _ :: _, hl, _ => by simp at hl
  | _ :: _, [], hl, _ => by simp at hl
section
variable {c : Ctx} {X : Cx} {e : Expr} {es : List Expr} {qr : QA} {qa : QE} {p pos : Pos}
theorem pv0 : PDAV c X [] qNil := ⟨_, pa_nil, fun ρ σ G H Q R s h k => k [] [] G H s.refl rfl (fun i v d h => by simp at h) h⟩
theorem pvc (ha : PDV c X e qa) (hr : PDAV c X es qr) (hs : starEach (e :: es) X.env = (false, eval e X.env) :: starEach es X.env := by rfl) : PDAV c X (e :: es) (qCons qa qr) := by
  obtain ⟨ta, pa, sa⟩ := ha.ex
  obtain ⟨tr, pr, sr⟩ := hr.ex
  refine ⟨_, pa_cons pa pr hs, fun ρ σ G H Q R s h k => ?_⟩
  refine sa ρ σ G H _ _ s h fun v1 d1 G1 H1 g1 r1 h1 => ?_
  have s1 := s.grow g1
  refine sr ρ σ G1 H1 _ _ s1 h1 fun vs ds G2 H2 g2 hl r2 h2 => k _ _ G2 H2 (g1.trans g2 s.hb) (by simp [hl]) (fun i v d e1 e2 => ?_) h2
  cases i with
  | zero => simp at e1 e2; subst e1; subst e2; exact r1.grow g2
  | succ i => simp at e1 e2; exact r2 i v d e1 e2
theorem flat_rep' {G G' : Hp} {v : V} {d : D} (r : Rep G v d) (h : d.flat = true) : Rep G' v d := by
  cases r with
  | non => exact .non
  | bl b => exact .bl b
  | int b => exact .int b
  | str b => exact .str b
  | _ => simp [D.flat] at h
theorem dcV {x : Str} {sp : SpD} {j k : Nat} {ps : List Str} (F : Dn X.prog X.w X.K X.mg X.base j x ps sp) (hr : Room k X.A) (ha : PDAV c X (e :: es) qr) (hj : j ≤ k := by decide)
    (hg : Gl X x := by rfl) (hdb : (x == ("__debug__" : Str)) = false := by decide) (he : starEach (e :: es) X.env = (false, eval e X.env) :: starEach es X.env := by rfl) (hpl : (backTo pos (starEach es X.env)).any (·.1) = false := by rfl) : PD c X (.Call (.Name x p) (e :: es) [] pos) (qCallV sp qr) := by
  obtain ⟨f, fd, F, m, kp, b, _⟩ := F
  obtain ⟨t, pa, sa⟩ := ha.ex
  refine ⟨_, pe_call F (hr.mono hj) hg m kp b .nil pass0 pa hdb he hpl, fun ρ σ G H Q R s h k => ?_⟩
  refine sa ρ σ G H _ _ s h fun vs ds G1 H1 g1 hl r1 h1 => ?_
  have s1 := s.grow g1
  rw [List.append_nil]
  obtain ⟨G2, x2, y2, r2⟩ := views_frz s1.core.gh hl r1
  refine ⟨none, G2, ds, _, r2, y2, fun b e => (by cases e), h1, fun v d G' H' g r q => ?_⟩
  have keep : ∀ a o, H1 a = some o → NT o → H' a = some o := fun a o h => g.hh a o h (by simp)
  have g2 : Grow c.β G1 H1 G1 H' := by
    refine ⟨Same.refl G1, fun a o h _ => keep a o h, g.tn, g.tb, (x2.trans g.gg).trans g.gh, fun a o h _ n => absurd (h.symm.trans n) (by simp), fun b e => ?_⟩
    have B := s1.core.bg b e
    obtain ⟨c', cells, y1, y2, y3, y4, hb, hc, rest⟩ := B.is
    exact ⟨B.out, c', cells, y1, y2, y3, y4, keep _ _ hb nt_lst, hc, rest⟩
  exact k v d G1 H' (g1.trans g2 s.hb) (flat_rep' r q.1) q.2
end
end DL

namespace DL
open PySem L2
/-! ### own classes -/
/-- what the text has of a class -/
structure ClF (K : PySem.W.Frag) (C : Addr) : Prop where
  cl : Cls K C
  ha : PySem.W.findIn K (.ref C) "__class__" = some (some (.builtin "object.__class__"))
  hn : PySem.W.specialIn K (.builtin "object.__class__") "__get__" = some (some (.builtin "getset_descriptor.__get__"))
  htk : PySem.W.takesIn K (.builtin "object.__class__") = some true
  hm : PySem.W.mroIn K C (.type "object") = some true
  kp : PySem.W.keepIn K (.ref C) = true
def sixT : List String := ["NoneType", "bool", "int", "str", "tuple", "list"]
/-- the classes that are about -/
structure ClsT (K : PySem.W.Frag) (cs : List Addr) : Prop where
  cf : ∀ C ∈ cs, ClF K C
  bt : ∀ C ∈ cs, ∀ t ∈ sixT, PySem.W.kitOne K (.type t) (.ref C) = some false
  tb : ∀ C ∈ cs, ∀ n ∈ fiveT, PySem.W.kitOne K (.ref C) (.type n) = some false
  cc : ∀ C ∈ cs, ∀ C' ∈ cs, PySem.W.kitOne K (.ref C) (.ref C') = some (C == C')
def okT (cs : List Addr) : D → Prop
  | .obj C _ => C ∈ cs
  | d => (tyD d).isSome = true
def isA (d : D) (C : Addr) : Bool := match d with
  | .obj C' _ => C' == C
  | _ => false
def isoR (cs : List Addr) : List D → (D → Prop) → Prop
  | [d, .ty n], Q => (okT cs d ∧ n ∈ fiveT) ∧ Q (.bl (isT d n))
  | [d, .adr C], Q => (okT cs d ∧ C ∈ cs) ∧ Q (.bl (isA d C))
  | [d, .tup ts], Q => ∃ ns, tysOf ts = some ns ∧ (okT cs d ∧ ∀ n ∈ ns, n ∈ fiveT) ∧ Q (.bl (ns.any (isT d)))
  | _, _ => False
section
variable {K : PySem.W.Frag} {cs : List Addr}
/-- the type of a value -/
theorem Rep.tyo {G H : Hp} {v : V} {d : D} (T : ClsT K cs) (r : Rep G v d) (hgh : Ex G H) (h : okT cs d) : (∃ t ∈ sixT, tyD d = some t ∧ TyX K H v (.type t)) ∨ ∃ C fs, d = .obj C fs ∧ C ∈ cs ∧ TyX K H v (.ref C) := by
  cases d with
  | obj C fs =>
    refine .inr ⟨C, fs, rfl, h, ?_⟩
    have f := T.cf C h
    cases r with
    | obj e hd n q => exact .base (.ins (hgh _ _ e) f.cl f.ha f.hn f.htk f.hm)
  | _ =>
    obtain ⟨t, et⟩ := Option.isSome_iff_exists.mp h
    exact .inl ⟨t, tyD_mem et, et, r.tyx hgh et⟩
theorem kitAny_obj {C : Addr} (T : ClsT K cs) (hC : C ∈ cs) : ∀ ns : List String, (∀ n ∈ ns, n ∈ fiveT) → PySem.W.kitAny K (.ref C) (ns.map Value.type) = some false
  | [], _ => kitAny_nil
  | n :: ns, h => by
    rw [List.map_cons]
    exact kitAny_cons (b := false) (T.tb C hC n (h n (by simp))) (fun _ => kitAny_obj T hC ns fun m hm => h m (by simp [hm])) (fun e => by cases e)
theorem cd_iso (T : ClsT K cs) : CallD (fun xs H Q => rIsi K xs H Q ∨ rIsiT K xs H Q) (isoR cs) := by
  intro β G H xs ds Q R hgh hbg r h k
  match ds, h with
  | [d, .ty n], ⟨⟨h1, h2⟩, h⟩ =>
    obtain ⟨v, w, rfl, r1, r2⟩ := r.two
    cases r2
    rcases r1.tyo T hgh h1 with ⟨t, ht, et, ty⟩ | ⟨C, fs, rfl, hC, ty⟩
    · refine .inl ⟨v, .ty n, .type t, .type n, isB t n, rfl, .ty n, ty, kit_ty (kitB_tab t ht n h2), ?_⟩
      have : isT d n = isB t n := by unfold isT; rw [et]
      rw [← this]
      exact opd_ret hgh hbg k (.bl _) h
    · exact .inl ⟨v, .ty n, .ref C, .type n, false, rfl, .ty n, ty, T.tb C hC n h2, opd_ret hgh hbg k (.bl _) h⟩
  | [d, .adr C], ⟨⟨h1, h2⟩, h⟩ =>
    obtain ⟨v, w, rfl, r1, r2⟩ := r.two
    cases r2
    rcases r1.tyo T hgh h1 with ⟨t, ht, et, ty⟩ | ⟨C', fs, rfl, hC, ty⟩
    · refine .inl ⟨v, .ref C, .type t, .ref C, false, rfl, .own C, ty, T.bt C h2 t ht, ?_⟩
      have : isA d C = false := by cases d <;> first | rfl | simp [tyD] at et
      rw [this] at h
      exact opd_ret hgh hbg k (.bl _) h
    · exact .inl ⟨v, .ref C, .ref C', .ref C, C' == C, rfl, .own C, ty, T.cc C' hC C h2, opd_ret hgh hbg k (.bl _) h⟩
  | [d, .tup ts], ⟨ns, e, ⟨h1, h2⟩, h⟩ =>
    obtain ⟨v, w, rfl, r1, r2⟩ := r.two
    cases r2 with
    | tup e' n q =>
      have e' := tupG_ty e' ⟨n, q⟩ e
      rcases r1.tyo T hgh h1 with ⟨t, ht, et, ty⟩ | ⟨C, fs, rfl, hC, ty⟩
      · refine .inr ⟨v, _, _, .type t, ns.map Value.type, ns.any (isB t), rfl, hgh _ _ e', tys_rep ⟨n, q⟩ e, ty, kitAny_tab ht ns h2, ?_⟩
        have : isT d = isB t := by funext n; unfold isT; rw [et]
        rw [← this]
        exact opd_ret hgh hbg k (.bl _) h
      · refine .inr ⟨v, _, _, .ref C, ns.map Value.type, false, rfl, hgh _ _ e', tys_rep ⟨n, q⟩ e, ty, kitAny_obj T hC ns h2, ?_⟩
        have : ns.any (isT (.obj C fs)) = false := by
          rw [List.any_eq_false]
          intro x _
          show ¬ false = true
          decide
        rw [this] at h
        exact opd_ret hgh hbg k (.bl _) h
end
theorem diso {c : Ctx} {X : Cx} {cs : List Addr} {e e2 : Expr} {qr : QA} {p pos : Pos} (T : ClsT X.K cs) (hm : X.mg "isinstance" = none) (ha : PDA c X [e, e2] qr) (hg : Gl X "isinstance" := by rfl) (he : starEach [e, e2] X.env = (false, eval e X.env) :: starEach [e2] X.env := by rfl) (hpl : (backTo pos (starEach [e2] X.env)).any (·.1) = false := by rfl) : PD c X (.Call (.Name "isinstance" p) [e, e2] [] pos) (qCB (isoR cs) qr) :=
  PD.callB (call_isi.or call_isiT) (cd_iso T) hg hm (by decide +kernel) ha (by decide) (by decide) he hpl
/-- a class's name -/
theorem dcls {c : Ctx} {X : Cx} {x : Str} {C : Addr} {pos : Pos} (hm : X.mg x = some (.ref C)) (hg : Gl X x := by rfl) (hd : (x == ("__debug__" : Str)) = false := by decide) : PD c X (.Name x pos) (qC (.adr C)) :=
  dC (v := .ref C) (pe_glob hg hm rfl hd) fun _ => .adr C
/-! ### attributes -/
theorem RepF.hd {κ : Type} {G : Hp} {v : κ × V} {e : κ × D} {vs : List (κ × V)} {ds : List (κ × D)} (r : RepF G (v :: vs) (e :: ds)) : v.1 = e.1 := by
  have := r.1
  rw [List.map_cons, List.map_cons] at this
  exact (List.cons.inj this).1
theorem RepF.tl {κ : Type} {G : Hp} {v : κ × V} {e : κ × D} {vs : List (κ × V)} {ds : List (κ × D)} (r : RepF G (v :: vs) (e :: ds)) : RepF G vs ds := by
  have := r.1
  rw [List.map_cons, List.map_cons] at this
  exact ⟨(List.cons.inj this).2, fun i x y a b => r.2 (i + 1) x y (by simpa using a) (by simpa using b)⟩
theorem RepF.look {κ : Type} [BEq κ] {G : Hp} {f : κ} {d : D} : ∀ {vs : List (κ × V)} {ds : List (κ × D)}, RepF G vs ds → ds.lookup f = some d → ∃ v, vs.lookup f = some v ∧ Rep G v d
  | [], [], _, h => by cases h
  | v :: vs, e :: ds, r, h => by
    have hn : v.1 = e.1 := r.hd
    have rt : RepF G vs ds := r.tl
    obtain ⟨v1, v2⟩ := v
    obtain ⟨e1, e2⟩ := e
    dsimp only at hn
    subst hn
    rw [List.lookup_cons] at h ⊢
    cases q : f == v1 with
    | true =>
      rw [q] at h
      dsimp only at h ⊢
      cases h
      exact ⟨v2, rfl, r.2 0 _ _ rfl rfl⟩
    | false =>
      rw [q] at h
      dsimp only at h ⊢
      exact RepF.look rt h
  | [], _ :: _, r, _ => by have := r.1; simp at this
  | _ :: _, [], r, _ => by have := r.1; simp at this
theorem RepF.none {κ : Type} [BEq κ] {G : Hp} {f : κ} : ∀ {vs : List (κ × V)} {ds : List (κ × D)}, RepF G vs ds → ds.lookup f = none → vs.lookup f = none
  | [], [], _, h => rfl
  | v :: vs, e :: ds, r, h => by
    have hn : v.1 = e.1 := r.hd
    have rt : RepF G vs ds := r.tl
    obtain ⟨v1, v2⟩ := v
    obtain ⟨e1, e2⟩ := e
    dsimp only at hn
    subst hn
    rw [List.lookup_cons] at h ⊢
    cases q : f == v1 with
    | true => rw [q] at h; cases h
    | false =>
      rw [q] at h
      dsimp only at h ⊢
      exact RepF.none rt h
  | [], _ :: _, r, _ => by have := r.1; simp at this
  | _ :: _, [], r, _ => by have := r.1; simp at this
def fldR (C : Addr) (f : Str) : D → (D → Prop) → Prop
  | .obj C' fs, Q => C' = C ∧ ∃ v, fs.lookup f = some v ∧ Q v
  | _, _ => False
section
variable {c : Ctx} {X : Cx} {e : Expr} {q : QE} {f : Str} {pos : Pos} {C : Addr}
theorem dfld (hC : ClF X.K C) (hn : NoAttr X.K C f) (he : PD c X e q) (hb : attributeBase e f X.env (eval e X.env) = eval e X.env := by rfl) : PD c X (.Attribute e f pos) (qUn (fldR C f) q) := by
  obtain ⟨t, p, sd⟩ := he.ex
  refine ⟨_, pe_fld p hb, fun ρ σ G H Q R s h k => sd ρ σ G H _ _ s h fun v d G' H' g r hq => ?_⟩
  cases r with
  | obj e hd n q =>
    obtain ⟨rfl, d, hl, hq⟩ := hq
    obtain ⟨w, hw, rw'⟩ := RepF.look (vs := _) ⟨n, q⟩ hl
    exact ⟨_, _, _, _, w, rfl, g.gh _ _ e, hC.cl, hn, hw, k w d G' H' g rw' hq⟩
  | _ => exact hq.elim
end
/-! ### an object under way: a slot that owns it -/
def slotI : Option Slot → (Addr → Addr → Addr → List (Str × D) → Prop) → Prop
  | some (.own a (.ins C dx fs)), Q => Q a C dx fs
  | _, _ => False
theorem slotI_inv {o : Option Slot} {Q : Addr → Addr → Addr → List (Str × D) → Prop} (h : slotI o Q) : ∃ a C dx fs, o = some (.own a (.ins C dx fs)) ∧ Q a C dx fs := by
  match o, h with
  | some (.own a (.ins C dx fs)), h => exact ⟨a, C, dx, fs, rfl, h⟩
def putD (f : Str) (v : D) : List (Str × D) → List (Str × D)
  | [] => [(f, v)]
  | (g, w) :: r => if g = f then (g, v) :: r else (g, w) :: putD f v r
theorem putF_nil (f : Str) (v : V) : putF f v [] = [(f, v)] := rfl
theorem RepF.put {G : Hp} {f : Str} {v : V} {d : D} (r : Rep G v d) : ∀ {vs : List (Str × V)} {ds : List (Str × D)}, RepF G vs ds → RepF G (putF f v vs) (putD f d ds)
  | [], [], _ => ⟨rfl, fun i x y a b => by
      cases i with
      | zero => simp [putF, putD] at a b; rw [← a, ← b]; exact r
      | succ i => simp [putF] at a⟩
  | (v1, v2) :: vs, (e1, e2) :: ds, h => by
    have hn : v1 = e1 := h.hd
    have rt : RepF G vs ds := h.tl
    subst hn
    have rh : Rep G v2 e2 := h.2 0 _ _ rfl rfl
    have ih := RepF.put (f := f) r rt
    unfold putF putD
    by_cases q : v1 = f
    · rw [if_pos q, if_pos q]
      refine ⟨by simp; have := rt.1; exact this, fun i x y a b => ?_⟩
      cases i with
      | zero => simp at a b; rw [← a, ← b]; exact r
      | succ i => exact rt.2 i x y (by simpa using a) (by simpa using b)
    · rw [if_neg q, if_neg q]
      refine ⟨by simp; have := ih.1; exact this, fun i x y a b => ?_⟩
      cases i with
      | zero => simp at a b; rw [← a, ← b]; exact rh
      | succ i => exact ih.2 i x y (by simpa using a) (by simpa using b)
  | [], _ :: _, h => by have := h.1; simp at this
  | _ :: _, [], h => by have := h.1; simp at this
theorem RepF.len {κ : Type} {G : Hp} {vs : List (κ × V)} {ds : List (κ × D)} (h : RepF G vs ds) : vs.length = ds.length := by have := congrArg List.length h.1; simpa using this
/-- x.f = e, x owns the object -/
def qSetF (i : Nat) (C : Addr) (f : Str) (q : QE) : QS := fun ρ Φ => q ρ fun d => slotI ρ[i]? fun a C' dx fs => C' = C ∧ fs.length < 900 ∧ Φ.nx (ρ.set i (.own a (.ins C' dx (putD f d fs))))
/-- x.f, x owns the object -/
def qFldO (i : Nat) (C : Addr) (f : Str) : QE := fun ρ Q => slotI ρ[i]? fun _ C' _ fs => C' = C ∧ ∃ v, fs.lookup f = some v ∧ Q v
section
variable {c : Ctx} {X : Cx} {e : Expr} {q : QE} {f x : Str} {pos npos pos' : Pos} {C : Addr}
theorem ssetF (i : Nat) (hC : ClF X.K C) (hn : NoAttr X.K C f) (he : PD c X e q) (hN : X.N[i]? = some x := by rfl) (hv : Vis X.env.scope x := by first | exact Or.inl rfl | exact Or.inr (Or.inl rfl) | exact Or.inr (Or.inr rfl)) (hd : (x == ("__debug__" : Str)) = false := by decide)
    (hcd : (x == ("__classdict__" : Str)) = false := by decide) (hs : swapsWith e (some (.Attribute (.Name x npos) f pos')) pos.line X.env = pure false := by rfl) : PDS c X (.Assign [.Attribute (.Name x npos) f pos'] e pos) (qSetF i C f q) := by
  obtain ⟨t, p, sd⟩ := he.ex
  refine ⟨_, ps_fld (pe_var hN hv hd hcd) p hs, fun ρ σ G H Φ D' s h fi => sd ρ σ G H _ _ s h fun v d G' H' g r hq => ?_⟩
  obtain ⟨a, C', dx, fs, ea, rfl, hl, hq⟩ := slotI_inv hq
  have s' := s.grow g
  obtain ⟨e1, e2, e3, gd, hd0, hdx, fvs, hf, rf⟩ := s'.sl i _ ea
  have ne : dx ≠ a := fun z => by subst z; rw [hdx] at hf; cases hf
  refine ⟨.ref a, e1, a, C', dx, fvs, rfl, hf, hC.cl, hn, by rw [rf.len]; omega, fi.nx _ _ G' _ g.gg (s'.mutO (o' := .ins C' dx (putD f d fs)) ea ⟨gd, hd0, by rw [upd_ne ne]; exact hdx, _, upd_same, rf.put r⟩) hq⟩
theorem dfldO (i : Nat) (hC : ClF X.K C) (hn : NoAttr X.K C f) (hN : X.N[i]? = some x := by rfl) (hv : Vis X.env.scope x := by first | exact Or.inl rfl | exact Or.inr (Or.inl rfl) | exact Or.inr (Or.inr rfl)) (hd : (x == ("__debug__" : Str)) = false := by decide)
    (hcd : (x == ("__classdict__" : Str)) = false := by decide) (hb : attributeBase (.Name x npos) f X.env (eval (.Name x npos) X.env) = eval (.Name x npos) X.env := by rfl) : PD c X (.Attribute (.Name x npos) f pos) (qFldO i C f) := by
  refine ⟨_, pe_fld (pe_var hN hv hd hcd) hb, fun ρ σ G H Q R s h k => ?_⟩
  obtain ⟨a, C', dx, fs, ea, rfl, d, hl, hq⟩ := slotI_inv h
  obtain ⟨e1, e2, e3, gd, hd0, hdx, fvs, hf, rf⟩ := s.sl i _ ea
  obtain ⟨w, hw, rw'⟩ := rf.look hl
  exact ⟨.ref a, e1, a, C', dx, fvs, w, rfl, hf, hC.cl, hn, hw, k w d G H s.refl rw' hq⟩
end
/-! ### objects made -/
/-- a promise of a constructor: the fields -/
abbrev SpI := Option Addr → List D → (List (Str × D) → Prop) → Prop
def hide2 (H : Hp) (x y : Addr) : Hp := fun z => if z = x ∨ z = y then none else H z
theorem hide2_x {H : Hp} {x y : Addr} : hide2 H x y x = none := if_pos (.inl rfl)
theorem hide2_y {H : Hp} {x y : Addr} : hide2 H x y y = none := if_pos (.inr rfl)
theorem hide2_ne {H : Hp} {x y z : Addr} (h1 : z ≠ x) (h2 : z ≠ y) : hide2 H x y z = H z := if_neg (fun h => h.elim h1 h2)
theorem hide2_some {H : Hp} {x y z : Addr} {o : HO} (h : hide2 H x y z = some o) : H z = some o ∧ z ≠ x ∧ z ≠ y := by
  by_cases q : z = x ∨ z = y
  · rw [show hide2 H x y z = none from if_pos q] at h; cases h
  · exact ⟨by rw [show hide2 H x y z = H z from if_neg q] at h; exact h, fun e => q (.inl e), fun e => q (.inr e)⟩
def lfI (C : Addr) (sp : SpI) : Sp := fun vs H R _ => ∃ (β : Option Addr) (G : Hp) (ds : List D) (Q : List (Str × D) → Prop) (x dx : Addr) (vs' : List V), vs = .ref x :: vs' ∧ RepL G vs' ds ∧ Ex G (hide2 H x dx) ∧ (∀ b, β = some b → Bag G H b) ∧ H x = some (.ins C dx []) ∧ H dx = some (.own x) ∧ sp β ds Q ∧
  ∀ fs fvs G' H', Grow β G (hide2 H x dx) G' H' → G' x = none → G' dx = none → H' x = some (.ins C dx fvs) → H' dx = some (.own x) → RepF G' fvs fs → Q fs → R .non H'
section
variable {P : Program} {w : World} {K : PySem.W.Frag} {mg : Str → Option Value} {base : Heap}
theorem fn_init {x qual : Str} {params : Arguments} {body : List Stmt} {scope : Scope} {dvs : List V} {kws : List (Str × V)} {f C : Addr} {fd : FuncData} {N ps : List Str} {k : Nat} {sp : SpI} (F : FunD K x qual params body scope dvs kws f fd) (S : FnScope N ps scope) (hl : ∀ β ds Q, sp β ds Q → ds.length + 1 = ps.length)
    (bd : ∀ (cdv : Value) (A : Around) (outer : List Env) (s : Shared) (H : Hp) (E : XK) (c : Ctx), Room k (A.deeper (PyProof.Rows.envOfC qual scope s.heap.objs.size f cdv)) →
      ∃ q, PDB c (cxOf CX0 P w K mg base N qual scope f cdv A outer s H E).nox body q ∧ ∀ x dx ds Q, sp c.β ds Q → q (.own x (.ins C dx []) :: (ds.map Slot.d ++ List.replicate (N.length - (ds.length + 1)) .un)) { nx := fun ρ => ∃ fs, ρ[0]? = some (.own x (.ins C dx fs)) ∧ Q fs, rt := fun d ρ => d = .non ∧ ∃ fs, ρ[0]? = some (.own x (.ins C dx fs)) ∧ Q fs }) : FnOk P w K mg base CX0 (k + 1) f fd ps (lfI C sp) := by
  refine F.ok S (fun vs H Q E h => ?_) (fun cdv A outer s H vs R E hr h => ?_)
  · obtain ⟨β, G, ds, Q, x, dx, vs', rfl, r, _, _, _, _, h, _⟩ := h
    rw [List.length_cons, r.1]; exact hl β ds Q h
  · obtain ⟨β, G, ds, Q, x, dx, vs', rfl, r, gh, bg, hx, hdx, h, kk⟩ := h
    obtain ⟨q, pb, hq⟩ := bd cdv A outer s H E ⟨β, G, hide2 H x dx, fun _ => False⟩ hr
    obtain ⟨t, p, sd⟩ := pb.ex
    have ne : dx ≠ x := fun z => by subst z; rw [hx] at hdx; cases hdx
    have gx : G x = none := gh.free hide2_x
    have gdx : G dx = none := gh.free hide2_y
    have gh' : Ex G H := fun a o e => (hide2_some (gh a o e)).1
    have bt := bag_there bg
    have nb : ∀ b, β = some b → b ≠ x ∧ b ≠ dx := fun b e => by
      obtain ⟨c', cells, x1, x2, x3, x4, hb, _⟩ := (bg b e).is
      constructor
      · intro z
        rw [z, hx] at hb
        cases hb
      · intro z
        rw [z, hdx] at hb
        cases hb
    have hlen := hl β ds Q h
    have st0 : Sta ⟨β, G, hide2 H x dx, fun _ => False⟩ G H (L2.start N (.ref x :: vs')) (.own x (.ins C dx []) :: (ds.map Slot.d ++ List.replicate (N.length - (ds.length + 1)) .un)) := by
      refine ⟨⟨Same.refl G, fun a o h _ _ => (hide2_some h).1, fun a o h _ => by rw [(hide2_some h).1]; simp, fun _ t => t.ext fun b o e => (hide2_some e).1, fun a o h _ n => absurd (h.symm.trans n) (by simp), gh', bg, fun b e => ?_⟩, ?_, fun i sl e => ?_, fun i j a o1 o2 h1 h2 => ?_⟩
      · show hide2 H x dx b ≠ none
        rw [hide2_ne (nb b e).1 (nb b e).2]
        exact bt b e
      · simp [L2.start, r.1]
      · cases i with
        | zero =>
          cases e
          exact ⟨rfl, gx, hide2_x, gdx, hide2_y, hdx, [], hx, RepF.nil⟩
        | succ i =>
          rw [List.getElem?_cons_succ] at e
          show SlotR _ G H (L2.start N (.ref x :: vs'))[i + 1]? sl
          have e2 : (L2.start N (.ref x :: vs'))[i + 1]? = (vs'.map some ++ List.replicate (N.length - (vs'.length + 1)) none)[i]? := by
            unfold L2.start
            rw [List.map_cons, List.cons_append, List.getElem?_cons_succ, List.length_cons]
          rw [e2]
          by_cases hi : i < ds.length
          · rw [List.getElem?_append_left (by simpa using hi), List.getElem?_map] at e
            rw [List.getElem?_append_left (by simpa [r.1] using hi), List.getElem?_map]
            cases q : ds[i]? with
            | none => rw [q] at e; cases e
            | some d =>
              rw [q] at e
              cases e
              obtain ⟨v, hv, rv⟩ := r.get q
              exact ⟨v, by rw [hv]; rfl, rv⟩
          · rw [List.getElem?_append_right (by simpa using hi), List.getElem?_replicate] at e
            split at e
            · cases e; trivial
            · cases e
      · have key : ∀ (i : Nat) (a : Addr) (o : Ob), (Slot.own x (.ins C dx []) :: (ds.map Slot.d ++ List.replicate (N.length - (ds.length + 1)) Slot.un))[i]? = some (.own a o) → i = 0 := by
          intro i a o e
          cases i with
          | zero => rfl
          | succ i =>
            rw [List.getElem?_cons_succ] at e
            by_cases hi : i < ds.length
            · rw [List.getElem?_append_left (by simpa using hi), List.getElem?_map] at e
              cases q : ds[i]? with
              | none => rw [q] at e; cases e
              | some d => rw [q] at e; cases e
            · rw [List.getElem?_append_right (by simpa using hi), List.getElem?_replicate] at e
              split at e
              · cases e
              · cases e
        rw [key i a o1 h1, key j a o2 h2]
    have fin : ∀ (G' H' : Hp) (σ' : L2.St) (ρ' : List Slot), Sta ⟨β, G, hide2 H x dx, fun _ => False⟩ G' H' σ' ρ' → (∃ fs, ρ'[0]? = some (.own x (.ins C dx fs)) ∧ Q fs) → R .non H' := fun G' H' σ' ρ' s' ⟨fs, ea, hQ⟩ => by
      obtain ⟨e1, e2, e3, gd, hd0, hdx', fvs, hf, rf⟩ := s'.sl 0 _ ea
      exact kk fs fvs G' H' ⟨s'.core.g0, s'.core.h0, s'.core.tn, s'.core.tb, s'.core.gh, s'.core.nw, s'.core.bg⟩ e2 gd hf hdx' rf hQ
    refine ⟨t, p.nox, sd _ _ G H _ _ st0 (hq x dx ds Q h) ⟨fun ρ' σ' G' H' _ s' h' => fin G' H' σ' ρ' s' h', fun v d ρ' σ' G' H' _ s' rv h' => ?_, fun _ _ _ _ _ _ h => h.elim, fun _ _ _ _ _ _ h => h.elim, fun _ _ _ _ _ _ _ _ _ _ _ _ _ h => h.elim⟩⟩
    obtain ⟨rfl, h'⟩ := h'
    cases rv
    exact fin G' H' σ' ρ' s' h'
end
end DL

namespace DL
open PySem L2
/-- the object is frozen -/
theorem frzI {β : Option Addr} {G H G' H' : Hp} {x dx C : Addr} {fvs : List (Str × V)} {fs : List (Str × D)} (g : Grow β G H G' H') (hx : H x = none) (hdx : H dx = none) (gx : G' x = none) (gdx : G' dx = none) (hx' : H' x = some (.ins C dx fvs)) (hdx' : H' dx = some (.own x)) (rf : RepF G' fvs fs) (hb : ∀ b, β = some b → H b ≠ none) :
    ∃ G2, Grow β G H G2 H' ∧ Rep G2 (.ref x) (.obj C fs) := by
  have ne : dx ≠ x := fun z => by subst z; rw [hx'] at hdx'; cases hdx'
  have e1 : Ex G' (upd G' x (.ins C dx fvs)) := Ex.new gx
  have e2 : Ex (upd G' x (.ins C dx fvs)) (upd (upd G' x (.ins C dx fvs)) dx (.own x)) := Ex.new (by rw [upd_ne ne]; exact gdx)
  have ex := e1.trans e2
  have nb : ∀ b, β = some b → b ≠ x ∧ b ≠ dx := fun b e => ⟨fun z => hb b e (by rw [z]; exact hx), fun z => hb b e (by rw [z]; exact hdx)⟩
  refine ⟨_, ⟨g.gg.trans ex, g.hh, g.tn, g.tb, fun a o h => ?_, fun a o h nt n => ?_, fun b e => (g.bg b e).mono ex rfl (by rw [upd_ne (nb b e).2, upd_ne (nb b e).1]; exact (g.bg b e).out)⟩, .obj (by rw [upd_ne (Ne.symm ne), upd_same]) upd_same rf.1 (rf.mono ex).2⟩
  · by_cases q : a = dx
    · subst q; rw [upd_same] at h; rw [hdx']; exact h
    · rw [upd_ne q] at h
      by_cases q2 : a = x
      · subst q2; rw [upd_same] at h; rw [hx']; exact h
      · rw [upd_ne q2] at h; exact g.gh a o h
  · by_cases q : a = dx
    · rw [q]; exact hdx
    · rw [upd_ne q] at h
      by_cases q2 : a = x
      · rw [q2]; exact hx
      · rw [upd_ne q2] at h; exact g.nw a o h nt n
/-- a constructor that keeps a promise -/
def DnI (P : Program) (w : World) (K : PySem.W.Frag) (mg : Str → Option Value) (base : Heap) (k : Nat) (x : Str) (C : Addr) (ps : List Str) (dvs : List V) (sp : SpI) : Prop :=
  ∃ f fd, FnOk P w K mg base CX0 k f fd ps (lfI C sp) ∧ Mk K C f ∧ ClF K C ∧ mg x = some (.ref C) ∧ ∀ j, j ≤ dvs.length → ∃ us, Vals (dvs.drop j) us ∧ Binds K fd ps us
def qMake (C : Addr) (sp : SpI) (dd : List D) (β : Option Addr) (q : QA) : QE := fun ρ Q => q ρ fun ds => sp β (ds ++ dd) fun fs => Q (.obj C fs)
theorem snd_make {c : Ctx} {C : Addr} {sp : SpI} {dd : List D} {dv : List V} {t : TA} {q : QA} (rd : ∀ G, RepL G dv dd) (sa : SndA c t q) : SndE c (tMake C (lfI C sp) dv E0 t) (qMake C sp dd c.β q) := by
  intro ρ σ G H Q R s h k
  refine sa ρ σ G H _ _ s h fun vs ds G1 H1 g1 r1 h1 x dx hx hdx ne => ?_
  have s1 := s.grow g1
  have eqH : ∀ a, a ≠ x → a ≠ dx → upd (upd H1 dx (.own x)) x (.ins C dx []) a = H1 a := fun a h1 h2 => by rw [upd_ne h1, upd_ne h2]
  have hid : hide2 (upd (upd H1 dx (.own x)) x (.ins C dx [])) x dx = H1 := by
    funext a
    by_cases q1 : a = x
    · rw [q1, hide2_x, hx]
    · by_cases q2 : a = dx
      · rw [q2, hide2_y, hdx]
      · rw [hide2_ne q1 q2, eqH a q1 q2]
  have nb : ∀ b, c.β = some b → b ≠ x ∧ b ≠ dx := fun b e => ⟨fun z => s1.hb b e (by rw [z]; exact hx), fun z => s1.hb b e (by rw [z]; exact hdx)⟩
  refine ⟨c.β, G1, ds ++ dd, _, x, dx, vs ++ dv, rfl, r1.app (rd G1), by rw [hid]; exact s1.core.gh, fun b e => (s1.core.bg b e).mono (Same.refl G1) (eqH b (nb b e).1 (nb b e).2) (s1.core.bg b e).out, upd_same, by rw [upd_ne ne, upd_same], h1, fun fs fvs G' H' g gx gdx hx' hdx' rf hq => ?_⟩
  rw [hid] at g
  obtain ⟨G2, g2, r2⟩ := frzI g hx hdx gx gdx hx' hdx' rf s1.hb
  exact ⟨rfl, k _ _ G2 H' (g1.trans g2 s.hb) r2 hq⟩
section
variable {c : Ctx} {X : Cx} {e : Expr} {es : List Expr} {qr : QA} {p pos : Pos} {x : Str} {C : Addr}
theorem dmk {sp : SpI} {j k : Nat} {ps : List Str} {dvs : List V} (F : DnI X.prog X.w X.K X.mg X.base j x C ps dvs sp) (n : Nat) (dd : List D) (rd : ∀ G, RepL G (dvs.drop n) dd) (hr : Room k X.A) (ha : PDA c X (e :: es) qr) (hn : n ≤ dvs.length := by decide) (hj : j + 1 ≤ k := by decide)
    (hg : Gl X x := by rfl) (hdb : (x == ("__debug__" : Str)) = false := by decide) (he : starEach (e :: es) X.env = (false, eval e X.env) :: starEach es X.env := by rfl) (hpl : (backTo pos (starEach es X.env)).any (·.1) = false := by rfl) : PD c X (.Call (.Name x p) (e :: es) [] pos) (qMake C sp dd c.β qr) := by
  obtain ⟨f, fd, F, M, _, m, b⟩ := F
  obtain ⟨us, vu, bd⟩ := b n hn
  obtain ⟨t, pa, sa⟩ := ha.ex
  exact ⟨_, pe_make M F (hr.mono hj) hg m bd vu pass0 pa hdb he hpl, snd_make rd sa⟩
end
/-! ### methods -/
def objM (C : Addr) (m : Str) : D → Prop
  | .obj C' fs => C' = C ∧ fs.lookup m = none
  | _ => False
/-- the object by position, all else by keyword -/
def kwM {α : Type} : List α → List α → List α
  | [u], ws => u :: ws
  | _, _ => []
def DnM (P : Program) (w : World) (K : PySem.W.Frag) (mg : Str → Option Value) (base : Heap) (k : Nat) (C : Addr) (m : Str) (ps : List Str) (sp : SpD) : Prop :=
  ∃ f fd, FnOk P w K mg base CX0 k f fd ps (lf sp) ∧ Meth K C m f ∧ ClF K C ∧ Binds K fd ps [] ∧ KBinds K fd ps (ps.drop 1) kwM kwM
def qMeth (C : Addr) (m : Str) (sp : SpD) (β : Option Addr) (q : QE) (qr : QA) : QE := fun ρ Q => q ρ fun d => objM C m d ∧ qr ρ fun ds => sp β (d :: ds) Q
section
variable {c : Ctx} {X : Cx} {o e : Expr} {es : List Expr} {qr : QA} {q : QE} {p pos apos : Pos} {m : Str} {C : Addr} {kws : List Keyword}
theorem snd_meth {sp : SpD} {ta : TE} {t : TA} (so : SndE c ta q) (sa : SndA c t qr) : SndE c (tMeth C m (lf sp) [] E0 ta t) (qMeth C m sp c.β q qr) := by
  intro ρ σ G H Q R s h k
  refine so ρ σ G H _ _ s h fun v d G1 H1 g1 r1 h1 => ?_
  have s1 := s.grow g1
  obtain ⟨ho, h1⟩ := h1
  cases r1 with
  | obj e hd n q' =>
    obtain ⟨rfl, hl⟩ := ho
    refine ⟨_, _, _, rfl, g1.gh _ _ e, RepF.none ⟨n, q'⟩ hl, sa ρ σ G1 H1 _ _ s1 h1 fun vs ds G2 H2 g2 r2 h2 => ?_⟩
    have s2 := s1.grow g2
    rw [List.append_nil]
    exact ⟨c.β, G2, _, Q, .cons ((Rep.obj e hd n q').mono g2.gg) r2, s2.core.gh, s2.core.bg, h2, fun v d G' H' g r q => k v d G' H' ((g1.trans g2 s.hb).trans g s.hb) r q⟩
  | _ => exact ho.elim
theorem dmeth {sp : SpD} {j k : Nat} {ps : List Str} {pl : Sem Bool} (F : DnM X.prog X.w X.K X.mg X.base j C m ps sp) (hr : Room k X.A) (ho : PD c X o q) (ha : PDA c X (e :: es) qr) (hj : j ≤ k := by decide)
    (hst : starEach (e :: es) X.env = (false, eval e X.env) :: starEach es X.env := by rfl) (hpl : (backTo pos (starEach es X.env)).any (·.1) = false := by rfl)
    (ht : eval (.Call (.Attribute o m apos) (e :: es) [] pos) X.env = (do
      let ov ← eval o X.env
      standAt apos.atName
      let (f, first) ← holding [ov] (getMethod ov m pl)
      callWith pos f first (backTo pos (starEach (e :: es) X.env)) (backToKw pos (keywordEach [] X.env))) := by rfl) :
    PD c X (.Call (.Attribute o m apos) (e :: es) [] pos) (qMeth C m sp c.β q qr) := by
  obtain ⟨f, fd, F, M, cf, b, _⟩ := F
  obtain ⟨ta, po, so⟩ := ho.ex
  obtain ⟨t, pa, sa⟩ := ha.ex
  exact ⟨_, pe_meth po cf.cl M F (hr.mono hj) b .nil pass0 pa hst hpl ht, snd_meth so sa⟩
theorem dmeth0 {sp : SpD} {j k : Nat} {ps : List Str} {pl : Sem Bool} (F : DnM X.prog X.w X.K X.mg X.base j C m ps sp) (hr : Room k X.A) (ho : PD c X o q) (hj : j ≤ k := by decide)
    (ht : eval (.Call (.Attribute o m apos) [] [] pos) X.env = (do
      let ov ← eval o X.env
      standAt apos.atName
      let (f, first) ← holding [ov] (getMethod ov m pl)
      callWith pos f first (backTo pos (starEach [] X.env)) (backToKw pos (keywordEach [] X.env))) := by rfl) :
    PD c X (.Call (.Attribute o m apos) [] [] pos) (qMeth C m sp c.β q qNil) := by
  obtain ⟨f, fd, F, M, cf, b, _⟩ := F
  obtain ⟨ta, po, so⟩ := ho.ex
  exact ⟨_, pe_meth0 po cf.cl M F (hr.mono hj) b .nil pass0 ht, snd_meth so fun ρ σ G H Q R s h k => k [] [] G H s.refl .nil h⟩
/-- o.m(k=e) -/
theorem pe_methK {CX : CXT} {k : Nat} {f : Addr} {fd : FuncData} {ps ks : List Str} {sp : Sp} {E : XK} {ta : TE} {tk : TA} {pl : Sem Bool} (he : PE X o ta) (c : Cls X.K C) (hm : Meth X.K C m f) (F : FnOk X.prog X.w X.K X.mg X.base CX k f fd ps sp) (hr : Room k X.A) (hb : KBinds X.K fd ps ks kwM kwM) (hx : Passes CX X E)
    (hkw : PK X kws tk) (hall : (backToKw pos (keywordEach kws X.env)).all (·.1.isSome) = true) (hks : (backToKw pos (keywordEach kws X.env)).filterMap (·.1) = ks)
    (hpl : ((backTo pos (starEach [] X.env)).any (·.1) || (backToKw pos (keywordEach kws X.env)).any (·.1.isNone)) = false)
    (ht : eval (.Call (.Attribute o m apos) [] kws pos) X.env = (do
      let ov ← eval o X.env
      standAt apos.atName
      let (f, first) ← holding [ov] (getMethod ov m pl)
      callWith pos f first (backTo pos (starEach [] X.env)) (backToKw pos (keywordEach kws X.env)))) :
    PE X (.Call (.Attribute o m apos) [] kws pos) (tMeth C m sp [] E ta tk) := by
  refine ⟨fun pins s σ H Q I h => ?_⟩
  refine PySem.W.methodCall_KW (pl := pl) (thn (he.run pins s σ H _ I h) fun u s1 ⟨x, H1, I1, rx, a, dx, fs, ex, ea, l, q⟩ => ?_) ht
  subst ex
  obtain rfl : u = Value.ref a := rx
  refine getmeth_ok I1 ea c hm l ?_
  refine PySem.W.callWith_KW0 (first := [.ref a]) (h₀ := X.base) I.ok.mod.kin hm.kp hall (thn (hkw.run pos pins s1 σ H1 _ I1 q) fun ws s2 ⟨zs, H2, I2, rz, q2⟩ => ⟨I2.kIn, ?_⟩) hpl
  rw [hks]
  have q2 : sp (.ref a :: (zs ++ [])) H2 Q E := q2
  rw [List.append_nil] at q2
  exact run_fnk (us := [.ref a]) (vs := [.ref a]) F hr hb hx I2 (.cons rfl .nil) rz q2
theorem dmethK {sp : SpD} {j k : Nat} {ps : List Str} {pl : Sem Bool} (F : DnM X.prog X.w X.K X.mg X.base j C m ps sp) (hr : Room k X.A) (ho : PD c X o q) (ha : PDK c X kws qr) (hj : j ≤ k := by decide)
    (hall : (backToKw pos (keywordEach kws X.env)).all (·.1.isSome) = true := by rfl) (hks : (backToKw pos (keywordEach kws X.env)).filterMap (·.1) = ps.drop 1 := by rfl)
    (hpl : ((backTo pos (starEach [] X.env)).any (·.1) || (backToKw pos (keywordEach kws X.env)).any (·.1.isNone)) = false := by rfl)
    (ht : eval (.Call (.Attribute o m apos) [] kws pos) X.env = (do
      let ov ← eval o X.env
      standAt apos.atName
      let (f, first) ← holding [ov] (getMethod ov m pl)
      callWith pos f first (backTo pos (starEach [] X.env)) (backToKw pos (keywordEach kws X.env))) := by rfl) :
    PD c X (.Call (.Attribute o m apos) [] kws pos) (qMeth C m sp c.β q qr) := by
  obtain ⟨f, fd, F, M, cf, _, b⟩ := F
  obtain ⟨ta, po, so⟩ := ho.ex
  obtain ⟨t, pa, sa⟩ := ha.ex
  exact ⟨_, pe_methK po cf.cl M F (hr.mono hj) b pass0 pa hall hks hpl ht, snd_meth so sa⟩
end
end DL

namespace DL
open PySem L2
/-! ### own operators -/
theorem Grow.ofNone {β : Option Addr} {G H G' H' : Hp} (g : Grow none G H G' H') (bg : ∀ b, β = some b → Bag G H b) : Grow β G H G' H' := by
  refine ⟨g.gg, fun a o h _ => g.hh a o h (by simp), g.tn, g.tb, g.gh, g.nw, fun b e => ?_⟩
  have B := bg b e
  obtain ⟨c', cells, x1, x2, x3, x4, hb, hc, rest⟩ := B.is
  refine ⟨?_, c', cells, x1, x2, x3, x4, g.hh _ _ hb (by simp) nt_lst, g.gg _ _ hc, rest⟩
  exact g.own hb nt_lst (fun _ z => by cases z) (by simp) B.out
section
variable {prog : Program} {w : World} {A : Around} {E : Value → Shared → Prop} {s : Shared} {K : PySem.W.Frag} {x C L f : Addr} {h₀ : Heap} {m : Str → Option Value} {ox : Obj} {od : Option Obj}
/-- an int on the left, an instance on the right -/
theorem binop_R {op : Operator} {idl : String} {B : Builtin} {i : Int} {t : Tok} {rc : Option Value} {f' : Addr} {Q : Value → Shared → Prop} (F : PyProof.Rows.Fr h₀ L s.heap m) (X₀ : K.In h₀) (I : PySem.W.InstAt s.heap x ox C od) (hc : PySem.W.selfFirst K C = true)
    (hl : PySem.W.findIn K (.ref C) (PySem.dunder op.info.2) = some (some (.ref f'))) (hs : PySem.W.findIn K (.ref C) (dunderR op.info.2) = some (some (.ref f))) (hf : PySem.W.isFn K (.ref f) = true) (hsub : PySem.W.subIn K (.ref C) (.type "int") = some false)
    (fills : fillsNumberSlot (.type "int") op.info.2 = pure true) (slot : PySem.Slot "int" (PySem.dunder op.info.2) idl) (entry : entryFor table idl = some B) (args : argsOk idl ⟨[.int i t, .ref x], []⟩)
    (decl : ∀ (s : Shared) (E' : Value → Shared → Prop) (Q' : Fin → Shared → Prop), s.heap.get? x = some ox → Q' (.done (.ret .notImplemented)) s → wpAny (model prog w) A.in1 (B ⟨[.int i t, .ref x], []⟩) Q' E' s)
    (h : wpAny (model prog w) A (call (.ref f) [.ref x, .int i t]) (PySem.W.CmpBack Q) E s) : wpAny (model prog w) A (binaryOp op (.int i t) (.ref x)) Q E s := by
  have X := X₀.keeps F.keep
  obtain ⟨cd, rest, hcd, hm⟩ := PySem.W.ksp_first hc
  rcases hi : op.info with ⟨sym, nm'⟩
  rw [hi] at hl hs fills slot
  dsimp only at hl hs fills slot
  have one : wpAny (model prog w) A (tryMethod (.ref x) (dunderR nm') (.int i t)) (fun r s' => ∃ v, r = some v ∧ Q v s') E s := PySem.W.ksp_try X I hs hf h
  have zero : ∀ Q' : Option Value → Shared → Prop, Q' none s → wpAny (model prog w) A (tryMethod (.int i t) (PySem.dunder nm') (.ref x)) Q' E s := fun Q' hq =>
    wpAny_tryMethod_declines (typeIs_int s i t) slot (wpAny_call_entry slot (typeIs_int s i t) entry (decl s E _ I.at_ ⟨_, rfl, rfl, hq⟩) args)
  have L1 : PySem.W.Looks (model prog w) s.heap (typeOf (.ref x)) (.ref C) := I.type
  have L3 : PySem.W.Looks (model prog w) s.heap (fillsNumberSlot (.ref C) nm') true := PySem.W.fills_K X hcd hm hl
  have L5 : PySem.W.Looks (model prog w) s.heap (isSubtype (.ref C) (.type "int")) false := PySem.W.looks_subIn X hsub
  have hne : (Value.type "int" == Value.ref C) = false := Bool.eq_false_iff.mpr fun q => by cases beq_iff_eq.mp q
  simp only [binaryOp, hi]
  refine wpAny_holding (wpAny_bind ?_)
  unfold binaryOp1
  refine wpAny_bind (wpAny_typeOf (T := "int") (typeIs_int s i t) (wpAny_bind (L1.here (wpAny_bind (wpAny_of_eq fills ?_)))))
  simp only [hne, Bool.false_eq_true, if_false]
  refine wpAny_bind (L3.here ?_)
  simp only [Bool.and_self, if_true]
  refine wpAny_bind (L5.here ?_)
  have hpy : numberSlotInPython (.type "int") nm' = pure false := rfl
  simp only [Bool.false_eq_true, if_false, pure_bind, Bool.not_false, Bool.and_self, if_true, hpy]
  refine wpAny_bind (zero _ ?_)
  refine wpAny_bind (wpAny_mono one (fun r s' hr' => ?_) fun _ _ e => e)
  obtain ⟨v, rfl, hq⟩ := hr'
  exact wpAny_bind (wpAny_rule (wpAny_pure (wpAny_pure hq)))
end
theorem int_declines {prog : Program} {w : World} {A : Around} {nm : String} {g : Int → Int → Sem Fin} {i : Int} {t : Tok} {x C dx : Addr} (s : Shared) (E' : Value → Shared → Prop) (Q' : Fin → Shared → Prop) (hx : s.heap.get? x = some (PySem.W.instObj C dx)) (hq : Q' (.done (.ret .notImplemented)) s) :
    wpAny (model prog w) A (Builtin.Int.intBinary nm g false ⟨[.int i t, .ref x], []⟩) Q' E' s := by
  obtain ⟨hp, gs, d, tk, os⟩ := s
  unfold Builtin.Int.intBinary
  wp_walk using wpAny_load hx
  exact hq
/-- what the text has for an own operator, beside its method -/
structure OwnOp (K : PySem.W.Frag) (C : Addr) (nm : String) : Prop where
  sf : PySem.W.selfFirst K C = true
  s1 : PySem.W.subIn K (.type "int") (.ref C) = some false
  s2 : PySem.W.subIn K (.ref C) (.type "int") = some false
  i1 : ∃ fo, PySem.W.findIn K (.type "int") (PySem.dunder nm) = some fo
  i2 : ∃ ro, PySem.W.findIn K (.type "int") (dunderR nm) = some ro
theorem not_ni {v : V} {u : Value} (r : RelV v u) {Q : Value → Shared → Prop} {s : Shared} (q : Q u s) : PySem.W.CmpBack Q u s := by
  cases u <;> first | exact q | (cases v <;> first | exact r.elim | (obtain ⟨_, h⟩ := r; cases h) | cases r)
section
variable {X : Cx} {pins : List (Addr × Obj)} {σ : L2.St} {H : Hp} {s : Shared}
theorem ins_at {a C dx : Addr} {fs : List (Str × V)} (I : Inv X pins σ H s) (e : H a = some (.ins C dx fs)) : ∃ od, PySem.W.InstAt s.heap a (PySem.W.instObj C dx) C (some od) := by
  obtain ⟨mA, O, _⟩ := ins_get I.hok e
  obtain ⟨od, J, _⟩ := O.look
  exact ⟨od, J⟩
theorem back_ni {Q : VK} {A : Around} {x : Sem Value} (h : wpAny (model X.prog X.w) A x (EP X pins σ Q) X.xe s) : wpAny (model X.prog X.w) A x (PySem.W.CmpBack (EP X pins σ Q)) X.xe s :=
  wpAny_mono h (fun u s' ⟨v, H', I, r, q⟩ => not_ni r ⟨v, H', I, r, q⟩) fun _ _ e => e
end
def rOwn (C : Addr) (sp spr : SpD) : R2 := fun x y H Q =>
  (∃ a dx fs b dy gs, x = .ref a ∧ y = .ref b ∧ H a = some (.ins C dx fs) ∧ H b = some (.ins C dy gs) ∧ lf sp [x, y] H Q E0) ∨
  (∃ a dx fs j, x = .ref a ∧ y = .int j ∧ H a = some (.ins C dx fs) ∧ lf sp [x, y] H Q E0) ∨
  (∃ i b dy gs, x = .int i ∧ y = .ref b ∧ H b = some (.ins C dy gs) ∧ lf spr [y, x] H Q E0)
theorem op_own {X : Cx} {op : Operator} {C : Addr} {sp spr : SpD} {k j l : Nat} {ps prs : List Str} {idl nm' : String} {g : Int → Int → Sem Fin} (o : OwnOp X.K C op.info.2) (F : DnM X.prog X.w X.K X.mg X.base j C (PySem.dunder op.info.2) ps sp) (R : DnM X.prog X.w X.K X.mg X.base l C (dunderR op.info.2) prs spr) (hr : Room k X.A) (hj : j ≤ k) (hl : l ≤ k)
    (fills : fillsNumberSlot (.type "int") op.info.2 = pure true) (slot : PySem.Slot "int" (PySem.dunder op.info.2) idl) (entry : entryFor table idl = some (Builtin.Int.intBinary nm' g)) (args : ∀ a b, argsOk idl ⟨[a, b], []⟩) : OpR X (binaryOp op) (rOwn C sp spr) := by
  intro pins s σ H x y u v Q I rx ry h
  obtain ⟨f, fd, F, M, cf, b, _⟩ := F
  obtain ⟨f', fd', F', M', _, b', _⟩ := R
  obtain ⟨m, hF⟩ := I.fr
  obtain ⟨fo, h1⟩ := o.i1
  obtain ⟨ro, h2⟩ := o.i2
  rcases h with ⟨a, dx, fs, c, dy, gs, rfl, rfl, ha, hc, h⟩ | ⟨a, dx, fs, i, rfl, rfl, ha, h⟩ | ⟨i, c, dy, gs, rfl, rfl, hc, h⟩
  · obtain rfl : u = Value.ref a := rx
    obtain rfl : v = Value.ref c := ry
    obtain ⟨od, J⟩ := ins_at I ha
    obtain ⟨od', J'⟩ := ins_at I hc
    refine PySem.W.binop_K hF I.ok.mod.kin J J'.type o.sf M.at_ M.fn (back_ni ?_)
    exact run_fn (us := [.ref a, .ref c]) (vs := [.ref a, .ref c]) F (hr.mono hj) b .nil pass0 I (.cons rfl (.cons rfl .nil)) h
  · obtain rfl : u = Value.ref a := rx
    obtain ⟨t, rfl⟩ := (show ∃ t, v = Value.int i t from ry)
    obtain ⟨od, J⟩ := ins_at I ha
    refine PySem.W.ksp_binT (T := "int") hF I.ok.mod.kin J rfl o.sf M.at_ M.fn M'.at_ (.inr ⟨f', rfl⟩) h1 h2 o.s1 (back_ni ?_)
    exact run_fn (us := [.ref a, .int i t]) (vs := [.ref a, .int i]) F (hr.mono hj) b .nil pass0 I (.cons rfl (.cons ⟨t, rfl⟩ .nil)) h
  · obtain ⟨t, rfl⟩ := (show ∃ t, u = Value.int i t from rx)
    obtain rfl : v = Value.ref c := ry
    obtain ⟨od, J⟩ := ins_at I hc
    refine binop_R (B := Builtin.Int.intBinary nm' g) (rc := none) hF I.ok.mod.kin J o.sf M.at_ M'.at_ M'.fn o.s2 fills slot entry (args _ _) (fun s E' Q' hx hq => int_declines s E' Q' hx hq) (back_ni ?_)
    exact run_fn (us := [.ref c, .int i t]) (vs := [.ref c, .int i]) F' (hr.mono hl) b' .nil pass0 I (.cons rfl (.cons ⟨t, rfl⟩ .nil)) h
def ownR (C : Addr) (sp spr : SpD) (rd : D → D → (D → Prop) → Prop) : D → D → (D → Prop) → Prop
  | .obj C1 fs, .obj C2 gs, Q => (C1 = C ∧ C2 = C) ∧ sp none [.obj C1 fs, .obj C2 gs] Q
  | .obj C1 fs, .int j, Q => C1 = C ∧ sp none [.obj C1 fs, .int j] Q
  | .int i, .obj C2 gs, Q => C2 = C ∧ spr none [.obj C2 gs, .int i] Q
  | a, b, Q => rd a b Q
theorem lf_none {β : Option Addr} {G H : Hp} {sp : SpD} {vs : List V} {ds : List D} {Q : D → Prop} {R : VK} {E : XK} (hgh : Ex G H) (hbg : ∀ b, β = some b → Bag G H b) (r : RepL G vs ds) (h : sp none ds Q) (k : ∀ v d G' H', Grow β G H G' H' → Rep G' v d → Q d → R v H') : lf sp vs H R E :=
  ⟨none, G, ds, Q, r, hgh, fun b e => (by cases e), h, fun v d G' H' g r q => k v d G' H' (g.ofNone hbg) r q⟩
theorem opd_own {C : Addr} {sp spr : SpD} {r0 : R2} {rd : D → D → (D → Prop) → Prop} (h0 : OpD r0 rd) : OpD (fun x y H Q => r0 x y H Q ∨ rOwn C sp spr x y H Q) (ownR C sp spr rd) := by
  intro β G H x y a b Q R hgh hbg ra rb h k
  have gen : rd a b Q → r0 x y H R ∨ rOwn C sp spr x y H R := fun h => .inl (h0 β G H x y a b Q R hgh hbg ra rb h k)
  have rr : RepL G [x, y] [a, b] := .cons ra (.cons rb .nil)
  have rr' : RepL G [y, x] [b, a] := .cons rb (.cons ra .nil)
  cases a with
  | obj C1 fs =>
    cases b with
    | obj C2 gs =>
      obtain ⟨⟨rfl, rfl⟩, h⟩ := h
      cases ra with
      | obj e1 _ _ _ =>
      cases rb with
      | obj e2 _ _ _ =>
      exact .inr (.inl ⟨_, _, _, _, _, _, rfl, rfl, hgh _ _ e1, hgh _ _ e2, lf_none hgh hbg rr h k⟩)
    | int j =>
      obtain ⟨rfl, h⟩ := h
      cases ra with
      | obj e1 _ _ _ =>
      cases rb
      exact .inr (.inr (.inl ⟨_, _, _, _, rfl, rfl, hgh _ _ e1, lf_none hgh hbg rr h k⟩))
    | _ => exact gen h
  | int i =>
    cases b with
    | obj C2 gs =>
      obtain ⟨rfl, h⟩ := h
      cases rb with
      | obj e1 _ _ _ =>
      cases ra
      exact .inr (.inr (.inr ⟨_, _, _, _, rfl, rfl, hgh _ _ e1, lf_none hgh hbg rr' h k⟩))
    | _ => exact gen h
  | _ => exact gen h
section
variable {c : Ctx} {X : Cx} {a b : Expr} {qa qb : QE} {pos : Pos} {C : Addr} {sp spr : SpD} {k j l : Nat} {ps prs : List Str}
theorem daddO (o : OwnOp X.K C "add") (F : DnM X.prog X.w X.K X.mg X.base j C "__add__" ps sp) (R : DnM X.prog X.w X.K X.mg X.base l C "__radd__" prs spr) (hr : Room k X.A) (ha : PD c X a qa) (hb : PD c X b qb) (hj : j ≤ k := by decide) (hl : l ≤ k := by decide) : PD c X (.BinOp a .Add b pos) (qOp (ownR C sp spr addR) qa qb) :=
  PD.op ((op_add.or (op_add_str.or (op_cat.or op_catA))).or (op_own (op := .Add) o F R hr hj hl PySem.F.fills_int_add PySem.F.slot_int_add PySem.F.entry_int_add (fun a b => PySem.F.args_int_add_2 a b))) (opd_own opd_add) ha hb
theorem dsubO (o : OwnOp X.K C "sub") (F : DnM X.prog X.w X.K X.mg X.base j C "__sub__" ps sp) (R : DnM X.prog X.w X.K X.mg X.base l C "__rsub__" prs spr) (hr : Room k X.A) (ha : PD c X a qa) (hb : PD c X b qb) (hj : j ≤ k := by decide) (hl : l ≤ k := by decide) : PD c X (.BinOp a .Sub b pos) (qOp (ownR C sp spr subR) qa qb) :=
  PD.op (op_sub.or (op_own (op := .Sub) o F R hr hj hl PySem.F.fills_int_sub PySem.F.slot_int_sub PySem.F.entry_int_sub (fun a b => PySem.F.args_int_sub_2 a b))) (opd_own opd_sub) ha hb
theorem dmulO (o : OwnOp X.K C "mul") (F : DnM X.prog X.w X.K X.mg X.base j C "__mul__" ps sp) (R : DnM X.prog X.w X.K X.mg X.base l C "__rmul__" prs spr) (hr : Room k X.A) (ha : PD c X a qa) (hb : PD c X b qb) (hj : j ≤ k := by decide) (hl : l ≤ k := by decide) : PD c X (.BinOp a .Mult b pos) (qOp (ownR C sp spr mulR) qa qb) :=
  PD.op ((op_mulX.or op_rep).or (op_own (op := .Mult) o F R hr hj hl PySem.F.fills_int_mul PySem.F.slot_int_mul PySem.F.entry_int_mul (fun a b => PySem.F.args_int_mul_2 a b))) (opd_own opd_mul) ha hb
def negO (C : Addr) (sp : SpD) : D → (D → Prop) → Prop
  | .obj C' fs, Q => C' = C ∧ sp none [.obj C' fs] Q
  | d, Q => negR d Q
theorem dnegO (F : DnM X.prog X.w X.K X.mg X.base j C "__neg__" ps sp) (hr : Room k X.A) (ha : PD c X a qa) (hj : j ≤ k := by decide) : PD c X (.UnaryOp .USub a pos) (qUn (negO C sp) qa) := by
  have own : UnR X (unaryOp .USub) (fun x H Q => rU (fun i => .int (-i)) x H Q ∨ ∃ a dx fs, x = .ref a ∧ H a = some (.ins C dx fs) ∧ lf sp [x] H Q E0) := by
    intro pins s σ H x u Q I rx h
    rcases h with h | ⟨a, dx, fs, rfl, ha, h⟩
    · exact un_neg pins s σ H x u Q I rx h
    · obtain ⟨f, fd, F, M, cf, b, _⟩ := F
      obtain ⟨m, hF⟩ := I.fr
      obtain rfl : u = Value.ref a := rx
      obtain ⟨od, J⟩ := ins_at I ha
      refine PySem.W.ksp_neg hF I.ok.mod.kin J M.at_ M.fn ?_
      exact run_fn (us := [.ref a]) (vs := [.ref a]) F (hr.mono hj) b .nil pass0 I (.cons rfl .nil) h
  refine PD.un own ?_ ha
  intro β G H x a Q R hgh hbg ra h k
  cases a with
  | obj C' fs =>
    obtain ⟨rfl, h⟩ := h
    cases ra with
    | obj e h1 h2 h3 => exact .inr ⟨_, _, _, rfl, hgh _ _ e, lf_none hgh hbg (.cons (.obj e h1 h2 h3) .nil) h k⟩
  | _ => exact .inl (und_neg β G H x _ Q R hgh hbg ra h k)
def eqO (C : Addr) (sp : SpD) : D → D → (D → Prop) → Prop
  | .obj C1 fs, .obj C2 gs, Q => (C1 = C ∧ C2 = C) ∧ sp none [.obj C1 fs, .obj C2 gs] Q
  | a, b, Q => eqR a b Q
theorem op_eqO (F : DnM X.prog X.w X.K X.mg X.base j C "__eq__" ps sp) (hr : Room k X.A) (hj : j ≤ k) : OpR X (compareOp .Eq) (fun x y H Q => ∃ a dx fs b dy gs, x = .ref a ∧ y = .ref b ∧ H a = some (.ins C dx fs) ∧ H b = some (.ins C dy gs) ∧ lf sp [x, y] H Q E0) := by
  intro pins s σ H x y u v Q I rx ry h
  obtain ⟨f, fd, F, M, cf, b, _⟩ := F
  obtain ⟨m, hF⟩ := I.fr
  obtain ⟨a, dx, fs, c, dy, gs, rfl, rfl, ha, hc, h⟩ := h
  obtain rfl : u = Value.ref a := rx
  obtain rfl : v = Value.ref c := ry
  obtain ⟨od, J⟩ := ins_at I ha
  obtain ⟨od', J'⟩ := ins_at I hc
  show wpAny _ _ (richCompare .Eq (.ref a) (.ref c)) _ _ _
  refine PySem.W.cmp_K (op := .Eq) (tb := .ref C) hr.units0 hF I.ok.mod.kin J J'.type (by simp [PySem.W.notFirst]) M.at_ M.fn (back_ni ?_)
  exact run_fn (us := [.ref a, .ref c]) (vs := [.ref a, .ref c]) F (hr.mono hj) b .nil pass0 I (.cons rfl (.cons rfl .nil)) h
theorem opd_eqO : OpD (fun x y H Q => rEqD X.K x y H Q ∨ ∃ a dx fs b dy gs, x = .ref a ∧ y = .ref b ∧ H a = some (.ins C dx fs) ∧ H b = some (.ins C dy gs) ∧ lf sp [x, y] H Q E0) (eqO C sp) := by
  intro β G H x y a b Q R hgh hbg ra rb h k
  have gen : eqR a b Q → rEqD X.K x y H R ∨ ∃ a dx fs b dy gs, x = .ref a ∧ y = .ref b ∧ H a = some (.ins C dx fs) ∧ H b = some (.ins C dy gs) ∧ lf sp [x, y] H R E0 := fun h => .inl (opd_eq β G H x y a b Q R hgh hbg ra rb h k)
  have rr : RepL G [x, y] [a, b] := .cons ra (.cons rb .nil)
  cases a with
  | obj C1 fs =>
    cases b with
    | obj C2 gs =>
      obtain ⟨⟨rfl, rfl⟩, h⟩ := h
      cases ra with
      | obj e1 _ _ _ =>
      cases rb with
      | obj e2 _ _ _ =>
      exact .inr ⟨_, _, _, _, _, _, rfl, rfl, hgh _ _ e1, hgh _ _ e2, lf_none hgh hbg rr h k⟩
    | _ => exact gen h
  | _ => exact gen h
theorem deqO (F : DnM X.prog X.w X.K X.mg X.base j C "__eq__" ps sp) (hr : Room k X.A) (ha : PD c X a qa) (hb : PD c X b qb) (hj : j ≤ k := by decide) : PD c X (.Compare a [.Eq] [b] pos) (qOp (eqO C sp) qa qb) :=
  PD.cmp ((op_eqD (by have := hu_ hr; omega)).or (op_eqO F hr hj)) opd_eqO ha hb (nomark _)
theorem teqO (F : DnM X.prog X.w X.K X.mg X.base j C "__eq__" ps sp) (hr : Room k X.A) (ha : PD c X a qa) (hb : PD c X b qb) (hj : j ≤ k := by decide) : PDT c X (.Compare a [.Eq] [b] pos) (qTest (qOp (eqO C sp) qa qb)) :=
  PDT.cmp ((op_eqD (by have := hu_ hr; omega)).or (op_eqO F hr hj)) opd_eqO ha hb (nomark _)
end
end DL

namespace DL
open PySem L2
/-! ### classes and methods, as the head tells them -/
/-- a method of a class: a plain def without defaults -/
def DfM (K : PySem.W.Frag) (C : Addr) (m qual : Str) (st : Stmt) (ps : List Str) : Prop := ∃ f fd, Fun K m qual st f fd ∧ Meth K C m f ∧ Binds K fd ps [] ∧ KBinds K fd ps (ps.drop 1) kwM kwM
def HdM (K : PySem.W.Frag) (C : Addr) (m qual : Str) (st : Stmt) : Prop := ∃ (f : Addr) (oc : Value) (od : Option Addr) (kV dc pm : Value) (an : Option Addr) (cd ct : Value) (sl : Array (Option Value)),
  PySem.W.findIn K (.ref C) m = some (some (.ref f)) ∧ PySem.W.isFn K (.ref f) = true ∧ PySem.W.keepIn K (.ref f) = true ∧ K.lookup f = some ⟨oc, od, .func (PySem.W.fnOf m qual (defArgs st) (defBody st) (defScope st) .none kV dc pm an cd ct), sl⟩ ∧ PySem.W.codeIn K cd qual = true
theorem hdm_mk {K : PySem.W.Frag} {C : Addr} {m qual : Str} {st : Stmt} {f : Addr} {oc : Value} {od : Option Addr} {kV dc pm : Value} {an : Option Addr} {cd ct : Value} {sl : Array (Option Value)} (a : PySem.W.findIn K (.ref C) m = some (some (.ref f))) (i : PySem.W.isFn K (.ref f) = true) (k : PySem.W.keepIn K (.ref f) = true)
    (l : K.lookup f = some ⟨oc, od, .func (PySem.W.fnOf m qual (defArgs st) (defBody st) (defScope st) .none kV dc pm an cd ct), sl⟩) (c : PySem.W.codeIn K cd qual = true) : HdM K C m qual st := ⟨f, oc, od, kV, dc, pm, an, cd, ct, sl, a, i, k, l, c⟩
theorem kwM_rel {vs : List V} {us : List Value} {zs : List V} {ws : List Value} (r : Vals vs us) (r2 : Vals zs ws) : Vals (kwM vs zs) (kwM us ws) := by
  cases r with
  | nil => exact .nil
  | cons a b =>
    cases b with
    | nil => exact .cons a r2
    | cons c d => exact .nil
theorem HdM.df {K : PySem.W.Frag} {C : Addr} {m qual : Str} {st : Stmt} {ps : List Str} (H : HdM K C m qual st) (hp : ps ≠ [])
    (hb : ∀ (kV doc pm : Value) (an : Option Addr) (cdv ct : Value) (us : List Value), us.length = ps.length → bindArgs (PySem.W.fnOf m qual (defArgs st) (defBody st) (defScope st) .none kV doc pm an cdv ct) ⟨us, []⟩ = pure (ps.zip us))
    (hk : ∀ (kV doc pm : Value) (an : Option Addr) (cdv ct u : Value) (ws : List Value), (u :: ws).length = ps.length → bindArgs (PySem.W.fnOf m qual (defArgs st) (defBody st) (defScope st) .none kV doc pm an cdv ct) ⟨[u], (ps.drop 1).zip ws⟩ = pure (ps.zip (u :: ws))) : DfM K C m qual st ps := by
  obtain ⟨f, oc, od, kV, dc, pm, an, cd, ct, sl, a, i, k, l, c⟩ := H
  have F := fun_mk (st := st) l c k
  refine ⟨f, _, F, ⟨a, i, k⟩, F.binds hb, fun s us ws _ hl => ?_, fun r rz => kwM_rel r rz⟩
  match us, hl with
  | [u], hl => exact .of_eq (hk kV dc pm an cd ct u ws hl)
  | [], hl => exact absurd (List.length_eq_zero_iff.mp hl.symm) hp
  | _ :: _ :: _, hl => exact absurd (List.length_eq_zero_iff.mp hl.symm) hp
section
variable {P : Program} {w : World} {K : PySem.W.Frag} {mg : Str → Option Value} {base : Heap}
theorem DfM.ok {C : Addr} {m qual : Str} {st : Stmt} {N ps : List Str} {k : Nat} {sp : SpD} (F : DfM K C m qual st ps) (cf : ClF K C) (S : FnScope N ps (defScope st)) (hl : ∀ β ds Q, sp β ds Q → ds.length = ps.length)
    (body : ∀ (f : Addr) (cdv : Value) (A : Around) (outer : List Env) (s : Shared) (H : Hp) (E : XK) (c : Ctx), Room k (A.deeper (PyProof.Rows.envOfC qual (defScope st) s.heap.objs.size f cdv)) →
      ∃ q, PDB c (cxOf CX0 P w K mg base N qual (defScope st) f cdv A outer s H E).nox (defBody st) q ∧ ∀ ds Q, sp c.β ds Q → q (startS N ds) { nx := fun _ => Q .non, rt := fun d _ => Q d }) : DnM P w K mg base (k + 1) C m ps sp := by
  obtain ⟨f, fd, F, M, b, kb⟩ := F
  exact ⟨f, fd, fn_dl F S hl (body f), M, cf, b, kb⟩
theorem DnM.mono {k j : Nat} {C : Addr} {m : Str} {ps : List Str} {sp : SpD} (h : DnM P w K mg base k C m ps sp) (e : k ≤ j) : DnM P w K mg base j C m ps sp := by
  obtain ⟨f, fd, a, b⟩ := h
  exact ⟨f, fd, a.mono e, b⟩
theorem DnM.imp {k : Nat} {C : Addr} {m : Str} {ps : List Str} {sp sp' : SpD} (h : DnM P w K mg base k C m ps sp) (e : ∀ β ds Q, sp' β ds Q → sp β ds Q) : DnM P w K mg base k C m ps sp' := by
  obtain ⟨f, fd, a, b⟩ := h
  refine ⟨f, fd, a.imp fun vs H Q E hq => ?_, b⟩
  obtain ⟨β, G, ds, Q', r, gh, bg, h, kk⟩ := hq
  exact ⟨β, G, ds, Q', r, gh, bg, e _ _ _ h, kk⟩
end
/-! ### a constructor with int defaults -/
/-- the tuple of the defaults, ints -/
def HdI (K : PySem.W.Frag) (C : Addr) (qual : Str) (st : Stmt) (ns : List Int) : Prop := ∃ (f : Addr) (oc : Value) (od : Option Addr) (dV kV dc pm : Value) (an : Option Addr) (cd ct : Value) (sl : Array (Option Value)),
  PySem.W.findIn K (.ref C) "__init__" = some (some (.ref f)) ∧ PySem.W.isFn K (.ref f) = true ∧ PySem.W.keepIn K (.ref f) = true ∧ K.lookup f = some ⟨oc, od, .func (PySem.W.fnOf "__init__" qual (defArgs st) (defBody st) (defScope st) dV kV dc pm an cd ct), sl⟩ ∧ PySem.W.codeIn K cd qual = true ∧ DflV K dV (ns.map V.int) ∧ PySem.W.makesIn K C = true
theorem hdi_mk {K : PySem.W.Frag} {C : Addr} {qual : Str} {st : Stmt} {f : Addr} {oc : Value} {od : Option Addr} {kV dc pm : Value} {an : Option Addr} {cd ct : Value} {sl : Array (Option Value)} (a : PySem.W.findIn K (.ref C) "__init__" = some (some (.ref f))) (i : PySem.W.isFn K (.ref f) = true) (k : PySem.W.keepIn K (.ref f) = true)
    (l : K.lookup f = some ⟨oc, od, .func (PySem.W.fnOf "__init__" qual (defArgs st) (defBody st) (defScope st) .none kV dc pm an cd ct), sl⟩) (c : PySem.W.codeIn K cd qual = true) (m : PySem.W.makesIn K C = true) : HdI K C qual st [] := ⟨f, oc, od, .none, kV, dc, pm, an, cd, ct, sl, a, i, k, l, c, .inl ⟨rfl, rfl⟩, m⟩
theorem hdi_mk1 {K : PySem.W.Frag} {C T : Addr} {qual : Str} {st : Stmt} {f : Addr} {oc c1 : Value} {od od1 : Option Addr} {kV dc pm : Value} {an : Option Addr} {cd ct : Value} {sl sl1 : Array (Option Value)} {n : Int} {t : Tok} {m1 : Nat} (a : PySem.W.findIn K (.ref C) "__init__" = some (some (.ref f))) (i : PySem.W.isFn K (.ref f) = true) (k : PySem.W.keepIn K (.ref f) = true)
    (l : K.lookup f = some ⟨oc, od, .func (PySem.W.fnOf "__init__" qual (defArgs st) (defBody st) (defScope st) (.ref T) kV dc pm an cd ct), sl⟩) (c : PySem.W.codeIn K cd qual = true) (m : PySem.W.makesIn K C = true) (lT : K.lookup T = some ⟨c1, od1, .seq #[.int n t] m1, sl1⟩) : HdI K C qual st [n] :=
  ⟨f, oc, od, .ref T, kV, dc, pm, an, cd, ct, sl, a, i, k, l, c, .inr ⟨by simp, T, _, [.int n t], m1, rfl, lT, rfl, .cons ⟨t, rfl⟩ .nil⟩, m⟩
section
variable {P : Program} {w : World} {K : PySem.W.Frag} {mg : Str → Option Value} {base : Heap}
theorem HdI.ok {x : Str} {C : Addr} {qual : Str} {st : Stmt} {ns : List Int} {N ps : List Str} {k : Nat} {sp : SpI} (F : HdI K C qual st ns) (cf : ClF K C) (mc : mg x = some (.ref C)) (S : FnScope N ps (defScope st)) (hpn : ns.length ≤ ps.length) (hl : ∀ β ds Q, sp β ds Q → ds.length + 1 = ps.length)
    (hb0 : ns = [] → ∀ (kV doc pm : Value) (an : Option Addr) (cdv ct : Value) (us : List Value), us.length = ps.length → bindArgs (PySem.W.fnOf "__init__" qual (defArgs st) (defBody st) (defScope st) .none kV doc pm an cdv ct) ⟨us, []⟩ = pure (ps.zip us))
    (hb1 : ns ≠ [] → ∀ j, j ≤ ns.length → ∀ (T : Addr) (kV doc pm : Value) (an : Option Addr) (cdv ct : Value) (us its : List Value), us.length + (ns.length - j) = ps.length → its.length = ns.length → ∃ k, bindArgs (PySem.W.fnOf "__init__" qual (defArgs st) (defBody st) (defScope st) (.ref T) kV doc pm an cdv ct) ⟨us, []⟩ = seqItems? (.ref T) >>= k ∧ k (some its.toArray) = pure (ps.zip (us ++ its.drop j)))
    (body : ∀ (f : Addr) (cdv : Value) (A : Around) (outer : List Env) (s : Shared) (H : Hp) (E : XK) (c : Ctx), Room k (A.deeper (PyProof.Rows.envOfC qual (defScope st) s.heap.objs.size f cdv)) →
      ∃ q, PDB c (cxOf CX0 P w K mg base N qual (defScope st) f cdv A outer s H E).nox (defBody st) q ∧ ∀ x dx ds Q, sp c.β ds Q → q (.own x (.ins C dx []) :: (ds.map Slot.d ++ List.replicate (N.length - (ds.length + 1)) .un)) { nx := fun ρ => ∃ fs, ρ[0]? = some (.own x (.ins C dx fs)) ∧ Q fs, rt := fun d ρ => d = .non ∧ ∃ fs, ρ[0]? = some (.own x (.ins C dx fs)) ∧ Q fs }) : DnI P w K mg base (k + 1) x C ps (ns.map V.int) sp := by
  obtain ⟨f, oc, od, dV, kV, dc, pm, an, cd, ct, sl, a, i, kp, l, c, df, mk⟩ := F
  have FD : FunD K "__init__" qual (defArgs st) (defBody st) (defScope st) (ns.map V.int) [] f (PySem.W.fnOf "__init__" qual (defArgs st) (defBody st) (defScope st) dV kV dc pm an cd ct) := ⟨⟨oc, od, dV, kV, dc, pm, an, cd, ct, sl, rfl, l, c, df, .inl rfl⟩, kp⟩
  refine ⟨f, _, fn_init FD S hl (body f), ⟨mk, a, i, cf.kp⟩, cf, mc, fun j hj => ?_⟩
  cases ns with
  | nil =>
    have hj0 : j = 0 := by simpa using hj
    subst hj0
    have FD' : FunD K "__init__" qual (defArgs st) (defBody st) (defScope st) [] [] f (PySem.W.fnOf "__init__" qual (defArgs st) (defBody st) (defScope st) dV kV dc pm an cd ct) := FD
    exact ⟨[], .nil, FD'.bindsN (hb0 rfl)⟩
  | cons n ns =>
    have hps : (ps.length - ((n :: ns).length - j)) + ((n :: ns).length - j) = ps.length := by omega
    · rw [List.length_map] at hj
      obtain ⟨ds, v, b⟩ := FD.binds1 (ps := ps) (ps.length - ((n :: ns).length - j)) j (by simp) (by rw [List.length_map]; exact hps) fun T kV doc pm an cdv ct us its h1 h2 => hb1 (by simp) j hj T kV doc pm an cdv ct us its (by rw [h1]; exact hps) (by rw [h2, List.length_map])
      exact ⟨ds, v, b⟩
end
end DL

namespace DL
open PySem L2
/-! ### what the head tells of a class -/
structure HdC (K : PySem.W.Frag) (x : Str) (C : Addr) : Prop where
  ns : PySem.W.nsIn K mainGlobals x = some (some (.ref C))
  pg : PySem.W.plainGet K C Str.empty = true
  hd : PySem.W.hasDictIn K C = true
  po : PySem.W.plainOver K C = true
  sa : PySem.W.findIn K (.ref C) "__setattr__" = some (some (.builtin "object.__setattr__"))
  ha : PySem.W.findIn K (.ref C) "__class__" = some (some (.builtin "object.__class__"))
  hn : PySem.W.specialIn K (.builtin "object.__class__") "__get__" = some (some (.builtin "getset_descriptor.__get__"))
  htk : PySem.W.takesIn K (.builtin "object.__class__") = some true
  hm : PySem.W.mroIn K C (.type "object") = some true
  kp : PySem.W.keepIn K (.ref C) = true
theorem HdC.cf {K : PySem.W.Frag} {x : Str} {C : Addr} (h : HdC K x C) : ClF K C := ⟨⟨h.pg, h.hd, h.po, h.sa⟩, h.ha, h.hn, h.htk, h.hm, h.kp⟩
/-- the kinds of the others against the class's -/
structure KitF (K : PySem.W.Frag) (C : Addr) : Prop where
  b1 : PySem.W.kitOne K (.type "NoneType") (.ref C) = some false
  b2 : PySem.W.kitOne K (.type "bool") (.ref C) = some false
  b3 : PySem.W.kitOne K (.type "int") (.ref C) = some false
  b4 : PySem.W.kitOne K (.type "str") (.ref C) = some false
  b5 : PySem.W.kitOne K (.type "tuple") (.ref C) = some false
  b6 : PySem.W.kitOne K (.type "list") (.ref C) = some false
  t1 : PySem.W.kitOne K (.ref C) (.type "int") = some false
  t2 : PySem.W.kitOne K (.ref C) (.type "bool") = some false
  t3 : PySem.W.kitOne K (.ref C) (.type "str") = some false
  t4 : PySem.W.kitOne K (.ref C) (.type "list") = some false
  t5 : PySem.W.kitOne K (.ref C) (.type "tuple") = some false
  self : PySem.W.kitOne K (.ref C) (.ref C) = some true
theorem ClsT.nil {K : PySem.W.Frag} : ClsT K [] := ⟨fun _ h => by simp at h, fun _ h => by simp at h, fun _ h => by simp at h, fun _ h => by simp at h⟩
theorem ClsT.cons {K : PySem.W.Frag} {C : Addr} {cs : List Addr} (T : ClsT K cs) (f : ClF K C) (k : KitF K C) (h1 : ∀ C' ∈ cs, PySem.W.kitOne K (.ref C) (.ref C') = some false ∧ PySem.W.kitOne K (.ref C') (.ref C) = some false) : ClsT K (C :: cs) := by
  refine ⟨fun D hD => ?_, fun D hD t ht => ?_, fun D hD n hn => ?_, fun D hD D' hD' => ?_⟩
  · rcases List.mem_cons.mp hD with rfl | hD
    · exact f
    · exact T.cf D hD
  · rcases List.mem_cons.mp hD with rfl | hD
    · simp only [sixT, List.mem_cons, List.not_mem_nil, or_false] at ht
      rcases ht with rfl | rfl | rfl | rfl | rfl | rfl
      · exact k.b1
      · exact k.b2
      · exact k.b3
      · exact k.b4
      · exact k.b5
      · exact k.b6
    · exact T.bt D hD t ht
  · rcases List.mem_cons.mp hD with rfl | hD
    · simp only [fiveT, List.mem_cons, List.not_mem_nil, or_false] at hn
      rcases hn with rfl | rfl | rfl | rfl | rfl
      · exact k.t1
      · exact k.t2
      · exact k.t3
      · exact k.t4
      · exact k.t5
    · exact T.tb D hD n hn
  · rcases List.mem_cons.mp hD with e1 | m1
    · rcases List.mem_cons.mp hD' with e2 | m2
      · rw [e1, e2, k.self, beq_self_eq_true]
      · by_cases q : D = D'
        · rw [q, T.cc D' m2 D' m2]
        · rw [e1] at q ⊢
          rw [(h1 D' m2).1]
          congr 1
          exact (beq_eq_false_iff_ne.mpr q).symm
    · rcases List.mem_cons.mp hD' with e2 | m2
      · by_cases q : D = D'
        · rw [← q, T.cc D m1 D m1]
        · rw [e2] at q ⊢
          rw [(h1 D m1).2]
          congr 1
          exact (beq_eq_false_iff_ne.mpr q).symm
      · exact T.cc D m1 D' m2
/-! ### static methods -/
/-- C.m is a staticmethod: its record at p, its def at g -/
structure SMet (K : PySem.W.Frag) (C : Addr) (m : Str) (p g : Addr) : Prop where
  rd : PySem.W.readsIn K C (.type "type") = true
  ga : PySem.W.specialIn K (.ref C) "__getattribute__" = some (some (.builtin "type.__getattribute__"))
  at_ : PySem.W.findCls K (.ref C) (.type "type") m = some (.get (.builtin "staticmethod.__get__") (.ref p) .none (.ref C))
  rc : ∃ rest, PySem.W.recIn K p "staticmethod" = some (.ref g :: rest)
  kp : PySem.W.keepIn K (.ref g) = true
section
variable {X : Cx} {o e : Expr} {es : List Expr} {m x : Str} {C p g : Addr} {pos apos npos : Pos} {CX : CXT} {k : Nat} {sp : Sp} {E : XK} {t : TA}
theorem getmeth_sm {pins : List (Addr × Obj)} {σ : L2.St} {H : Hp} {s : Shared} {pl : Sem Bool} {Q : Value × List Value → Shared → Prop} {A : Around} {E' : Value → Shared → Prop} (I : Inv X pins σ H s) (r : SMet X.K C m p g) (h : ∀ s', Inv X pins σ H s' → Q (.ref g, []) s') :
    wpAny (model X.prog X.w) A (getMethod (.ref C) m pl) Q E' s := by
  obtain ⟨rest, hp⟩ := r.rc
  refine PySem.W.method_cls I.kIn r.ga ?_
  refine PySem.W.cls_bind I.kIn r.rd r.at_ (wpAny_call (PySem.W.sm_get (s := { s with toks := s.toks + 1 }) I.kIn hp (PySem.W.handed_on rfl ?_)))
  exact h _ (I.tok _)
theorem pe_smeth {pl : Sem Bool} (r : SMet X.K C m p g) (F : FnR X.prog X.w X.K X.mg X.base CX k g sp) (hr : Room k X.A) (hx : Passes CX X E) (hm : X.mg x = some (.ref C)) (ha : PA X (e :: es) t) (hg : Gl X x) (hd : (x == ("__debug__" : Str)) = false)
    (hst : starEach (e :: es) X.env = (false, eval e X.env) :: starEach es X.env) (hpl : (backTo pos (starEach es X.env)).any (·.1) = false)
    (ht : eval (.Call (.Attribute (.Name x npos) m apos) (e :: es) [] pos) X.env = (do
      let ov ← eval (.Name x npos) X.env
      standAt apos.atName
      let (f, first) ← holding [ov] (getMethod ov m pl)
      callWith pos f first (backTo pos (starEach (e :: es) X.env)) (backToKw pos (keywordEach [] X.env)))) :
    PE X (.Call (.Attribute (.Name x npos) m apos) (e :: es) [] pos) (fun σ H Q => t σ H fun vs H1 => sp vs H1 Q E) := by
  refine ⟨fun pins s σ H Q I h => ?_⟩
  refine PySem.W.methodCall_KW (pl := pl) (thn ((pe_glob hg hm (show RelV (.ref C) (.ref C) from rfl) hd).run pins s σ H (fun v H' => v = .ref C ∧ H' = H) I ⟨rfl, rfl⟩) fun u s1 ⟨v, H1, I1, rv, e1, e2⟩ => ?_) ht
  subst e1 e2
  obtain rfl : u = Value.ref C := rv
  refine getmeth_sm I1 r fun s2 I2 => ?_
  refine PySem.W.callWith_K (first := []) (h₀ := X.base) I.ok.mod.kin r.kp (thn (ha.run pos pins s2 σ H1 _ I2 h) fun us s3 ⟨vs, H2, I3, r3, q3⟩ => ⟨I3.kIn, ?_⟩) hst hpl
  exact wpAny_call (run_fnR F hr hx I3 r3 q3)
theorem pe_smeth0 {pl : Sem Bool} (r : SMet X.K C m p g) (F : FnR X.prog X.w X.K X.mg X.base CX k g sp) (hr : Room k X.A) (hx : Passes CX X E) (hm : X.mg x = some (.ref C)) (hg : Gl X x) (hd : (x == ("__debug__" : Str)) = false)
    (ht : eval (.Call (.Attribute (.Name x npos) m apos) [] [] pos) X.env = (do
      let ov ← eval (.Name x npos) X.env
      standAt apos.atName
      let (f, first) ← holding [ov] (getMethod ov m pl)
      callWith pos f first (backTo pos (starEach [] X.env)) (backToKw pos (keywordEach [] X.env)))) :
    PE X (.Call (.Attribute (.Name x npos) m apos) [] [] pos) (fun σ H Q => sp [] H Q E) := by
  refine ⟨fun pins s σ H Q I h => ?_⟩
  refine PySem.W.methodCall_KW (pl := pl) (thn ((pe_glob hg hm (show RelV (.ref C) (.ref C) from rfl) hd).run pins s σ H (fun v H' => v = .ref C ∧ H' = H) I ⟨rfl, rfl⟩) fun u s1 ⟨v, H1, I1, rv, e1, e2⟩ => ?_) ht
  subst e1 e2
  obtain rfl : u = Value.ref C := rv
  refine getmeth_sm I1 r fun s2 I2 => ?_
  exact PySem.W.callWith_K0 (first := []) I2.kIn r.kp (wpAny_call (run_fnR (us := []) F hr hx I2 .nil h))
end
def HdS (K : PySem.W.Frag) (C : Addr) (m qual : Str) (st : Stmt) : Prop := ∃ (p g : Addr) (fd : FuncData), SMet K C m p g ∧ Fun K m qual st g fd
theorem hds_mk {K : PySem.W.Frag} {C p f : Addr} {m qual : Str} {st : Stmt} {rest : List Value} {oc : Value} {od : Option Addr} {kV dc pm : Value} {an : Option Addr} {cd ct : Value} {sl : Array (Option Value)} (rd : PySem.W.readsIn K C (.type "type") = true) (ga : PySem.W.specialIn K (.ref C) "__getattribute__" = some (some (.builtin "type.__getattribute__")))
    (a : PySem.W.findCls K (.ref C) (.type "type") m = some (.get (.builtin "staticmethod.__get__") (.ref p) .none (.ref C))) (rc : PySem.W.recIn K p "staticmethod" = some (.ref f :: rest)) (k : PySem.W.keepIn K (.ref f) = true)
    (l : K.lookup f = some ⟨oc, od, .func (PySem.W.fnOf m qual (defArgs st) (defBody st) (defScope st) .none kV dc pm an cd ct), sl⟩) (c : PySem.W.codeIn K cd qual = true) : HdS K C m qual st := ⟨p, f, _, ⟨rd, ga, a, ⟨rest, rc⟩, k⟩, fun_mk (st := st) l c k⟩
/-! ### defs with a star parameter -/
/-- all the arguments, by position -/
def DnR (P : Program) (w : World) (K : PySem.W.Frag) (mg : Str → Option Value) (base : Heap) (k : Nat) (g : Addr) (sp : SpD) : Prop := FnR P w K mg base CX0 k g (lf sp)
section
variable {P : Program} {w : World} {K : PySem.W.Frag} {mg : Str → Option Value} {base : Heap}
/-- the promise of the body: the last parameter is the tuple of what is left -/
def spStar (n : Nat) (sp : SpD) : SpD := fun β ds Q => ∃ ws rest, ds = ws ++ rest ∧ ws.length = n ∧ rest.length ≤ 100000 ∧ sp β (ws ++ [.tup rest]) Q
theorem fn_dlR {x qual : Str} {st : Stmt} {f : Addr} {fd : FuncData} {N ps : List Str} {pv : Str} {k : Nat} {sp : SpD} (F : Fun K x qual st f fd) (S : FnScope N (ps ++ [pv]) (defScope st))
    (hb : ∀ (kV doc pm : Value) (an : Option Addr) (cdv ct : Value) (us rest : List Value), us.length = ps.length → bindArgs (PySem.W.fnOf x qual (defArgs st) (defBody st) (defScope st) .none kV doc pm an cdv ct) ⟨us ++ rest, []⟩ = (newTuple rest >>= fun t => pure (ps.zip us ++ [(pv, t)])))
    (body : ∀ (cdv : Value) (A : Around) (outer : List Env) (s : Shared) (H : Hp) (E : XK) (c : Ctx), Room k (A.deeper (PyProof.Rows.envOfC qual (defScope st) s.heap.objs.size f cdv)) →
      ∃ q, PDB c (cxOf CX0 P w K mg base N qual (defScope st) f cdv A outer s H E).nox (defBody st) q ∧ ∀ ds Q, sp c.β ds Q → q (startS N ds) { nx := fun _ => Q .non, rt := fun d _ => Q d }) : DnR P w K mg base (k + 1) f (spStar ps.length sp) := by
  obtain ⟨oc, od, kV, doc, pm, an, cdv, ct, osl, rfl, lk, hcd⟩ := F.ex
  have R := StX.fn_star (CX := CX0) (P := P) (w := w) (mg := mg) (base := base) (k := k) (sp := lf sp) (ps := ps) (pv := pv) (N := N) lk hcd S (fun _ _ _ _ _ _ _ _ _ _ _ z => z) (hb kV doc pm an cdv ct) (fun A outer s H vs R E hr h => by
    obtain ⟨β, G, ds, Q, r, gh, bg, h, kk⟩ := h
    obtain ⟨q, pb, hq⟩ := body cdv A outer s H E ⟨β, G, H, fun _ => False⟩ hr
    obtain ⟨t, p, sd⟩ := pb.ex
    refine ⟨t, p.nox, sd _ _ G H _ _ (sta_start r gh bg) (hq ds Q h) ⟨fun ρ' σ' G' H' x s' h' => ?_, fun v d ρ' σ' G' H' x s' rv h' => ?_, fun _ _ _ _ _ _ h => h.elim, fun _ _ _ _ _ _ h => h.elim, fun _ _ _ _ _ _ _ _ _ _ _ _ _ h => h.elim⟩⟩
    · exact kk .non .non G' H' ⟨s'.core.g0, s'.core.h0, s'.core.tn, s'.core.tb, s'.core.gh, s'.core.nw, s'.core.bg⟩ .non h'
    · exact kk v d G' H' ⟨s'.core.g0, s'.core.h0, s'.core.tn, s'.core.tb, s'.core.gh, s'.core.nw, s'.core.bg⟩ rv h')
  refine R.imp fun vs H Q' E h => ?_
  obtain ⟨β, G, ds, Q, r, gh, bg, ⟨ws, rest, rfl, hl, hr, h⟩, kk⟩ := h
  have h1 := r.take ws.length
  have h2 := r.drop ws.length
  rw [List.take_left'  rfl] at h1
  rw [List.drop_left' rfl] at h2
  refine ⟨vs.take ws.length, vs.drop ws.length, (List.take_append_drop _ _).symm, by rw [h1.1]; exact hl, by rw [h2.1]; exact sz hr, fun p hp => ?_⟩
  have gn := Grow.new (β := β) (o := .tup (vs.drop ws.length)) gh bg hp
  exact ⟨β, _, ws ++ [.tup rest], Q, (h1.mono gn.gg).app (.cons (.tup upd_same h2.1 (h2.mono gn.gg).2) .nil), gn.gh, gn.bg, h, fun v d G' H' g rv q => kk v d G' H' (gn.trans g (bag_there bg)) rv q⟩
end
section
variable {c : Ctx} {X : Cx} {e : Expr} {es : List Expr} {qr : QA} {x m : Str} {C g f : Addr} {p : Addr} {np pos apos npos : Pos} {j k : Nat} {sp : SpD}
/-- C.m(..) -/
theorem dsm {pl : Sem Bool} (r : SMet X.K C m p g) (F : DnR X.prog X.w X.K X.mg X.base j g sp) (hr : Room k X.A) (hm : X.mg x = some (.ref C)) (ha : PDA c X (e :: es) qr) (hj : j ≤ k := by decide) (hg : Gl X x := by rfl) (hd : (x == ("__debug__" : Str)) = false := by decide)
    (hst : starEach (e :: es) X.env = (false, eval e X.env) :: starEach es X.env := by rfl) (hpl : (backTo pos (starEach es X.env)).any (·.1) = false := by rfl)
    (ht : eval (.Call (.Attribute (.Name x npos) m apos) (e :: es) [] pos) X.env = (do
      let ov ← eval (.Name x npos) X.env
      standAt apos.atName
      let (f, first) ← holding [ov] (getMethod ov m pl)
      callWith pos f first (backTo pos (starEach (e :: es) X.env)) (backToKw pos (keywordEach [] X.env))) := by rfl) :
    PD c X (.Call (.Attribute (.Name x npos) m apos) (e :: es) [] pos) (qCall sp c.β qr) := by
  obtain ⟨t, pa, sa⟩ := ha.ex
  refine ⟨_, pe_smeth r (F.mono hj) hr pass0 hm pa hg hd hst hpl ht, fun ρ σ G H Q R s h k => ?_⟩
  refine sa ρ σ G H _ _ s h fun vs ds G1 H1 g1 r1 h1 => ?_
  have s1 := s.grow g1
  exact ⟨c.β, G1, ds, Q, r1, s1.core.gh, s1.core.bg, h1, fun v d G' H' g r q => k v d G' H' (g1.trans g s.hb) r q⟩
theorem dsm0 {pl : Sem Bool} (r : SMet X.K C m p g) (F : DnR X.prog X.w X.K X.mg X.base j g sp) (hr : Room k X.A) (hm : X.mg x = some (.ref C)) (hj : j ≤ k := by decide) (hg : Gl X x := by rfl) (hd : (x == ("__debug__" : Str)) = false := by decide)
    (ht : eval (.Call (.Attribute (.Name x npos) m apos) [] [] pos) X.env = (do
      let ov ← eval (.Name x npos) X.env
      standAt apos.atName
      let (f, first) ← holding [ov] (getMethod ov m pl)
      callWith pos f first (backTo pos (starEach [] X.env)) (backToKw pos (keywordEach [] X.env))) := by rfl) :
    PD c X (.Call (.Attribute (.Name x npos) m apos) [] [] pos) (qCall sp c.β qNil) := by
  refine ⟨_, pe_smeth0 r (F.mono hj) hr pass0 hm hg hd ht, fun ρ σ G H Q R s h k => ?_⟩
  exact ⟨c.β, G, [], Q, .nil, s.core.gh, s.core.bg, h, fun v d G' H' g r q => k v d G' H' g r q⟩
/-- f(..), f a def with a star parameter -/
theorem dcR (F : DnR X.prog X.w X.K X.mg X.base j f sp) (hm : X.mg x = some (.ref f)) (hk : PySem.W.keepIn X.K (.ref f) = true) (hr : Room k X.A) (ha : PDA c X (e :: es) qr) (hj : j ≤ k := by decide) (hg : Gl X x := by rfl) (hd : (x == ("__debug__" : Str)) = false := by decide)
    (he : starEach (e :: es) X.env = (false, eval e X.env) :: starEach es X.env := by rfl) (hpl : (backTo pos (starEach es X.env)).any (·.1) = false := by rfl) : PD c X (.Call (.Name x np) (e :: es) [] pos) (qCall sp c.β qr) := by
  obtain ⟨t, pa, sa⟩ := ha.ex
  have pe : PE X (.Call (.Name x np) (e :: es) [] pos) (fun σ H Q => t σ H fun vs H1 => lf sp vs H1 Q E0) := by
    refine ⟨fun pins s σ H Q I h => ?_⟩
    refine wpAny_Call_Name_kw (ld_glob I hg hm ?_ hd)
    refine PySem.W.callWith_K (first := []) (h₀ := X.base) I.ok.mod.kin hk (thn (pa.run pos pins s σ H _ I h) fun us s1 ⟨vs, H1, I1, r, q⟩ => ⟨I1.kIn, ?_⟩) he hpl
    exact wpAny_call (run_fnR (F.mono hj) hr pass0 I1 r q)
  refine ⟨_, pe, fun ρ σ G H Q R s h k => ?_⟩
  refine sa ρ σ G H _ _ s h fun vs ds G1 H1 g1 r1 h1 => ?_
  have s1 := s.grow g1
  exact ⟨c.β, G1, ds, Q, r1, s1.core.gh, s1.core.bg, h1, fun v d G' H' g r q => k v d G' H' (g1.trans g s.hb) r q⟩
end
theorem ownop_mk {K : PySem.W.Frag} {C : Addr} {nm : String} {fo ro : Option Value} (sf : PySem.W.selfFirst K C = true) (s1 : PySem.W.subIn K (.type "int") (.ref C) = some false) (s2 : PySem.W.subIn K (.ref C) (.type "int") = some false) (i1 : PySem.W.findIn K (.type "int") (PySem.dunder nm) = some fo) (i2 : PySem.W.findIn K (.type "int") (dunderR nm) = some ro) : OwnOp K C nm := ⟨sf, s1, s2, ⟨fo, i1⟩, ⟨ro, i2⟩⟩
end DL

/-! ### max, min, any of a list or a tuple of ints -/
namespace DL
open PySem L2 PySem.W PyProof.Rows
def SqA (K : PySem.W.Frag) (H : Hp) (a : Addr) (vs : List V) : Prop := SqL K H a vs ∨ SqT K H a vs
def rMinI (K : PySem.W.Frag) : List V → Hp → VK → Prop := fun vs H Q => ∃ (a : Addr) (n : Int) (ns : List Int), vs = [.ref a] ∧ SqA K H a ((n :: ns).map V.int) ∧ Q (.int (ns.foldl min n)) H
def rMaxI (K : PySem.W.Frag) : List V → Hp → VK → Prop := fun vs H Q => ∃ (a : Addr) (n : Int) (ns : List Int), vs = [.ref a] ∧ SqA K H a ((n :: ns).map V.int) ∧ Q (.int (ns.foldl max n)) H
def rAnyI (K : PySem.W.Frag) : List V → Hp → VK → Prop := fun vs H Q => ∃ (a : Addr) (ns : List Int), vs = [.ref a] ∧ SqT K H a (ns.map V.int) ∧ Q (.bl (ns.any (· != 0))) H
theorem reads_ints {h : Heap} : ∀ {ns : List Int} {us : List Value}, Vals (ns.map V.int) us → ReadsAll h us (ns.map PyData.int) []
  | [], us, r => by
    have r' : Vals [] us := r
    cases r'
    exact .nil
  | n :: ns, us, r => by
    have r' : Vals (V.int n :: ns.map V.int) us := r
    cases r' with
    | cons r1 r2 =>
      obtain ⟨t, rfl⟩ := r1
      exact .cons (as := []) (bs := []) (.int n t) (reads_ints r2)
theorem alike_ints (ns : List Int) : AlikeAll (ns.map PyData.int) := by
  refine ⟨fun x hx y hy => ?_, fun x hx => ?_⟩
  · obtain ⟨i, _, rfl⟩ := List.mem_map.mp hx
    obtain ⟨j, _, rfl⟩ := List.mem_map.mp hy
    rfl
  · obtain ⟨i, _, rfl⟩ := List.mem_map.mp hx
    simp
theorem depth_ints : ∀ ns : List Int, PyData.depthAll (ns.map PyData.int) ≤ 1
  | [] => by simp [PyData.depthAll]
  | n :: ns => by
    have := depth_ints ns
    simp only [List.map_cons, PyData.depthAll, PyData.depth]
    omega
theorem reads_int {h : Heap} {v : Value} {i : Int} {bs : List Addr} (r : Reads h v (.int i) bs) : ∃ t, v = .int i t := by
  cases r
  exact ⟨_, rfl⟩
theorem cr_minI {X : Cx} (hc : X.calm = true) (hu : X.A.units + 65 < cLine) : CallR X (.builtin "min") (rMinI X.K) := by
  intro pins s σ H vs us Q I r h
  obtain ⟨a, n, ns, rfl, hs, q⟩ := h
  rw [Vals.ref1 r]
  have hd := depth_ints (n :: ns)
  rcases hs with hs | hs
  · obtain ⟨its, rv, hl, _⟩ := I.list hs
    refine min_list_data (I.ok.hd hc) hl.isList (reads_ints rv) (alike_ints (n :: ns)) (by have : PyData.depthAll (PyData.int n :: ns.map PyData.int) ≤ 1 := hd; omega) fun i v h' tk bs hi rd hk => ?_
    rw [minD_ints] at rd
    obtain ⟨t, rfl⟩ := reads_int rd
    exact ⟨.int _, H, I.kept hk, ⟨_, rfl⟩, q⟩
  · obtain ⟨its, rv, hl, _⟩ := I.tuple hs
    refine min_tuple_data (I.ok.hd hc) (show s.heap.IsTuple a its.toArray from hl) (reads_ints rv) (alike_ints (n :: ns)) (by have : PyData.depthAll (PyData.int n :: ns.map PyData.int) ≤ 1 := hd; omega) fun i v h' tk bs hi rd hk => ?_
    rw [minD_ints] at rd
    obtain ⟨t, rfl⟩ := reads_int rd
    exact ⟨.int _, H, I.kept hk, ⟨_, rfl⟩, q⟩
theorem cr_maxI {X : Cx} (hc : X.calm = true) (hu : X.A.units + 65 < cLine) : CallR X (.builtin "max") (rMaxI X.K) := by
  intro pins s σ H vs us Q I r h
  obtain ⟨a, n, ns, rfl, hs, q⟩ := h
  rw [Vals.ref1 r]
  have hd := depth_ints (n :: ns)
  rcases hs with hs | hs
  · obtain ⟨its, rv, hl, _⟩ := I.list hs
    refine max_list_data (I.ok.hd hc) hl.isList (reads_ints rv) (alike_ints (n :: ns)) (by have : PyData.depthAll (PyData.int n :: ns.map PyData.int) ≤ 1 := hd; omega) fun i v h' tk bs hi rd hk => ?_
    rw [maxD_ints] at rd
    obtain ⟨t, rfl⟩ := reads_int rd
    exact ⟨.int _, H, I.kept hk, ⟨_, rfl⟩, q⟩
  · obtain ⟨its, rv, hl, _⟩ := I.tuple hs
    refine max_tuple_data (I.ok.hd hc) (show s.heap.IsTuple a its.toArray from hl) (reads_ints rv) (alike_ints (n :: ns)) (by have : PyData.depthAll (PyData.int n :: ns.map PyData.int) ≤ 1 := hd; omega) fun i v h' tk bs hi rd hk => ?_
    rw [maxD_ints] at rd
    obtain ⟨t, rfl⟩ := reads_int rd
    exact ⟨.int _, H, I.kept hk, ⟨_, rfl⟩, q⟩
theorem plain_ints : ∀ ns : List Int, PyData.plainAll (ns.map PyData.int) = true
  | [] => rfl
  | n :: ns => by simpa [PyData.plainAll, PyData.plain] using plain_ints ns
theorem cr_anyI {X : Cx} (hc : X.calm = true) : CallR X (.builtin "any") (rAnyI X.K) := by
  intro pins s σ H vs us Q I r h
  obtain ⟨a, ns, rfl, hs, q⟩ := h
  rw [Vals.ref1 r]
  obtain ⟨its, rv, hl, _⟩ := I.tuple hs
  refine any_tuple_data (I.ok.hd hc) (show s.heap.IsTuple a its.toArray from hl) (reads_ints rv) ?_ (fun x hx => ?_) fun h' tk hk => ?_
  · exact plain_ints ns
  · obtain ⟨i, _, rfl⟩ := List.mem_map.mp hx
    trivial
  · refine ⟨.bl _, H, I.kept hk, ?_, q⟩
    show Value.bool _ = Value.bool _
    rw [List.any_map]
    rfl
def minR : List D → (D → Prop) → Prop
  | [.lst xs], Q => ∃ n ns, intsOf xs = some (n :: ns) ∧ Q (.int (ns.foldl min n))
  | [.tup xs], Q => ∃ n ns, intsOf xs = some (n :: ns) ∧ Q (.int (ns.foldl min n))
  | _, _ => False
def maxR : List D → (D → Prop) → Prop
  | [.lst xs], Q => ∃ n ns, intsOf xs = some (n :: ns) ∧ Q (.int (ns.foldl max n))
  | [.tup xs], Q => ∃ n ns, intsOf xs = some (n :: ns) ∧ Q (.int (ns.foldl max n))
  | _, _ => False
def anyIR : List D → (D → Prop) → Prop
  | [.lst xs], Q => ∃ bs, blsOf xs = some bs ∧ Q (.bl (bs.any id))
  | [.tup xs], Q => ∃ ns, intsOf xs = some ns ∧ Q (.bl (ns.any (· != 0)))
  | _, _ => False
theorem cd_min {K : PySem.W.Frag} : CallD (rMinI K) minR := by
  intro β G H xs ds Q R hgh hbg r h k
  match ds, h with
  | [.lst ys], ⟨n, ns, hb, h⟩ =>
    obtain ⟨v, rfl, rv⟩ := r.one
    cases rv with
    | lst e l q =>
      have := intsOf_eq hb
      subst this
      have := RepL.ints ⟨l, q⟩
      subst this
      exact ⟨_, n, ns, rfl, .inl (.inl (.inl (hgh _ _ e))), opd_ret hgh hbg k (.int _) h⟩
  | [.tup ys], ⟨n, ns, hb, h⟩ =>
    obtain ⟨v, rfl, rv⟩ := r.one
    cases rv with
    | tup e l q =>
      have := intsOf_eq hb
      subst this
      have := RepL.ints ⟨l, q⟩
      subst this
      exact ⟨_, n, ns, rfl, .inr (e.sq hgh), opd_ret hgh hbg k (.int _) h⟩
theorem cd_max {K : PySem.W.Frag} : CallD (rMaxI K) maxR := by
  intro β G H xs ds Q R hgh hbg r h k
  match ds, h with
  | [.lst ys], ⟨n, ns, hb, h⟩ =>
    obtain ⟨v, rfl, rv⟩ := r.one
    cases rv with
    | lst e l q =>
      have := intsOf_eq hb
      subst this
      have := RepL.ints ⟨l, q⟩
      subst this
      exact ⟨_, n, ns, rfl, .inl (.inl (.inl (hgh _ _ e))), opd_ret hgh hbg k (.int _) h⟩
  | [.tup ys], ⟨n, ns, hb, h⟩ =>
    obtain ⟨v, rfl, rv⟩ := r.one
    cases rv with
    | tup e l q =>
      have := intsOf_eq hb
      subst this
      have := RepL.ints ⟨l, q⟩
      subst this
      exact ⟨_, n, ns, rfl, .inr (e.sq hgh), opd_ret hgh hbg k (.int _) h⟩
theorem cd_anyI {K : PySem.W.Frag} : CallD (fun vs H Q => rAny K vs H Q ∨ rAnyI K vs H Q) anyIR := by
  intro β G H xs ds Q R hgh hbg r h k
  match ds, h with
  | [.lst ys], ⟨bs, hb, h⟩ => exact .inl (cd_any β G H xs [.lst ys] Q R hgh hbg r ⟨bs, hb, h⟩ k)
  | [.tup ys], ⟨ns, hb, h⟩ =>
    obtain ⟨v, rfl, rv⟩ := r.one
    cases rv with
    | tup e l q =>
      have := intsOf_eq hb
      subst this
      have := RepL.ints ⟨l, q⟩
      subst this
      exact .inr ⟨_, ns, rfl, e.sq hgh, opd_ret hgh hbg k (.bl _) h⟩
section
variable {c : Ctx} {X : Cx} {e : Expr} {qr : QA} {p pos : Pos}
theorem dmin (hc : X.calm = true) (hu : X.A.units + 65 < cLine) (hm : X.mg "min" = none) (ha : PDA c X [e] qr) (hg : Gl X "min" := by rfl) (he : starEach [e] X.env = (false, eval e X.env) :: starEach [] X.env := by rfl) : PD c X (.Call (.Name "min" p) [e] [] pos) (qCB minR qr) :=
  PD.callB (cr_minI hc hu) cd_min hg hm (by decide +kernel) ha (by decide) (by decide) he rfl
theorem dmax (hc : X.calm = true) (hu : X.A.units + 65 < cLine) (hm : X.mg "max" = none) (ha : PDA c X [e] qr) (hg : Gl X "max" := by rfl) (he : starEach [e] X.env = (false, eval e X.env) :: starEach [] X.env := by rfl) : PD c X (.Call (.Name "max" p) [e] [] pos) (qCB maxR qr) :=
  PD.callB (cr_maxI hc hu) cd_max hg hm (by decide +kernel) ha (by decide) (by decide) he rfl
theorem danyI (hc : X.calm = true) (hm : X.mg "any" = none) (ha : PDA c X [e] qr) (hg : Gl X "any" := by rfl) (he : starEach [e] X.env = (false, eval e X.env) :: starEach [] X.env := by rfl) : PD c X (.Call (.Name "any" p) [e] [] pos) (qCB anyIR qr) :=
  PD.callB ((cr_any hc).or (cr_anyI hc)) cd_anyI hg hm (by decide +kernel) ha (by decide) (by decide) he rfl
end
theorem minR_l {xs : List D} {Q : D → Prop} : minR [.lst xs] Q = ∃ n ns, intsOf xs = some (n :: ns) ∧ Q (.int (ns.foldl min n)) := rfl
theorem minR_t {xs : List D} {Q : D → Prop} : minR [.tup xs] Q = ∃ n ns, intsOf xs = some (n :: ns) ∧ Q (.int (ns.foldl min n)) := rfl
theorem maxR_l {xs : List D} {Q : D → Prop} : maxR [.lst xs] Q = ∃ n ns, intsOf xs = some (n :: ns) ∧ Q (.int (ns.foldl max n)) := rfl
theorem maxR_t {xs : List D} {Q : D → Prop} : maxR [.tup xs] Q = ∃ n ns, intsOf xs = some (n :: ns) ∧ Q (.int (ns.foldl max n)) := rfl
theorem anyIR_t {xs : List D} {Q : D → Prop} : anyIR [.tup xs] Q = ∃ ns, intsOf xs = some ns ∧ Q (.bl (ns.any (· != 0))) := rfl
theorem dgint {c : Ctx} {X : Cx} {pos : Pos} {x : Str} {n : Int} {t : Tok} (hm : X.mg x = some (.int n t)) (hg : Gl X x := by rfl) (hd : (x == ("__debug__" : Str)) = false := by decide) : PD c X (.Name x pos) (qC (.int n)) := dglob (v := .int n) hm ⟨t, rfl⟩ (fun _ => .int n) hg hd
/-- a def with a star parameter, as the head tells it -/
theorem Hd.star {K : PySem.W.Frag} {h : Heap} {mg : Str → Option Value} {x : Str} {st : Stmt} (X : K.In h) (G : h.Ns mainGlobals mg) (H : Hd K x st) : ∃ f fd, Fun K x x st f fd ∧ mg x = some (.ref f) ∧ PySem.W.keepIn K (.ref f) = true := by
  obtain ⟨f, oc, od, kV, dc, pm, an, cd, ct, sl, a, l, c, k⟩ := H
  exact ⟨f, _, fun_mk (st := st) l c k, PySem.W.mg_of X G a, k⟩
/-- a global int -/
def GInt (K : PySem.W.Frag) (x : Str) (n : Int) : Prop := ∃ t, PySem.W.nsIn K mainGlobals x = some (some (.int n t))
theorem gint_mk {K : PySem.W.Frag} {x : Str} {n : Int} {t : Tok} (a : PySem.W.nsIn K mainGlobals x = some (some (.int n t))) : GInt K x n := ⟨t, a⟩
end DL

/-! ### == and != of two lists whose items have an own == -/
namespace DL
open PySem PySem.SeqAt
open AutoSeq1 (wpAny_loadPart')
open MeetsSeq MeetsSeq2 MeetsSeq3 SeqRoads2 GQ
section
variable {prog : Program} {w : World} {A : Around} {R : Result → Shared → Prop}
/-- at each turn the two lists are read anew: N items each, == of the i-th two answers e i -/
def ListB (prog : Program) (w : World) (A : Around) (E : Value → Shared → Prop) (l b : Addr) (N : Nat) (e : Nat → Bool) (I : Shared → Prop) : Prop :=
  ∀ s, I s → ∃ (items items2 : Array Value) (n n2 : Nat), s.heap.get? l = some { cls := .type "list", data := .seq items n } ∧ s.heap.get? b = some { cls := .type "list", data := .seq items2 n2 } ∧ items.size = N ∧ items2.size = N ∧
    ∀ i (h1 : i < items.size) (h2 : i < items2.size), wpAny (model prog w) A.in1 (eqBool items[i] items2[i]) (fun r s' => r = e i ∧ I s') E s
theorem all_none {N i : Nat} {e : Nat → Bool} (hi : N ≤ i) (h : ∀ j, j < i → j < N → e j = true) : (List.range N).all e = true := by
  rw [List.all_eq_true]
  intro j hj
  have := List.mem_range.mp hj
  exact h j (by omega) this
theorem all_bad {N i : Nat} {e : Nat → Bool} (hi : i < N) (h : e i = false) : (List.range N).all e = false := by
  rw [List.all_eq_false]
  exact ⟨i, List.mem_range.mpr hi, by rw [h]; decide⟩
theorem eq_loopB (l b : Addr) (N : Nat) (e : Nat → Bool) (I : Shared → Prop) (hl : ListB prog w A (fun e s' => R (.error e) s') l b N e I)
    (fin : ∀ s, I s → R (.ok (.ret (.bool ((List.range N).all e)))) s) (k : Nat) :
    ∀ i : Nat, N - i = k → i ≤ N → (∀ j, j < i → j < N → e j = true) → ∀ s, I s →
      wpAny (model prog w) A.in1 (Builtin.«list.__eq__.loop» ⟨[.ref l, .ref b, rawInt i, rawInt 2], []⟩) (FinOf prog w A R) (fun e s' => R (.error e) s') s := by
  induction k with
  | zero =>
    intro i hk hi hall s h
    obtain ⟨items, items2, n, n2, hl1, hb1, hs1, hs2, _⟩ := hl _ h
    have hR := fin s h
    rw [all_none (by omega) hall] at hR
    obtain ⟨hp, g, d, tk, os⟩ := s
    wp_walk using wpAny_loadPart' hl1, wpAny_loadPart' hb1
    have hi1 : items[((i : Nat) : Int).toNat]? = none := by simp; omega
    have hi2 : items2[((i : Nat) : Int).toNat]? = none := by simp; omega
    rw [hi1, hi2]
    wp_walk using wpAny_loadPart' hl1, wpAny_loadPart' hb1
    show R (.ok (.ret (.bool (items.size == items2.size)))) _
    rw [hs1, hs2]
    simpa using hR
  | succ k ih =>
    intro i hk hi hall s h
    obtain ⟨items, items2, n, n2, hl1, hb1, hs1, hs2, turn⟩ := hl _ h
    have hlt : i < items.size := by omega
    have hlt2 : i < items2.size := by omega
    have ht := turn i hlt hlt2
    obtain ⟨hp, g, d, tk, os⟩ := s
    wp_walk using wpAny_loadPart' hl1, wpAny_loadPart' hb1
    have hi1 : items[((i : Nat) : Int).toNat]? = some items[i] := by simp [hlt]
    have hi2 : items2[((i : Nat) : Int).toNat]? = some items2[i] := by simp [hlt2]
    have hc : ((i : Int) + 1) = ((i + 1 : Nat) : Int) := by omega
    rw [hi1, hi2]
    refine wpAny_bind (wpAny_mono ht (fun r s2 h2 => ?_) fun _ _ x => x)
    obtain ⟨hr, h2⟩ := h2
    cases r with
    | true =>
      have hrec := ih (i + 1) (by omega) (by omega) (fun j hj hjN => by
        rcases Nat.lt_or_ge j i with q | q
        · exact hall j q hjN
        · have : j = i := by omega
          rw [this]; exact hr.symm) s2 h2
      obtain ⟨hp2, g2, d2, tk2, os2⟩ := s2
      wp_walk
      rw [hc]
      exact ⟨plainId_quiet plain_eq_loop _, codeAny_builtin entry_eq_loop (by
        rw [Around.under_plainId plain_eq_loop _]
        exact hrec)⟩
    | false =>
      have hR := fin s2 h2
      rw [all_bad (by omega) hr.symm] at hR
      obtain ⟨items, items2, n, n2, hl1, hb1, hs1, hs2, _⟩ := hl _ h2
      obtain ⟨hp2, g2, d2, tk2, os2⟩ := s2
      wp_walk using wpAny_loadPart' hl1, wpAny_loadPart' hb1
      have hi1 : items[((i : Nat) : Int).toNat]? = some (items[i]'(by omega)) := by simp
      have hi2 : items2[((i : Nat) : Int).toNat]? = some (items2[i]'(by omega)) := by simp
      rw [hi1, hi2]
      wp_walk
      exact hR
theorem ne_loopB (l b : Addr) (N : Nat) (e : Nat → Bool) (I : Shared → Prop) (hl : ListB prog w A (fun e s' => R (.error e) s') l b N e I)
    (fin : ∀ s, I s → R (.ok (.ret (.bool (!(List.range N).all e)))) s) (k : Nat) :
    ∀ i : Nat, N - i = k → i ≤ N → (∀ j, j < i → j < N → e j = true) → ∀ s, I s →
      wpAny (model prog w) A.in1 (Builtin.«list.__eq__.loop» ⟨[.ref l, .ref b, rawInt i, rawInt 3], []⟩) (FinOf prog w A R) (fun e s' => R (.error e) s') s := by
  induction k with
  | zero =>
    intro i hk hi hall s h
    obtain ⟨items, items2, n, n2, hl1, hb1, hs1, hs2, _⟩ := hl _ h
    have hR := fin s h
    rw [all_none (by omega) hall] at hR
    obtain ⟨hp, g, d, tk, os⟩ := s
    wp_walk using wpAny_loadPart' hl1, wpAny_loadPart' hb1
    have hi1 : items[((i : Nat) : Int).toNat]? = none := by simp; omega
    have hi2 : items2[((i : Nat) : Int).toNat]? = none := by simp; omega
    rw [hi1, hi2]
    wp_walk using wpAny_loadPart' hl1, wpAny_loadPart' hb1
    show R (.ok (.ret (.bool (items.size != items2.size)))) _
    rw [hs1, hs2]
    simpa using hR
  | succ k ih =>
    intro i hk hi hall s h
    obtain ⟨items, items2, n, n2, hl1, hb1, hs1, hs2, turn⟩ := hl _ h
    have hlt : i < items.size := by omega
    have hlt2 : i < items2.size := by omega
    have ht := turn i hlt hlt2
    obtain ⟨hp, g, d, tk, os⟩ := s
    wp_walk using wpAny_loadPart' hl1, wpAny_loadPart' hb1
    have hi1 : items[((i : Nat) : Int).toNat]? = some items[i] := by simp [hlt]
    have hi2 : items2[((i : Nat) : Int).toNat]? = some items2[i] := by simp [hlt2]
    have hc : ((i : Int) + 1) = ((i + 1 : Nat) : Int) := by omega
    rw [hi1, hi2]
    refine wpAny_bind (wpAny_mono ht (fun r s2 h2 => ?_) fun _ _ x => x)
    obtain ⟨hr, h2⟩ := h2
    cases r with
    | true =>
      have hrec := ih (i + 1) (by omega) (by omega) (fun j hj hjN => by
        rcases Nat.lt_or_ge j i with q | q
        · exact hall j q hjN
        · have : j = i := by omega
          rw [this]; exact hr.symm) s2 h2
      obtain ⟨hp2, g2, d2, tk2, os2⟩ := s2
      wp_walk
      rw [hc]
      exact ⟨plainId_quiet plain_eq_loop _, codeAny_builtin entry_eq_loop (by
        rw [Around.under_plainId plain_eq_loop _]
        exact hrec)⟩
    | false =>
      have hR := fin s2 h2
      rw [all_bad (by omega) hr.symm] at hR
      obtain ⟨items, items2, n, n2, hl1, hb1, hs1, hs2, _⟩ := hl _ h2
      obtain ⟨hp2, g2, d2, tk2, os2⟩ := s2
      wp_walk using wpAny_loadPart' hl1, wpAny_loadPart' hb1
      have hi1 : items[((i : Nat) : Int).toNat]? = some (items[i]'(by omega)) := by simp
      have hi2 : items2[((i : Nat) : Int).toNat]? = some (items2[i]'(by omega)) := by simp
      rw [hi1, hi2]
      wp_walk
      exact hR
theorem list_eqB (l b : Addr) (N : Nat) (e : Nat → Bool) (I : Shared → Prop) (hl : ListB prog w A (fun e s' => R (.error e) s') l b N e I)
    (fin : ∀ s, I s → R (.ok (.ret (.bool ((List.range N).all e)))) s) {s : Shared} (h : I s) :
    wpAny (model prog w) A.in1 (Builtin.«list.__eq__» ⟨[.ref l, .ref b], []⟩) (FinOf prog w A R) (fun e s' => R (.error e) s') s := by
  obtain ⟨items, items2, n, n2, hl1, hb1, hs1, hs2, _⟩ := hl _ h
  have hrec := eq_loopB (A := A) (R := R) l b N e I hl fin _ 0 rfl (Nat.zero_le _) (fun j hj => absurd hj (Nat.not_lt_zero j)) s h
  obtain ⟨hp, g, d, tk, os⟩ := s
  have f3 := AutoSeq1.sub_list_list
  have hne : ¬ (items.size != items2.size) = true := by simp [hs1, hs2]
  wp_walk using wpAny_loadPart' hl1, wpAny_loadPart' hb1
  exact ⟨plainId_quiet plain_eq_loop _, codeAny_builtin entry_eq_loop (by
    rw [Around.under_plainId plain_eq_loop _]
    exact hrec)⟩
theorem list_neB (l b : Addr) (N : Nat) (e : Nat → Bool) (I : Shared → Prop) (hl : ListB prog w A (fun e s' => R (.error e) s') l b N e I)
    (fin : ∀ s, I s → R (.ok (.ret (.bool (!(List.range N).all e)))) s) {s : Shared} (h : I s) :
    wpAny (model prog w) A.in1 (Builtin.«list.__ne__» ⟨[.ref l, .ref b], []⟩) (FinOf prog w A R) (fun e s' => R (.error e) s') s := by
  obtain ⟨items, items2, n, n2, hl1, hb1, hs1, hs2, _⟩ := hl _ h
  have hrec := ne_loopB (A := A) (R := R) l b N e I hl fin _ 0 rfl (Nat.zero_le _) (fun j hj => absurd hj (Nat.not_lt_zero j)) s h
  obtain ⟨hp, g, d, tk, os⟩ := s
  have f3 := AutoSeq1.sub_list_list
  have hne : ¬ (items.size != items2.size) = true := by simp [hs1, hs2]
  wp_walk using wpAny_loadPart' hl1, wpAny_loadPart' hb1
  exact ⟨plainId_quiet plain_eq_loop _, codeAny_builtin entry_eq_loop (by
    rw [Around.under_plainId plain_eq_loop _]
    exact hrec)⟩
end
section
variable {prog : Program} {w : World} {A : Around} {E : Value → Shared → Prop} {s : Shared}
theorem rc_listEq {l b : Addr} {N : Nat} {e : Nat → Bool} {Q : Value → Shared → Prop} (hu : A.units < cLine) (I : Shared → Prop) (hl : ListB prog w A E l b N e I)
    (fin : ∀ s, I s → Q (.bool ((List.range N).all e)) s) (h : I s) : wpAny (model prog w) A (richCompare .Eq (.ref l) (.ref b)) Q E s := by
  obtain ⟨items, items2, n, n2, hl1, hb1, _, _, _⟩ := hl _ h
  refine wpAny_richCompare_same_room (op := .Eq) ⟨_, hl1, rfl⟩ ⟨_, hb1, rfl⟩ F.slot_list_eq (call_here F.slot_list_eq ⟨_, hl1, rfl⟩ F.entry_list_eq (F.args_list_eq_2 _ _) ?_) hu
  exact list_eqB (R := wants (fun v s' => v ≠ .notImplemented ∧ Q v s') E) l b N e I hl (fun s' q => ⟨(fun x => nomatch x), fin s' q⟩) h
theorem rc_listNe {l b : Addr} {N : Nat} {e : Nat → Bool} {Q : Value → Shared → Prop} (hu : A.units < cLine) (I : Shared → Prop) (hl : ListB prog w A E l b N e I)
    (fin : ∀ s, I s → Q (.bool (!(List.range N).all e)) s) (h : I s) : wpAny (model prog w) A (richCompare .NotEq (.ref l) (.ref b)) Q E s := by
  obtain ⟨items, items2, n, n2, hl1, hb1, _, _, _⟩ := hl _ h
  refine wpAny_richCompare_same_room (op := .NotEq) ⟨_, hl1, rfl⟩ ⟨_, hb1, rfl⟩ F.slot_list_ne (call_here F.slot_list_ne ⟨_, hl1, rfl⟩ F.entry_list_ne (F.args_list_ne_2 _ _) ?_) hu
  exact list_neB (R := wants (fun v s' => v ≠ .notImplemented ∧ Q v s') E) l b N e I hl (fun s' q => ⟨(fun x => nomatch x), fin s' q⟩) h
end
end DL

namespace DL
open PySem L2 PySem.Spec PyProof.Rows
section
variable {X : Cx} {pins : List (Addr × Obj)} {σ : L2.St} {H : Hp} {s : Shared} {C : Addr} {sp : SpD} {ps : List Str} {j : Nat}
/-- the own == somewhere below the running body -/
theorem rc_ownB {A : Around} {a c dx dy : Addr} {fs gs : List (Str × V)} {r : Bool} {W : Hp → Prop} (F : DnM X.prog X.w X.K X.mg X.base j C "__eq__" ps sp) (sb : Sub X j A) (I : Inv X pins σ H s) (ha : H a = some (.ins C dx fs)) (hc : H c = some (.ins C dy gs))
    (h : lf sp [.ref a, .ref c] H (fun v H' => v = .bl r ∧ W H') E0) : wpAny (model X.prog X.w) A (richCompare .Eq (.ref a) (.ref c)) (fun v s' => v = .bool r ∧ ∃ H', Inv X pins σ H' s' ∧ W H') X.xe s := by
  obtain ⟨f, fd, F, M, cf, hb, _⟩ := F
  obtain ⟨od, J⟩ := ins_at I ha
  obtain ⟨od', J'⟩ := ins_at I hc
  obtain ⟨m, hF⟩ := I.fr
  refine PySem.W.cmp_K (op := .Eq) (tb := .ref C) sb.room.units0 hF I.ok.mod.kin J J'.type (by simp [PySem.W.notFirst]) M.at_ M.fn ?_
  have e0 : Env0 X.prog X.w X.K X.mg X.base A X.stack s H := by
    have e := I.env0
    exact ⟨by rw [sb.fr]; exact e.frames, e.mod, e.bs, e.bsz, e.funs, e.frf, e.hok, e.bare⟩
  have hl := F.len _ _ _ _ h
  have r2 : Vals [V.ref a, V.ref c] [Value.ref a, Value.ref c] := .cons rfl (.cons rfl .nil)
  refine wpAny_call (codeAny_mono (F.run A X.stack s H ⟨[.ref a, .ref c], []⟩ [.ref a, .ref c] [.ref a, .ref c] _ E0 sb.room e0 (by
    have := hb s [.ref a, .ref c] I.kIn (by simpa using hl)
    simpa using this) r2 h) fun r s' hq => ?_)
  cases r with
  | error e => exact pass0 pins σ H s e s' I hq
  | ok fl =>
    cases fl with
    | ret w =>
      obtain ⟨z, H', I', rz, ez, ex⟩ := I.after hq
      subst ez
      cases rz
      exact ⟨rfl, H', I', ex⟩
    | next => exact False.elim hq
    | brk => exact False.elim hq
    | cont => exact False.elim hq
/-- an object whose fields are ints -/
def intObj (C : Addr) (d : D) : Prop := ∃ fs : List (Str × Int), d = .obj C (fs.map fun p => (p.1, .int p.2))
def eqItems (C : Addr) (sp : SpD) (ds es : List D) (bs : List Bool) : Prop := ds.length = es.length ∧ bs.length = ds.length ∧ ∀ (i : Nat) d e r, ds[i]? = some d → es[i]? = some e → bs[i]? = some r → intObj C d ∧ intObj C e ∧ sp none [d, e] (fun z => z = .bl r) ∧ (d = e → r = true)
theorem RepF.ints {G : Hp} : ∀ {fs : List (Str × Int)} {fvs : List (Str × V)}, RepF G fvs (fs.map fun p => (p.1, D.int p.2)) → fvs = fs.map fun p => (p.1, V.int p.2)
  | [], [], _ => rfl
  | [], _ :: _, h => by have := h.1; simp at this
  | _ :: _, [], h => by have := h.1; simp at this
  | f :: fs, v :: fvs, h => by
    have h1 : v.1 = f.1 := by have := h.1; simp at this; exact this.1
    have h2 : Rep G v.2 (.int f.2) := h.2 0 v _ rfl rfl
    have h3 : v.2 = V.int f.2 := by
      generalize v.2 = z at h2
      cases h2
      rfl
    have ih := RepF.ints (fs := fs) (fvs := fvs) (RepF.tl (e := (f.1, D.int f.2)) h)
    rw [ih, List.map_cons]
    congr 1
    exact Prod.ext h1 h3
theorem Rep.intObj_inv {G : Hp} {v : V} {d : D} (h : intObj C d) (r : Rep G v d) : ∃ (a dx : Addr) (fs : List (Str × Int)), v = .ref a ∧ G a = some (.ins C dx (fs.map fun (p : Str × Int) => (p.1, V.int p.2))) ∧ d = .obj C (fs.map fun p => (p.1, .int p.2)) := by
  obtain ⟨fs, rfl⟩ := h
  cases r with
  | obj e h1 h2 h3 =>
    have := RepF.ints (fs := fs) ⟨h2, h3⟩
    subst this
    exact ⟨_, _, fs, rfl, e, rfl⟩
theorem map_int_inj : ∀ {fs gs : List (Str × Int)}, (fs.map fun p => (p.1, V.int p.2)) = gs.map (fun p => (p.1, V.int p.2)) → fs = gs
  | [], [], _ => rfl
  | [], _ :: _, h => by simp at h
  | _ :: _, [], h => by simp at h
  | f :: fs, g :: gs, h => by
    simp only [List.map_cons, List.cons.injEq, Prod.mk.injEq, V.int.injEq] at h
    rw [map_int_inj h.2, Prod.ext h.1.1 h.1.2]
/-- two lists of objects with ints -/
def rEqL (C : Addr) (sp : SpD) (neg : Bool) : R2 := fun x y H Q => ∃ (G : Hp) (a b : Addr) (xs ys : List V) (ds es : List D) (bs : List Bool), x = .ref a ∧ y = .ref b ∧ Ex G H ∧ G a = some (.lst xs) ∧ G b = some (.lst ys) ∧ RepL G xs ds ∧ RepL G ys es ∧ eqItems C sp ds es bs ∧
  ∀ G' H', Grow none G H G' H' → Q (.bl (if neg then !(bs.all id) else bs.all id)) H'
theorem range_all {bs : List Bool} : (List.range bs.length).all (fun i => bs.getD i true) = bs.all id := by
  rw [Bool.eq_iff_iff, List.all_eq_true, List.all_eq_true]
  constructor
  · intro h b hb
    obtain ⟨i, hi, rfl⟩ := List.getElem_of_mem hb
    have := h i (List.mem_range.mpr hi)
    rw [List.getD_eq_getElem?_getD, List.getElem?_eq_getElem hi] at this
    exact this
  · intro h i hi
    have hi' := List.mem_range.mp hi
    rw [List.getD_eq_getElem?_getD, List.getElem?_eq_getElem hi']
    exact h _ (List.getElem_mem hi')
theorem listB_of (F : DnM X.prog X.w X.K X.mg X.base j C "__eq__" ps sp) {A : Around} (sb : Sub X (j + 1) A) {G : Hp} {a b : Addr} {xs ys : List V} {ds es : List D} {bs : List Bool} (ga : G a = some (.lst xs)) (gb : G b = some (.lst ys)) (rx : RepL G xs ds) (ry : RepL G ys es) (he : eqItems C sp ds es bs) :
    ListB X.prog X.w A X.xe a b bs.length (fun i => bs.getD i true) (fun s' => ∃ G' H', Grow none G H G' H' ∧ Inv X pins σ H' s') := by
  intro s' ⟨G1, H1, g1, I1⟩
  obtain ⟨z, its, k, r, e⟩ := I1.hok a _ (g1.gh _ _ (g1.gg _ _ ga))
  obtain ⟨z2, its2, k2, r2, e2⟩ := I1.hok b _ (g1.gh _ _ (g1.gg _ _ gb))
  obtain ⟨hl1, hl2, hi⟩ := he
  have n1 : its.length = bs.length := by rw [← r.length, rx.1, hl2]
  have n2 : its2.length = bs.length := by rw [← r2.length, ry.1, hl2, hl1]
  refine ⟨its.toArray, its2.toArray, k, k2, e, e2, by rw [List.size_toArray]; exact n1, by rw [List.size_toArray]; exact n2, fun i h1 h2 => ?_⟩
  have k1 : i < its.length := by simpa using h1
  have k2 : i < its2.length := by simpa using h2
  have x1 : i < xs.length := by rw [r.length]; exact k1
  have y1 : i < ys.length := by rw [r2.length]; exact k2
  have d1 : i < ds.length := by rw [← rx.1]; exact x1
  have q1 : i < es.length := by rw [← ry.1]; exact y1
  have b1 : i < bs.length := by omega
  obtain ⟨u, hu, ru⟩ := r.get (List.getElem?_eq_getElem x1)
  obtain ⟨v, hv, rv⟩ := r2.get (List.getElem?_eq_getElem y1)
  have hu' : its.toArray[i] = u := by rw [List.getElem?_eq_getElem k1] at hu; simpa using hu
  have hv' : its2.toArray[i] = v := by rw [List.getElem?_eq_getElem k2] at hv; simpa using hv
  rw [hu', hv']
  obtain ⟨o1, o2, hsp, hrefl⟩ := hi i _ _ _ (List.getElem?_eq_getElem d1) (List.getElem?_eq_getElem q1) (List.getElem?_eq_getElem b1)
  have rr1 := rx.2 i _ _ (List.getElem?_eq_getElem x1) (List.getElem?_eq_getElem d1)
  have rr2 := ry.2 i _ _ (List.getElem?_eq_getElem y1) (List.getElem?_eq_getElem q1)
  have eb : bs.getD i true = bs[i] := by rw [List.getD_eq_getElem?_getD, List.getElem?_eq_getElem b1]; rfl
  obtain ⟨p, dx, fs, ep, gp, ed⟩ := rr1.intObj_inv o1
  obtain ⟨p', dx', fs', ep', gp', ed'⟩ := rr2.intObj_inv o2
  rw [ep] at ru
  rw [ep'] at rv
  obtain rfl : u = Value.ref p := ru
  obtain rfl : v = Value.ref p' := rv
  by_cases hp : p = p'
  · subst hp
    rw [gp] at gp'
    have h3 : (fs.map fun p => (p.1, V.int p.2)) = fs'.map fun p => (p.1, V.int p.2) := by injection gp' with h; injection h
    have hd : ds[i] = es[i] := by rw [ed, ed', map_int_inj h3]
    refine SeqAt.EqAt.same (A := A.in1) (s := s') (.ref p) X.prog X.w X.xe _ ⟨?_, G1, H1, g1, I1⟩
    show true = bs.getD i true
    rw [eb]
    exact (hrefl hd).symm
  · refine GQ.eqBool_refG hp (wpAny_mono (rc_ownB (r := bs[i]) (W := fun H' => ∃ G', Grow none G H G' H') F sb.in1 I1 (g1.gh _ _ (g1.gg _ _ gp)) (g1.gh _ _ (g1.gg _ _ gp')) ?_) (fun v s2 q => ?_) fun _ _ x => x)
    · refine ⟨none, G1, [ds[i], es[i]], _, .cons (ep ▸ rr1.mono g1.gg) (.cons (ep' ▸ rr2.mono g1.gg) .nil), g1.gh, fun b h => (by cases h), hsp, fun v d G' H' g rv q => ?_⟩
      subst q
      cases rv
      exact ⟨rfl, G', g1.trans g (fun b h => by cases h)⟩
    · obtain ⟨rfl, H', I', G', g'⟩ := q
      exact ⟨_, rfl, eb.symm, G', H', g', I'⟩
theorem op_eqL {k : Nat} (F : DnM X.prog X.w X.K X.mg X.base j C "__eq__" ps sp) (hr : Room k X.A) (hj : j + 1 ≤ k) : OpR X (compareOp .Eq) (rEqL C sp false) := by
  intro pins s σ H x y u v Q I rx ry h
  obtain ⟨G, a, b, xs, ys, ds, es, bs, rfl, rfl, gh, ga, gb, r1, r2, he, q⟩ := h
  obtain rfl : u = Value.ref a := rx
  obtain rfl : v = Value.ref b := ry
  show wpAny _ _ (richCompare .Eq (.ref a) (.ref b)) _ _ _
  have g0 : Grow none G H G H := Grow.refl gh fun _ e => by cases e
  refine rc_listEq (hr.mono hj).units0 _ (listB_of (H := H) (pins := pins) (σ := σ) F ⟨hr.mono hj, rfl⟩ ga gb r1 r2 he) (fun s' ⟨G', H', g', I'⟩ => ?_) ⟨G, H, g0, I⟩
  rw [range_all]
  exact ⟨.bl _, H', I', rfl, q G' H' g'⟩
theorem op_neL {k : Nat} (F : DnM X.prog X.w X.K X.mg X.base j C "__eq__" ps sp) (hr : Room k X.A) (hj : j + 1 ≤ k) : OpR X (compareOp .NotEq) (rEqL C sp true) := by
  intro pins s σ H x y u v Q I rx ry h
  obtain ⟨G, a, b, xs, ys, ds, es, bs, rfl, rfl, gh, ga, gb, r1, r2, he, q⟩ := h
  obtain rfl : u = Value.ref a := rx
  obtain rfl : v = Value.ref b := ry
  show wpAny _ _ (richCompare .NotEq (.ref a) (.ref b)) _ _ _
  have g0 : Grow none G H G H := Grow.refl gh fun _ e => by cases e
  refine rc_listNe (hr.mono hj).units0 _ (listB_of (H := H) (pins := pins) (σ := σ) F ⟨hr.mono hj, rfl⟩ ga gb r1 r2 he) (fun s' ⟨G', H', g', I'⟩ => ?_) ⟨G, H, g0, I⟩
  rw [range_all]
  exact ⟨.bl _, H', I', rfl, q G' H' g'⟩
def eqLO (C : Addr) (sp : SpD) (neg : Bool) : D → D → (D → Prop) → Prop
  | .lst ds, .lst es, Q => ∃ bs, eqItems C sp ds es bs ∧ Q (.bl (if neg then !(bs.all id) else bs.all id))
  | _, _, _ => False
theorem opd_eqL {neg : Bool} : OpD (rEqL C sp neg) (eqLO C sp neg) := by
  intro β G H x y a b Q R hgh hbg ra rb h k
  match a, b, h with
  | .lst ds, .lst es, ⟨bs, he, h⟩ =>
    cases ra with
    | lst e1 n1 q1 =>
    cases rb with
    | lst e2 n2 q2 =>
    exact ⟨G, _, _, _, _, ds, es, bs, rfl, rfl, hgh, e1, e2, ⟨n1, q1⟩, ⟨n2, q2⟩, he, fun G' H' g => k _ _ G' H' (g.ofNone hbg) (.bl _) h⟩
variable {c : Ctx} {a b : Expr} {qa qb : QE} {pos : Pos} {k : Nat}
theorem deqL (F : DnM X.prog X.w X.K X.mg X.base j C "__eq__" ps sp) (hr : Room k X.A) (ha : PD c X a qa) (hb : PD c X b qb) (hj : j + 1 ≤ k := by decide) : PD c X (.Compare a [.Eq] [b] pos) (qOp (eqLO C sp false) qa qb) :=
  PD.cmp (op_eqL F hr hj) opd_eqL ha hb (nomark _)
theorem teqL (F : DnM X.prog X.w X.K X.mg X.base j C "__eq__" ps sp) (hr : Room k X.A) (ha : PD c X a qa) (hb : PD c X b qb) (hj : j + 1 ≤ k := by decide) : PDT c X (.Compare a [.Eq] [b] pos) (qTest (qOp (eqLO C sp false) qa qb)) :=
  PDT.cmp (op_eqL F hr hj) opd_eqL ha hb (nomark _)
theorem dneL (F : DnM X.prog X.w X.K X.mg X.base j C "__eq__" ps sp) (hr : Room k X.A) (ha : PD c X a qa) (hb : PD c X b qb) (hj : j + 1 ≤ k := by decide) : PD c X (.Compare a [.NotEq] [b] pos) (qOp (eqLO C sp true) qa qb) :=
  PD.cmp (op_neL F hr hj) opd_eqL ha hb (nomark _)
theorem tneL (F : DnM X.prog X.w X.K X.mg X.base j C "__eq__" ps sp) (hr : Room k X.A) (ha : PD c X a qa) (hb : PD c X b qb) (hj : j + 1 ≤ k := by decide) : PDT c X (.Compare a [.NotEq] [b] pos) (qTest (qOp (eqLO C sp true) qa qb)) :=
  PDT.cmp (op_neL F hr hj) opd_eqL ha hb (nomark _)
theorem eqLO_l {ds es : List D} {Q : D → Prop} {neg : Bool} : eqLO C sp neg (.lst ds) (.lst es) Q = ∃ bs, eqItems C sp ds es bs ∧ Q (.bl (if neg then !(bs.all id) else bs.all id)) := rfl
end
end DL

/-! ### texts: f-strings, str(x) -/
namespace DL
open PySem L2 PySem.Spec PyProof.Rows
def fmtD : D → (D → Prop) → Prop
  | .str y, Q => y.length ≤ 100000 ∧ Q (.str y)
  | .int i, Q => i.natAbs.log2 < 1920 ∧ Q (.str (toString i))
  | _, _ => False
def qJs : List QE → Str → List Slot → (D → Prop) → Prop
  | [], acc, _, Q => Q (.str acc)
  | q :: qs, acc, ρ, Q => q ρ fun d => ∃ y : Str, d = .str y ∧ (acc ++ y).length ≤ 100000 ∧ qJs qs (acc ++ y) ρ Q
section
variable {c : Ctx} {X : Cx} {e : Expr} {es : List Expr} {q : QE} {qs : List QE} {pos : Pos}
theorem dfmt (he : PD c X e q) : PD c X (.FormattedValue e (-1) none pos) (qUn fmtD q) := by
  obtain ⟨t, p, sd⟩ := he.ex
  refine ⟨_, pe_fmt p, fun ρ σ G H Q R s h k => sd ρ σ G H _ _ s h fun v d G' H' g r hq => ?_⟩
  cases r with
  | str y => exact .inl ⟨y, rfl, sz hq.1, k _ _ G' H' g (.str y) hq.2⟩
  | int i => exact .inr ⟨i, rfl, hq.1, k _ _ G' H' g (.str _) hq.2⟩
  | _ => exact hq.elim
structure PDJ (c : Ctx) (X : Cx) (es : List Expr) (qs : List QE) : Prop where
  ex : ∃ ts, PJ X es ts ∧ ∀ (acc : Str) (ρ : List Slot) (σ : L2.St) (G H : Hp) (Q : D → Prop) (R : Str → Hp → Prop), Sta c G H σ ρ → qJs qs acc ρ Q → (∀ out G' H', Grow c.β G H G' H' → Q (.str out) → R out H') → tJs ts acc σ H R
theorem pj0 : PDJ c X [] [] := ⟨[], .nil, fun acc ρ σ G H Q R s h k => k acc G H (Grow.refl s.core.gh s.core.bg) h⟩
theorem pjc (he : PD c X e q) (hr : PDJ c X es qs) : PDJ c X (e :: es) (q :: qs) := by
  obtain ⟨t, p, sd⟩ := he.ex
  obtain ⟨ts, pj, sj⟩ := hr.ex
  refine ⟨t :: ts, .cons p pj, fun acc ρ σ G H Q R s h k => sd ρ σ G H _ _ s h fun v d G' H' g r hq => ?_⟩
  obtain ⟨y, rfl, hl, h2⟩ := hq
  cases r
  exact ⟨y, rfl, sz hl, sj _ ρ σ G' H' Q R (s.grow g) h2 fun out G2 H2 g2 h3 => k out G2 H2 (g.trans g2 s.hb) h3⟩
theorem dfs {e1 e2 : Expr} (h : PDJ c X (e1 :: e2 :: es) qs) : PD c X (.JoinedStr (e1 :: e2 :: es) pos) (qJs qs Str.empty) := by
  obtain ⟨ts, pj, sj⟩ := h.ex
  exact ⟨_, pe_joined pj, fun ρ σ G H Q R s h k => sj _ ρ σ G H Q _ s h fun out G' H' g hq => k _ _ G' H' g (.str out) hq⟩
theorem dfs1 (h : PD c X e q) : PD c X (.JoinedStr [e] pos) q := by
  obtain ⟨t, p, sd⟩ := h.ex
  exact ⟨_, pe_joined1 p, sd⟩
/-- str(x): ints, strs -/
def strR : List D → (D → Prop) → Prop
  | [.int i], Q => i.natAbs.log2 < 1920 ∧ Q (.str (toString i))
  | [.str x], Q => Q (.str x)
  | _, _ => False
theorem cd_str : CallD (fun xs H Q => (∃ i, xs = [.int i] ∧ i.natAbs.log2 < 1920 ∧ Q (.str (toString i)) H) ∨ ∃ a, xs = [.str a] ∧ Q (.str a) H) strR := by
  intro β G H xs ds Q R hgh hbg r h k
  match ds, h with
  | [.int i], h =>
    obtain ⟨v, rfl, rv⟩ := r.one
    cases rv
    exact .inl ⟨i, rfl, h.1, opd_ret hgh hbg k (.str _) h.2⟩
  | [.str i], h =>
    obtain ⟨v, rfl, rv⟩ := r.one
    cases rv
    exact .inr ⟨i, rfl, opd_ret hgh hbg k (.str _) h⟩
theorem dstrc {p : Pos} {qr : QA} (hm : X.mg "str" = none) (ha : PDA c X [e] qr) (hg : Gl X "str" := by rfl) (he : starEach [e] X.env = (false, eval e X.env) :: starEach [] X.env := by rfl) : PD c X (.Call (.Name "str" p) [e] [] pos) (qCB strR qr) :=
  PD.callTy (call_str_int.or SkE.call_str_str) cd_str hg hm (by decide +kernel) ha (by decide) (by decide) he rfl
/-- a def's run somewhere below the running body -/
theorem run_sub {pins : List (Addr × Obj)} {σ : L2.St} {H : Hp} {s : Shared} {A : Around} {f : Addr} {fd : FuncData} {ps : List Str} {j : Nat} {sp : Sp} {us : List Value} {vs : List V} {Q : VK} (F : FnOk X.prog X.w X.K X.mg X.base CX0 j f fd ps sp) (hb : Binds X.K fd ps []) (sb : Sub X j A) (I : Inv X pins σ H s) (r2 : Vals vs us) (h : sp vs H Q E0) :
    wpAny (model X.prog X.w) A (call (.ref f) us) (EP X pins σ Q) X.xe s := by
  have e0 : Env0 X.prog X.w X.K X.mg X.base A X.stack s H := by
    have e := I.env0
    exact ⟨by rw [sb.fr]; exact e.frames, e.mod, e.bs, e.bsz, e.funs, e.frf, e.hok, e.bare⟩
  have hl := F.len _ _ _ _ h
  have hl' : us.length = ps.length := by rw [← r2.length]; exact hl
  refine wpAny_call (codeAny_mono (F.run A X.stack s H ⟨us, []⟩ us vs _ E0 sb.room e0 (by
    have := hb s us I.kIn (by simpa using hl')
    simpa using this) r2 h) fun r s' hq => ?_)
  cases r with
  | error e => exact pass0 pins σ H s e s' I hq
  | ok fl =>
    cases fl with
    | ret w =>
      obtain ⟨z, H', I', rz, ez⟩ := I.after hq
      exact ⟨z, H', I', rz, ez⟩
    | next => exact False.elim hq
    | brk => exact False.elim hq
    | cont => exact False.elim hq
/-- str(x) by an own __str__ -/
theorem call_strO {C : Addr} {sp : SpD} {ps : List Str} {j k : Nat} (F : DnM X.prog X.w X.K X.mg X.base j C "__str__" ps sp) (hr : Room k X.A) (hj : j + 2 ≤ k) : CallR X (.type "str") (fun xs H Q => ∃ a dx fs, xs = [.ref a] ∧ H a = some (.ins C dx fs) ∧ lf sp [.ref a] H (fun v H' => (∃ y, v = .str y) ∧ Q v H') E0) := by
  intro pins s σ H xs us Q I r h
  obtain ⟨a, dx, fs, rfl, ha, h⟩ := h
  obtain ⟨f, fd, F, M, cf, hb, _⟩ := F
  rw [Vals.ref1 r]
  obtain ⟨od, J⟩ := ins_at I ha
  have sb : Sub X (j + 2) X.A := ⟨hr.mono hj, rfl⟩
  refine PySem.W.kso_call sb.in1.in1.room.units0 I.kIn J M.at_ M.fn (wpAny_mono (run_sub (us := [.ref a]) (vs := [.ref a]) F hb sb.in1.in1 I (.cons rfl .nil) h) (fun v s' q => ?_) fun _ _ x => x)
  obtain ⟨z, H', I', rz, ⟨y, rfl⟩, q⟩ := q
  obtain ⟨t, rfl⟩ := rz
  exact ⟨.str y, H', I', ⟨t, rfl⟩, q⟩
def strO (C : Addr) (sp : SpD) : List D → (D → Prop) → Prop
  | [.obj C' fs], Q => C' = C ∧ sp none [.obj C' fs] fun d => ∃ y, d = .str y ∧ Q (.str y)
  | ds, Q => strR ds Q
theorem dstrO {C : Addr} {sp : SpD} {ps : List Str} {j k : Nat} {p : Pos} {qr : QA} (F : DnM X.prog X.w X.K X.mg X.base j C "__str__" ps sp) (hr : Room k X.A) (hm : X.mg "str" = none) (ha : PDA c X [e] qr) (hj : j + 2 ≤ k := by decide) (hg : Gl X "str" := by rfl) (he : starEach [e] X.env = (false, eval e X.env) :: starEach [] X.env := by rfl) : PD c X (.Call (.Name "str" p) [e] [] pos) (qCB (strO C sp) qr) := by
  refine PD.callTy ((call_str_int.or SkE.call_str_str).or (call_strO F hr hj)) ?_ hg hm (by decide +kernel) ha (by decide) (by decide) he rfl
  intro β G H xs ds Q R hgh hbg r h k
  match ds, h with
  | [.obj C' fs], h =>
    obtain ⟨v, rfl, rv⟩ := r.one
    obtain ⟨rfl, h5⟩ := h
    cases rv with
    | obj e1 h1 h2 h3 =>
      refine .inr ⟨_, _, _, rfl, hgh _ _ e1, lf_none hgh hbg (.cons (.obj e1 h1 h2 h3) .nil) h5 fun v d G' H' g rv q => ?_⟩
      obtain ⟨y, rfl, q⟩ := q
      cases rv
      exact ⟨⟨y, rfl⟩, k _ _ G' H' g (.str y) q⟩
  | [.int i], h => exact .inl (cd_str β G H xs [.int i] Q R hgh hbg r h k)
  | [.str i], h => exact .inl (cd_str β G H xs [.str i] Q R hgh hbg r h k)
end
end DL

/-! ### keywords in another order than the parameters -/
namespace DL
open PySem L2
def pick {α : Type} (idx : List Nat) (ws : List α) : List α := idx.filterMap fun i => ws[i]?
def gp {α : Type} (idx : List Nat) (m : Nat) : List α → List α → List α
  | [], ws => if ws.length = m then pick idx ws else []
  | _ :: _, _ => []
theorem Vals.pick {vs : List V} {us : List Value} (r : Vals vs us) : ∀ idx : List Nat, Vals (DL.pick idx vs) (DL.pick idx us)
  | [] => .nil
  | i :: idx => by
    have ih := Vals.pick r idx
    unfold DL.pick at ih ⊢
    rw [List.filterMap_cons, List.filterMap_cons]
    cases e : vs[i]? with
    | none =>
      have : us[i]? = none := by
        rw [List.getElem?_eq_none_iff] at e ⊢
        rw [← r.length]; exact e
      rw [this]
      exact ih
    | some v =>
      obtain ⟨u, hu, ru⟩ := r.get e
      rw [hu]
      exact .cons ru ih
theorem RepL.pick {G : Hp} {vs : List V} {ds : List D} (r : RepL G vs ds) : ∀ idx : List Nat, RepL G (DL.pick idx vs) (DL.pick idx ds)
  | [] => .nil
  | i :: idx => by
    have ih := RepL.pick r idx
    unfold DL.pick at ih ⊢
    rw [List.filterMap_cons, List.filterMap_cons]
    cases e : vs[i]? with
    | none =>
      have : ds[i]? = none := by
        rw [List.getElem?_eq_none_iff] at e ⊢
        rw [← r.1]; exact e
      rw [this]
      exact ih
    | some v =>
      have hi : i < ds.length := by rw [← r.1]; exact (List.getElem?_eq_some_iff.mp e).1
      rw [List.getElem?_eq_getElem hi]
      exact .cons (r.2 i _ _ e (List.getElem?_eq_getElem hi)) ih
/-- a def called by keyword alone, the keywords ks; idx: where each parameter's value stands among them -/
def KwF (K : PySem.W.Frag) (mg : Str → Option Value) (x : Str) (ps ks : List Str) (idx : List Nat) : Prop := ∃ f fd, mg x = some (.ref f) ∧ FdAt K f fd ∧ KBinds K fd ps ks (gp idx ks.length) (gp idx ks.length)
theorem Hd.kwf {K : PySem.W.Frag} {h : Heap} {mg : Str → Option Value} {x : Str} {st : Stmt} {ps ks : List Str} {idx : List Nat} (X : K.In h) (G : h.Ns mainGlobals mg) (H : Hd K x st) (hp : ps ≠ [])
    (hk : ∀ (kV doc pm : Value) (an : Option Addr) (cdv ct : Value) (ws : List Value), ws.length = ks.length → bindArgs (PySem.W.fnOf x x (defArgs st) (defBody st) (defScope st) .none kV doc pm an cdv ct) ⟨[], ks.zip ws⟩ = pure (ps.zip (pick idx ws))) : KwF K mg x ps ks idx := by
  obtain ⟨f, oc, od, kV, dc, pm, an, cd, ct, sl, a, l, c, k⟩ := H
  refine ⟨f, _, PySem.W.mg_of X G a, ⟨_, _, _, l⟩, fun s us ws _ hl => ?_, fun {vs us zs ws} r rz => ?_⟩
  · cases us with
    | nil =>
      by_cases hw : ws.length = ks.length
      · rw [show gp idx ks.length [] ws = pick idx ws from if_pos hw]
        exact .of_eq (hk kV dc pm an cd ct ws hw)
      · rw [show gp idx ks.length [] ws = [] from if_neg hw] at hl
        exact absurd (List.length_eq_zero_iff.mp hl.symm) hp
    | cons u us => exact absurd (List.length_eq_zero_iff.mp hl.symm) hp
  · cases r with
    | nil =>
      show Vals (if zs.length = ks.length then pick idx zs else []) (if ws.length = ks.length then pick idx ws else [])
      rw [rz.length]
      split
      · exact Vals.pick rz idx
      · exact .nil
    | cons a b => exact .nil
def qCallP (sp : SpD) (β : Option Addr) (idx : List Nat) (m : Nat) (q : QA) : QE := fun ρ Q => q ρ fun ds => ds.length = m ∧ sp β (pick idx ds) Q
theorem dckP {c : Ctx} {X : Cx} {kws : List Keyword} {qr : QA} {p pos : Pos} {x : Str} {sp : SpD} {j k : Nat} {ps ks : List Str} {idx : List Nat} (F : Dn X.prog X.w X.K X.mg X.base j x ps sp) (W : KwF X.K X.mg x ps ks idx) (hr : Room k X.A) (ha : PDK c X kws qr) (hj : j ≤ k := by decide) (hg : Gl X x := by rfl)
    (hall : (backToKw pos (keywordEach kws X.env)).all (·.1.isSome) = true := by rfl) (hks : (backToKw pos (keywordEach kws X.env)).filterMap (·.1) = ks := by rfl)
    (hdb : (x == ("__debug__" : Str)) = false := by decide) (hpl : ((backTo pos (starEach [] X.env)).any (·.1) || (backToKw pos (keywordEach kws X.env)).any (·.1.isNone)) = false := by rfl) :
    PD c X (.Call (.Name x p) [] kws pos) (qCallP sp c.β idx ks.length qr) := by
  obtain ⟨f, fd, F, m, kp, _, _, oc, od, sl, l⟩ := F
  obtain ⟨f', fd', m', ⟨oc', od', sl', l'⟩, b⟩ := W
  obtain rfl : f = f' := by rw [m] at m'; injection m' with e; injection e
  obtain rfl : fd = fd' := by rw [l] at l'; injection l' with e; injection e with _ _ e _; injection e
  obtain ⟨t, pk, sk⟩ := ha.ex
  refine ⟨_, pe_callK0 F (hr.mono hj) hg m kp b pass0 pk hall hks hdb hpl, fun ρ σ G H Q R s h k => ?_⟩
  refine sk ρ σ G H _ _ s h fun vs ds G1 H1 g1 r1 ⟨hl, h1⟩ => ?_
  have s1 := s.grow g1
  have e : gp idx ks.length [] vs = pick idx vs := if_pos (by rw [r1.1]; exact hl)
  show lf sp (gp idx ks.length [] vs) H1 R E0
  rw [e]
  exact ⟨c.β, G1, pick idx ds, Q, RepL.pick r1 idx, s1.core.gh, s1.core.bg, h1, fun v d G' H' g r q => k v d G' H' (g1.trans g s.hb) r q⟩
theorem pick_10 {α : Type} (a b : α) : pick [1, 0] [a, b] = [b, a] := rfl
end DL

namespace DL
open PySem L2
/-! ### exceptions that leave a def -/
/-- the wish of a context: an exception of the class C with these attributes -/
def wishC (c : Ctx) : XK := fun cls d H => ∃ (C dx : Addr) (fvs : List (Str × V)) (fs : List (Str × D)) (G : Hp), cls = .ref C ∧ d = some dx ∧ Core c G H ∧ G dx = some (.xd fvs) ∧ RepF G fvs fs ∧ c.ξ (.exc C fs)
def TakesC (c : Ctx) (X : Cx) : Prop := Takes X fun cls d _ H => wishC c cls d H
theorem TakesC.pass {c : Ctx} {X : Cx} (t : TakesC c X) : Passes (L2.CX X.prog X.w) X (wishC c) := passes_call t fun _ _ _ _ h => h
/-- a promise with the ways out by an exception -/
abbrev SpX := Option Addr → List D → (D → Prop) → (D → Prop) → Prop
def lfX (sp : SpX) : Sp := fun vs H R E => ∃ (β : Option Addr) (G : Hp) (ds : List D) (Q ξ : D → Prop), RepL G vs ds ∧ Ex G H ∧ (∀ b, β = some b → Bag G H b) ∧ sp β ds Q ξ ∧ (∀ v d G' H', Grow β G H G' H' → Rep G' v d → Q d → R v H') ∧
  ∀ C dx fvs fs G' H', Grow β G H G' H' → G' dx = some (.xd fvs) → RepF G' fvs fs → ξ (.exc C fs) → E (.ref C) (some dx) H'
theorem Core.grows {β : Option Addr} {G H G' H' : Hp} {ξ : D → Prop} (k : Core ⟨β, G, H, ξ⟩ G' H') : Grow β G H G' H' := ⟨k.g0, k.h0, k.tn, k.tb, k.gh, k.nw, k.bg⟩
/-- what stands for the wish behind a call -/
theorem wish_of {c : Ctx} {G H G' H' : Hp} {C dx : Addr} {fvs : List (Str × V)} {fs : List (Str × D)} (k : Core c G H) (g : Grow c.β G H G' H') (h : G' dx = some (.xd fvs)) (r : RepF G' fvs fs) (x : c.ξ (.exc C fs)) : wishC c (.ref C) (some dx) H' := ⟨C, dx, fvs, fs, G', rfl, rfl, k.grow g, h, r, x⟩
section
variable {P : Program} {w : World} {K : PySem.W.Frag} {mg : Str → Option Value} {base : Heap}
theorem fn_dlX {x qual : Str} {st : Stmt} {f : Addr} {fd : FuncData} {N ps : List Str} {k : Nat} {sp : SpX} (F : Fun K x qual st f fd) (S : FnScope N ps (defScope st)) (hl : ∀ β ds Q ξ, sp β ds Q ξ → ds.length = ps.length)
    (body : ∀ (cdv : Value) (A : Around) (outer : List Env) (s : Shared) (H : Hp) (E : XK) (c : Ctx), Room k (A.deeper (PyProof.Rows.envOfC qual (defScope st) s.heap.objs.size f cdv)) → TakesC c (cxOf (L2.CX P w) P w K mg base N qual (defScope st) f cdv A outer s H E) →
      ∃ q, PDB c (cxOf (L2.CX P w) P w K mg base N qual (defScope st) f cdv A outer s H E) (defBody st) q ∧ ∀ ds Q, sp c.β ds Q c.ξ → q (startS N ds) { nx := fun _ => Q .non, rt := fun d _ => Q d }) : FnOk P w K mg base (L2.CX P w) (k + 1) f fd ps (lfX sp) := by
  refine F.okX S (fun vs H Q E h => ?_) (fun cdv A outer s H vs R E hr h => ?_)
  · obtain ⟨β, G, ds, Q, ξ, r, _, _, h, _⟩ := h
    rw [r.1]; exact hl β ds Q ξ h
  · obtain ⟨β, G, ds, Q, ξ, r, gh, bg, h, kk, kx⟩ := h
    have tk : TakesC ⟨β, G, H, ξ⟩ (cxOf (L2.CX P w) P w K mg base N qual (defScope st) f cdv A outer s H E) := by
      refine Takes.imp (takes_of rfl rfl rfl rfl) fun cls d _ H' z => ?_
      obtain ⟨C, dx, fvs, fs, G', rfl, rfl, co, e1, e2, e3⟩ := z
      exact kx C dx fvs fs G' H' co.grows e1 e2 e3
    obtain ⟨q, pb, hq⟩ := body cdv A outer s H E ⟨β, G, H, ξ⟩ hr tk
    obtain ⟨t, p, sd⟩ := pb.ex
    refine ⟨t, p, sd _ _ G H _ _ (sta_start r gh bg) (hq ds Q h) ⟨fun ρ' σ' G' H' x s' h' => ?_, fun v d ρ' σ' G' H' x s' rv h' => ?_, fun _ _ _ _ _ _ h => h.elim, fun _ _ _ _ _ _ h => h.elim, fun _ _ _ _ _ _ _ _ _ _ _ _ _ h => h.elim⟩⟩
    · exact kk .non .non G' H' s'.core.grows .non h'
    · exact kk v d G' H' s'.core.grows rv h'
/-- a def that keeps a promise and may raise -/
def DnX (P : Program) (w : World) (K : PySem.W.Frag) (mg : Str → Option Value) (base : Heap) (k : Nat) (x : Str) (ps : List Str) (sp : SpX) : Prop :=
  ∃ f fd, FnOk P w K mg base (L2.CX P w) k f fd ps (lfX sp) ∧ mg x = some (.ref f) ∧ PySem.W.keepIn K (.ref f) = true ∧ Binds K fd ps [] ∧ KB K fd ps ∧ FdAt K f fd
theorem DnX.mono {k j : Nat} {x : Str} {ps : List Str} {sp : SpX} (h : DnX P w K mg base k x ps sp) (e : k ≤ j) : DnX P w K mg base j x ps sp := by
  obtain ⟨f, fd, a, b⟩ := h
  exact ⟨f, fd, a.mono e, b⟩
theorem DnX.imp {k : Nat} {x : Str} {ps : List Str} {sp sp' : SpX} (h : DnX P w K mg base k x ps sp) (e : ∀ β ds Q ξ, sp' β ds Q ξ → sp β ds Q ξ) : DnX P w K mg base k x ps sp' := by
  obtain ⟨f, fd, a, b⟩ := h
  refine ⟨f, fd, a.imp fun vs H Q E hq => ?_, b⟩
  obtain ⟨β, G, ds, Q', ξ, r, gh, bg, h, kk⟩ := hq
  exact ⟨β, G, ds, Q', ξ, r, gh, bg, e _ _ _ _ h, kk⟩
theorem Df.okX {x : Str} {st : Stmt} {N ps : List Str} {k : Nat} {sp : SpX} (F : Df K mg x st ps) (S : FnScope N ps (defScope st)) (hl : ∀ β ds Q ξ, sp β ds Q ξ → ds.length = ps.length)
    (body : ∀ (f : Addr) (cdv : Value) (A : Around) (outer : List Env) (s : Shared) (H : Hp) (E : XK) (c : Ctx), Room k (A.deeper (PyProof.Rows.envOfC x (defScope st) s.heap.objs.size f cdv)) → TakesC c (cxOf (L2.CX P w) P w K mg base N x (defScope st) f cdv A outer s H E) →
      ∃ q, PDB c (cxOf (L2.CX P w) P w K mg base N x (defScope st) f cdv A outer s H E) (defBody st) q ∧ ∀ ds Q, sp c.β ds Q c.ξ → q (startS N ds) { nx := fun _ => Q .non, rt := fun d _ => Q d }) : DnX P w K mg base (k + 1) x ps sp := by
  obtain ⟨f, fd, F, m, b⟩ := F
  exact ⟨f, fd, fn_dlX F S hl (body f), m, F.kp, b⟩
end
section
variable {c : Ctx} {X : Cx} {e : Expr} {es : List Expr} {qr : QA} {p pos : Pos}
def qCallX (sp : SpX) (c : Ctx) (q : QA) : QE := fun ρ Q => q ρ fun ds => sp c.β ds Q c.ξ
theorem snd_callX {sp : SpX} {t : TA} (sa : SndA c t qr) : SndE c (tCall (lfX sp) [] (wishC c) t) (qCallX sp c qr) := by
  intro ρ σ G H Q R s h k
  refine sa ρ σ G H _ _ s h fun vs ds G1 H1 g1 r1 h1 => ?_
  have s1 := s.grow g1
  rw [List.append_nil]
  exact ⟨c.β, G1, ds, Q, c.ξ, r1, s1.core.gh, s1.core.bg, h1, fun v d G' H' g r q => k v d G' H' (g1.trans g s.hb) r q, fun C dx fvs fs G' H' g e1 e2 e3 => wish_of s1.core g e1 e2 e3⟩
theorem dcX {x : Str} {sp : SpX} {j k : Nat} {ps : List Str} (F : DnX X.prog X.w X.K X.mg X.base j x ps sp) (tk : TakesC c X) (hr : Room k X.A) (ha : PDA c X (e :: es) qr) (hj : j ≤ k := by decide)
    (hg : Gl X x := by rfl) (hdb : (x == ("__debug__" : Str)) = false := by decide) (he : starEach (e :: es) X.env = (false, eval e X.env) :: starEach es X.env := by rfl) (hpl : (backTo pos (starEach es X.env)).any (·.1) = false := by rfl) : PD c X (.Call (.Name x p) (e :: es) [] pos) (qCallX sp c qr) := by
  obtain ⟨f, fd, F, m, kp, b, _⟩ := F
  obtain ⟨t, pa, sa⟩ := ha.ex
  exact ⟨_, pe_call F (hr.mono hj) hg m kp b .nil tk.pass pa hdb he hpl, snd_callX sa⟩
end
/-! ### methods that may raise -/
section
variable {P : Program} {w : World} {K : PySem.W.Frag} {mg : Str → Option Value} {base : Heap}
def DnMX (P : Program) (w : World) (K : PySem.W.Frag) (mg : Str → Option Value) (base : Heap) (k : Nat) (C : Addr) (m : Str) (ps : List Str) (sp : SpX) : Prop :=
  ∃ f fd, FnOk P w K mg base (L2.CX P w) k f fd ps (lfX sp) ∧ Meth K C m f ∧ ClF K C ∧ Binds K fd ps [] ∧ KBinds K fd ps (ps.drop 1) kwM kwM
theorem DnMX.mono {k j : Nat} {C : Addr} {m : Str} {ps : List Str} {sp : SpX} (h : DnMX P w K mg base k C m ps sp) (e : k ≤ j) : DnMX P w K mg base j C m ps sp := by
  obtain ⟨f, fd, a, b⟩ := h
  exact ⟨f, fd, a.mono e, b⟩
theorem DfM.okX {C : Addr} {m qual : Str} {st : Stmt} {N ps : List Str} {k : Nat} {sp : SpX} (F : DfM K C m qual st ps) (cf : ClF K C) (S : FnScope N ps (defScope st)) (hl : ∀ β ds Q ξ, sp β ds Q ξ → ds.length = ps.length)
    (body : ∀ (f : Addr) (cdv : Value) (A : Around) (outer : List Env) (s : Shared) (H : Hp) (E : XK) (c : Ctx), Room k (A.deeper (PyProof.Rows.envOfC qual (defScope st) s.heap.objs.size f cdv)) → TakesC c (cxOf (L2.CX P w) P w K mg base N qual (defScope st) f cdv A outer s H E) →
      ∃ q, PDB c (cxOf (L2.CX P w) P w K mg base N qual (defScope st) f cdv A outer s H E) (defBody st) q ∧ ∀ ds Q, sp c.β ds Q c.ξ → q (startS N ds) { nx := fun _ => Q .non, rt := fun d _ => Q d }) : DnMX P w K mg base (k + 1) C m ps sp := by
  obtain ⟨f, fd, F, me, b⟩ := F
  exact ⟨f, fd, fn_dlX F S hl (body f), me, cf, b⟩
end
section
variable {c : Ctx} {X : Cx} {o e : Expr} {es : List Expr} {qr : QA} {q : QE} {p pos apos : Pos} {m : Str} {C : Addr} {kws : List Keyword}
def qMethX (C : Addr) (m : Str) (sp : SpX) (c : Ctx) (q : QE) (qr : QA) : QE := fun ρ Q => q ρ fun d => objM C m d ∧ qr ρ fun ds => sp c.β (d :: ds) Q c.ξ
theorem snd_methX {sp : SpX} {ta : TE} {t : TA} (so : SndE c ta q) (sa : SndA c t qr) : SndE c (tMeth C m (lfX sp) [] (wishC c) ta t) (qMethX C m sp c q qr) := by
  intro ρ σ G H Q R s h k
  refine so ρ σ G H _ _ s h fun v d G1 H1 g1 r1 h1 => ?_
  have s1 := s.grow g1
  obtain ⟨ho, h1⟩ := h1
  cases r1 with
  | obj e hd n q' =>
    obtain ⟨rfl, hl⟩ := ho
    refine ⟨_, _, _, rfl, g1.gh _ _ e, RepF.none ⟨n, q'⟩ hl, sa ρ σ G1 H1 _ _ s1 h1 fun vs ds G2 H2 g2 r2 h2 => ?_⟩
    have s2 := s1.grow g2
    rw [List.append_nil]
    exact ⟨c.β, G2, _, Q, c.ξ, .cons ((Rep.obj e hd n q').mono g2.gg) r2, s2.core.gh, s2.core.bg, h2, fun v d G' H' g r q => k v d G' H' ((g1.trans g2 s.hb).trans g s.hb) r q, fun C dx fvs fs G' H' g e1 e2 e3 => wish_of s2.core g e1 e2 e3⟩
  | _ => exact ho.elim
theorem dmethX {sp : SpX} {j k : Nat} {ps : List Str} {pl : Sem Bool} (F : DnMX X.prog X.w X.K X.mg X.base j C m ps sp) (tk : TakesC c X) (hr : Room k X.A) (ho : PD c X o q) (ha : PDA c X (e :: es) qr) (hj : j ≤ k := by decide)
    (hst : starEach (e :: es) X.env = (false, eval e X.env) :: starEach es X.env := by rfl) (hpl : (backTo pos (starEach es X.env)).any (·.1) = false := by rfl)
    (ht : eval (.Call (.Attribute o m apos) (e :: es) [] pos) X.env = (do
      let ov ← eval o X.env
      standAt apos.atName
      let (f, first) ← holding [ov] (getMethod ov m pl)
      callWith pos f first (backTo pos (starEach (e :: es) X.env)) (backToKw pos (keywordEach [] X.env))) := by rfl) :
    PD c X (.Call (.Attribute o m apos) (e :: es) [] pos) (qMethX C m sp c q qr) := by
  obtain ⟨f, fd, F, M, cf, b, _⟩ := F
  obtain ⟨ta, po, so⟩ := ho.ex
  obtain ⟨t, pa, sa⟩ := ha.ex
  exact ⟨_, pe_meth po cf.cl M F (hr.mono hj) b .nil tk.pass pa hst hpl ht, snd_methX so sa⟩
theorem dmethX0 {sp : SpX} {j k : Nat} {ps : List Str} {pl : Sem Bool} (F : DnMX X.prog X.w X.K X.mg X.base j C m ps sp) (tk : TakesC c X) (hr : Room k X.A) (ho : PD c X o q) (hj : j ≤ k := by decide)
    (ht : eval (.Call (.Attribute o m apos) [] [] pos) X.env = (do
      let ov ← eval o X.env
      standAt apos.atName
      let (f, first) ← holding [ov] (getMethod ov m pl)
      callWith pos f first (backTo pos (starEach [] X.env)) (backToKw pos (keywordEach [] X.env))) := by rfl) :
    PD c X (.Call (.Attribute o m apos) [] [] pos) (qMethX C m sp c q qNil) := by
  obtain ⟨f, fd, F, M, cf, b, _⟩ := F
  obtain ⟨ta, po, so⟩ := ho.ex
  exact ⟨_, pe_meth0 po cf.cl M F (hr.mono hj) b .nil tk.pass ht, snd_methX so (fun ρ σ G H Q R s h k => k [] [] G H s.refl .nil h)⟩
theorem dmethXK {sp : SpX} {j k : Nat} {ps : List Str} {pl : Sem Bool} (F : DnMX X.prog X.w X.K X.mg X.base j C m ps sp) (tk : TakesC c X) (hr : Room k X.A) (ho : PD c X o q) (ha : PDK c X kws qr) (hj : j ≤ k := by decide)
    (hall : (backToKw pos (keywordEach kws X.env)).all (·.1.isSome) = true := by rfl) (hks : (backToKw pos (keywordEach kws X.env)).filterMap (·.1) = ps.drop 1 := by rfl)
    (hpl : ((backTo pos (starEach [] X.env)).any (·.1) || (backToKw pos (keywordEach kws X.env)).any (·.1.isNone)) = false := by rfl)
    (ht : eval (.Call (.Attribute o m apos) [] kws pos) X.env = (do
      let ov ← eval o X.env
      standAt apos.atName
      let (f, first) ← holding [ov] (getMethod ov m pl)
      callWith pos f first (backTo pos (starEach [] X.env)) (backToKw pos (keywordEach kws X.env))) := by rfl) :
    PD c X (.Call (.Attribute o m apos) [] kws pos) (qMethX C m sp c q qr) := by
  obtain ⟨f, fd, F, M, cf, _, b⟩ := F
  obtain ⟨ta, po, so⟩ := ho.ex
  obtain ⟨t, pa, sa⟩ := ha.ex
  exact ⟨_, pe_methK po cf.cl M F (hr.mono hj) b tk.pass pa hall hks hpl ht, snd_methX so sa⟩
end
/-! ### where nothing is raised -/
section
variable {P : Program} {w : World} {K : PySem.W.Frag} {mg : Str → Option Value} {base : Heap}
theorem FnOk.noX {k : Nat} {f : Addr} {fd : FuncData} {ps : List Str} {sp sp' : Sp} (F : FnOk P w K mg base (L2.CX P w) k f fd ps sp) (h : ∀ vs H Q E, sp' vs H Q E → sp vs H Q (fun _ _ _ => False)) : FnOk P w K mg base CX0 k f fd ps sp' := by
  refine ⟨fun vs H Q E z => F.len _ _ _ _ (h _ _ _ _ z), fun A outer s H args us vs Q E hr e0 hb hv hs => ?_⟩
  refine codeAny_mono (F.run A outer s H args us vs Q (fun _ _ _ => False) hr e0 hb hv (h _ _ _ _ hs)) fun r s' z => ?_
  cases r with
  | error e =>
    obtain ⟨_, _, _, _, _, _, _, _, _, _, _, _, z⟩ := z
    exact z.elim
  | ok fl => cases fl <;> exact z
def spD (sp : SpX) : SpD := fun β ds Q => sp β ds Q fun _ => False
theorem lfX_no {sp : SpX} {vs : List V} {H : Hp} {R : VK} {E : XK} (h : lf (spD sp) vs H R E) : lfX sp vs H R (fun _ _ _ => False) := by
  obtain ⟨β, G, ds, Q, r, gh, bg, h, kk⟩ := h
  exact ⟨β, G, ds, Q, _, r, gh, bg, h, kk, fun _ _ _ _ _ _ _ _ _ z => z⟩
theorem DnX.dn {k : Nat} {x : Str} {ps : List Str} {sp : SpX} (h : DnX P w K mg base k x ps sp) : Dn P w K mg base k x ps (spD sp) := by
  obtain ⟨f, fd, a, b⟩ := h
  exact ⟨f, fd, FnOk.noX a fun _ _ _ _ => lfX_no, b⟩
theorem DnMX.dn {k : Nat} {C : Addr} {m : Str} {ps : List Str} {sp : SpX} (h : DnMX P w K mg base k C m ps sp) : DnM P w K mg base k C m ps (spD sp) := by
  obtain ⟨f, fd, a, b⟩ := h
  exact ⟨f, fd, FnOk.noX a fun _ _ _ _ => lfX_no, b⟩
/-! ### constructors that may raise -/
abbrev SpIX := Option Addr → List D → (List (Str × D) → Prop) → (D → Prop) → Prop
def lfIX (C : Addr) (sp : SpIX) : Sp := fun vs H R E => ∃ (β : Option Addr) (G : Hp) (ds : List D) (Q : List (Str × D) → Prop) (ξ : D → Prop) (x dx : Addr) (vs' : List V), vs = .ref x :: vs' ∧ RepL G vs' ds ∧ Ex G (hide2 H x dx) ∧ (∀ b, β = some b → Bag G H b) ∧ H x = some (.ins C dx []) ∧ H dx = some (.own x) ∧ sp β ds Q ξ ∧
  (∀ fs fvs G' H', Grow β G (hide2 H x dx) G' H' → G' x = none → G' dx = none → H' x = some (.ins C dx fvs) → H' dx = some (.own x) → RepF G' fvs fs → Q fs → R .non H') ∧
  ∀ C dy fvs fs G' H', Grow β G (hide2 H x dx) G' H' → G' dy = some (.xd fvs) → RepF G' fvs fs → ξ (.exc C fs) → E (.ref C) (some dy) H'
/-- the start of a constructor's body -/
theorem sta_init {β : Option Addr} {G H : Hp} {N : List Str} {x dx C : Addr} {vs' : List V} {ds : List D} {ξ : D → Prop} (r : RepL G vs' ds) (gh : Ex G (hide2 H x dx)) (bg : ∀ b, β = some b → Bag G H b) (hx : H x = some (.ins C dx [])) (hdx : H dx = some (.own x)) :
    Sta ⟨β, G, hide2 H x dx, ξ⟩ G H (L2.start N (.ref x :: vs')) (.own x (.ins C dx []) :: (ds.map Slot.d ++ List.replicate (N.length - (ds.length + 1)) .un)) := by
  have gx : G x = none := gh.free hide2_x
  have gdx : G dx = none := gh.free hide2_y
  have nb : ∀ b, β = some b → b ≠ x ∧ b ≠ dx := fun b e => by
    obtain ⟨c', cells, x1, x2, x3, x4, hb, _⟩ := (bg b e).is
    exact ⟨fun z => (by rw [z, hx] at hb; cases hb), fun z => (by rw [z, hdx] at hb; cases hb)⟩
  refine ⟨⟨Same.refl G, fun a o h _ _ => (hide2_some h).1, fun a o h _ => by rw [(hide2_some h).1]; simp, fun _ t => t.ext fun b o e => (hide2_some e).1, fun a o h _ n => absurd (h.symm.trans n) (by simp), fun a o e => (hide2_some (gh a o e)).1, bg, fun b e => ?_⟩, ?_, fun i sl e => ?_, fun i j a o1 o2 h1 h2 => ?_⟩
  · show hide2 H x dx b ≠ none
    rw [hide2_ne (nb b e).1 (nb b e).2]
    exact bag_there bg b e
  · simp [L2.start, r.1]
  · cases i with
    | zero =>
      cases e
      exact ⟨rfl, gx, hide2_x, gdx, hide2_y, hdx, [], hx, RepF.nil⟩
    | succ i =>
      rw [List.getElem?_cons_succ] at e
      have e2 : (L2.start N (.ref x :: vs'))[i + 1]? = (vs'.map some ++ List.replicate (N.length - (vs'.length + 1)) none)[i]? := by
        unfold L2.start
        rw [List.map_cons, List.cons_append, List.getElem?_cons_succ, List.length_cons]
      rw [e2]
      by_cases hi : i < ds.length
      · rw [List.getElem?_append_left (by simpa using hi), List.getElem?_map] at e
        rw [List.getElem?_append_left (by simpa [r.1] using hi), List.getElem?_map]
        cases q : ds[i]? with
        | none => rw [q] at e; cases e
        | some d =>
          rw [q] at e
          cases e
          obtain ⟨v, hv, rv⟩ := r.get q
          exact ⟨v, by rw [hv]; rfl, rv⟩
      · rw [List.getElem?_append_right (by simpa using hi), List.getElem?_replicate] at e
        split at e
        · cases e; trivial
        · cases e
  · have key : ∀ (i : Nat) (a : Addr) (o : Ob), (Slot.own x (.ins C dx []) :: (ds.map Slot.d ++ List.replicate (N.length - (ds.length + 1)) Slot.un))[i]? = some (.own a o) → i = 0 := by
      intro i a o e
      cases i with
      | zero => rfl
      | succ i =>
        rw [List.getElem?_cons_succ] at e
        by_cases hi : i < ds.length
        · rw [List.getElem?_append_left (by simpa using hi), List.getElem?_map] at e
          cases q : ds[i]? with
          | none => rw [q] at e; cases e
          | some d => rw [q] at e; cases e
        · rw [List.getElem?_append_right (by simpa using hi), List.getElem?_replicate] at e
          split at e
          · cases e
          · cases e
    rw [key i a o1 h1, key j a o2 h2]
end
end DL

namespace DL
open PySem L2
section
variable {P : Program} {w : World} {K : PySem.W.Frag} {mg : Str → Option Value} {base : Heap}
/-- what a constructor's body is asked -/
def InitB (P : Program) (w : World) (K : PySem.W.Frag) (mg : Str → Option Value) (base : Heap) (N : List Str) (qual : Str) (scope : Scope) (body : List Stmt) (f C : Addr) (k : Nat) (sp : SpIX) : Prop :=
  ∀ (cdv : Value) (A : Around) (outer : List Env) (s : Shared) (H : Hp) (E : XK) (c : Ctx), Room k (A.deeper (PyProof.Rows.envOfC qual scope s.heap.objs.size f cdv)) → TakesC c (cxOf (L2.CX P w) P w K mg base N qual scope f cdv A outer s H E) →
    ∃ q, PDB c (cxOf (L2.CX P w) P w K mg base N qual scope f cdv A outer s H E) body q ∧ ∀ x dx ds Q, sp c.β ds Q c.ξ → q (.own x (.ins C dx []) :: (ds.map Slot.d ++ List.replicate (N.length - (ds.length + 1)) .un)) { nx := fun ρ => ∃ fs, ρ[0]? = some (.own x (.ins C dx fs)) ∧ Q fs, rt := fun d ρ => d = .non ∧ ∃ fs, ρ[0]? = some (.own x (.ins C dx fs)) ∧ Q fs }
theorem fn_initX {x qual : Str} {params : Arguments} {body : List Stmt} {scope : Scope} {dvs : List V} {kws : List (Str × V)} {f C : Addr} {fd : FuncData} {N ps : List Str} {k : Nat} {sp : SpIX} (F : FunD K x qual params body scope dvs kws f fd) (S : FnScope N ps scope) (hl : ∀ β ds Q ξ, sp β ds Q ξ → ds.length + 1 = ps.length)
    (bd : InitB P w K mg base N qual scope body f C k sp) : FnOk P w K mg base (L2.CX P w) (k + 1) f fd ps (lfIX C sp) := by
  refine F.ok S (fun vs H Q E h => ?_) (fun cdv A outer s H vs R E hr h => ?_)
  · obtain ⟨β, G, ds, Q, ξ, x, dx, vs', rfl, r, _, _, _, _, h, _⟩ := h
    rw [List.length_cons, r.1]; exact hl β ds Q ξ h
  · obtain ⟨β, G, ds, Q, ξ, x, dx, vs', rfl, r, gh, bg, hx, hdx, h, kk, kx⟩ := h
    have tk : TakesC ⟨β, G, hide2 H x dx, ξ⟩ (cxOf (L2.CX P w) P w K mg base N qual scope f cdv A outer s H E) := by
      refine Takes.imp (takes_of rfl rfl rfl rfl) fun cls d _ H' z => ?_
      obtain ⟨C, dy, fvs, fs, G', rfl, rfl, co, e1, e2, e3⟩ := z
      exact kx C dy fvs fs G' H' co.grows e1 e2 e3
    obtain ⟨q, pb, hq⟩ := bd cdv A outer s H E ⟨β, G, hide2 H x dx, ξ⟩ hr tk
    obtain ⟨t, p, sd⟩ := pb.ex
    have fin : ∀ (G' H' : Hp) (σ' : L2.St) (ρ' : List Slot), Sta ⟨β, G, hide2 H x dx, ξ⟩ G' H' σ' ρ' → (∃ fs, ρ'[0]? = some (.own x (.ins C dx fs)) ∧ Q fs) → R .non H' := fun G' H' σ' ρ' s' ⟨fs, ea, hQ⟩ => by
      obtain ⟨e1, e2, e3, gd, hd0, hdx', fvs, hf, rf⟩ := s'.sl 0 _ ea
      exact kk fs fvs G' H' s'.core.grows e2 gd hf hdx' rf hQ
    refine ⟨t, p, sd _ _ G H _ _ (sta_init r gh bg hx hdx) (hq x dx ds Q h) ⟨fun ρ' σ' G' H' _ s' h' => fin G' H' σ' ρ' s' h', fun v d ρ' σ' G' H' _ s' rv h' => ?_, fun _ _ _ _ _ _ h => h.elim, fun _ _ _ _ _ _ h => h.elim, fun _ _ _ _ _ _ _ _ _ _ _ _ _ h => h.elim⟩⟩
    obtain ⟨rfl, h'⟩ := h'
    cases rv
    exact fin G' H' σ' ρ' s' h'
/-- a constructor that keeps a promise and may raise -/
def DnIX (P : Program) (w : World) (K : PySem.W.Frag) (mg : Str → Option Value) (base : Heap) (k : Nat) (x : Str) (C : Addr) (ps : List Str) (dvs : List V) (sp : SpIX) : Prop :=
  ∃ f fd, FnOk P w K mg base (L2.CX P w) k f fd ps (lfIX C sp) ∧ Mk K C f ∧ ClF K C ∧ mg x = some (.ref C) ∧ FdAt K f fd ∧ ∀ j, j ≤ dvs.length → ∃ us, Vals (dvs.drop j) us ∧ Binds K fd ps us
def spI (sp : SpIX) : SpI := fun β ds Q => sp β ds Q fun _ => False
theorem DnIX.dn {k : Nat} {x : Str} {C : Addr} {ps : List Str} {dvs : List V} {sp : SpIX} (h : DnIX P w K mg base k x C ps dvs sp) : DnI P w K mg base k x C ps dvs (spI sp) := by
  obtain ⟨f, fd, a, m, cf, mc, _, b⟩ := h
  refine ⟨f, fd, FnOk.noX a fun vs H R E z => ?_, m, cf, mc, b⟩
  obtain ⟨β, G, ds, Q, x, dx, vs', e, r, gh, bg, hx, hdx, h, kk⟩ := z
  exact ⟨β, G, ds, Q, _, x, dx, vs', e, r, gh, bg, hx, hdx, h, kk, fun _ _ _ _ _ _ _ _ _ z => z⟩
/-- the defaults are bound -/
theorem HdI.bindsD {C f : Addr} {qual : Str} {st : Stmt} {ns : List Int} {ps : List Str} {fd : FuncData} (FD : FunD K "__init__" qual (defArgs st) (defBody st) (defScope st) (ns.map V.int) [] f fd) (hpn : ns.length ≤ ps.length)
    (hb0 : ns = [] → ∀ (kV doc pm : Value) (an : Option Addr) (cdv ct : Value) (us : List Value), us.length = ps.length → bindArgs (PySem.W.fnOf "__init__" qual (defArgs st) (defBody st) (defScope st) .none kV doc pm an cdv ct) ⟨us, []⟩ = pure (ps.zip us))
    (hb1 : ns ≠ [] → ∀ j, j ≤ ns.length → ∀ (T : Addr) (kV doc pm : Value) (an : Option Addr) (cdv ct : Value) (us its : List Value), us.length + (ns.length - j) = ps.length → its.length = ns.length → ∃ k, bindArgs (PySem.W.fnOf "__init__" qual (defArgs st) (defBody st) (defScope st) (.ref T) kV doc pm an cdv ct) ⟨us, []⟩ = seqItems? (.ref T) >>= k ∧ k (some its.toArray) = pure (ps.zip (us ++ its.drop j))) :
    ∀ j, j ≤ (ns.map V.int).length → ∃ us, Vals ((ns.map V.int).drop j) us ∧ Binds K fd ps us := fun j hj => by
  cases ns with
  | nil =>
    have hj0 : j = 0 := by simpa using hj
    subst hj0
    have FD' : FunD K "__init__" qual (defArgs st) (defBody st) (defScope st) [] [] f fd := FD
    exact ⟨[], .nil, FD'.bindsN (hb0 rfl)⟩
  | cons n ns =>
    have hps : (ps.length - ((n :: ns).length - j)) + ((n :: ns).length - j) = ps.length := by omega
    rw [List.length_map] at hj
    obtain ⟨ds, v, b⟩ := FD.binds1 (ps := ps) (ps.length - ((n :: ns).length - j)) j (by simp) (by rw [List.length_map]; exact hps) fun T kV doc pm an cdv ct us its h1 h2 => hb1 (by simp) j hj T kV doc pm an cdv ct us its (by rw [h1]; exact hps) (by rw [h2, List.length_map])
    exact ⟨ds, v, b⟩
theorem HdI.okX {x : Str} {C : Addr} {qual : Str} {st : Stmt} {ns : List Int} {N ps : List Str} {k : Nat} {sp : SpIX} (F : HdI K C qual st ns) (cf : ClF K C) (mc : mg x = some (.ref C)) (S : FnScope N ps (defScope st)) (hpn : ns.length ≤ ps.length) (hl : ∀ β ds Q ξ, sp β ds Q ξ → ds.length + 1 = ps.length)
    (hb0 : ns = [] → ∀ (kV doc pm : Value) (an : Option Addr) (cdv ct : Value) (us : List Value), us.length = ps.length → bindArgs (PySem.W.fnOf "__init__" qual (defArgs st) (defBody st) (defScope st) .none kV doc pm an cdv ct) ⟨us, []⟩ = pure (ps.zip us))
    (hb1 : ns ≠ [] → ∀ j, j ≤ ns.length → ∀ (T : Addr) (kV doc pm : Value) (an : Option Addr) (cdv ct : Value) (us its : List Value), us.length + (ns.length - j) = ps.length → its.length = ns.length → ∃ k, bindArgs (PySem.W.fnOf "__init__" qual (defArgs st) (defBody st) (defScope st) (.ref T) kV doc pm an cdv ct) ⟨us, []⟩ = seqItems? (.ref T) >>= k ∧ k (some its.toArray) = pure (ps.zip (us ++ its.drop j)))
    (body : ∀ f, InitB P w K mg base N qual (defScope st) (defBody st) f C k sp) : DnIX P w K mg base (k + 1) x C ps (ns.map V.int) sp := by
  obtain ⟨f, oc, od, dV, kV, dc, pm, an, cd, ct, sl, a, i, kp, l, c, df, mk⟩ := F
  have FD : FunD K "__init__" qual (defArgs st) (defBody st) (defScope st) (ns.map V.int) [] f (PySem.W.fnOf "__init__" qual (defArgs st) (defBody st) (defScope st) dV kV dc pm an cd ct) := ⟨⟨oc, od, dV, kV, dc, pm, an, cd, ct, sl, rfl, l, c, df, .inl rfl⟩, kp⟩
  exact ⟨f, _, fn_initX FD S hl (body f), ⟨mk, a, i, cf.kp⟩, cf, mc, ⟨_, _, _, l⟩, HdI.bindsD (C := C) FD hpn hb0 hb1⟩
end
section
variable {c : Ctx} {X : Cx} {e : Expr} {es : List Expr} {qr : QA} {p pos : Pos} {x : Str} {C : Addr}
def qMakeX (C : Addr) (sp : SpIX) (dd : List D) (c : Ctx) (q : QA) : QE := fun ρ Q => q ρ fun ds => sp c.β (ds ++ dd) (fun fs => Q (.obj C fs)) c.ξ
theorem snd_makeX {sp : SpIX} {dd : List D} {dv : List V} {t : TA} {q : QA} (rd : ∀ G, RepL G dv dd) (sa : SndA c t q) : SndE c (tMake C (lfIX C sp) dv (wishC c) t) (qMakeX C sp dd c q) := by
  intro ρ σ G H Q R s h k
  refine sa ρ σ G H _ _ s h fun vs ds G1 H1 g1 r1 h1 x dx hx hdx ne => ?_
  have s1 := s.grow g1
  have eqH : ∀ a, a ≠ x → a ≠ dx → upd (upd H1 dx (.own x)) x (.ins C dx []) a = H1 a := fun a h1 h2 => by rw [upd_ne h1, upd_ne h2]
  have hid : hide2 (upd (upd H1 dx (.own x)) x (.ins C dx [])) x dx = H1 := by
    funext a
    by_cases q1 : a = x
    · rw [q1, hide2_x, hx]
    · by_cases q2 : a = dx
      · rw [q2, hide2_y, hdx]
      · rw [hide2_ne q1 q2, eqH a q1 q2]
  have nb : ∀ b, c.β = some b → b ≠ x ∧ b ≠ dx := fun b e => ⟨fun z => s1.hb b e (by rw [z]; exact hx), fun z => s1.hb b e (by rw [z]; exact hdx)⟩
  refine ⟨c.β, G1, ds ++ dd, _, c.ξ, x, dx, vs ++ dv, rfl, r1.app (rd G1), by rw [hid]; exact s1.core.gh, fun b e => (s1.core.bg b e).mono (Same.refl G1) (eqH b (nb b e).1 (nb b e).2) (s1.core.bg b e).out, upd_same, by rw [upd_ne ne, upd_same], h1, fun fs fvs G' H' g gx gdx hx' hdx' rf hq => ?_, fun C dy fvs fs G' H' g e1 e2 e3 => ?_⟩
  · rw [hid] at g
    obtain ⟨G2, g2, r2⟩ := frzI g hx hdx gx gdx hx' hdx' rf s1.hb
    exact ⟨rfl, k _ _ G2 H' (g1.trans g2 s.hb) r2 hq⟩
  · rw [hid] at g
    exact wish_of s1.core g e1 e2 e3
theorem dmkX {sp : SpIX} {j k : Nat} {ps : List Str} {dvs : List V} (F : DnIX X.prog X.w X.K X.mg X.base j x C ps dvs sp) (n : Nat) (dd : List D) (rd : ∀ G, RepL G (dvs.drop n) dd) (tk : TakesC c X) (hr : Room k X.A) (ha : PDA c X (e :: es) qr) (hn : n ≤ dvs.length := by decide) (hj : j + 1 ≤ k := by decide)
    (hg : Gl X x := by rfl) (hdb : (x == ("__debug__" : Str)) = false := by decide) (he : starEach (e :: es) X.env = (false, eval e X.env) :: starEach es X.env := by rfl) (hpl : (backTo pos (starEach es X.env)).any (·.1) = false := by rfl) : PD c X (.Call (.Name x p) (e :: es) [] pos) (qMakeX C sp dd c qr) := by
  obtain ⟨f, fd, F, M, _, m, _, b⟩ := F
  obtain ⟨us, vu, bd⟩ := b n hn
  obtain ⟨t, pa, sa⟩ := ha.ex
  exact ⟨_, pe_make M F (hr.mono hj) hg m bd vu tk.pass pa hdb he hpl, snd_makeX rd sa⟩
end
end DL

namespace DL
open PySem L2
/-! ### a plain def of a class, called off the class: C.m(self, ..) -/
structure CFn (K : PySem.W.Frag) (C : Addr) (m : Str) (g : Addr) : Prop where
  rd : PySem.W.readsIn K C (.type "type") = true
  ga : PySem.W.specialIn K (.ref C) "__getattribute__" = some (some (.builtin "type.__getattribute__"))
  at_ : PySem.W.findCls K (.ref C) (.type "type") m = some (.val (.ref g))
  kp : PySem.W.keepIn K (.ref g) = true
section
variable {X : Cx} {o e : Expr} {es : List Expr} {m x : Str} {C g : Addr} {pos apos npos : Pos} {CX : CXT} {k : Nat} {fd : FuncData} {ps : List Str} {sp : Sp} {E : XK} {t : TA}
theorem pe_cfn {pl : Sem Bool} (r : CFn X.K C m g) (F : FnOk X.prog X.w X.K X.mg X.base CX k g fd ps sp) (hr : Room k X.A) (hb : Binds X.K fd ps []) (hx : Passes CX X E) (hm : X.mg x = some (.ref C)) (ha : PA X (e :: es) t) (hg : Gl X x := by rfl) (hd : (x == ("__debug__" : Str)) = false := by decide)
    (hst : starEach (e :: es) X.env = (false, eval e X.env) :: starEach es X.env := by rfl) (hpl : (backTo pos (starEach es X.env)).any (·.1) = false := by rfl)
    (ht : eval (.Call (.Attribute (.Name x npos) m apos) (e :: es) [] pos) X.env = (do
      let ov ← eval (.Name x npos) X.env
      standAt apos.atName
      let (f, first) ← holding [ov] (getMethod ov m pl)
      callWith pos f first (backTo pos (starEach (e :: es) X.env)) (backToKw pos (keywordEach [] X.env))) := by rfl) :
    PE X (.Call (.Attribute (.Name x npos) m apos) (e :: es) [] pos) (tCall sp [] E t) := by
  refine ⟨fun pins s σ H Q I h => ?_⟩
  refine PySem.W.methodCall_KW (pl := pl) (thn ((pe_glob hg hm (show RelV (.ref C) (.ref C) from rfl) hd).run pins s σ H (fun v H' => v = .ref C ∧ H' = H) I ⟨rfl, rfl⟩) fun u s1 ⟨v, H1, I1, rv, e1, e2⟩ => ?_) ht
  subst e1 e2
  obtain rfl : u = Value.ref C := rv
  refine PySem.W.method_cls I1.kIn r.ga (PySem.W.cls_value I1.kIn r.rd r.at_ rfl ?_)
  have I2 : Inv X pins σ H1 { s1 with toks := s1.toks + 1 } := I1.tok _
  refine PySem.W.callWith_K (first := []) (h₀ := X.base) I.ok.mod.kin r.kp (thn (ha.run pos pins _ σ H1 _ I2 h) fun us s3 ⟨vs, H2, I3, r3, q3⟩ => ⟨I3.kIn, ?_⟩) hst hpl
  exact run_fnSD (E := fun _ => E) F hr hb .nil (fun pins H s e s' I z => hx pins σ H s e s' I z) I3 r3 q3
end
/-! ### the errors' constructors -/
/-- B.__init__(self, code), B over ValueError -/
def spWish (K : PySem.W.Frag) : Sp := fun vs H R _ => ∃ (a C : Addr) (v : V), vs = [.ref a, v] ∧ OexC K C ∧ PySem.W.findIn K (.ref C) "code" = some none ∧ H a = some (exo a C none) ∧ ∀ dx, H dx = none → dx ≠ a → R .non (upd (upd H dx (exd dx [("code", v)])) a (exo a C (some dx)))
/-- C.__init__(self, p), of one attribute p beside the code -/
def spErr1 (K : PySem.W.Frag) (C : Addr) (p : Str) (code : Str) : Sp := fun vs H R _ => ∃ (a : Addr) (v : V), vs = [.ref a, v] ∧ H a = some (exo a C none) ∧
  ∀ dx, H dx = none → dx ≠ a → R .non (upd (upd (upd H dx (exd dx [("code", .str code)])) a (exo a C (some dx))) dx (exd dx [(p, v), ("code", .str code)]))
/-- .. of none -/
def spErr0 (K : PySem.W.Frag) (C : Addr) (code : Str) : Sp := fun vs H R _ => ∃ (a : Addr), vs = [.ref a] ∧ H a = some (exo a C none) ∧
  ∀ dx, H dx = none → dx ≠ a → R .non (upd (upd H dx (exd dx [("code", .str code)])) a (exo a C (some dx)))
section
variable {P : Program} {w : World} {K : PySem.W.Frag} {mg : Str → Option Value} {base : Heap}
/-- what the text has of an error's class -/
structure ErrC (K : PySem.W.Frag) (C : Addr) : Prop where
  ox : OexC K C
  nc : PySem.W.findIn K (.ref C) "code" = some none
  xf : XfC K C
/-- an error's class that the text has: its constructor -/
def Er1 (P : Program) (w : World) (K : PySem.W.Frag) (mg : Str → Option Value) (base : Heap) (x : Str) (C : Addr) (p code : Str) : Prop :=
  ErrC K C ∧ mg x = some (.ref C) ∧ PySem.W.findIn K (.ref C) p = some none ∧ ∃ f fd, PySem.W.findIn K (.ref C) "__init__" = some (some (.ref f)) ∧ PySem.W.typeIn K (.ref f) = some (.type "function") ∧ FnOk P w K mg base CX0 2 f fd ["self", p] (spErr1 K C p code) ∧ Binds K fd ["self", p] []
def Er0 (P : Program) (w : World) (K : PySem.W.Frag) (mg : Str → Option Value) (base : Heap) (x : Str) (C : Addr) (code : Str) : Prop :=
  ErrC K C ∧ mg x = some (.ref C) ∧ ∃ f fd, PySem.W.findIn K (.ref C) "__init__" = some (some (.ref f)) ∧ PySem.W.typeIn K (.ref f) = some (.type "function") ∧ FnOk P w K mg base CX0 2 f fd ["self"] (spErr0 K C code) ∧ Binds K fd ["self"] []
end
section
variable {c : Ctx} {X : Cx} {e : Expr} {q : QE} {p1 p2 p3 : Pos} {x : Str} {C : Addr} {p code : Str}
def qRaise1 (c : Ctx) (C : Addr) (p code : Str) (q : QE) : QS := fun ρ _ => q ρ fun d => c.ξ (.exc C [(p, d), ("code", .str code)])
theorem RepF.two {G : Hp} {f g : Str} {v w : V} {d e : D} (r : Rep G v d) (r' : Rep G w e) : RepF G [(f, v), (g, w)] [(f, d), (g, e)] := by
  refine ⟨rfl, fun i a b h1 h2 => ?_⟩
  match i, h1, h2 with
  | 0, h1, h2 => cases h1; cases h2; exact r
  | 1, h1, h2 => cases h1; cases h2; exact r'
  | i + 2, h1, _ => simp at h1
theorem RepF.one' {G : Hp} {f : Str} {v : V} {d : D} (r : Rep G v d) : RepF G [(f, v)] [(f, d)] := by
  refine ⟨rfl, fun i a b h1 h2 => ?_⟩
  match i, h1, h2 with
  | 0, h1, h2 => cases h1; cases h2; exact r
  | i + 1, h1, _ => simp at h1
theorem sraise1 {k : Nat} (E1 : Er1 X.prog X.w X.K X.mg X.base x C p code) (tk : TakesC c X) (hr : Room k X.A) (he : PD c X e q) (hc : X.calm = true := by rfl) (hk : 3 ≤ k := by decide) (hg : Gl X x := by rfl) (hdb : (x == ("__debug__" : Str)) = false := by decide)
    (hst : starEach [e] X.env = (false, eval e X.env) :: starEach [] X.env := by rfl) (hpl : (backTo p2 (starEach [] X.env)).any (·.1) = false := by rfl) : PDS c X (.Raise (some (.Call (.Name x p1) [e] [] p2)) none p3) (qRaise1 c C p code q) := by
  obtain ⟨T, hm, np, f, fd, iC, tI, F, b⟩ := E1
  obtain ⟨t, pe, sd⟩ := he.ex
  refine ⟨_, ps_raise hc tk (pmk_oex T.ox iC tI F (hr.mono hk) b .nil pass0 hg hm (pa_cons pe pa_nil hst) hdb hst hpl), fun ρ σ G H Φ D' s h _ => ?_⟩
  refine sd ρ σ G H _ _ s h fun v d G1 H1 g1 r1 h1 => ⟨by simp, fun a ha => ?_⟩
  have s1 := s.grow g1
  refine ⟨a, v, rfl, upd_same, fun dx hdx hne => ⟨rfl, dx, _, by rw [upd_ne (Ne.symm hne), upd_same], upd_same, by rw [upd_ne hne] at hdx; exact hdx, ?_⟩⟩
  have hd0 : H1 dx = none := by rw [upd_ne hne] at hdx; exact hdx
  have gn := Grow.new (o := .xd [(p, v), ("code", .str code)]) s1.core.gh s1.core.bg hd0
  have e : upd (del (upd (upd (upd (upd H1 a (exo a C none)) dx (exd dx [("code", V.str code)])) a (exo a C (some dx))) dx (exd dx [(p, v), ("code", V.str code)])) a) dx (.xd [(p, v), ("code", V.str code)]) = upd H1 dx (.xd [(p, v), ("code", V.str code)]) := by
    funext z
    by_cases h1 : z = dx
    · rw [h1, upd_same, upd_same]
    · rw [upd_ne h1, upd_ne h1]
      by_cases h2 : z = a
      · rw [h2, del_same, ha]
      · rw [del_ne h2, upd_ne h1, upd_ne h2, upd_ne h1, upd_ne h2]
  rw [e]
  exact wish_of s1.core gn upd_same (RepF.two (r1.mono gn.gg) (.str code)) h1
end
end DL

/-! ### lambdas: their making -/
namespace DL
open PySem PySem.Spec PySem.Calls PyProof.Rows L2 PySem.W
section
variable {M : Model} {A : Around} {E : Value → Shared → Prop} {s : Shared} {k : LamC} {env : Env} {c P : Addr} {ps : Array Value} {pos : Pos} {ln : Nat} {mg : Str → Option Value} {cl : List (Str × Addr)} {dV : Value} {Q : Value → Shared → Prop}
/-- the code object is new -/
theorem lam_tail (h1 : closureFor k.scope env = pure cl) (h2 : env.globals = mainGlobals) (h3 : s.heap.Ns mainGlobals mg) (h4 : env.code = .ref c) (C : CodeHd s.heap c P) (hP : s.heap.get? P = some (tabObj ps)) (ht : TriplesOk ps.toList) (hn : codeAmong pos ps.toList = none) (h5 : mainGlobals ≠ P) (h6 : s.heap.BuiltinsAt mg P)
    (h : ∀ c' ct h' tk, Heap.ExtBut P s.heap h' → s.heap.objs.size ≤ c' → c' < h'.objs.size → h'.CodeRec (.ref c') k.q → h'.get? P = some (tabObj (ps ++ #[rawInt pos.line, rawInt pos.col, .ref c'])) → Q (.ref h'.objs.size) { s with heap := h'.push (lamObj k cl dV ((mg "__name__").getD .none) c' ct), toks := tk }) :
    wpAny M A (makeTail "<lambda>" k.q k.params (.expr k.body) k.scope env dV .none none pos ln) Q E s := by
  obtain ⟨bm, ob, b1, b2, _, b3, b4, b5, b6, b7⟩ := h6
  unfold makeTail
  rw [h1, h2]
  refine wpAny_bind (wpAny_pure ?_)
  cases cl with
  | nil =>
    simp only [List.isEmpty_nil, if_true]
    refine wpAny_bind (wpAny_pure (wpAny_bind (wpAny_functionCodeX h4 (C.code hP ht) (C.tab hP) hn fun c' h' tk hx ge lt _ rc tb _ => ?_)))
    have g' := h3.extBut hx h5
    exact wpAny_bind (wpAny_builtinsFor g' b1 b2 (hx _ _ b3 b4) b5 b6 b7 (wpAny_bind (wpAny_nsGet g' (wpAny_bind (wpAny_pure (wpAny_newObj_type (h c' .none h' tk hx ge lt rc tb.2) (by size_fits)))))))
  | cons y r =>
    simp only [List.isEmpty_cons, Bool.false_eq_true, if_false]
    refine wpAny_bind (wpAny_newTextTuple (wpAny_bind (wpAny_functionCodeX h4 ((C.keeps fun _ _ z => Heap.get?_push_of_some _ z).code (Heap.get?_push_of_some _ hP) ht) ((C.keeps fun _ _ z => Heap.get?_push_of_some _ z).tab (Heap.get?_push_of_some _ hP)) hn fun c' h' tk hx ge lt _ rc tb _ => ?_)))
    have g' := (h3.push _).extBut hx h5
    have x' : Heap.ExtBut P s.heap h' := fun b o n z => hx b o n (Heap.get?_push_of_some _ z)
    have ge' : s.heap.objs.size ≤ c' := Nat.le_trans (by rw [Heap.size_push]; omega) ge
    exact wpAny_bind (wpAny_builtinsFor g' b1 b2 (x' _ _ b3 b4) b5 b6 b7 (wpAny_bind (wpAny_nsGet g' (wpAny_bind (wpAny_pure (wpAny_newObj_type (h c' _ h' tk x' ge' lt rc tb.2) (by size_fits)))))))
/-- the code object is found -/
theorem lam_hit {c' : Addr} (h1 : closureFor k.scope env = pure cl) (h2 : env.globals = mainGlobals) (h3 : s.heap.Ns mainGlobals mg) (h4 : env.code = .ref c) (C : CodeHd s.heap c P) (hP : s.heap.get? P = some (tabObj ps)) (ht : TriplesOk ps.toList) (hn : codeAmong pos ps.toList = some (.ref c')) (h6 : s.heap.BuiltinsAt mg P)
    (h : ∀ (ct : Value) (h' : Heap) (tk : Tok), (∀ b o, s.heap.get? b = some o → h'.get? b = some o) → s.heap.objs.size ≤ h'.objs.size → Q (.ref h'.objs.size) { s with heap := h'.push (lamObj k cl dV ((mg "__name__").getD .none) c' ct), toks := tk }) :
    wpAny M A (makeTail "<lambda>" k.q k.params (.expr k.body) k.scope env dV .none none pos ln) Q E s := by
  obtain ⟨bm, ob, b1, b2, _, b3, b4, b5, b6, b7⟩ := h6
  unfold makeTail
  rw [h1, h2]
  refine wpAny_bind (wpAny_pure ?_)
  cases cl with
  | nil =>
    simp only [List.isEmpty_nil, if_true]
    refine wpAny_bind (wpAny_pure (wpAny_bind (wpAny_functionCode_hit h4 (C.code hP ht) hn ?_)))
    exact wpAny_bind (wpAny_builtinsFor h3 b1 b2 b4 b5 b6 b7 (wpAny_bind (wpAny_nsGet h3 (wpAny_bind (wpAny_pure (wpAny_newObj_type (h .none s.heap s.toks (fun _ _ z => z) (Nat.le_refl _)) (by size_fits)))))))
  | cons y r =>
    simp only [List.isEmpty_cons, Bool.false_eq_true, if_false]
    refine wpAny_bind (wpAny_newTextTuple (wpAny_bind (wpAny_functionCode_hit h4 ((C.keeps fun _ _ z => Heap.get?_push_of_some _ z).code (Heap.get?_push_of_some _ hP) ht) hn ?_)))
    have sz : ∀ o : Obj, s.heap.objs.size ≤ (s.heap.push o).objs.size := fun o => by rw [Heap.size_push]; omega
    exact wpAny_bind (wpAny_builtinsFor (h3.push _) b1 b2 (Heap.get?_push_of_some _ b4) b5 b6 b7 (wpAny_bind (wpAny_nsGet (h3.push _) (wpAny_bind (wpAny_pure (wpAny_newObj_type (h _ _ s.toks (fun _ _ z => Heap.get?_push_of_some _ z) (sz _)) (by size_fits)))))))
end
/-! ### an object that is there is known from now on -/
section
variable {X : Cx} {pins : List (Addr × Obj)} {σ : L2.St} {H : Hp} {s : Shared}
theorem pin_objok {P : Program} {w : World} {H : Hp} {h : Heap} {a : Addr} {o : Obj} (e : h.get? a = some o) : ObjOk P w H h a (pinO o) := ⟨e, True.intro, ⟨o, e⟩, fun _ _ _ _ => True.intro⟩
theorem pin_get {P : Program} {w : World} {H : Hp} {h : Heap} {a : Addr} {o : Obj} (hok : HOk P w H h) (e : H a = some (pinO o)) : h.get? a = some o := (hok a _ e).1
/-- an object that was made since the entry and is not known: it is known from now on -/
theorem inv_pin {a : Addr} {o : Obj} (I : Inv X pins σ H s) (e : s.heap.get? a = some o) (n : H a = none) (hnew : X.s_0.heap.get? a = none) (hL : a ≠ X.env.locals) (hd : ∀ v, o.data ≠ .cell v) (hp : ∀ p ∈ X.pn ++ pins, p.1 ≠ a) : Inv X pins σ (upd H a (pinO o)) s := by
  have ne : ∀ b ob, X.s_0.heap.get? b = some ob → b ≠ a := fun b ob z q => by rw [q, hnew] at z; cases z
  refine ⟨I.ok, I.os, I.bare, ⟨I.base.keep, I.base.slot, fun b ob z m x => by rw [upd_ne (ne b ob z)]; exact I.base.free b ob z m x, I.base.there, fun b xs z => ?_, fun b ob u z => ?_, fun b qs z => ?_⟩, I.loc, I.cell, by rw [upd_ne (Ne.symm hL)]; exact I.free, fun x c z => ?_, fun p hp' => ?_, fun b u z => ?_, I.len⟩
  · have := I.base.tups b xs z
    rw [upd_ne (ne_of_none this n)]; exact this
  · have := I.base.frzs b ob u z
    rw [upd_ne (ne_of_none this n)]; exact this
  · obtain ⟨m, q⟩ := I.base.tbls b qs z
    exact ⟨m, by rw [upd_ne (ne_of_none q n)]; exact q⟩
  · rw [upd_ne]
    · exact I.freeC x c z
    · intro q
      obtain ⟨v, ob, e1, e2⟩ := I.cell x c z
      rw [q, e] at e1
      cases e1
      exact hd _ e2
  · obtain ⟨x1, x2, x3⟩ := I.pin p hp'
    exact ⟨x1, by rw [upd_ne (hp p hp')]; exact x2, x3⟩
  · by_cases q : b = a
    · subst q
      rw [upd_same] at z
      cases z
      exact pin_objok e
    · rw [upd_ne q] at z
      exact (I.hok b u z).stay (fun _ _ _ y => y) (fun c y => by rw [upd_ne (ne_of_none y n)]; exact y) fun c xs y => by rw [upd_ne (ne_of_none y n)]; exact y
end
/-- the heap behind the making of a lambda: the table at P has grown, all else is kept -/
structure LamG (P : Addr) (H H1 : Hp) : Prop where
  hh : ∀ b o, b ≠ P → H b = some o → H1 b = some o
  tk : H P ≠ none → H1 P ≠ none
  tb : ∀ P, TabL H P → TabL H1 P
theorem LamG.ext {P : Addr} {H H1 : Hp} (e : ∀ b o, H b = some o → H1 b = some o) : LamG P H H1 := ⟨fun b o _ h => e b o h, fun h => by
  cases q : H P with
  | none => exact absurd q h
  | some o => rw [e P o q]; simp, fun P t => t.ext e⟩
theorem LamG.trans {P : Addr} {H H1 H2 : Hp} (a : LamG P H H1) (b : LamG P H1 H2) : LamG P H H2 := ⟨fun x o n h => b.hh x o n (a.hh x o n h), fun h => b.tk (a.tk h), fun P t => b.tb P (a.tb P t)⟩
section
variable {X : Cx} {pins : List (Addr × Obj)} {σ : L2.St} {H : Hp} {s : Shared} {k : LamC} {c P : Addr} {pos : Pos} {dV : Value} {Q : Value → Shared → Prop} {E : Value → Shared → Prop}
/-- the tail of the making, over the states of a context -/
theorem lam_inv (I : Inv X pins σ H s) (TB : LamX.TabB X.base X.mg c P) (hcode : X.env.code = .ref c) (hq : k.q = lawQ pos) (hT : TabL H P) (hfree : ∀ y ∈ k.scope.names, y.2 = .free → ∃ c, X.env.cells.lookup y.1 = some c)
    (h : ∀ (f c' : Addr) (pm ct : Value) (H1 : Hp) (s' : Shared), Inv X pins σ H1 s' → LamG P H H1 → H f = none → H1 f = some (pinO (lamObj k (cloFrom X.env.cells k.scope.names []) dV pm c' ct)) → H1 c' = some (LamX.CodeO c' k.q) → Q (.ref f) s') :
    wpAny (model X.prog X.w) X.A (makeTail "<lambda>" k.q k.params (.expr k.body) k.scope X.env dV .none none pos pos.line) Q E s := by
  obtain ⟨ps, hP, ht, ha⟩ := hT
  have bP : s.heap.BuiltinsAt X.mg P := TB.bm.keeps I.bk
  have hP' : s.heap.get? P = some { cls := .none, data := .fields ps } := I.hok P _ hP
  have sz0 : X.s_0.heap.objs.size ≤ s.heap.objs.size := I.sz
  -- the function's object is known from now on
  have fin : ∀ (f c' : Addr) (pm ct : Value) (H1 : Hp) (s' : Shared), Inv X pins σ H1 s' → LamG P H H1 → H1 c' = some (LamX.CodeO c' k.q) → s'.heap.get? f = some (lamObj k (cloFrom X.env.cells k.scope.names []) dV pm c' ct) → s.heap.objs.size ≤ f → H1 f = none → (∀ p ∈ X.pn ++ pins, p.1 < s.heap.objs.size) → Q (.ref f) s' := fun f c' pm ct H1 s' J g hc hf hsz hn hp => by
    have J2 := inv_pin J hf hn (Heap.get?_none_of_le (Nat.le_trans sz0 hsz)) (Nat.ne_of_gt (Nat.lt_of_lt_of_le I.lt hsz)) (fun v z => by cases z) (fun p hp' => Nat.ne_of_lt (Nat.lt_of_lt_of_le (hp p hp') hsz))
    have nf : f ≠ c' := fun z => by rw [z, hc] at hn; cases hn
    refine h f c' pm ct _ s' J2 (g.trans (LamG.ext fun b o e => ?_)) ?_ upd_same ?_
    · rw [upd_ne (ne_of_none e hn)]; exact e
    · exact I.hok.fresh hsz
    · rw [upd_ne (Ne.symm nf)]; exact hc
  have pl : ∀ p ∈ X.pn ++ pins, p.1 < s.heap.objs.size := fun p hp => Heap.lt_size (I.pin p hp).1
  cases hc : codeAmong pos ps.toList with
  | none =>
    refine lam_tail (mg := X.mg) (c := c) (P := P) (ps := ps) (closure_ok hfree) I.ok.glob (I.mod.glob.keeps I.bk) hcode (TB.code.keeps I.bk) hP' ht hc TB.gP bP fun c' ct h' tk hx ge lt rc tb => ?_
    obtain ⟨c2, oc, vs, t, e2, hoc, hd, hv⟩ := rc
    cases e2
    have hsz : s.heap.objs.size ≤ h'.objs.size := Nat.le_trans ge (Nat.le_of_lt lt)
    have nC : H c' = none := I.hok.fresh ge
    have I1 := LamX.inv_table (t' := tk) (more := #[rawInt pos.line, rawInt pos.col, .ref c']) (h' := h'.push (lamObj k (cloFrom X.env.cells k.scope.names []) dV ((X.mg "__name__").getD .none) c' ct)) I hP
      (fun b o hb e => Heap.get?_push_of_some _ (hx b o hb e)) (Heap.get?_push_of_some _ tb) ge ⟨oc, vs, t, Heap.get?_push_of_some _ hoc, hd, hv⟩
    have eL : (ps ++ #[rawInt pos.line, rawInt pos.col, .ref c']).toList = ps.toList ++ [rawInt pos.line, rawInt pos.col, .ref c'] := by simp
    have gE : ∀ b o, b ≠ P → H b = some o → (upd (upd H P (.tbl (ps ++ #[rawInt pos.line, rawInt pos.col, .ref c']))) c' (LamX.CodeO c' k.q)) b = some o := fun b o n e => by
      rw [upd_ne (ne_of_none e nC), upd_ne n]
      exact e
    have ntC : ∀ (c : Addr) (q : Str), H c = some (LamX.CodeO c q) → c ≠ P := fun c q e z => by
      rw [z, hP] at e
      have e := Option.some.inj e
      unfold LamX.CodeO at e
      cases e
    refine fin h'.objs.size c' _ ct _ _ I1 ⟨gE, fun _ => ?_, fun P' t => ?_⟩ upd_same (Heap.get?_push_size _ rfl) hsz ?_ pl
    · rw [upd_ne (ne_of_none hP nC), upd_same]; simp
    · by_cases hb : P' = P
      · subst hb
        refine ⟨_, by rw [upd_ne (ne_of_none hP nC), upd_same], by rw [eL]; exact PySem.TriplesOk_snoc _ _ _ _ ht, fun p' cv hcv => ?_⟩
        rw [eL] at hcv
        rcases LamX.among_app _ ht hcv with z | z
        · obtain ⟨c0, e1, e2⟩ := ha p' cv z
          exact ⟨c0, e1, gE _ _ (ntC _ _ e2) e2⟩
        · exact ⟨c', z, by rw [upd_same, hq]; rfl⟩
      · obtain ⟨ps', a1, a2, a3⟩ := t
        refine ⟨ps', by rw [upd_ne (ne_of_none a1 nC), upd_ne hb]; exact a1, a2, fun p' cv hcv => ?_⟩
        obtain ⟨c0, e1, e2⟩ := a3 p' cv hcv
        exact ⟨c0, e1, gE _ _ (ntC _ _ e2) e2⟩
    · have n1 : h'.objs.size ≠ c' := Nat.ne_of_gt lt
      have n2 : h'.objs.size ≠ P := Nat.ne_of_gt (Nat.lt_of_lt_of_le (Heap.lt_size hP') hsz)
      rw [upd_ne n1, upd_ne n2]
      exact I.hok.fresh hsz
  | some cv =>
    obtain ⟨c', e, hco⟩ := ha pos cv hc
    subst e
    refine lam_hit (mg := X.mg) (c := c) (P := P) (ps := ps) (closure_ok hfree) I.ok.glob (I.mod.glob.keeps I.bk) hcode (TB.code.keeps I.bk) hP' ht hc bP fun ct h' tk hx hsz => ?_
    have I1 : Inv X pins σ H { s with heap := h'.push (lamObj k (cloFrom X.env.cells k.scope.names []) dV ((X.mg "__name__").getD .none) c' ct), toks := tk } := I.kept fun b o e => Heap.get?_push_of_some _ (hx b o e)
    exact fin h'.objs.size c' _ ct H _ I1 (LamG.ext fun _ _ e => e) (by rw [hq]; exact hco) (Heap.get?_push_size _ rfl) hsz (I.hok.fresh hsz) pl
/-- the lambda is made: no default, or one int -/
theorem lam_new (I : Inv X pins σ H s) (TB : LamX.TabB X.base X.mg c P) (hcode : X.env.code = .ref c) (hq : k.q = X.env.qual ++ "<lambda>") (hq2 : k.q = lawQ pos) (hT : TabL H P) (hfree : ∀ y ∈ k.scope.names, y.2 = .free → ∃ c, X.env.cells.lookup y.1 = some c) (hk : k.params.kwonlyargs = [])
    (hdef : (k.params.defaults = [] ∧ defaultsOf k.params X.env = ([], [])) ∨ (k.params.defaults ≠ [] ∧ ∃ n j p, defaultsOf k.params X.env = ([eval (.Constant (.int n) j p) X.env], [])))
    (h : ∀ (f c' : Addr) (dV pm ct : Value) (H1 : Hp) (s' : Shared), Inv X pins σ H1 s' → LamG P H H1 → H f = none → H1 f = some (pinO (lamObj k (cloFrom X.env.cells k.scope.names []) dV pm c' ct)) → H1 c' = some (LamX.CodeO c' k.q) →
      ((dV = .none ∧ k.params.defaults = []) ∨ ∃ (T : Addr) (n : Int) (t : Tok), (dV = .ref T ∧ k.params.defaults ≠ []) ∧ H1 T = some (pinO (oneT n t)) ∧ H T = none) → Q (.ref f) s') :
    wpAny (model X.prog X.w) X.A (eval (.Lambda k.params k.body k.scope pos) X.env) Q X.xe s := by
  rw [arm_eval_Lambda]
  rcases hdef with ⟨hd0, hdef⟩ | ⟨hd0, n, j, p, hdef⟩
  · rw [hdef]
    show wpAny _ _ (do let dv ← evalAll []; let kdv ← holding dv (evalAllOpt []); makeFunction "<lambda>" (X.env.qual ++ "<lambda>") k.params (.expr k.body) k.scope X.env dv kdv [] pos pos.line) Q X.xe s
    refine wpAny_bind (wpAny_pure (wpAny_bind (wpAny_holding (wpAny_pure ?_))))
    rw [makeFunction_eq, ← hq]
    simp only [List.zip_nil_right, List.filterMap_nil, List.isEmpty_nil, if_true, pure_bind]
    exact lam_inv (dV := .none) I TB hcode hq2 hT hfree fun f c' pm ct H1 s' J g hf h1 h2 => h f c' .none pm ct H1 s' J g hf h1 h2 (.inl ⟨rfl, hd0⟩)
  · rw [hdef]
    show wpAny _ _ (do let dv ← (do let v ← eval (.Constant (.int n) j p) X.env; return v :: (← holding [v] (evalAll []))); let kdv ← holding dv (evalAllOpt []); makeFunction "<lambda>" (X.env.qual ++ "<lambda>") k.params (.expr k.body) k.scope X.env dv kdv [] pos pos.line) Q X.xe s
    refine wpAny_bind (wpAny_bind (thn ((pe_int (X := X) (i := n) (j := j) (pos := p)).run pins s σ H (fun v H' => v = .int n ∧ H' = H) I ⟨rfl, rfl⟩) fun u s1 ⟨v, H1, I1, rv, e1, e2⟩ => ?_))
    subst e1 e2
    obtain ⟨t, rfl⟩ : ∃ t, u = Value.int n t := rv
    refine wpAny_bind (wpAny_holding (wpAny_pure (wpAny_pure (wpAny_bind (wpAny_holding (wpAny_pure ?_))))))
    rw [makeFunction_eq, ← hq]
    simp only [List.zip_nil_right, List.filterMap_nil, List.isEmpty_nil, List.isEmpty_cons, if_true, Bool.false_eq_true, if_false, pure_bind]
    refine wpAny_bind (wpAny_newTextTuple ?_)
    have kp : ∀ b o, s1.heap.get? b = some o → (s1.heap.push (oneT n t)).get? b = some o := fun b o e => Heap.get?_push_of_some _ e
    have I2 : Inv X pins σ H1 { s1 with heap := s1.heap.push (oneT n t) } := I1.kept (t' := s1.toks) kp
    have nT : H1 s1.heap.objs.size = none := I1.hok.fresh (Nat.le_refl _)
    have I3 := inv_pin I2 (a := s1.heap.objs.size) (o := oneT n t) (Heap.get?_push_size _ rfl) nT (Heap.get?_none_of_le I1.sz) (Nat.ne_of_gt I1.lt) (fun v z => by cases z) (fun q hq' => Nat.ne_of_lt (Heap.lt_size (I1.pin q hq').1))
    have g1 : LamG P H1 (upd H1 s1.heap.objs.size (pinO (oneT n t))) := LamG.ext fun b o e => by rw [upd_ne (ne_of_none e nT)]; exact e
    refine lam_inv (dV := .ref s1.heap.objs.size) I3 TB hcode hq2 (g1.tb P hT) hfree fun f c' pm ct H2 s' J g hf h1 h2 => ?_
    have nf : f ≠ s1.heap.objs.size := fun z => by rw [z, upd_same] at hf; cases hf
    refine h f c' (.ref s1.heap.objs.size) pm ct H2 s' J (g1.trans g) (by rw [upd_ne nf] at hf; exact hf) h1 h2 (.inr ⟨_, n, t, ⟨rfl, hd0⟩, g.hh _ _ (fun z => by obtain ⟨ps, e, _⟩ := hT; rw [← z] at e; rw [nT] at e; cases e) upd_same, nT⟩)
end
end DL
namespace DL
open PySem PySem.Spec PyProof.Rows L2
def refsOf : Value → List Addr
  | .ref T => [T]
  | _ => []
/-- a lambda -/
def tLamN (k : LamC) (cl : List (Str × Addr)) (P : Addr) : TE := fun _ H R => TabL H P ∧ ∀ (f c' : Addr) (dV pm ct : Value) (H1 : Hp), LamG P H H1 → H f = none → H1 f = some (pinO (lamObj k cl dV pm c' ct)) → H1 c' = some (LamX.CodeO c' k.q) →
  ((dV = .none ∧ k.params.defaults = []) ∨ ∃ (T : Addr) (n : Int) (t : Tok), (dV = .ref T ∧ k.params.defaults ≠ []) ∧ H1 T = some (pinO (oneT n t)) ∧ H T = none) → R (.ref f) H1
section
variable {X : Cx} {cc P : Addr} {pos : Pos} {k : LamC}
theorem pe_lamN (TB : LamX.TabB X.base X.mg cc P) (hcode : X.env.code = .ref cc) (hq : k.q = X.env.qual ++ "<lambda>") (hq2 : k.q = lawQ pos) (hfree : X.Ok → ∀ y ∈ k.scope.names, y.2 = .free → ∃ c, X.env.cells.lookup y.1 = some c) (hk : k.params.kwonlyargs = [])
    (hdef : (k.params.defaults = [] ∧ defaultsOf k.params X.env = ([], [])) ∨ (k.params.defaults ≠ [] ∧ ∃ n j p, defaultsOf k.params X.env = ([eval (.Constant (.int n) j p) X.env], []))) : PE X (.Lambda k.params k.body k.scope pos) (tLamN k (cloFrom X.env.cells k.scope.names []) P) := by
  refine ⟨fun pins s σ H Q I h => ?_⟩
  exact lam_new I TB hcode hq hq2 h.1 (hfree I.ok) hk hdef fun f c' dV pm ct H1 s' J g hf h1 h2 h3 => ⟨.ref f, H1, J, rfl, h.2 f c' dV pm ct H1 g hf h1 h2 h3⟩
variable {c : Ctx}
theorem snd_lamN {cl : List (Str × Addr)} (hT : TabL c.H0 P) (gT : c.G0 P = none) : SndE c (tLamN k cl P) (qC (.lmu k cl)) := by
  intro ρ σ G H Q R s h kk
  have tb := s.core.tb P hT
  refine ⟨tb, fun f c' dV pm ct H1 g hf h1 h2 h3 => ?_⟩
  have gP : G P = none := by
    cases q : G P with
    | none => rfl
    | some o =>
      obtain ⟨ps, e, _⟩ := tb
      have e2 := s.core.gh P o q
      rw [e] at e2
      cases e2
      have z := s.core.nw P _ q ⟨(fun c q z => by unfold LamX.CodeO at z; cases z), (fun _ z => by cases z)⟩ gT
      obtain ⟨ps', e', _⟩ := hT
      rw [e'] at z
      cases z
  -- what is frozen now
  obtain ⟨N, hN⟩ : ∃ N : List Addr, N = f :: c' :: refsOf dV := ⟨_, rfl⟩
  let G' : Hp := fun b => match G b with
    | some o => some o
    | none => if b ∈ N then H1 b else none
  have gk : ∀ b o, G b = some o → G' b = some o := fun b o e => by show (match G b with | some o => some o | none => _) = _; rw [e]
  have gn : ∀ b, G b = none → G' b = if b ∈ N then H1 b else none := fun b e => by show (match G b with | some o => some o | none => _) = _; rw [e]
  have neP : ∀ b o, G b = some o → b ≠ P := fun b o e z => by rw [z, gP] at e; cases e
  have hNn : ∀ b, b ∈ N → (H b = none ∨ ∃ c q, H1 b = some (LamX.CodeO c q)) := fun b hb => by
    rw [hN] at hb
    rcases List.mem_cons.mp hb with e | hb
    · exact .inl (by rw [e]; exact hf)
    · rcases List.mem_cons.mp hb with e | hb
      · exact .inr ⟨c', k.q, by rw [e]; exact h2⟩
      · rcases h3 with ⟨e, _⟩ | ⟨T, n, t, ⟨e, _⟩, _, e3⟩
        · rw [e] at hb; simp [refsOf] at hb
        · rw [e] at hb
          have : b = T := by simpa [refsOf] using hb
          exact .inl (by rw [this]; exact e3)
  have nG : ∀ b u, b ∈ N → H1 b = some u → G' b = some u := fun b u hb e => by
    cases q : G b with
    | none => rw [gn b q, if_pos hb]; exact e
    | some o =>
      rw [gk b o q]
      have := g.hh b o (neP b o q) (s.core.gh b o q)
      rw [e] at this
      exact this.symm
  have gr : Grow c.β G H G' H1 := by
    refine ⟨fun b o e => gk b o e, fun b o e nb nt => ?_, fun b o e nt => ?_, g.tb, fun b o e => ?_, fun b o e nc n => ?_, fun b e => ?_⟩
    · refine g.hh b o (fun z => ?_) e
      obtain ⟨ps, e', _⟩ := tb
      rw [← z, e] at e'
      cases e'
      exact nt.1 _ rfl
    · by_cases z : b = P
      · rw [z] at e ⊢
        exact g.tk (by rw [e]; simp)
      · rw [g.hh b o z e]; simp
    · cases q : G b with
      | some u =>
        rw [gk b u q] at e
        have e := Option.some.inj e
        rw [← e]
        exact g.hh b u (neP b u q) (s.core.gh b u q)
      | none =>
        rw [gn b q] at e
        split at e
        · exact e
        · cases e
    · rw [gn b n] at e
      split at e
      · rename_i hb
        rcases hNn b hb with z | ⟨c1, q1, z⟩
        · exact z
        · rw [e] at z
          cases z
          exact absurd rfl (nc.1 _ _)
      · cases e
    · have B := s.core.bg b e
      obtain ⟨cc, cells, x1, x2, x3, x4, hb, hc, rest⟩ := B.is
      have bP : b ≠ P := fun z => by
        obtain ⟨ps, e', _⟩ := tb
        rw [← z, hb] at e'
        cases e'
      have hb1 := g.hh b _ bP hb
      refine ⟨?_, cc, cells, x1, x2, x3, x4, hb1, gk _ _ hc, rest⟩
      rw [gn b B.out]
      split
      · rename_i hm
        rcases hNn b hm with z | ⟨c1, q1, z⟩
        · rw [hb] at z; cases z
        · rw [hb1] at z
          have z := Option.some.inj z
          unfold LamX.CodeO at z
          cases z
      · rfl
  refine kk (.ref f) _ G' H1 gr (.lmu (nG f _ (by rw [hN]; simp) h1) (nG c' _ (by rw [hN]; simp) h2) ?_) h
  rcases h3 with e | ⟨T, n, t, ⟨e, ed⟩, e2, _⟩
  · exact .inl e
  · exact .inr ⟨T, n, t, ⟨e, ed⟩, nG T _ (by rw [hN, e]; simp [refsOf]) e2⟩
end
end DL

/-! ### lambdas: their calls -/
namespace DL
open PySem PySem.Spec PyProof.Rows L2
/-- some known things are let go, and known again behind -/
def hideC (H : Hp) (cs : List Addr) : Hp := fun b => if b ∈ cs then none else H b
def showC (H' H : Hp) (cs : List Addr) : Hp := fun b => if b ∈ cs then H b else H' b
theorem hideC_in {H : Hp} {cs : List Addr} {b : Addr} (h : b ∈ cs) : hideC H cs b = none := if_pos h
theorem hideC_out {H : Hp} {cs : List Addr} {b : Addr} (h : b ∉ cs) : hideC H cs b = H b := if_neg h
theorem hideC_none {H : Hp} {cs : List Addr} {b : Addr} (h : H b = none) : hideC H cs b = none := by unfold hideC; split <;> first | rfl | exact h
theorem hideC_some {H : Hp} {cs : List Addr} {b : Addr} {o : HO} (h : hideC H cs b = some o) : b ∉ cs ∧ H b = some o := by
  unfold hideC at h
  split at h
  · cases h
  · rename_i n; exact ⟨n, h⟩
theorem showC_in {H' H : Hp} {cs : List Addr} {b : Addr} (h : b ∈ cs) : showC H' H cs b = H b := if_pos h
theorem showC_out {H' H : Hp} {cs : List Addr} {b : Addr} (h : b ∉ cs) : showC H' H cs b = H' b := if_neg h
/-- the cells stand in the heap, known -/
def PinsK (H : Hp) (h : Heap) (fs : List Addr) (cs : List Addr) : Prop := ∀ a ∈ cs, ∃ o, H a = some (pinO o) ∧ h.get? a = some o ∧ a ∉ fs
section
variable {P : Program} {w : World} {H H' : Hp} {h h' : Heap} {fs cs : List Addr}
theorem pinO_ne_tup {o : Obj} {xs : List V} : pinO o ≠ .tup xs := fun z => by unfold pinO at z; cases z
theorem pinO_ne_own {o : Obj} {x : Addr} : pinO o ≠ .own x := fun z => by unfold pinO at z; cases z
theorem pinO_ne_tbl {o : Obj} {x : Array Value} : pinO o ≠ .tbl x := fun z => by unfold pinO at z; cases z
theorem PinsK.some (k : PinsK H h fs cs) {a : Addr} (ha : a ∈ cs) : H a ≠ none := by obtain ⟨o, e, _⟩ := k a ha; rw [e]; simp
theorem un_show (k : PinsK H h fs cs) (u : Un fs [] (hideC H cs) H' h h') : Un fs [] H (showC H' H cs) h h' := by
  have out : ∀ b, H b = none → b ∉ cs := fun b n m => k.some m n
  refine ⟨fun b o q n nf nx => u.keep b o q (hideC_none n) nf nx, fun b o q n nf nx => u.slot b o q (hideC_none n) nf nx, fun b o q n nx => ?_, fun b o q nx => u.there b o q nx, fun b xs q => ?_, fun b o x q => ?_, fun b ps q => ?_⟩
  · rw [showC_out (out b n)]; exact u.free b o q (hideC_none n) nx
  · have nc : b ∉ cs := fun m => by obtain ⟨o, e, _⟩ := k b m; rw [q] at e; exact pinO_ne_tup (Option.some.inj e).symm
    rw [showC_out nc]; exact u.tups b xs (by rw [hideC_out nc]; exact q)
  · by_cases m : b ∈ cs
    · rw [showC_in m]; exact q
    · rw [showC_out m]; exact u.frzs b o x (by rw [hideC_out m]; exact q)
  · have nc : b ∉ cs := fun m => by obtain ⟨o, e, _⟩ := k b m; rw [q] at e; exact pinO_ne_tbl (Option.some.inj e).symm
    rw [showC_out nc]; exact u.tbls b ps (by rw [hideC_out nc]; exact q)
theorem hok_hide (hok : HOk P w H h) (k : PinsK H h fs cs) : HOk P w (hideC H cs) h := fun a o e => by
  obtain ⟨n, e⟩ := hideC_some e
  refine (hok a o e).stay (fun _ _ _ z => z) (fun b z => ?_) (fun b xs z => ?_)
  · rw [hideC_out]
    · exact z
    · intro m; obtain ⟨o', e', _⟩ := k b m; rw [z] at e'; exact pinO_ne_own (Option.some.inj e').symm
  · rw [hideC_out]
    · exact z
    · intro m; obtain ⟨o', e', _⟩ := k b m; rw [z] at e'; exact pinO_ne_tup (Option.some.inj e').symm
/-- behind the run: the cells stand as they stood -/
theorem hok_show {B : Heap} (hok : HOk P w H' B) (k : ∀ a ∈ cs, ∃ o, H a = some (pinO o) ∧ B.get? a = some o ∧ H' a = none) : HOk P w (showC H' H cs) B := fun a o e => by
  by_cases m : a ∈ cs
  · obtain ⟨o', e1, e2, _⟩ := k a m
    rw [showC_in m, e1] at e
    cases e
    exact pin_objok e2
  · rw [showC_out m] at e
    refine (hok a o e).stay (fun _ _ _ z => z) (fun b z => ?_) (fun b xs z => ?_)
    · rw [showC_out]
      · exact z
      · intro m'; obtain ⟨_, _, _, e'⟩ := k b m'; rw [z] at e'; cases e'
    · rw [showC_out]
      · exact z
      · intro m'; obtain ⟨_, _, _, e'⟩ := k b m'; rw [z] at e'; cases e'
end
/-- the cells of a lambda and what they hold -/
structure CellsK (H : Hp) (cl : List (Str × Addr)) (zs : List V) : Prop where
  len : zs.length = cl.length
  at_ : ∀ (i : Nat) (x : Str × Addr) (v : V), cl[i]? = some x → zs[i]? = some v → ∃ o u, H x.2 = some (pinO o) ∧ o.data = .cell (some u) ∧ RelV v u
theorem CellsK.mem {H : Hp} {cl : List (Str × Addr)} {zs : List V} (k : CellsK H cl zs) {a : Addr} (ha : a ∈ cl.map (·.2)) : ∃ o u, H a = some (pinO o) ∧ o.data = .cell (some u) := by
  obtain ⟨x, hx, rfl⟩ := List.mem_map.mp ha
  obtain ⟨i, hi⟩ := List.getElem?_of_mem hx
  have hl : i < zs.length := by rw [k.len]; exact (List.getElem?_eq_some_iff.mp hi).1
  obtain ⟨o, u, e1, e2, _⟩ := k.at_ i x _ hi (List.getElem?_eq_getElem hl)
  exact ⟨o, u, e1, e2⟩
theorem CellsK.grow {H H' : Hp} {cl : List (Str × Addr)} {zs : List V} (k : CellsK H cl zs) (h : ∀ a o, H a = some (pinO o) → H' a = some (pinO o)) : CellsK H' cl zs := ⟨k.len, fun i x v h1 h2 => by
  obtain ⟨o, u, e1, e2, e3⟩ := k.at_ i x v h1 h2
  exact ⟨o, u, h _ _ e1, e2, e3⟩⟩
/-- what is asked of a lambda's scope; nms: the names that it captures -/
structure LamSc (k : LamC) (nms : List Str) : Prop where
  kind : k.scope.kind = .function
  co : k.scope.isCoroutine = false
  gen : k.scope.isGenerator = false
  ncell : ∀ y ∈ k.scope.names, y.2 ≠ .cell
  fr : ∀ y ∈ k.scope.names, y.2 = .free → y.1 ∈ nms
  look : ∀ x ∈ nms, k.scope.names.lookup x = some .free
  nd : nms.Nodup
/-- the context of a lambda's body -/
def lamX (P : Program) (w : World) (K : PySem.W.Frag) (mg : Str → Option Value) (base : Heap) (k : LamC) (cl : List (Str × Addr)) (nms : List Str) (f c' : Addr) (A : Around) (outer : List Env) (s : Shared) (H : Hp) (E : XK) : Cx where
  prog := P
  w := w
  K := K
  mg := mg
  base := base
  A := A.deeper (PySem.W.envX k.q k.scope s.heap.objs.size f (.ref c') cl)
  N := nms
  s_0 := s
  H_0 := H
  env := PySem.W.envX k.q k.scope s.heap.objs.size f (.ref c') cl
  outer := outer
  stack := PySem.W.envX k.q k.scope s.heap.objs.size f (.ref c') cl :: outer
  ex := []
  fn := fun _ => false
  calm := true
  pn := []
  xe := fun e s' => wpAny (model P w) (A.deeper (PySem.W.envX k.q k.scope s.heap.objs.size f (.ref c') cl)) (leaving (PySem.W.envX k.q k.scope s.heap.objs.size f (.ref c') cl) e) (fun _ s'' => L2.CX P w outer H s E e s'') (fun e' s'' => L2.CX P w outer H s E e' s'') s'
theorem lookup_at {α : Type} : ∀ {l : List (Str × α)} {i : Nat} {x : Str × α}, (l.map (·.1)).Nodup → l[i]? = some x → l.lookup x.1 = some x.2
  | [], i, x, _, h => by simp at h
  | y :: l, 0, x, _, h => by
    cases h
    rw [List.lookup_cons]
    simp
  | y :: l, i + 1, x, nd, h => by
    rw [List.map_cons, List.nodup_cons] at nd
    have hm : x ∈ l := List.mem_of_getElem? (by simpa using h)
    have ne : (x.1 == y.1) = false := beq_eq_false_iff_ne.mpr fun z => nd.1 (by rw [← z]; exact List.mem_map.mpr ⟨x, hm, rfl⟩)
    rw [List.lookup_cons, ne]
    exact lookup_at nd.2 (by simpa using h)
section
variable {P : Program} {w : World} {K : PySem.W.Frag} {mg : Str → Option Value} {base : Heap} {k : LamC} {cl : List (Str × Addr)} {nms : List Str} {f c' : Addr} {A : Around} {outer : List Env} {s : Shared} {H : Hp} {E : XK} {zs : List V}
/-- the state at the start of the body -/
theorem lam_st {h₁ : Heap} {tk : Nat} {m : Str → Option Value} (L : LamSc k nms) (hn : cl.map (·.1) = nms) (nda : (cl.map (·.2)).Nodup) (e0 : Env0 P w K mg base A outer s H) (hd : A.handled = none) (C : CellsK H cl zs)
    (hns : h₁.Ns s.heap.objs.size m) (kp : ∀ b o, s.heap.get? b = some o → h₁.get? b = some o) : Inv (lamX P w K mg base k cl nms f c' A outer s (hideC H (cl.map (·.2))) E) [] (zs.map some) (hideC H (cl.map (·.2))) { s with heap := h₁, toks := tk } := by
  have nd1 : (cl.map (·.1)).Nodup := by rw [hn]; exact L.nd
  have look : ∀ {y c}, cl.lookup y = some c → (y, c) ∈ cl := fun {y c} e => PySem.mem_of_lookup e
  have noA : ∀ b : Addr, b ∉ (lamX P w K mg base k cl nms f c' A outer s (hideC H (cl.map (·.2))) E).ex := fun b z => absurd (show b ∈ ([] : List Addr) from z) (by simp)
  have has : ∀ y, k.scope.names.lookup y = some .free → ∃ c, cl.lookup y = some c := fun y e => by
    have hm := L.fr _ (PySem.mem_of_lookup e) rfl
    rw [← hn] at hm
    obtain ⟨x, hx, rfl⟩ := List.mem_map.mp hm
    obtain ⟨i, hi⟩ := List.getElem?_of_mem hx
    exact ⟨x.2, lookup_at nd1 hi⟩
  have fsn : ∀ b ∈ frs outer, b ∉ cl.map (·.2) := fun b hb hm => by
    obtain ⟨o, u, e, _⟩ := C.mem hm
    rw [e0.frf b hb] at e
    cases e
  have pk : PinsK H s.heap (frs outer) (cl.map (·.2)) := fun a ha => by
    obtain ⟨o, u, e, _⟩ := C.mem ha
    exact ⟨o, e, pin_get e0.hok e, fun z => fsn a z ha⟩
  refine ⟨⟨e0.mod, L.kind, rfl, rfl, Nat.le_refl _, fun y z c e1 e2 => ?_, fun y hy => ?_, fun y c z _ => ?_, fun _ => hd, Around.frames_deeper e0.frames, .inr ⟨rfl, rfl⟩, fun b z => absurd z (noA b), fun b o z => ⟨(e0.bs b o z).1, hideC_none (e0.bs b o z).2⟩, e0.bsz, fun b _ _ => noA b,
      fun b z => absurd z (noA b), e0.funs, fun b z => hideC_none (e0.frf b z)⟩,
    rfl, e0.bare, Un.kept kp, ⟨_, hns, fun i y v e1 e2 e3 => ?_⟩, fun y c e => ?_, hideC_none (e0.hok.fresh (Nat.le_refl _)), fun y c e => hideC_in (List.mem_map.mpr ⟨_, look e, rfl⟩), fun q hq => absurd (show q ∈ ([] : List (Addr × Obj)) ++ [] from hq) (by simp), (hok_hide e0.hok pk).kept kp, ?_⟩
  · -- a name by its cell
    have m1 := look e1
    have m2 := look e2
    obtain ⟨i, hi⟩ := List.getElem?_of_mem m1
    obtain ⟨j, hj⟩ := List.getElem?_of_mem m2
    have hi2 : (cl.map (·.2))[i]? = some c := by rw [List.getElem?_map, hi]; rfl
    have hj2 : (cl.map (·.2))[j]? = some c := by rw [List.getElem?_map, hj]; rfl
    have hil := (List.getElem?_eq_some_iff.mp hi2).1
    have hjl := (List.getElem?_eq_some_iff.mp hj2).1
    have eij : i = j := by
      refine (List.getElem_inj (i := i) (j := j) (h₀ := hil) (h₁ := hjl) nda).mp ?_
      have a1 := (List.getElem?_eq_some_iff.mp hi2).2
      have a2 := (List.getElem?_eq_some_iff.mp hj2).2
      rw [a1, a2]
    subst eij
    rw [hi] at hj
    cases hj
    rfl
  · have hy : k.scope.names.lookup y = some .cell ∨ k.scope.names.lookup y = some .free := hy
    rcases hy with hy | hy
    · exact absurd rfl (L.ncell _ (PySem.mem_of_lookup hy))
    · exact has y hy
  · have z : false = true := z
    cases z
  · -- the slots
    have e1 : nms[i]? = some y := e1
    rw [← hn, List.getElem?_map] at e1
    cases hx : cl[i]? with
    | none => rw [hx] at e1; cases e1
    | some x =>
      rw [hx] at e1
      cases e1
      have hz : zs[i]? = some v := by
        rw [List.getElem?_map] at e2
        cases q : zs[i]? with
        | none => rw [q] at e2; cases e2
        | some z => rw [q] at e2; cases e2; rfl
      obtain ⟨o, u, a1, a2, a3⟩ := C.at_ i x v hx hz
      have hk : k.scope.names.lookup x.1 = some .free := L.look _ (by rw [← hn]; exact List.mem_map.mpr ⟨x, List.mem_of_getElem? hx, rfl⟩)
      exact ⟨u, a3, .inr ⟨.inr hk, x.2, lookup_at nd1 hx, o, kp _ _ (pin_get e0.hok a1), a2⟩⟩
  · obtain ⟨o, u, a1, a2⟩ := C.mem (List.mem_map.mpr ⟨_, look e, rfl⟩)
    exact ⟨some u, o, kp _ _ (pin_get e0.hok a1), a2⟩
  · rw [List.length_map, C.len, ← List.length_map (f := (·.1)) (as := cl), hn]
    rfl
/-- the call of a lambda, from any context -/
theorem lam_run {dV pm ct : Value} {Q : VK} {tb : TE} (L : LamSc k nms) (hn : cl.map (·.1) = nms) (nda : (cl.map (·.2)).Nodup) {n : Nat} (hr : Room (n + 1) A) (e0 : Env0 P w K mg base A outer s H) (C : CellsK H cl zs)
    (hf : H f = some (pinO (lamObj k cl dV pm c' ct))) (hc : H c' = some (LamX.CodeO c' k.q)) (hd : dV = .none ∨ ∃ (T : Addr) (n : Int) (t : Tok), dV = .ref T ∧ H T = some (pinO (oneT n t)))
    (hb : (dV = .none → bindArgs (lamFn k cl dV pm (.ref c') ct) ⟨[], []⟩ = pure []) ∧ ∀ (T : Addr) (n : Int) (t : Tok), dV = .ref T → ∃ kk x, bindArgs (lamFn k cl dV pm (.ref c') ct) ⟨[], []⟩ = seqItems? (.ref T) >>= kk ∧ kk (some #[.int n t]) = pure [(x, .int n t)] ∧ k.scope.names.lookup x = some .local)
    (hbody : ∀ (tk : Nat), Room n (A.deeper (PySem.W.envX k.q k.scope s.heap.objs.size f (.ref c') cl)) → PE (lamX P w K mg base k cl nms f c' A outer s (hideC H (cl.map (·.2))) E) k.body tb)
    (ht : tb (zs.map some) (hideC H (cl.map (·.2))) fun v H' => (∀ a ∈ cl.map (·.2), H' a = none) → Q v (showC H' H (cl.map (·.2)))) :
    codeAny (model P w) A (.call (.ref f) ⟨[], []⟩) (CR (L2.CX P w) outer P w H s Q fun cls d H' => ∃ H2, H' = showC H2 H (cl.map (·.2)) ∧ (∀ a ∈ cl.map (·.2), H2 a = none) ∧ E cls d H2) s := by
  have fsn : ∀ b ∈ frs outer, b ∉ cl.map (·.2) := fun b hb hm => by
    obtain ⟨o, u, e, _⟩ := C.mem hm
    rw [e0.frf b hb] at e
    cases e
  have pk : PinsK H s.heap (frs outer) (cl.map (·.2)) := fun a ha => by
    obtain ⟨o, u, e, _⟩ := C.mem ha
    exact ⟨o, e, pin_get e0.hok e, fun z => fsn a z ha⟩
  have lim : s.heap.NoLimit := e0.mod.nolimit.keeps fun b o e => (e0.bs b o e).1
  obtain ⟨⟨oc, vs, t, hoc, hdc, hvc⟩, _, _⟩ := e0.hok c' _ hc
  refine PySem.W.kla_callFunE hr.depth (pin_get e0.hok hf) rfl L.co L.gen rfl ⟨c', oc, vs, t, rfl, hoc, hdc, hvc⟩ ?_
  -- the body, whatever is bound
  have go : ∀ (binds : List (Str × Value)), (∀ x ∈ binds, k.scope.names.lookup x.1 = some .local) → wpAny (model P w) A.in1 (newFunctionEnv k.scope mainGlobals cl binds (k.q ++ ".<locals>.") (some f) (.ref c') none builtinsNs)
      (fun env s₂ => s₂.heap.NoLimit ∧ codeAny (model P w) A (.expr k.body env) (CR (L2.CX P w) outer P w H s Q fun cls d H' => ∃ H2, H' = showC H2 H (cl.map (·.2)) ∧ (∀ a ∈ cl.map (·.2), H2 a = none) ∧ E cls d H2) s₂) (fun e s' => CR (L2.CX P w) outer P w H s Q (fun cls d H' => ∃ H2, H' = showC H2 H (cl.map (·.2)) ∧ (∀ a ∈ cl.map (·.2), H2 a = none) ∧ E cls d H2) (.error e) s') s := fun binds hbl => by
    refine wpAny_newFunctionEnv L.ncell hbl (fun h₁ hns hsb => ⟨lim.fresh _ hsb, ?_⟩) L.kind
    show codeAny _ _ (.expr k.body (PySem.W.envX k.q k.scope s.heap.objs.size f (.ref c') cl)) _ _
    have kp : ∀ b o, s.heap.get? b = some o → h₁.get? b = some o := fun b o e => hsb.extBut b o (Nat.ne_of_lt (Heap.lt_size e)) (Heap.get?_push_of_some _ e)
    have J : Inv (lamX P w K mg base k cl nms f c' A outer s (hideC H (cl.map (·.2))) E) [] (zs.map some) (hideC H (cl.map (·.2))) { s with heap := h₁, toks := s.toks + binds.length } := lam_st L hn nda e0 hr.hd C hns kp
    refine PySem.W.kla_codeExpr (wpAny_mono ((hbody (s.toks + binds.length) (hr.deeper _)).run [] _ _ _ _ J ht) (fun v s' hq => ?_) fun e s' hq => ?_)
    · obtain ⟨v', H', J', rv, q⟩ := hq
      refine ⟨v', showC H' H (cl.map (·.2)), J'.os, J'.bare, un_show (cs := cl.map (·.2)) pk (show Un (frs outer) [] (hideC H (cl.map (·.2))) H' s.heap s'.heap from J'.base), hok_show J'.hok fun a ha => ?_, rv, q fun a ha => ?_⟩
      · obtain ⟨o, e1, e2, e3⟩ := pk a ha
        exact ⟨o, e1, J'.base.keep a o e2 (hideC_in ha) e3 (by exact fun z => nomatch (show a ∈ ([] : List Addr) from z)), J'.base.free a o e2 (hideC_in ha) (by exact fun z => nomatch (show a ∈ ([] : List Addr) from z))⟩
      · obtain ⟨o, e1, e2, e3⟩ := pk a ha
        exact J'.base.free a o e2 (hideC_in ha) (by exact fun z => nomatch (show a ∈ ([] : List Addr) from z))
    · have up : ∀ e1 s1, L2.CX P w outer (hideC H (cl.map (·.2))) s E e1 s1 → L2.CX P w outer H s (fun cls d H' => ∃ H2, H' = showC H2 H (cl.map (·.2)) ∧ (∀ a ∈ cl.map (·.2), H2 a = none) ∧ E cls d H2) e1 s1 := fun e1 s1 x => by
        obtain ⟨a, B, H', cls, d, rfl, fl, hok, ub, na, os, ag, hE⟩ := x
        have kB : ∀ a ∈ cl.map (·.2), ∃ o, H a = some (pinO o) ∧ B.get? a = some o ∧ H' a = none := fun a ha => by
          obtain ⟨o, e1, e2, e3⟩ := pk a ha
          exact ⟨o, e1, ub.keep a o e2 (hideC_in ha) e3, ub.free a o e2 (hideC_in ha)⟩
        have nac : a ∉ cl.map (·.2) := fun z => by
          obtain ⟨o, _, e2, _⟩ := kB a z
          have := fl.2.1
          rw [e2] at this
          cases this
        refine ⟨a, B, showC H' H (cl.map (·.2)), cls, d, rfl, fl, hok_show hok kB, ⟨fun b o q n nf => ub.keep b o q (hideC_none n) nf, ub.slot, fun b o q n => ?_, ub.there, fun b xs q => ?_, fun b o x q => ?_, fun b ps q => ?_⟩, by rw [showC_out nac]; exact na, os, ag, H', rfl, fun a ha => (by obtain ⟨o, _, _, e⟩ := kB a ha; exact e), hE⟩
        · have nb : b ∉ cl.map (·.2) := fun m => pk.some m n
          rw [showC_out nb]; exact ub.free b o q (hideC_none n)
        · have nc : b ∉ cl.map (·.2) := fun m => by obtain ⟨o, e, _⟩ := pk b m; rw [q] at e; exact pinO_ne_tup (Option.some.inj e).symm
          rw [showC_out nc]; exact ub.tups b xs (by rw [hideC_out nc]; exact q)
        · by_cases m : b ∈ cl.map (·.2)
          · rw [showC_in m]; exact q
          · rw [showC_out m]; exact ub.frzs b o x (by rw [hideC_out m]; exact q)
        · have nc : b ∉ cl.map (·.2) := fun m => by obtain ⟨o, e, _⟩ := pk b m; rw [q] at e; exact pinO_ne_tbl (Option.some.inj e).symm
          rw [showC_out nc]; exact ub.tbls b ps (by rw [hideC_out nc]; exact q)
      exact wpAny_mono hq (fun _ s1 x => up _ _ x) fun _ s1 x => up _ _ x
  rcases hd with hd | ⟨T, m, t, hd, hT⟩
  · rw [hb.1 hd]
    exact wpAny_pure (go [] (fun x hx => absurd hx (by simp)))
  · obtain ⟨kk, x, e1, e2, e3⟩ := hb.2 T m t hd
    rw [e1]
    refine wpAny_bind (wpAny_seqItems (pin_get e0.hok hT) rfl ?_)
    rw [e2]
    exact wpAny_pure (go _ (fun y hy => by rw [List.mem_singleton.mp hy]; exact e3))
end
end DL

namespace DL
open PySem PySem.Spec PyProof.Rows L2
theorem tabL_hide {H : Hp} {cs : List Addr} {P : Addr} (k : ∀ a ∈ cs, ∃ o, H a = some (pinO o)) (t : TabL H P) : TabL (hideC H cs) P := by
  obtain ⟨ps, h1, h2, h3⟩ := t
  refine ⟨ps, by rw [hideC_out]; exact h1; intro m; obtain ⟨o, e⟩ := k P m; rw [h1] at e; exact pinO_ne_tbl (Option.some.inj e).symm, h2, fun pos cv hc => ?_⟩
  obtain ⟨c, e1, e2⟩ := h3 pos cv hc
  refine ⟨c, e1, ?_⟩
  rw [hideC_out]
  · exact e2
  · intro m
    obtain ⟨o, e⟩ := k c m
    rw [e2] at e
    have e := Option.some.inj e
    unfold LamX.CodeO pinO at e
    cases e
theorem grow_show {β : Option Addr} {G H G' H2 : Hp} {cs : List Addr} (k : ∀ a ∈ cs, ∃ o, H a = some (pinO o)) (f : ∀ a ∈ cs, H2 a = none) (g : Grow β G (hideC H cs) G' H2) : Grow β G H G' (showC H2 H cs) := by
  have out : ∀ a u, H2 a = some u → a ∉ cs := fun a u e m => by rw [f a m] at e; cases e
  have up : ∀ a u, H2 a = some u → showC H2 H cs a = some u := fun a u e => by rw [showC_out (out a u e)]; exact e
  refine ⟨g.gg, fun a o h n t => ?_, fun a o h t => ?_, fun P t => (g.tb P (tabL_hide k t)).ext up, fun a o h => up a o (g.gh a o h), fun a o h nc n => ?_, fun b e => ?_⟩
  · by_cases m : a ∈ cs
    · rw [showC_in m]; exact h
    · exact up a o (g.hh a o (by rw [hideC_out m]; exact h) n t)
  · by_cases m : a ∈ cs
    · rw [showC_in m, h]; simp
    · rw [showC_out m]; exact g.tn a o (by rw [hideC_out m]; exact h) t
  · have z := g.nw a o h nc n
    rw [hideC_out (out a o (g.gh a o h))] at z
    exact z
  · have B := g.bg b e
    obtain ⟨c', cells, x1, x2, x3, x4, hb, _⟩ := B.is
    exact B.mono (Same.refl G') (showC_out (out b _ hb)) B.out
/-- a lambda that keeps a promise over what it captures -/
structure LamOk (P : Program) (w : World) (K : PySem.W.Frag) (mg : Str → Option Value) (base : Heap) (n : Nat) (k : LamC) (nms : List Str) (sp : SpX) : Prop where
  sc : LamSc k nms
  b0 : ∀ (cl : List (Str × Addr)) (pm cd ct : Value), k.params.defaults = [] → bindArgs (lamFn k cl .none pm cd ct) ⟨[], []⟩ = pure []
  b1 : ∀ (cl : List (Str × Addr)) (T : Addr) (pm cd ct : Value) (i : Int) (t : Tok), k.params.defaults ≠ [] → ∃ kk x, bindArgs (lamFn k cl (.ref T) pm cd ct) ⟨[], []⟩ = seqItems? (.ref T) >>= kk ∧ kk (some #[.int i t]) = pure [(x, .int i t)] ∧ k.scope.names.lookup x = some .local
  body : ∀ (cl : List (Str × Addr)) (f c' : Addr) (A : Around) (outer : List Env) (s : Shared) (H : Hp) (E : XK) (c : Ctx), Room n (A.deeper (PySem.W.envX k.q k.scope s.heap.objs.size f (.ref c') cl)) → TakesC c (lamX P w K mg base k cl nms f c' A outer s H E) →
    ∃ q, PD c (lamX P w K mg base k cl nms f c' A outer s H E) k.body q ∧ ∀ ds Q, sp c.β ds Q c.ξ → q (ds.map Slot.d) Q
end DL
namespace DL
open PySem PySem.Spec PyProof.Rows L2
section
variable {c : Ctx} {X : Cx} {k : LamC} {cl : List (Str × Addr)} {nms : List Str} {zs : List V} {ds : List D} {sp : SpX} {n : Nat} {p pos : Pos} {x : Str}
/-- x(), x a slot that holds a lambda whose cells are known -/
def qLamC (i : Nat) (k : LamC) (cl : List (Str × Addr)) (sp : SpX) (c : Ctx) (ds : List D) : QE := fun ρ Q => ρ[i]? = some (.d (.lmu k cl)) ∧ sp c.β ds Q c.ξ
/-- the cells are known, not frozen -/
structure CellsC (c : Ctx) (cl : List (Str × Addr)) (zs : List V) (ds : List D) : Prop where
  ck : CellsK c.H0 cl zs
  g0 : ∀ a ∈ cl.map (·.2), c.G0 a = none
  nb : ∀ a ∈ cl.map (·.2), some a ≠ c.β
  rp : RepL c.G0 zs ds
theorem CellsC.now {G H : Hp} (C : CellsC c cl zs ds) (co : Core c G H) : CellsK H cl zs ∧ (∀ a ∈ cl.map (·.2), G a = none) ∧ RepL G zs ds := by
  have keep : ∀ a ∈ cl.map (·.2), ∀ o, c.H0 a = some (pinO o) → H a = some (pinO o) := fun a ha o e => co.h0 a _ e (C.nb a ha) nt_frz
  refine ⟨⟨C.ck.len, fun i x v h1 h2 => ?_⟩, fun a ha => ?_, C.rp.mono co.g0⟩
  · obtain ⟨o, u, e1, e2, e3⟩ := C.ck.at_ i x v h1 h2
    exact ⟨o, u, keep _ (List.mem_map.mpr ⟨x, List.mem_of_getElem? h1, rfl⟩) o e1, e2, e3⟩
  · cases q : G a with
    | none => rfl
    | some w =>
      obtain ⟨o, u, e1, _⟩ := C.ck.mem ha
      have e2 := co.gh a w q
      rw [keep a ha o e1] at e2
      cases e2
      have z := co.nw a _ q ⟨nt_frz.2, fun _ z => by cases z⟩ (C.g0 a ha)
      rw [e1] at z
      cases z
theorem bag_hide {β : Option Addr} {G H : Hp} {cs : List Addr} (k : ∀ a ∈ cs, ∃ o, H a = some (pinO o)) (b : ∀ b, β = some b → Bag G H b) : ∀ b, β = some b → Bag G (hideC H cs) b := fun b' e => by
  have B := b b' e
  obtain ⟨c', cells, x1, x2, x3, x4, hb, _⟩ := B.is
  refine B.mono (Same.refl G) (hideC_out fun m => ?_) B.out
  obtain ⟨o, e⟩ := k b' m
  rw [hb] at e
  have e := Option.some.inj e
  unfold pinO at e
  cases e
/-- the call at the machine -/
theorem lam_code {A : Around} {outer : List Env} {s : Shared} {β : Option Addr} {G H : Hp} {f : Addr} {Q ξ : D → Prop} {R : VK} {E : XK} (LK : LamOk X.prog X.w X.K X.mg X.base n k nms sp) (hn : cl.map (·.1) = nms) (nda : (cl.map (·.2)).Nodup) (hr : Room (n + 1) A) (e0 : Env0 X.prog X.w X.K X.mg X.base A outer s H)
    (rf : Rep G (.ref f) (.lmu k cl)) (gh : Ex G H) (bg : ∀ b, β = some b → Bag G H b) (C : CellsK H cl zs) (g0 : ∀ a ∈ cl.map (·.2), G a = none) (rz : RepL G zs ds) (hs : sp β ds Q ξ)
    (kq : ∀ v d G' H', Grow β G H G' H' → Rep G' v d → Q d → R v H') (kx : ∀ C dx fvs fs G' H', Grow β G H G' H' → G' dx = some (.xd fvs) → RepF G' fvs fs → ξ (.exc C fs) → E (.ref C) (some dx) H') :
    codeAny (model X.prog X.w) A (.call (.ref f) ⟨[], []⟩) (CR (L2.CX X.prog X.w) outer X.prog X.w H s R E) s := by
  cases rf with
  | @lmu _ c' dV pm ct _ _ hf hc hd =>
    have pk : ∀ a ∈ cl.map (·.2), ∃ o, H a = some (pinO o) := fun a ha => by
      obtain ⟨o, u, e, _⟩ := C.mem ha
      exact ⟨o, e⟩
    have gh' : Ex G (hideC H (cl.map (·.2))) := fun a o e => by
      rw [hideC_out (fun m => by rw [g0 a m] at e; cases e)]
      exact gh a o e
    let cx : Ctx := ⟨β, G, hideC H (cl.map (·.2)), ξ⟩
    let E1 : XK := wishC cx
    have tk : TakesC cx (lamX X.prog X.w X.K X.mg X.base k cl nms f c' A outer s (hideC H (cl.map (·.2))) E1) := takes_of rfl rfl rfl rfl
    have hb0 := bag_hide pk bg
    obtain ⟨q, pd, hq⟩ := LK.body cl f c' A outer s (hideC H (cl.map (·.2))) E1 cx (hr.deeper _) tk
    obtain ⟨t, pt, sd⟩ := pd.ex
    have hlen : nms.length = zs.length := by rw [← hn, List.length_map, C.len]
    have st : Sta cx G (hideC H (cl.map (·.2))) (zs.map some) (ds.map Slot.d) := by
      have z := sta_start (N := nms) (ξ := ξ) rz gh' hb0
      unfold L2.start startS at z
      rw [hlen, Nat.sub_self, rz.1, Nat.sub_self] at z
      simpa using z
    refine codeAny_mono (lam_run (E := E1) (Q := R) (tb := t) LK.sc hn nda hr e0 C (gh _ _ hf) (gh _ _ hc) (hd.imp (fun z => z.1) fun ⟨T, m, t, e, q⟩ => ⟨T, m, t, e.1, gh _ _ q⟩) ⟨fun e => ?_, fun T m t e => ?_⟩ (fun _ _ => pt) ?_) fun r s' z => ?_
    · subst e
      refine LK.b0 _ _ _ _ ?_
      rcases hd with hd | ⟨T, m, t, hd, _⟩
      · exact hd.2
      · cases hd.1
    · subst e
      refine LK.b1 _ _ _ _ _ _ _ ?_
      rcases hd with hd | ⟨T, m, t, hd, _⟩
      · cases hd.1
      · exact hd.2
    · exact sd _ _ G _ _ _ st (hq ds Q hs) fun v d G' H' g r hQ hno => kq v d G' _ (grow_show pk hno g) r hQ
    · cases r with
      | ok fl => cases fl <;> exact z
      | error e =>
        obtain ⟨a, B, H', cls, d, e1, fl, hok, ub, na, os, ag, H2, rfl, hno, C', dx, fvs, fs, G', rfl, rfl, co, e2, e3, e4⟩ := z
        exact ⟨a, B, _, _, _, e1, fl, hok, ub, na, os, ag, kx C' dx fvs fs G' _ (grow_show pk hno co.grows) e2 e3 e4⟩
theorem dlamc (i : Nat) {m : Nat} (LK : LamOk X.prog X.w X.K X.mg X.base n k nms sp) (hn : cl.map (·.1) = nms) (nda : (cl.map (·.2)).Nodup) (C : CellsC c cl zs ds) (tk : TakesC c X) (hr : Room m X.A) (hm : n + 1 ≤ m) (hN : X.N[i]? = some x := by rfl)
    (hv : Vis X.env.scope x := by first | exact Or.inl rfl | exact Or.inr (Or.inl rfl) | exact Or.inr (Or.inr rfl)) (hd : (x == ("__debug__" : Str)) = false := by decide) (hcd : (x == ("__classdict__" : Str)) = false := by decide) :
    PD c X (.Call (.Name x p) [] [] pos) (qLamC i k cl sp c ds) := by
  refine ⟨fun σ H R => ∃ (ρ : List Slot) (G : Hp) (Q : D → Prop), Sta c G H σ ρ ∧ qLamC i k cl sp c ds ρ Q ∧ ∀ v d G' H', Grow c.β G H G' H' → Rep G' v d → Q d → R v H', ⟨fun pins s σ H R I h => ?_⟩, fun ρ σ G H Q R s h k => ⟨ρ, G, Q, s, h, k⟩⟩
  obtain ⟨ρ, G, Q, st, ⟨e, hs⟩, kq⟩ := h
  obtain ⟨v, hv1, rv⟩ := st.sl i _ e
  obtain ⟨C1, C2, C3⟩ := C.now st.core
  refine wpAny_Call_Name_kw (thn ((pe_var (pos := p) (i := i) hN hv hd hcd).run pins s σ H (fun v' H1 => v' = v ∧ H1 = H) I ⟨v, hv1, rfl, rfl⟩) fun u s1 ⟨v', H1, I1, r1, q1⟩ => ?_)
  obtain ⟨ev, eH⟩ := q1
  subst ev eH
  have rv0 := rv
  cases rv with
  | @lmu f c' dV pm ct _ _ hf hc hdv =>
    obtain rfl : u = Value.ref f := r1
    refine PySem.W.callWith_F0 ⟨_, _, _, _, pin_get I1.hok (st.core.gh _ _ hf)⟩ ?_
    refine wpAny_call (codeAny_mono (lam_code (X := X) (E := wishC c) LK hn nda (hr.mono hm) I1.env0 rv0 st.core.gh st.core.bg C1 C2 C3 hs kq fun C' dx fvs fs G' H' g e2 e3 e4 => wish_of st.core g e2 e3 e4) fun r s' hq => ?_)
    cases r with
    | error e => exact tk.pass pins σ _ s1 e s' I1 hq
    | ok fl =>
      cases fl with
      | ret u => exact I1.after hq
      | next => exact False.elim hq
      | brk => exact False.elim hq
      | cont => exact False.elim hq
end
end DL

/-! ### try: .. except (A, B, C) as n: return .. -/
namespace DL
open PySem PySem.Spec PyProof.Rows L2
/-- what the clause wishes: the classes take it, and the suite returns -/
def wTup (K : PySem.W.Frag) (cs : List Value) (i : Nat) (ts : Addr → Value → Option Addr → TS) (D' : Ends) : WX := fun cls d σ H =>
  PySem.W.exmAny K cls cs = some true ∧ ∀ a, H a = none → ts a cls d { nx := fun _ _ => False, rt := D'.rt, bk := fun _ _ => False, ct := fun _ _ => False } (σ.set i (some (.ref a))) H
theorem flying_kept {B : Heap} {l : List Env} {a : Addr} {Z : Obj → Prop} {h h' : Heap} (f : HandSPX.FlyingZ B l a Z h) (k : ∀ b o, h.get? b = some o → h'.get? b = some o) : HandSPX.FlyingZ B l a Z h' := by
  obtain ⟨f1, f2, f3, oe, vs, T, oT, ts, e1, e2, e3, e4, e5, e6, e7, e8, e9⟩ := f
  exact ⟨fun b o e => k b o (f1 b o e), f2, f3.of_keeps fun b o e _ => ⟨o, k b o e, rfl⟩, oe, vs, T, oT, ts, k _ _ e1, e2, e3, e4, e5, e6, k _ _ e7, e8, e9⟩
section
variable {X : Cx} {x1 x2 x3 n : Str} {c1 c2 c3 : Value} {i kk : Nat} {body suite : List Stmt} {st0 : Stmt} {p1 p2 p3 p4 pos pos' : Pos} {tb : WX → TS} {ts : Addr → Value → Option Addr → TS}
theorem ps_tryT (hs : X.stack = X.env :: X.outer) (hf : X.env.frame = some X.env.locals) (hN : X.N.Nodup) (hi : X.N[i]? = some n) (hln : X.env.kindOf n = some .local) (n1 : Names X x1 c1) (n2 : Names X x2 c2) (n3 : Names X x3 c3)
    (hb : ∀ (W : WX) (pn : List (Addr × Obj)) (xe : Value → Shared → Prop), Takes (X.tr pn xe) W → PSs (X.tr pn xe) body (tb W))
    (hsu : ∀ (a : Addr) (oe : Obj) (cls : Value) (d : Option Addr) (pn : List (Addr × Obj)), Zc cls d oe → (∃ vs, oe.data = .fields vs) → PSs (X.suite a ((a, oe) :: pn)) (st0 :: suite) (ts a cls d)) :
    PS X (.Try body [.ExceptHandler (some (.Tuple [.Name x1 p1, .Name x2 p2, .Name x3 p3] kk p4)) (some n) (st0 :: suite) pos'] [] [] pos) (fun D' σ H => tb (wTup X.K [c1, c2, c3] i ts D') D' σ H) := by
  refine ⟨fun pins s σ H D' I h => ?_⟩
  have ok := I.ok
  have fr : X.A.frames = some (X.env :: X.outer) := by rw [ok.frames, hs]
  refine wpAny_Try_except (wpAny_mono ((hb (wTup X.K [c1, c2, c3] i ts D') (X.pn ++ pins) _ (fun u s' xx => ?_)).run [] s σ H D' (I.toTry _) h) (fun f s1 z => ?_) (fun e s1 he => he))
  · obtain ⟨a, B, sI, pins', σ', H', cls, d, rfl, J', nb, up, sky, na, os, ag, hm, hyes⟩ := xx
    have J : Inv X pins σ' H' sI := J'.ofTry ok
    rw [hs] at sky
    show wpAny (model X.prog X.w) X.A (noteFrame (.ref a) X.env) _ _ _
    refine Sky.land Zc.steady fr hf sky fun h3 fl3 up3 => ?_
    have J3 : Inv X pins σ' H' { s' with heap := h3 } := J.landed nb fl3.1 (up.trans up3) os ag
    obtain ⟨oe3, vs3, he3, hz3, hd3⟩ := fl3.there
    have nfr : a ∉ frs (X.env :: X.outer) := fun m => by
      obtain ⟨_, o', e', hnf⟩ := fl3.2.2.1.mem m
      rw [he3] at e'
      cases e'
      exact hnf _ hd3
    have nL : a ≠ X.env.locals := fun z => nfr (List.mem_filterMap.mpr ⟨X.env, List.mem_cons_self, by rw [hf, z]⟩)
    have nF : a ∉ X.fs := fun m => by
      obtain ⟨e, he, q⟩ := List.mem_filterMap.mp m
      exact nfr (List.mem_filterMap.mpr ⟨e, List.mem_cons_of_mem _ he, q⟩)
    have S3 := J3.suite he3 hd3 na nL nF
    refine wpAny_handleBy_cons (codeAny_handlers_test ?_) (by intro q; cases q)
    have ld : ∀ {y : Str} {c : Value} {q : Pos}, Names X y c → ∀ {Q : Value → Shared → Prop} {E : Value → Shared → Prop}, Q c { s' with heap := h3 } → wpAny (model X.prog X.w) (X.A.mark (some (.ref a))) (eval (.Name y q) X.env) Q E { s' with heap := h3 } := fun {y c q} hc {Q E} z => by
      obtain ⟨hg, hdbg, hm | ⟨hm, hv, hnn⟩⟩ := hc
      · exact ld_glob (X := X.suite a ((a, oe3) :: (X.pn ++ pins))) S3 hg hm z hdbg
      · exact ld_blt (X := X.suite a ((a, oe3) :: (X.pn ++ pins))) S3 hg hm hv z hnn hdbg
    refine wpAny_Tuple (wpAny_items_cons (ld n1 (wpAny_items_cons (ld n2 (wpAny_items_cons (ld n3 (wpAny_items_nil ⟨by size_fits, ?_⟩)))))))
    have kp : ∀ b o, h3.get? b = some o → (h3.push { cls := .type "tuple", data := .seq [c1, c2, c3].toArray }).get? b = some o := fun _ _ z => Heap.get?_push_of_some _ z
    have LT : PySem.W.Looks (model X.prog X.w) h3 (typeOf (.ref a)) cls := fun A Q E s k q => wpAny_typeOf_ref (k _ _ he3) (by rw [hz3.1]; exact q)
    refine (PySem.W.exm_tup3 (M := model X.prog X.w) (J3.kIn.keeps kp) (LT.keeps kp) (Heap.get?_push_size h3 rfl) hm).here ?_
    have fl5 := flying_kept fl3 kp
    refine codeAny_handlers_suite_as (HandSPX.lands_againZ fl5 fun h4 fl4 up4 => ?_)
    have J4 : Inv X pins σ' H' { s' with heap := h4 } := J.landed nb fl4.1 (((up.trans up3).trans (Heap.UpToSlots.of_keeps kp)).trans up4) os ag
    obtain ⟨oe4, vs4, he4, hz4, hd4⟩ := fl4.there
    have S4 := J4.suite he4 hd4 na nL nF
    refine store_ok (X := X.suite a ((a, oe4) :: (X.pn ++ pins))) (v := .ref a) S4 hN hi (.inl hln) rfl (fun s5 S5 => ?_) (.inr hln)
    refine wpAny_mono ((hsu a oe4 cls d (X.pn ++ pins) hz4 ⟨_, hd4⟩).run [] s5 _ H' _ S5 (hyes a na)) (fun f s6 z => ?_) (fun _ _ z => False.elim z)
    cases f with
    | ret u =>
      obtain ⟨v6, σ6, H6, S6, r6, q6⟩ := z
      exact gone_ok (S6.unsuite ok) hN hi hln fun s7 J7 => ⟨_, _, _, J7, r6, q6⟩
    | next => obtain ⟨_, _, _, q6⟩ := z; exact q6.elim
    | brk => obtain ⟨_, _, _, q6⟩ := z; exact q6.elim
    | cont => obtain ⟨_, _, _, q6⟩ := z; exact q6.elim
  · cases f with
    | next => obtain ⟨σ', H', J', q⟩ := z; exact wpAny_execs_nil ⟨σ', H', J'.ofTry ok, q⟩
    | brk => obtain ⟨σ', H', J', q⟩ := z; exact ⟨σ', H', J'.ofTry ok, q⟩
    | cont => obtain ⟨σ', H', J', q⟩ := z; exact ⟨σ', H', J'.ofTry ok, q⟩
    | ret u => obtain ⟨v, σ', H', J', r, q⟩ := z; exact ⟨v, σ', H', J'.ofTry ok, r, q⟩
end
end DL
namespace DL
open PySem PySem.Spec PyProof.Rows L2
/-- an attribute of an exception that is pinned -/
theorem pe_xfP {X : Cx} {a C dx : Addr} {oe : Obj} {e : Expr} {te : TE} {pos : Pos} {n : Str} (hp : (a, oe) ∈ X.pn) (T : XfC X.K C) (hno : PySem.W.findIn X.K (.ref C) n = some none) (hz : Zc (.ref C) (some dx) oe) (hf : ∃ vs, oe.data = .fields vs) (he : PE X e te) (hb : attributeBase e n X.env (eval e X.env) = eval e X.env) :
    PE X (.Attribute e n pos) (fun σ H Q => te σ H fun x H1 => x = .ref a ∧ ∃ (fs : List (Str × V)) (v : V), H1 dx = some (.xd fs) ∧ fs.lookup n = some v ∧ Q v H1) := by
  refine ⟨fun pins s σ H Q I h => ?_⟩
  refine attr_of hb (thn (he.run pins s σ H _ I h) fun u s1 hh => ?_)
  obtain ⟨x, H1, I1, rx, ex, fs, v, ea, l, q⟩ := hh
  subst ex
  obtain rfl : u = Value.ref a := rx
  obtain ⟨ha, _⟩ := I1.pin (a, oe) (List.mem_append_left _ hp)
  obtain ⟨vs, hd⟩ := hf
  obtain ⟨mA, hns, hr⟩ := (I1.hok dx _ ea : ObjOk X.prog X.w H1 s1.heap dx (.xd fs))
  obtain ⟨od, ho, hl⟩ := lookIn_ns hns
  obtain ⟨u, hu, ru⟩ := RelO.some_of (v := v) (o := mA n) (by rw [← l]; exact hr n)
  have J : PySem.W.InstAt s1.heap a oe C (some od) := ⟨ha, hz.1, by unfold PySem.W.notCls; rw [hd] <;> rfl, by rw [hz.2]; exact ho⟩
  exact HandSPX.exc_get I1.kIn J T.ga T.gg T.exC (PySem.W.findObj_own T.hdC hno rfl (by rw [hl, hu])) (handed_of ru) ⟨v, H1, I1.tok _, ru, q⟩
/-- what stands in the context of a pinned exception -/
structure ExcIn (c : Ctx) (dx : Addr) (fs : List (Str × D)) : Prop where
  ex : ∃ fvs, c.G0 dx = some (.xd fvs) ∧ RepF c.G0 fvs fs
section
variable {c : Ctx} {X : Cx} {a C dx : Addr} {oe : Obj} {x n : Str} {p pos : Pos} {fs : List (Str × D)}
def qXf (i : Nat) (a : Addr) (fs : List (Str × D)) (n : Str) : QE := fun ρ Q => ρ[i]? = some (.raw (.ref a)) ∧ ∃ d, fs.lookup n = some d ∧ Q d
theorem dxf (i : Nat) (hp : (a, oe) ∈ X.pn) (T : XfC X.K C) (hno : PySem.W.findIn X.K (.ref C) n = some none) (hz : Zc (.ref C) (some dx) oe) (hf : ∃ vs, oe.data = .fields vs) (E : ExcIn c dx fs) (hN : X.N[i]? = some x := by rfl)
    (hv : Vis X.env.scope x := by first | exact Or.inl rfl | exact Or.inr (Or.inl rfl) | exact Or.inr (Or.inr rfl)) (hd : (x == ("__debug__" : Str)) = false := by decide) (hcd : (x == ("__classdict__" : Str)) = false := by decide)
    (hb : attributeBase (.Name x p) n X.env (eval (.Name x p) X.env) = eval (.Name x p) X.env := by rfl) : PD c X (.Attribute (.Name x p) n pos) (qXf i a fs n) := by
  refine ⟨_, pe_xfP hp T hno hz hf (pe_var hN hv hd hcd) hb, fun ρ σ G H Q R s h k => ?_⟩
  obtain ⟨e, d, hl, hQ⟩ := h
  obtain ⟨fvs, e1, e2⟩ := E.ex
  obtain ⟨v, hv, rv⟩ := RepF.look (RepF.mono s.core.g0 e2) hl
  exact ⟨_, s.sl i _ e, rfl, fvs, v, s.core.gh _ _ (s.core.g0 _ _ e1), hv, k v d G H s.refl rv hQ⟩
end
theorem Sta.setRaw {c : Ctx} {G H : Hp} {σ : L2.St} {ρ : List Slot} {i : Nat} {v : V} (s : Sta c G H σ ρ) : Sta c G H (σ.set i (some v)) (ρ.set i (.raw v)) := by
  refine ⟨s.core, by simp [s.len], fun j sl e => ?_, fun j k b o1 o2 h1 h2 => ?_⟩
  · rw [List.getElem?_set] at e ⊢
    by_cases q : i = j
    · rw [if_pos q] at e ⊢
      split at e
      · rename_i hl
        cases e
        rw [if_pos (by rw [s.len]; exact hl)]
        rfl
      · cases e
    · rw [if_neg q] at e ⊢
      exact s.sl j sl e
  · rw [List.getElem?_set] at h1 h2
    split at h1
    · split at h1 <;> cases h1
    · split at h2
      · split at h2 <;> cases h2
      · exact s.dj j k b _ _ h1 h2
/-- nothing is told of the slots -/
theorem sta_un {c : Ctx} {G H : Hp} {σ : L2.St} {n : Nat} (k : Core c G H) (h : σ.length = n) : Sta c G H σ (List.replicate n .un) := by
  refine ⟨k, by simp [h], fun i s e => ?_, fun i j a o1 o2 h1 _ => ?_⟩
  · rw [List.getElem?_replicate] at e
    split at e
    · cases e; trivial
    · cases e
  · rw [List.getElem?_replicate] at h1
    split at h1
    · cases h1
    · cases h1
theorem Takes.impL {X : Cx} {W W' : WX} (t : Takes X W) (h : ∀ c d σ H, σ.length = X.N.length → W' c d σ H → W c d σ H) : Takes X W' := fun u s' ⟨a, B, sI, pins, σ, H, cls, d, e, I, nb, up, sky, na, os, ag, w⟩ =>
  t u s' ⟨a, B, sI, pins, σ, H, cls, d, e, I, nb, up, sky, na, os, ag, h _ _ _ _ I.len w⟩
/-- the run goes on in a context of its own, from here on -/
def Ctx.at (c : Ctx) (G H : Hp) (ξ : D → Prop) : Ctx := ⟨c.β, G, H, ξ⟩
theorem Core.here {c : Ctx} {G H : Hp} {ξ : D → Prop} (k : Core c G H) : Core (c.at G H ξ) G H :=
  ⟨Same.refl _, fun a o h _ _ => h, fun a o h _ => by rw [show H a = _ from h]; simp, fun _ h => h, fun a o h _ n => absurd (h.symm.trans n) (by simp), k.gh, k.bg, fun b e => (k.bg b e).th⟩
theorem Core.back {c : Ctx} {G H G' H' : Hp} {ξ : D → Prop} (k : Core c G H) (k' : Core (c.at G H ξ) G' H') : Core c G' H' := k.grow (Core.grows k')
def noOwn (ρ : List Slot) : Prop := ∀ (i : Nat) (a : Addr) (o : Ob), ρ[i]? ≠ some (.own a o)
theorem Sta.here {c : Ctx} {G H : Hp} {σ : L2.St} {ρ : List Slot} {ξ : D → Prop} (s : Sta c G H σ ρ) (n : noOwn ρ) : Sta (c.at G H ξ) G H σ ρ := ⟨s.core.here, s.len, fun i sl e => by
  have z := s.sl i sl e
  cases sl with
  | un => trivial
  | d x => exact z
  | raw v => exact z
  | own a o => exact absurd e (n i a o), s.dj⟩
theorem Sta.back {c : Ctx} {G H G' H' : Hp} {σ : L2.St} {ρ : List Slot} {ξ : D → Prop} (k : Core c G H) (s : Sta (c.at G H ξ) G' H' σ ρ) : Sta c G' H' σ ρ := ⟨k.back s.core, s.len, fun i sl e => by
  have z := s.sl i sl e
  cases sl with
  | un => trivial
  | d x => exact z
  | raw v => exact z
  | own a o =>
    obtain ⟨z1, z2, z3, z4⟩ := z
    refine ⟨z1, z2, k.fr z3, ?_⟩
    cases o with
    | lst xs => exact z4
    | ins C dx fs =>
      obtain ⟨y1, y2, y3⟩ := z4
      exact ⟨y1, k.fr y2, y3⟩
    | dK kvs => exact z4
    | dT kvs => exact z4, s.dj⟩
theorem Fits.here {c : Ctx} {G H : Hp} {Φ : En} {D' : Ends} {ξ : D → Prop} (k : Core c G H) (f : Fits c G Φ D') : Fits (c.at G H ξ) G Φ D' :=
  ⟨fun ρ σ G' H' x s h => f.nx ρ σ G' H' x (Sta.back k s) h, fun v d ρ σ G' H' x s r h => f.rt v d ρ σ G' H' x (Sta.back k s) r h, fun ρ σ G' H' x s h => f.bk ρ σ G' H' x (Sta.back k s) h, fun ρ σ G' H' x s h => f.ct ρ σ G' H' x (Sta.back k s) h, fun a vs ds ρ σ G' H' x s h0 ga hh r h => f.rn a vs ds ρ σ G' H' x (Sta.back k s) (k.fr h0) ga hh r h⟩
section
variable {c : Ctx} {X : Cx} {x1 x2 x3 n : Str} {c1 c2 c3 : Value} {kk : Nat} {body suite : List Stmt} {st0 : Stmt} {p1 p2 p3 p4 pos pos' : Pos} {qb : (D → Prop) → QS} {qs : Addr → Addr → List (Str × D) → QS}
/-- what an exception of the body must be, and what the suite then returns -/
def tryX (K : PySem.W.Frag) (cs : List Value) (i m : Nat) (FC : Addr → Prop) (qs : Addr → Addr → List (Str × D) → QS) (Q : D → Prop) : D → Prop
  | .exc C fs => FC C ∧ PySem.W.exmAny K (.ref C) cs = some true ∧ ∀ a, qs a C fs ((List.replicate m .un).set i (.raw (.ref a))) { nx := fun _ => False, rt := fun d _ => Q d }
  | _ => False
def qTryT (K : PySem.W.Frag) (cs : List Value) (i m : Nat) (FC : Addr → Prop) (qb : (D → Prop) → QS) (qs : Addr → Addr → List (Str × D) → QS) : QS := fun ρ Φ => noOwn ρ ∧ ∃ Q : D → Prop, (∀ d, Q d → ∀ ρ', Φ.rt d ρ') ∧ qb (tryX K cs i m FC qs Q) ρ Φ
theorem stryT (i : Nat) (FC : Addr → Prop) (hs : X.stack = X.env :: X.outer) (hf : X.env.frame = some X.env.locals) (hN : X.N.Nodup) (hi : X.N[i]? = some n) (hln : X.env.kindOf n = some .local) (n1 : Names X x1 c1) (n2 : Names X x2 c2) (n3 : Names X x3 c3)
    (hb : ∀ (c' : Ctx) (pn : List (Addr × Obj)) (xe : Value → Shared → Prop), c'.β = c.β → Core c c'.G0 c'.H0 → TakesC c' (X.tr pn xe) → PDB c' (X.tr pn xe) body (qb c'.ξ))
    (hsu : ∀ (c' : Ctx) (a C dx : Addr) (fs : List (Str × D)) (oe : Obj) (pn : List (Addr × Obj)), FC C → ExcIn c' dx fs → Zc (.ref C) (some dx) oe → (∃ vs, oe.data = .fields vs) → PDB c' (X.suite a ((a, oe) :: pn)) (st0 :: suite) (qs a C fs)) :
    PDS c X (.Try body [.ExceptHandler (some (.Tuple [.Name x1 p1, .Name x2 p2, .Name x3 p3] kk p4)) (some n) (st0 :: suite) pos'] [] [] pos) (qTryT X.K [c1, c2, c3] i X.N.length FC qb qs) := by
  -- the suite's reading, whatever the exception is
  let ts : Addr → Value → Option Addr → TS := fun a cls d D' σ H => ∃ (c' : Ctx) (C dx : Addr) (fs : List (Str × D)) (G : Hp) (ρ : List Slot) (Φ : En), cls = .ref C ∧ d = some dx ∧ FC C ∧ ExcIn c' dx fs ∧ Sta c' G H σ ρ ∧ qs a C fs ρ Φ ∧ Fits c' G Φ D'
  refine ⟨fun D' σ H => ∃ (ρ : List Slot) (G : Hp) (Φ : En), Sta c G H σ ρ ∧ qTryT X.K [c1, c2, c3] i X.N.length FC qb qs ρ Φ ∧ Fits c G Φ D', ⟨fun pins s σ H D' I h => ?_⟩, fun ρ σ G H Φ D' st h f => ⟨ρ, G, Φ, st, h, f⟩⟩
  obtain ⟨ρ, G, Φ, st, ⟨hno, Q, hQ, hq⟩, f⟩ := h
  have key := ps_tryT (X := X) (i := i) (n := n) (body := body) (suite := suite) (st0 := st0) (p1 := p1) (p2 := p2) (p3 := p3) (p4 := p4) (pos := pos) (pos' := pos') (kk := kk) (ts := ts)
    (tb := fun W D' σ H => ∀ (pn : List (Addr × Obj)) (xe : Value → Shared → Prop), Takes (X.tr pn xe) W → ∃ t', PSs (X.tr pn xe) body t' ∧ t' D' σ H) hs hf hN hi hln n1 n2 n3
    (fun W pn xe tk => ⟨fun pins s σ H D' I h => by
      obtain ⟨t', p', h'⟩ := h pn xe tk
      exact p'.run pins s σ H D' I h'⟩)
    (fun a oe cls d pn hz hfl => ⟨fun pins s σ H D' I h => by
      obtain ⟨c', C, dx, fs, G, ρ, Φ, rfl, rfl, hfc, he, st, hq, f⟩ := h
      obtain ⟨t, pt, sd⟩ := (hsu c' a C dx fs oe pn hfc he hz hfl).ex
      exact pt.run pins s σ H D' I (sd ρ σ G H Φ D' st hq f)⟩)
  refine key.run pins s σ H D' I fun pn xe tk => ?_
  have tkc : TakesC (c.at G H (tryX X.K [c1, c2, c3] i X.N.length FC qs Q)) (X.tr pn xe) := by
    refine Takes.impL tk fun cls d σ1 H1 hl z => ?_
    obtain ⟨C, dx, fvs, fs, G1, rfl, rfl, co, e1, e2, hfc, hex, hr⟩ := z
    refine ⟨hex, fun a ha => ?_⟩
    have co1 := st.core.back co
    refine ⟨c.at G1 H1 fun _ => False, C, dx, fs, G1, (List.replicate X.N.length .un).set i (.raw (.ref a)), { nx := fun _ => False, rt := fun d _ => Q d }, rfl, rfl, hfc, ⟨fvs, e1, e2⟩, Sta.setRaw (sta_un co1.here hl), hr a, ⟨fun _ _ _ _ _ _ h => h.elim, fun v d ρ' σ' G' H' x s' r hd => ?_, fun _ _ _ _ _ _ h => h.elim, fun _ _ _ _ _ _ h => h.elim, fun _ _ _ _ _ _ _ _ _ _ _ _ _ h => h.elim⟩⟩
    exact f.rt v d ρ' σ' G' H' (co.g0.trans x) (Sta.back co1 s') r (hQ d hd ρ')
  obtain ⟨t, pt, sd⟩ := (hb (c.at G H (tryX X.K [c1, c2, c3] i X.N.length FC qs Q)) pn xe rfl st.core tkc).ex
  exact ⟨t, pt, sd ρ σ G H Φ D' (st.here hno) hq (f.here st.core)⟩
end
end DL

/-! ### the law's look at what was raised -/
namespace DL
open PySem PySem.Spec PyProof.Rows L2
/-- what the text has of an error's class, for its attributes -/
structure ErT (K : PySem.W.Frag) (C : Addr) : Prop where
  xf : XfC K C
  n_code : PySem.W.findIn K (.ref C) "code" = some none
  n_at : PySem.W.findIn K (.ref C) "at" = some none
  n_most : PySem.W.findIn K (.ref C) "most" = some none
  n_name : PySem.W.findIn K (.ref C) "name" = some none
  n_line : PySem.W.findIn K (.ref C) "line" = some none
  n_given : PySem.W.findIn K (.ref C) "given" = some none
def errOne : List (Str × Str) := [("InvalidRatio", "given"), ("InvalidGoods", "given"), ("InvalidOrder", "given"), ("InvalidBundle", "given"), ("InvalidWorth", "given"), ("InvalidPrices", "given"), ("InvalidSupply", "given"), ("InvalidGood", "given"), ("InvalidName", "given"), ("InvalidBuyer", "given"), ("InvalidLimit", "given"), ("UnknownDirection", "given"),
  ("InvalidDirection", "at"), ("InvalidPair", "at"), ("InvalidBuyers", "at"), ("InvalidPurchase", "at"), ("InvalidCommand", "at"), ("NotOfBook", "at"), ("TooMany", "most"), ("Full", "most"), ("DuplicateName", "name"), ("UnknownName", "name"), ("InvalidText", "line")]
def errNone : List Str := ["Unlike", "LastOne", "Endless", "NotWhole", "OutOfReach", "NotCleared", "NoBuyers", "NothingLeft"]
def sp_field (fs : List (Str × D)) (Q : D → Prop) : Prop := (∃ p code d, (code, p) ∈ errOne ∧ fs = [(p, d), (("code" : Str), D.str code)] ∧ Q (.tup [d])) ∨ ∃ code ∈ errNone, fs = [(("code" : Str), D.str code)] ∧ Q (.tup [])
/-- a def that is handed the exception which is handled -/
def HotF (P : Program) (w : World) (K : PySem.W.Frag) (mg : Str → Option Value) (base : Heap) (k : Nat) (x : Str) (sp : List (Str × D) → (D → Prop) → Prop) : Prop :=
  ∃ (p0 : Str) (st : Stmt) (N : List Str) (f : Addr) (fd : FuncData), Fun K x x st f fd ∧ mg x = some (.ref f) ∧ Binds K fd [p0] [] ∧ FnScope N [p0] (defScope st) ∧
    ∀ (cdv : Value) (A : Around) (outer : List Env) (s : Shared) (H : Hp) (c : Ctx) (a C dx : Addr) (oe : Obj) (fs : List (Str × D)), L2H.RoomH k (A.deeper (envOfC x (defScope st) s.heap.objs.size f cdv)) → ErT K C → ExcIn c dx fs → Zc (.ref C) (some dx) oe → (∃ vs, oe.data = .fields vs) →
      ∃ q, PDB c (L2H.cxH CX0 P w K mg base N x (defScope st) f cdv A outer s H E0 (a, oe)) (defBody st) q ∧ ∀ Q, sp fs Q → q (.raw (.ref a) :: List.replicate (N.length - 1) .un) { nx := fun _ => False, rt := fun d _ => Q d }
section
variable {X : Cx} {pins : List (Addr × Obj)} {σ : L2.St} {H : Hp} {s : Shared}
/-- the run of such a def -/
theorem hot_run {x p0 : Str} {st : Stmt} {N : List Str} {f : Addr} {fd : FuncData} {a : Addr} {oe : Obj} {Q : VK} {k : Nat} (F : Fun X.K x x st f fd) (S : FnScope N [p0] (defScope st)) (hb : Binds X.K fd [p0] []) (I : Inv X pins σ H s) (hp : (a, oe) ∈ X.pn) (hr : L2H.RoomH (k + 1) X.A)
    (hbody : ∀ cdv, L2H.RoomH k (X.A.deeper (envOfC x (defScope st) s.heap.objs.size f cdv)) → ∃ t, PSs (L2H.cxH CX0 X.prog X.w X.K X.mg X.base N x (defScope st) f cdv X.A X.stack s H E0 (a, oe)) (defBody st) t ∧ t { nx := fun _ H' => Q .non H', rt := Q } (L2.start N [.ref a]) H) :
    wpAny (model X.prog X.w) X.A (call (.ref f) [.ref a]) (EP X pins σ Q) X.xe s := by
  obtain ⟨oc, od, kV, doc, pm, an, cdv, ct, osl, rfl, lk, hcd⟩ := F.ex
  have P1 := I.pin (a, oe) (List.mem_append_left _ hp)
  have hpin : L2H.PinOk X.stack H s (a, oe) := ⟨P1.1, P1.2.1, fun hm => (List.mem_cons.mp (I.stkSub a hm)).elim P1.2.2.1 P1.2.2.2.1, P1.2.2.2.2⟩
  have e0 := I.env0
  have KX : X.K.In s.heap := I.kIn
  have lim : s.heap.NoLimit := I.nolimit
  have hkind : ∀ y ∈ [p0].zip [Value.ref a], (defScope st).names.lookup y.1 = some .local ∨ ((defScope st).names.lookup y.1 = some .cell ∧ ((cellsFrom (s.heap.objs.size + 1) (defScope st).names []).lookup y.1).isSome = true) := fun ⟨n, v⟩ hy => by
    rcases S.par n (List.of_mem_zip hy).1 with q | q
    · exact .inl q
    · exact .inr ⟨q, PySem.W.cellsFrom_some _ _ _ (.inl q)⟩
  have b := hb s [.ref a] KX (by rfl)
  have rc : codeAny (model X.prog X.w) X.A (.call (.ref f) ⟨[.ref a], []⟩) (CR CX0 X.stack X.prog X.w H s Q E0) s := by
    refine codeAny_call_function hr.depth (KX _ _ lk) rfl S.co S.gen rfl (PySem.W.codeRec_of KX hcd) (b _ _ _ _ ?_)
    refine wpAny_newFunctionEnv_cells S.kind hkind fun env he s1 x => ?_
    subst he
    refine ⟨lim.keeps x.toInCall.keep, codeAny_func ?_⟩
    obtain ⟨t, ht, hq⟩ := hbody cdv (hr.deeper _)
    have J := L2H.inv_startH (CX := CX0) (E := E0) S hpin e0 (vs := [.ref a]) rfl (.cons rfl .nil) x
    refine wpAny_mono (ht.run [] s1 (L2.start N [.ref a]) H _ J hq) (fun fl s' hs => ?_) fun e s' hs => hs
    cases fl with
    | ret u =>
      obtain ⟨v, σ', H', J, rv, q⟩ := hs
      exact ⟨v, H', J.os, J.bare, J.base, J.hok, rv, q⟩
    | next =>
      obtain ⟨σ', H', J, q⟩ := hs
      exact ⟨V.non, H', J.os, J.bare, J.base, J.hok, rfl, q⟩
    | brk => obtain ⟨_, _, _, q⟩ := hs; exact False.elim q
    | cont => obtain ⟨_, _, _, q⟩ := hs; exact False.elim q
  refine wpAny_call (codeAny_mono rc fun r s' hq => ?_)
  cases r with
  | error e => exact (show False from hq).elim
  | ok fl =>
    cases fl with
    | ret u => exact I.after hq
    | next => exact False.elim hq
    | brk => exact False.elim hq
    | cont => exact False.elim hq
end
section
variable {c : Ctx} {X : Cx} {a C dx : Addr} {oe : Obj} {x y : Str} {p p2 pos : Pos} {fs : List (Str × D)} {k : Nat} {sp : List (Str × D) → (D → Prop) → Prop}
def qHot (i : Nat) (a : Addr) (fs : List (Str × D)) (sp : List (Str × D) → (D → Prop) → Prop) : QE := fun ρ Q => ρ[i]? = some (.raw (.ref a)) ∧ sp fs Q
/-- f(e), e the handled exception -/
theorem dhot (i : Nat) (F : HotF X.prog X.w X.K X.mg X.base k x sp) (hp : (a, oe) ∈ X.pn) (hr : L2H.RoomH (k + 1) X.A) (T : ErT X.K C) (hz : Zc (.ref C) (some dx) oe) (hf : ∃ vs, oe.data = .fields vs) (EI : ExcIn c dx fs) (hN : X.N[i]? = some y := by rfl)
    (hv : Vis X.env.scope y := by first | exact Or.inl rfl | exact Or.inr (Or.inl rfl) | exact Or.inr (Or.inr rfl)) (hd : (y == ("__debug__" : Str)) = false := by decide) (hcd : (y == ("__classdict__" : Str)) = false := by decide)
    (hg : Gl X x := by rfl) (hdb : (x == ("__debug__" : Str)) = false := by decide) (he : starEach [.Name y p2] X.env = (false, eval (.Name y p2) X.env) :: starEach [] X.env := by rfl) (hpl : (backTo pos (starEach [] X.env)).any (·.1) = false := by rfl) :
    PD c X (.Call (.Name x p) [.Name y p2] [] pos) (qHot i a fs sp) := by
  obtain ⟨p0, st, N, f, fd, F, hm, hb, S, body⟩ := F
  refine ⟨fun σ H R => ∃ (ρ : List Slot) (G : Hp) (Q : D → Prop), Sta c G H σ ρ ∧ qHot i a fs sp ρ Q ∧ ∀ v d G' H', Grow c.β G H G' H' → Rep G' v d → Q d → R v H', ⟨fun pins s σ H R I h => ?_⟩, fun ρ σ G H Q R s h k => ⟨ρ, G, Q, s, h, k⟩⟩
  obtain ⟨ρ, G, Q, st1, ⟨e, hs⟩, kq⟩ := h
  have hv1 : σ[i]? = some (some (.ref a)) := st1.sl i _ e
  refine wpAny_Call_Name_kw (ld_glob I hg hm ?_ hdb)
  refine PySem.W.callWith_K (h₀ := X.base) I.ok.mod.kin F.kp (thn ((pa_cons (pe_var (pos := p2) (i := i) hN hv hd hcd) pa_nil he).run pos pins s σ H (fun vs H' => vs = [.ref a] ∧ H' = H) I ⟨.ref a, hv1, rfl, rfl⟩) fun us s1 ⟨vs, H1, I1, r, q1, q2⟩ => ⟨I1.kIn, ?_⟩) he hpl
  subst q1 q2
  obtain ⟨u, us', rfl, ru, r'⟩ : ∃ u us', us = u :: us' ∧ RelV (.ref a) u ∧ us' = [] := by
    cases r with
    | cons h t =>
      cases t with
      | nil => exact ⟨_, [], rfl, h, rfl⟩
  subst r'
  obtain rfl : u = Value.ref a := ru
  refine hot_run F S hb I1 hp hr fun cdv hr' => ?_
  have ec : ExcIn (c.at G H1 fun _ => False) dx fs := by
    obtain ⟨fvs, e1, e2⟩ := EI.ex
    exact ⟨fvs, st1.core.g0 _ _ e1, RepF.mono st1.core.g0 e2⟩
  obtain ⟨q, pb, hq⟩ := body cdv X.A X.stack s1 H1 (c.at G H1 fun _ => False) a C dx oe fs hr' T ec hz hf
  obtain ⟨t, pt, sd⟩ := pb.ex
  have hNl : 1 ≤ N.length := by
    have h2 := congrArg List.length S.pre
    simp at h2
    omega
  have st2 : Sta (c.at G H1 fun _ => False) G H1 (L2.start N [.ref a]) (.raw (.ref a) :: List.replicate (N.length - 1) .un) := by
    have z := Sta.setRaw (i := 0) (v := .ref a) (sta_un (σ := L2.start N [.ref a]) (n := N.length) (Core.here (ξ := fun _ => False) st1.core) (by simp [L2.start]; omega))
    have e1 : (L2.start N [V.ref a]).set 0 (some (.ref a)) = L2.start N [.ref a] := rfl
    have e2 : (List.replicate N.length Slot.un).set 0 (.raw (.ref a)) = .raw (.ref a) :: List.replicate (N.length - 1) .un := by
      obtain ⟨m, hm⟩ : ∃ m, N.length = m + 1 := ⟨N.length - 1, by omega⟩
      rw [hm]
      rfl
    rw [e1, e2] at z
    exact z
  refine ⟨t, pt, sd _ _ G H1 _ _ st2 (hq Q hs) ⟨fun _ _ _ _ _ _ h => h.elim, fun v d ρ' σ' G' H' x s' r hQ => ?_, fun _ _ _ _ _ _ h => h.elim, fun _ _ _ _ _ _ h => h.elim, fun _ _ _ _ _ _ _ _ _ _ _ _ _ h => h.elim⟩⟩
  exact kq v d G' H' (Core.grows s'.core) r hQ
end
end DL

/-! ### defs that are handed lambdas -/
namespace DL
open PySem PySem.Spec PyProof.Rows L2
/-- a lambda, its cells, what they hold -/
structure LamI where
  k : LamC
  cl : List (Str × Addr)
  es : List D
abbrev LamI.d (l : LamI) : D := .lmu l.k l.cl
abbrev SpW := Option Addr → List D → List LamI → (D → Prop) → Prop
def lfW (sp : SpW) : Sp := fun vs H R _ => ∃ (β : Option Addr) (G : Hp) (ds : List D) (Λ : List LamI) (Q : D → Prop), RepL G vs ds ∧ Ex G H ∧ (∀ b, β = some b → Bag G H b) ∧ (∀ l ∈ Λ, ∃ zs, CellsC ⟨β, G, H, fun _ => False⟩ l.cl zs l.es) ∧ sp β ds Λ Q ∧ ∀ v d G' H', Grow β G H G' H' → Rep G' v d → Q d → R v H'
def DnW (P : Program) (w : World) (K : PySem.W.Frag) (mg : Str → Option Value) (base : Heap) (k : Nat) (x : Str) (ps : List Str) (sp : SpW) : Prop :=
  ∃ f fd, FnOk P w K mg base CX0 k f fd ps (lfW sp) ∧ mg x = some (.ref f) ∧ PySem.W.keepIn K (.ref f) = true ∧ Binds K fd ps []
section
variable {P : Program} {w : World} {K : PySem.W.Frag} {mg : Str → Option Value} {base : Heap}
theorem Df.okW {x : Str} {st : Stmt} {N ps : List Str} {k : Nat} {sp : SpW} (F : Df K mg x st ps) (S : FnScope N ps (defScope st)) (hl : ∀ β ds Λ Q, sp β ds Λ Q → ds.length = ps.length)
    (body : ∀ (f : Addr) (cdv : Value) (A : Around) (outer : List Env) (s : Shared) (H : Hp) (E : XK) (c : Ctx) (ds : List D) (Λ : List LamI) (Q : D → Prop), Room k (A.deeper (PyProof.Rows.envOfC x (defScope st) s.heap.objs.size f cdv)) → (∀ l ∈ Λ, ∃ zs, CellsC c l.cl zs l.es) → sp c.β ds Λ Q →
      ∃ q, PDB c (cxOf CX0 P w K mg base N x (defScope st) f cdv A outer s H E).nox (defBody st) q ∧ q (startS N ds) { nx := fun _ => Q .non, rt := fun d _ => Q d }) : DnW P w K mg base (k + 1) x ps sp := by
  obtain ⟨f, fd, F, m, b, _⟩ := F
  refine ⟨f, fd, ?_, m, F.kp, b⟩
  refine F.ok S (fun vs H Q E h => ?_) (fun cdv A outer s H vs R E hr h => ?_)
  · obtain ⟨β, G, ds, Λ, Q, r, _, _, _, h, _⟩ := h
    rw [r.1]; exact hl β ds Λ Q h
  · obtain ⟨β, G, ds, Λ, Q, r, gh, bg, hc, h, kk⟩ := h
    obtain ⟨q, pb, hq⟩ := body f cdv A outer s H E ⟨β, G, H, fun _ => False⟩ ds Λ Q hr hc h
    obtain ⟨t, p, sd⟩ := pb.ex
    refine ⟨t, p, sd _ _ G H _ _ (sta_start r gh bg) hq ⟨fun ρ' σ' G' H' x s' h' => kk .non .non G' H' s'.core.grows .non h', fun v d ρ' σ' G' H' x s' rv h' => kk v d G' H' s'.core.grows rv h', fun _ _ _ _ _ _ h => h.elim, fun _ _ _ _ _ _ h => h.elim, fun _ _ _ _ _ _ _ _ _ _ _ _ _ h => h.elim⟩⟩
end
section
variable {c : Ctx} {X : Cx} {e : Expr} {es : List Expr} {qr : QA} {p pos : Pos}
def qCallW (sp : SpW) (c : Ctx) (Λ : List LamI) (q : QA) : QE := fun ρ Q => q ρ fun ds => sp c.β ds Λ Q
/-- a call from a context in which the cells are known -/
theorem dcW {x : Str} {sp : SpW} {j k : Nat} {ps : List Str} {Λ : List LamI} (F : DnW X.prog X.w X.K X.mg X.base j x ps sp) (hΛ : ∀ l ∈ Λ, ∃ zs, CellsC c l.cl zs l.es) (hr : Room k X.A) (ha : PDA c X (e :: es) qr) (hj : j ≤ k := by decide)
    (hg : Gl X x := by rfl) (hdb : (x == ("__debug__" : Str)) = false := by decide) (he : starEach (e :: es) X.env = (false, eval e X.env) :: starEach es X.env := by rfl) (hpl : (backTo pos (starEach es X.env)).any (·.1) = false := by rfl) : PD c X (.Call (.Name x p) (e :: es) [] pos) (qCallW sp c Λ qr) := by
  obtain ⟨f, fd, F, m, kp, b⟩ := F
  obtain ⟨t, pa, sa⟩ := ha.ex
  refine ⟨_, pe_call F (hr.mono hj) hg m kp b .nil pass0 pa hdb he hpl, fun ρ σ G H Q R s h k => ?_⟩
  refine sa ρ σ G H _ _ s h fun vs ds G1 H1 g1 r1 h1 => ?_
  have s1 := s.grow g1
  rw [List.append_nil]
  refine ⟨c.β, G1, ds, Λ, Q, r1, s1.core.gh, s1.core.bg, fun l hl => ?_, h1, fun v d G' H' g r q => k v d G' H' (g1.trans g s.hb) r q⟩
  obtain ⟨zs, C⟩ := hΛ l hl
  obtain ⟨C1, C2, C3⟩ := C.now s1.core
  exact ⟨zs, C1, C2, C.nb, C3⟩
end
/-! ### the cells of the running def are known to a callee -/
/-- H⁺ knows the cells at cs -/
structure Adopt (X : Cx) (σ : L2.St) (H : Hp) (cs : List Addr) (Hp' : Hp) : Prop where
  out : ∀ b, b ∉ cs → Hp' b = H b
  none : ∀ b ∈ cs, H b = none
  pin : ∀ b ∈ cs, ∃ o v, Hp' b = some (pinO o) ∧ o.data = .cell v
  val : ∀ (j : Nat) (x : Str) (a : Addr) (v : V), X.N[j]? = some x → σ[j]? = some (some v) → X.env.cells.lookup x = some a → a ∈ cs → X.env.kindOf x = some .cell → ∃ o u, Hp' a = some (pinO o) ∧ o.data = .cell (some u) ∧ RelV v u
def tAdopt (X : Cx) (sp : Sp) (cs : List Addr) (t : TA) : TE := fun σ H Q => t σ H fun vs H1 => ∀ H2, Adopt X σ H1 cs H2 → sp vs H2 (fun v H' => Q v (hideC H' cs)) E0
section
variable {X : Cx} {k : Nat} {f : Addr} {fd : FuncData} {ps : List Str} {sp : Sp} {x : Str} {p pos : Pos} {e : Expr} {es : List Expr} {t : TA} {cs : List Addr}
theorem pe_adopt (hfn : X.fn = fun _ => true) (hex : X.ex = []) (hcs : ∀ b ∈ cs, ∃ y, X.env.cells.lookup y = some b) (F : FnOk X.prog X.w X.K X.mg X.base CX0 k f fd ps sp) (hr : Room k X.A) (hg : Gl X x) (hm : X.mg x = some (.ref f)) (hk : PySem.W.keepIn X.K (.ref f) = true) (hb : Binds X.K fd ps [])
    (ha : PA X (e :: es) t) (hdb : (x == ("__debug__" : Str)) = false) (he : starEach (e :: es) X.env = (false, eval e X.env) :: starEach es X.env) (hpl : (backTo pos (starEach es X.env)).any (·.1) = false) :
    PE X (.Call (.Name x p) (e :: es) [] pos) (tAdopt X sp cs t) := by
  refine ⟨fun pins s σ H Q I h => ?_⟩
  refine wpAny_Call_Name_kw (ld_glob I hg hm ?_ hdb)
  refine PySem.W.callWith_K (h₀ := X.base) I.ok.mod.kin hk (thn (ha.run pos pins s σ H _ I h) fun us s1 ⟨vs, H1, I1, r, q⟩ => ⟨I1.kIn, ?_⟩) he hpl
  let H2 : Hp := fun b => if b ∈ cs then (s1.heap.get? b).map pinO else H1 b
  have cell : ∀ b ∈ cs, H1 b = none ∧ ∃ o v, s1.heap.get? b = some o ∧ o.data = .cell v := fun b hb => by
    obtain ⟨y, hy⟩ := hcs b hb
    obtain ⟨v, o, e1, e2⟩ := I1.cell y b hy
    exact ⟨I1.freeC y b hy, o, v, e1, e2⟩
  have above : ∀ b ∈ cs, X.s_0.heap.objs.size ≤ b := fun b hb => by
    obtain ⟨y, hy⟩ := hcs b hb
    exact I1.ok.cab y b (by rw [hfn]) hy
  have H2in : ∀ b ∈ cs, ∀ o, s1.heap.get? b = some o → H2 b = some (pinO o) := fun b hb o e => by
    show (if b ∈ cs then (s1.heap.get? b).map pinO else H1 b) = _
    rw [if_pos hb, e]; rfl
  have H2out : ∀ b, b ∉ cs → H2 b = H1 b := fun b hb => if_neg hb
  have ad : Adopt X σ H1 cs H2 := by
    refine ⟨H2out, fun b hb => (cell b hb).1, fun b hb => ?_, fun j y a v h1 h2 h3 h4 h5 => ?_⟩
    · obtain ⟨_, o, v, e1, e2⟩ := cell b hb
      exact ⟨o, v, H2in b hb o e1, e2⟩
    · obtain ⟨m, hn, hl⟩ := I1.loc
      obtain ⟨u, ru, lk⟩ := hl j y v h1 h2 (.inr (.inl h5))
      rcases lk with ⟨z, _⟩ | ⟨_, c', e1, o, e2, e3⟩
      · rw [h5] at z; cases z
      · rw [h3] at e1
        cases e1
        exact ⟨o, u, H2in a h4 o e2, e3, ru⟩
  have nofr : ∀ b ∈ frs X.stack, b ∉ cs := fun b hb hm => by
    rcases List.mem_cons.mp (I1.stkSub b hb) with z | z
    · obtain ⟨y, hy⟩ := hcs b hm
      exact I1.cne y b hy z
    · obtain ⟨_, o, ho, _⟩ := I1.ok.funs.mem z
      exact absurd (Nat.lt_of_lt_of_le (Heap.lt_size ho) (above b hm)) (Nat.lt_irrefl _)
  have e0 : Env0 X.prog X.w X.K X.mg X.base X.A X.stack s1 H2 := by
    have z := I1.env0
    refine ⟨z.frames, z.mod, fun b o e => ⟨(z.bs b o e).1, ?_⟩, z.bsz, z.funs, fun b hb => ?_, fun b u e => ?_, z.bare⟩
    · rw [H2out]
      · exact (z.bs b o e).2
      · intro hm
        have h1 := Heap.lt_size e
        have h2 := I1.ok.bsz
        exact absurd (Nat.lt_of_lt_of_le (Nat.lt_of_lt_of_le h1 h2) (above b hm)) (Nat.lt_irrefl _)
    · rw [H2out b (nofr b hb)]; exact z.frf b hb
    · by_cases hm : b ∈ cs
      · obtain ⟨_, o, v, e1, e2⟩ := cell b hm
        rw [H2in b hm o e1] at e
        cases e
        exact pin_objok e1
      · rw [H2out b hm] at e
        exact (z.hok b u e).stay (fun _ _ _ y => y) (fun d y => by rw [H2out d (fun m => by rw [(cell d m).1] at y; cases y)]; exact y) fun d xs y => by rw [H2out d (fun m => by rw [(cell d m).1] at y; cases y)]; exact y
  have hq := q H2 ad
  have hl : us.length = ps.length := by rw [← r.length]; exact F.len _ _ _ _ hq
  have b := hb s1 us I1.kIn (by rw [List.append_nil]; exact hl)
  rw [List.append_nil] at b
  refine wpAny_call (codeAny_mono (F.run X.A X.stack s1 H2 ⟨us, []⟩ us vs _ _ hr e0 b r hq) fun rr s' z => ?_)
  cases rr with
  | error e => exact (show False from z).elim
  | ok fl =>
    cases fl with
    | next => exact False.elim z
    | brk => exact False.elim z
    | cont => exact False.elim z
    | ret u =>
      obtain ⟨v, H', os, bare, un, hok, rv, qv⟩ := z
      have keep : ∀ b ∈ cs, ∀ o, s1.heap.get? b = some o → H' b = some (pinO o) := fun b hb o e => un.frzs b o _ (H2in b hb o e)
      have pk : PinsK H' s'.heap (frs X.stack) cs := fun a ha => by
        obtain ⟨_, o, v, e1, e2⟩ := cell a ha
        exact ⟨o, keep a ha o e1, pin_get hok (keep a ha o e1), fun z => nofr a z ha⟩
      refine I1.after ⟨v, hideC H' cs, os, bare, ⟨fun b o e n nf nx => ?_, fun b o e n nf nx => ?_, fun b o e n nx => ?_, fun b o e nx => un.there b o e nx, fun b xs e => ?_, fun b o x e => ?_, fun b qs e => ?_⟩, hok_hide hok pk, rv, qv⟩
      · by_cases hm : b ∈ cs
        · exact pin_get hok (keep b hm o e)
        · exact un.keep b o e (by rw [H2out b hm]; exact n) nf nx
      · exact un.slot b o e (by rw [H2out b (nofr b nf)]; exact n) nf nx
      · by_cases hm : b ∈ cs
        · exact hideC_in hm
        · rw [hideC_out hm]; exact un.free b o e (by rw [H2out b hm]; exact n) nx
      · have hm : b ∉ cs := fun m => by rw [(cell b m).1] at e; cases e
        rw [hideC_out hm]; exact un.tups b xs (by rw [H2out b hm]; exact e)
      · have hm : b ∉ cs := fun m => by rw [(cell b m).1] at e; cases e
        rw [hideC_out hm]; exact un.frzs b o x (by rw [H2out b hm]; exact e)
      · have hm : b ∉ cs := fun m => by rw [(cell b m).1] at e; cases e
        rw [hideC_out hm]; exact un.tbls b qs (by rw [H2out b hm]; exact e)
end
end DL

namespace DL
open PySem PySem.Spec PyProof.Rows L2
theorem grow_unadopt {X : Cx} {σ : L2.St} {β : Option Addr} {G H1 H2 G' H' : Hp} {cs : List Addr} (ad : Adopt X σ H1 cs H2) (g : Grow β G H2 G' H') (gn : ∀ a ∈ cs, G a = none) (nb : ∀ a ∈ cs, some a ≠ β) : Grow β G H1 G' (hideC H' cs) := by
  have out : ∀ a u, H1 a = some u → a ∉ cs := fun a u e m => by rw [ad.none a m] at e; cases e
  have up : ∀ a u, H1 a = some u → H2 a = some u := fun a u e => by rw [ad.out a (out a u e)]; exact e
  have pins : ∀ a ∈ cs, ∃ o, H' a = some (pinO o) := fun a ha => by
    obtain ⟨o, v, e, _⟩ := ad.pin a ha
    exact ⟨o, g.hh a _ e (nb a ha) nt_frz⟩
  have gout : ∀ a o, G' a = some o → a ∉ cs := fun a o e m => by
    obtain ⟨o1, v, e1, _⟩ := ad.pin a m
    have z := g.own e1 nt_frz (fun _ z => by cases z) (nb a m) (gn a m)
    rw [e] at z
    cases z
  refine ⟨g.gg, fun a o h n t => ?_, fun a o h t => ?_, fun P t => tabL_hide pins (g.tb P (t.ext up)), fun a o h => ?_, fun a o h nc n => ?_, fun b e => ?_⟩
  · rw [hideC_out (out a o h)]; exact g.hh a o (up a o h) n t
  · rw [hideC_out (out a o h)]; exact g.tn a o (up a o h) t
  · rw [hideC_out (gout a o h)]; exact g.gh a o h
  · have z := g.nw a o h nc n
    rw [ad.out a (gout a o h)] at z
    exact z
  · have B := g.bg b e
    refine B.mono (Same.refl G') (hideC_out fun m => nb b m e.symm) B.out
/-- the slots of what a lambda captures -/
def slotsL (X : Cx) (ρ : List Slot) : List (Str × Addr) → List D → Prop
  | [], [] => True
  | x :: cl, e :: es => (∃ j : Nat, X.N[j]? = some x.1 ∧ ρ[j]?.bind asD = some e ∧ X.env.cells.lookup x.1 = some x.2 ∧ X.env.kindOf x.1 = some .cell) ∧ slotsL X ρ cl es
  | _, _ => False
theorem slotsL.cells {X : Cx} {σ : L2.St} {H1 H2 G : Hp} {c : Ctx} {ρ : List Slot} {cs : List Addr} (ad : Adopt X σ H1 cs H2) (st : Sta c G H1 σ ρ) : ∀ {cl : List (Str × Addr)} {es : List D}, slotsL X ρ cl es → (∀ x ∈ cl, x.2 ∈ cs) → ∃ zs, CellsK H2 cl zs ∧ RepL G zs es
  | [], [], _, _ => ⟨[], ⟨rfl, fun i x v h => by simp at h⟩, .nil⟩
  | x :: cl, e :: es, h, hm => by
    obtain ⟨⟨j, h1, h2, h3, h4⟩, h⟩ := h
    obtain ⟨zs, C, r⟩ := slotsL.cells ad st h fun y hy => hm y (List.mem_cons_of_mem _ hy)
    obtain ⟨sl, s1, s2⟩ := Option.bind_eq_some_iff.mp h2
    obtain ⟨v, hv, rv⟩ := st.asD s1 s2
    obtain ⟨o, u, a1, a2, a3⟩ := ad.val j x.1 x.2 v h1 hv h3 (hm x List.mem_cons_self) h4
    refine ⟨v :: zs, ⟨by simp [C.len], fun i y w e1 e2 => ?_⟩, .cons rv r⟩
    match i, e1, e2 with
    | 0, e1, e2 => cases e1; cases e2; exact ⟨o, u, a1, a2, a3⟩
    | i + 1, e1, e2 => exact C.at_ i y w (by simpa using e1) (by simpa using e2)
  | [], _ :: _, h, _ => h.elim
  | _ :: _, [], h, _ => h.elim
theorem slotsL.mem {X : Cx} {ρ : List Slot} : ∀ {cl : List (Str × Addr)} {es : List D}, slotsL X ρ cl es → ∀ x ∈ cl, x ∈ X.env.cells
  | [], [], _, x, hx => by simp at hx
  | y :: cl, e :: es, h, x, hx => by
    obtain ⟨⟨j, h1, h2, h3, h4⟩, h⟩ := h
    rcases List.mem_cons.mp hx with rfl | hx
    · exact PySem.mem_of_lookup h3
    · exact slotsL.mem h x hx
  | [], _ :: _, h, _, _ => h.elim
  | _ :: _, [], h, _, _ => h.elim
section
variable {c : Ctx} {X : Cx} {e : Expr} {es : List Expr} {qr : QA} {p pos : Pos} {x : Str}
def qAdopt (X : Cx) (sp : SpW) (c : Ctx) (q : QA) : QE := fun ρ Q => q ρ fun ds => ∃ Λ : List LamI, (∀ l ∈ Λ, slotsL X ρ l.cl l.es) ∧ sp c.β ds Λ Q
/-- f(.. lambdas ..), from the def that made them -/
theorem dadopt {sp : SpW} {j k : Nat} {ps : List Str} {ks : List Str} (hfn : X.fn = fun _ => true) (hex : X.ex = []) (hks : X.env.cells.map (·.1) = ks) (hnd : ks.Nodup) (F : DnW X.prog X.w X.K X.mg X.base j x ps sp) (hr : Room k X.A) (ha : PDA c X (e :: es) qr) (hj : j ≤ k := by decide)
    (hg : Gl X x := by rfl) (hdb : (x == ("__debug__" : Str)) = false := by decide) (he : starEach (e :: es) X.env = (false, eval e X.env) :: starEach es X.env := by rfl) (hpl : (backTo pos (starEach es X.env)).any (·.1) = false := by rfl) : PD c X (.Call (.Name x p) (e :: es) [] pos) (qAdopt X sp c qr) := by
  obtain ⟨f, fd, F, m, kp, b⟩ := F
  obtain ⟨t, pa, sa⟩ := ha.ex
  have hcs : ∀ b ∈ X.env.cells.map (·.2), ∃ y, X.env.cells.lookup y = some b := fun b hb => by
    obtain ⟨y, hy, rfl⟩ := List.mem_map.mp hb
    obtain ⟨i, hi⟩ := List.getElem?_of_mem hy
    exact ⟨y.1, lookup_at (by rw [hks]; exact hnd) hi⟩
  refine ⟨_, pe_adopt hfn hex hcs F (hr.mono hj) hg m kp b pa hdb he hpl, fun ρ σ G H Q R s h k => ?_⟩
  refine sa ρ σ G H _ _ s h fun vs ds G1 H1 g1 r1 h1 H2 ad => ?_
  obtain ⟨Λ, hΛ, h1⟩ := h1
  have s1 := s.grow g1
  have out : ∀ a u, H1 a = some u → a ∉ X.env.cells.map (·.2) := fun a u e m => by rw [ad.none a m] at e; cases e
  have gn : ∀ a ∈ X.env.cells.map (·.2), G1 a = none := fun a ha => s1.core.gh.free (ad.none a ha)
  have nb : ∀ a ∈ X.env.cells.map (·.2), some a ≠ c.β := fun a ha z => s1.hb a z.symm (ad.none a ha)
  refine ⟨c.β, G1, ds, Λ, Q, r1, fun a o e => by rw [ad.out a (out a o (s1.core.gh a o e))]; exact s1.core.gh a o e, fun b e => ?_, fun l hl => ?_, h1, fun v d G' H' g r q => ?_⟩
  · have B := s1.core.bg b e
    exact B.mono (Same.refl G1) (ad.out b fun m => nb b m e.symm) B.out
  · have hm := slotsL.mem (hΛ l hl)
    have hm2 : ∀ x ∈ l.cl, x.2 ∈ X.env.cells.map (·.2) := fun x hx => List.mem_map.mpr ⟨x, hm x hx, rfl⟩
    have hm3 : ∀ a ∈ l.cl.map (·.2), a ∈ X.env.cells.map (·.2) := fun a ha => by
      obtain ⟨x, hx, rfl⟩ := List.mem_map.mp ha
      exact hm2 x hx
    obtain ⟨zs, C, r⟩ := slotsL.cells ad s1 (hΛ l hl) hm2
    exact ⟨zs, C, fun a ha => gn a (hm3 a ha), fun a ha => nb a (hm3 a ha), r⟩
  · exact k v d G' _ (g1.trans (grow_unadopt ad g gn nb) s.hb) r q
/-- a lambda -/
theorem dlam {cc P : Addr} {k : LamC} {cl : List (Str × Addr)} (hT : TabL c.H0 P) (gT : c.G0 P = none) (TB : LamX.TabB X.base X.mg cc P) (hcode : X.env.code = .ref cc) (hcl : cloFrom X.env.cells k.scope.names [] = cl) (hq : k.q = X.env.qual ++ "<lambda>" := by rfl) (hq2 : k.q = lawQ pos := by rfl)
    (hfree : X.Ok → ∀ y ∈ k.scope.names, y.2 = .free → ∃ c, X.env.cells.lookup y.1 = some c) (hk : k.params.kwonlyargs = [] := by rfl)
    (hdef : (k.params.defaults = [] ∧ defaultsOf k.params X.env = ([], [])) ∨ (k.params.defaults ≠ [] ∧ ∃ n j p, defaultsOf k.params X.env = ([eval (.Constant (.int n) j p) X.env], [])) := by first | exact .inl ⟨rfl, rfl⟩ | exact .inr ⟨by decide, _, _, _, rfl⟩) :
    PD c X (.Lambda k.params k.body k.scope pos) (qC (.lmu k cl)) := by
  subst hcl
  exact ⟨_, pe_lamN TB hcode hq hq2 hfree hk hdef, snd_lamN hT gT⟩
end
/-! ### _law_why, _law_whys -/
/-- what stands for an error: its code and its attribute -/
def whyR (FC : Addr → Prop) (Q : D → Prop) : D → Prop
  | .exc C fs => FC C ∧ ∃ d, fs.lookup ("code" : Str) = some d ∧ sp_field fs fun r => Q (.tup [d, r])
  | _ => False
/-- one lambda asked -/
def whyL (P : Program) (w : World) (K : PySem.W.Frag) (mg : Str → Option Value) (base : Heap) (n : Nat) (FC : Addr → Prop) (β : Option Addr) (l : LamI) (Q : D → Prop) : Prop :=
  ∃ nms sp, LamOk P w K mg base n l.k nms sp ∧ l.cl.map (·.1) = nms ∧ (l.cl.map (·.2)).Nodup ∧ sp β l.es (fun d => Q (.tup [.str "value", d])) (whyR FC Q)
def sp_why (P : Program) (w : World) (K : PySem.W.Frag) (mg : Str → Option Value) (base : Heap) (n : Nat) (FC : Addr → Prop) : SpW := fun β ds Λ Q => ∃ l ∈ Λ, ds = [l.d] ∧ whyL P w K mg base n FC β l Q
def whysL (P : Program) (w : World) (K : PySem.W.Frag) (mg : Str → Option Value) (base : Heap) (n : Nat) (FC : Addr → Prop) (β : Option Addr) : List LamI → List D → (D → Prop) → Prop
  | [], acc, Q => Q (.lst acc)
  | l :: ls, acc, Q => whyL P w K mg base n FC β l fun d => whysL P w K mg base n FC β ls (acc ++ [d]) Q
def sp_whys (P : Program) (w : World) (K : PySem.W.Frag) (mg : Str → Option Value) (base : Heap) (n : Nat) (FC : Addr → Prop) : SpW := fun β ds Λ Q => Λ.length ≤ 1000 ∧ ds = [.lst (Λ.map LamI.d)] ∧ whysL P w K mg base n FC β Λ [] Q
end DL
namespace DL
open PySem PySem.Spec PyProof.Rows L2
def qLamB (i : Nat) (k : LamC) (cl : List (Str × Addr)) (sp : SpX) (β : Option Addr) (ds : List D) (ξ : D → Prop) : QE := fun ρ Q => ρ[i]? = some (.d (.lmu k cl)) ∧ sp β ds Q ξ
theorem dlamcB {c : Ctx} {X : Cx} {k : LamC} {cl : List (Str × Addr)} {nms : List Str} {zs : List V} {ds : List D} {sp : SpX} {n : Nat} {p pos : Pos} {x : Str} {β : Option Addr} (i : Nat) {m : Nat} (hβ : c.β = β) (LK : LamOk X.prog X.w X.K X.mg X.base n k nms sp) (hn : cl.map (·.1) = nms) (nda : (cl.map (·.2)).Nodup) (C : CellsC c cl zs ds) (tk : TakesC c X) (hr : Room m X.A) (hm : n + 1 ≤ m) (hN : X.N[i]? = some x := by rfl)
    (hv : Vis X.env.scope x := by first | exact Or.inl rfl | exact Or.inr (Or.inl rfl) | exact Or.inr (Or.inr rfl)) (hd : (x == ("__debug__" : Str)) = false := by decide) (hcd : (x == ("__classdict__" : Str)) = false := by decide) :
    PD c X (.Call (.Name x p) [] [] pos) (qLamB i k cl sp β ds c.ξ) := by
  subst hβ
  exact dlamc i LK hn nda C tk hr hm hN hv hd hcd
theorem CellsC.at {c c' : Ctx} {cl : List (Str × Addr)} {zs : List V} {ds : List D} (C : CellsC c cl zs ds) (hβ : c'.β = c.β) (co : Core c c'.G0 c'.H0) : CellsC c' cl zs ds := by
  obtain ⟨C1, C2, C3⟩ := C.now co
  exact ⟨C1, C2, fun a ha => by rw [hβ]; exact C.nb a ha, C3⟩
/-- the law's errors: taken by the clause, their attributes read -/
def FCx (K : PySem.W.Frag) (W M N : Addr) (C : Addr) : Prop := ErT K C ∧ PySem.W.exmAny K (.ref C) [.ref W, .ref M, .ref N] = some true
end DL

namespace DL
open PySem PySem.Spec PyProof.Rows L2
/-- the law's promise where its table of code objects is known -/
def spLawT (K : PySem.W.Frag) (T : Addr) : Sp := fun vs H Q _ => ∃ (a : Addr) (ns : List Int), vs = [.ref a] ∧ SqL K H a (ns.map V.int) ∧ ns.length ≤ 63 ∧ H T = some (.tbl #[]) ∧ ∀ H', Q (.bl true) H'
/-- the law's function and its code object -/
def LawF (K : PySem.W.Frag) (st : Stmt) (cc f : Addr) (fd : FuncData) : Prop := ∃ (oc : Value) (od : Option Addr) (kV doc pm : Value) (an : Option Addr) (ct : Value) (osl : Array (Option Value)),
  fd = PySem.W.fnOf "law" "law" (defArgs st) (defBody st) (defScope st) .none kV doc pm an (.ref cc) ct ∧ K.lookup f = some ⟨oc, od, .func fd, osl⟩ ∧ PySem.W.codeIn K (.ref cc) "law" = true
theorem tabL_empty {H : Hp} {T : Addr} (h : H T = some (.tbl #[])) : TabL H T := ⟨#[], h, trivial, fun pos cv e => by cases e⟩
section
variable {P : Program} {w : World} {K : PySem.W.Frag} {mg : Str → Option Value} {base : Heap}
theorem LawF.ok {y : Str} {st : Stmt} {cc T f : Addr} {fd : FuncData} {p0 b0 : Str} {N : List Str} {k kb i : Nat} {rest : List Stmt} {pn p1 p2 p3 p4 : Pos} {pb : List Str} (F : LawF K st cc f fd) (S : FnScope N [p0] (defScope st)) (DB : DnS P w K mg base kb y pb (spBag K)) (hk : kb ≤ k)
    (hb : defBody st = .Assign [.Name b0 p1] (.Call (.Name y p2) [.Name p0 p3] [] p4) pn :: rest)
    (ht : ∀ (A : Around) (outer : List Env) (s : Shared) (H : Hp) (E : XK), Room k (A.deeper (PyProof.Rows.envOfC "law" (defScope st) s.heap.objs.size f (.ref cc))) → Room kb (A.deeper (PyProof.Rows.envOfC "law" (defScope st) s.heap.objs.size f (.ref cc))) → 
      ∀ (f2 : Addr) (fd2 : FuncData), FnOk P w K mg base CX0 kb f2 fd2 pb (spBag K) → mg y = some (.ref f2) → PySem.W.keepIn K (.ref f2) = true → Binds K fd2 pb [] →
      PS (cxOf CX0 P w K mg base N "law" (defScope st) f (.ref cc) A outer s H E).nox (.Assign [.Name b0 p1] (.Call (.Name y p2) [.Name p0 p3] [] p4) pn) (tAsg (tCall (spBag K) [] E0 (tCons (tVar 0) tNil)) (gName i)))
    (body : ∀ (A : Around) (outer : List Env) (s : Shared) (H : Hp) (E : XK) (c : Ctx), TabL c.H0 T → c.G0 T = none → Room k (A.deeper (PyProof.Rows.envOfC "law" (defScope st) s.heap.objs.size f (.ref cc))) →
      ∃ q, PDB c (cxOf CX0 P w K mg base N "law" (defScope st) f (.ref cc) A outer s H E).nox rest q ∧ ∀ b, c.β = some b →
        q ((List.replicate N.length Slot.un).set i (.d (.adr b))) { nx := fun _ => False, rt := fun d _ => d = .bl true }) : FnOk P w K mg base CX0 (k + 1) f fd [p0] (spLawT K T) := by
  obtain ⟨oc, od, kV, doc, pm, an, ct, osl, rfl, lk, hcd⟩ := F
  refine fn_of lk hcd S (fun vs H Q E h => ?_) (fun A outer s H vs R E hr h => ?_)
  · obtain ⟨a, ns, rfl, _⟩ := h; rfl
  · obtain ⟨a, ns, rfl, hS, hl, hT0, kk⟩ := h
    obtain ⟨f2, fd2, F2, m2, k2, b2⟩ := DB
    have p1' := ht A outer s H E hr (hr.mono hk) f2 fd2 F2 m2 k2 b2
    rw [hb]
    have key : ∀ (b : Addr) (G H' : Hp), Ex G H' → Bag G H' b → TabL H' T → G T = none → ∃ t, PSs (cxOf CX0 P w K mg base N "law" (defScope st) f (.ref cc) A outer s H E).nox rest t ∧ t { nx := fun _ H' => R .non H', rt := R } ((L2.start N [.ref a]).set i (some (.ref b))) H' := by
      intro b G H' gh B tb gn
      obtain ⟨q, pb', hq⟩ := body A outer s H E ⟨some b, G, H', fun _ => False⟩ tb gn hr
      obtain ⟨tr, p, sd⟩ := pb'.ex
      have hNlen : 1 ≤ N.length := by
        have := S.pre
        have h2 := congrArg List.length this
        simp at h2
        omega
      have st0 : Sta ⟨some b, G, H', fun _ => False⟩ G H' (L2.start N [.ref a]) (List.replicate N.length Slot.un) := by
        refine ⟨⟨Same.refl _, fun z o h _ _ => h, fun z o h _ => by rw [show H' z = _ from h]; simp, fun _ t => t, fun z o h _ n => absurd (h.symm.trans n) (by simp), gh, fun b' e => (by cases e; exact B), fun b' e => ?_⟩, ?_, fun i s e => ?_, fun i j z xs ys h1 h2 => ?_⟩
        · cases e
          obtain ⟨c', cells, x1, x2, x3, x4, hb, _⟩ := B.is
          show H' b ≠ none
          rw [hb]; simp
        · simp [L2.start]; omega
        · rw [List.getElem?_replicate] at e
          split at e
          · cases e; trivial
          · cases e
        · rw [List.getElem?_replicate] at h1
          split at h1
          · cases h1
          · cases h1
      refine ⟨tr, p, sd _ _ G H' _ _ (st0.setD (.adr b)) (hq b rfl) ⟨fun _ _ _ _ _ _ h => h.elim, fun v d ρ' σ' G2 H2 x s' rv h' => ?_, fun _ _ _ _ _ _ h => h.elim, fun _ _ _ _ _ _ h => h.elim, fun _ _ _ _ _ _ _ _ _ _ _ _ _ h => h.elim⟩⟩
      subst h'
      cases rv
      exact kk H2
    let tr : TS := fun D' σ' H'' => ∃ t, PSs (cxOf CX0 P w K mg base N "law" (defScope st) f (.ref cc) A outer s H E).nox rest t ∧ t D' σ' H''
    have prest : PSs (cxOf CX0 P w K mg base N "law" (defScope st) f (.ref cc) A outer s H E).nox rest tr := ⟨fun pins sh σ' H'' D' I hw => by
      obtain ⟨t, pt, ht⟩ := hw
      exact pt.run pins sh σ' H'' D' I ht⟩
    refine ⟨_, (pss_cons p1' prest).nox, ?_⟩
    refine ⟨.ref a, rfl, ?_⟩
    refine ⟨a, ns, rfl, hS, hl, fun b G H' e1 e3 e2 hn B => key b G H' e2 B (e1.2 T (tabL_empty hT0)) ?_⟩
    cases q : G T with
    | none => rfl
    | some o =>
      exfalso
      have z := e2 T o q
      obtain ⟨ps, z2, _⟩ := e1.2 T (tabL_empty hT0)
      rw [z] at z2
      cases z2
      have := e3 T _ q ⟨(fun c q z => by unfold LamX.CodeO at z; cases z), (fun _ z => by cases z)⟩
      rw [hT0] at this
      cases this
end
/-- the head of a law with lambdas -/
def HdT (K : PySem.W.Frag) (st : Stmt) : Prop := ∃ (f cc T : Addr) (oc : Value) (od : Option Addr) (kV dc pm : Value) (an : Option Addr) (ct : Value) (sl : Array (Option Value)) (dd : Option Addr) (vs : Array Value) (sl2 : Array (Option Value)),
  PySem.W.nsIn K mainGlobals "law" = some (some (.ref f)) ∧ K.lookup f = some ⟨oc, od, .func (PySem.W.fnOf "law" "law" (defArgs st) (defBody st) (defScope st) .none kV dc pm an (.ref cc) ct), sl⟩ ∧ PySem.W.codeIn K (.ref cc) "law" = true ∧
  K.lookup cc = some ⟨.type "code", dd, .fields vs, sl2⟩ ∧ vs[11]? = some (.ref T) ∧ (∃ file tf flags tg inF text tt, vs.getD 18 .none = .str file tf ∧ vs.getD 7 .none = .int flags tg ∧ vs.getD 9 .none = .bool inF ∧ vs.getD 10 .none = .int text tt) ∧ K.lookup T = none
theorem hdT_mk {K : PySem.W.Frag} {st : Stmt} {f cc T : Addr} {oc : Value} {od : Option Addr} {kV dc pm : Value} {an : Option Addr} {ct : Value} {sl : Array (Option Value)} {dd : Option Addr} {vs : Array Value} {sl2 : Array (Option Value)} {file : Str} {tf : Tok} {flags : Int} {tg : Tok} {inF : Bool} {text : Int} {tt : Tok}
    (a : PySem.W.nsIn K mainGlobals "law" = some (some (.ref f))) (l : K.lookup f = some ⟨oc, od, .func (PySem.W.fnOf "law" "law" (defArgs st) (defBody st) (defScope st) .none kV dc pm an (.ref cc) ct), sl⟩) (c : PySem.W.codeIn K (.ref cc) "law" = true)
    (l2 : K.lookup cc = some ⟨.type "code", dd, .fields vs, sl2⟩) (v1 : vs[11]? = some (.ref T)) (v2 : vs.getD 18 .none = .str file tf) (v3 : vs.getD 7 .none = .int flags tg) (v4 : vs.getD 9 .none = .bool inF) (v5 : vs.getD 10 .none = .int text tt) (n : K.lookup T = none) : HdT K st :=
  ⟨f, cc, T, oc, od, kV, dc, pm, an, ct, sl, dd, vs, sl2, a, l, c, l2, v1, ⟨_, _, _, _, _, _, _, v2, v3, v4, v5⟩, n⟩
/-- from the law's promise to the row's end -/
theorem law_endT {l : PySem.W.OpenLaw} {w : World} {K : PySem.W.Frag} {mg : Str → Option Value} {st : Stmt} {k : Nat} {fa : Addr} {h : Heap} (X : K.In h) (G : h.Ns mainGlobals mg) (HL : HdT K st) (hfa : mg "law" = some (.ref fa)) (own : LamX.OwnTab K fa h)
    (hb : ∀ (kV doc pm : Value) (an : Option Addr) (cdv ct : Value) (s : Shared) (u : Value), BindsTo s (PySem.W.fnOf "law" "law" (defArgs st) (defBody st) (defScope st) .none kV doc pm an cdv ct) ⟨[u], []⟩ [("_law_script", u)])
    (F : ∀ (base : Heap) (cc T f : Addr) (fd : FuncData), K.In base → base.Ns mainGlobals mg → LamX.TabB base mg cc T → LawF K st cc f fd → FnOk l.prog w K mg base CX0 k f fd ["_law_script"] (spLawT K T)) :
    LamX.LawAtS l w K CX0 k 63 "_law_script" mg fa h := by
  obtain ⟨f, cc, T, oc, od, kV, dc, pm, an, ct, sl, dd, vs, sl2, a, lk, c, l2, v1, ⟨file, tf, flags, tg, inF, text, tt, v2, v3, v4, v5⟩, n⟩ := HL
  have e := hfa.symm.trans (PySem.W.mg_of X G a)
  cases e
  have hT := own cc T _ _ _ _ _ _ lk rfl rfl l2 v1
  have hne : cc ≠ T := fun z => by rw [z, n] at l2; cases l2
  have v1' : vs.getD 11 .none = .ref T := by rw [Array.getD_eq_getD_getElem?, v1]; rfl
  have hC : PySem.W.CodeHd h cc T := ⟨_, vs, file, tf, flags, tg, inF, text, tt, X _ _ l2, rfl, rfl, v1, v1', v2, v3, v4, v5, hne⟩
  refine ⟨_, [(cc, T)], spLawT K T, fun p hp => ?_, fun p hp => ?_, fun p hp => ?_, fun s u => hb kV dc pm an (.ref cc) ct s u, fun H a' ns hl _ hH hS => ⟨a', ns, rfl, hS, hl, hH (cc, T) List.mem_cons_self, fun _ => rfl⟩, fun base X' G' TB => F base cc T fa _ X' G' (TB (cc, T) List.mem_cons_self) ⟨oc, od, kV, dc, pm, an, ct, sl, rfl, lk, c⟩⟩
  · cases List.mem_singleton.mp hp; exact hT
  · cases List.mem_singleton.mp hp; exact n
  · cases List.mem_singleton.mp hp; exact hC
end DL

namespace DL
open PySem PySem.Spec PyProof.Rows L2
/-! ### own __len__, class constants -/
section
variable {c : Ctx} {X : Cx} {e : Expr} {es : List Expr} {pos : Pos}
theorem call_lenC {C : Addr} {sp : SpD} {ps : List Str} {j k : Nat} (F : DnM X.prog X.w X.K X.mg X.base j C "__len__" ps sp) (hr : Room k X.A) (hj : j + 1 ≤ k) :
    CallR X (.builtin "len") (fun xs H Q => ∃ a dx fs, xs = [.ref a] ∧ H a = some (.ins C dx fs) ∧ lf sp [.ref a] H (fun v H' => (∃ n : Int, v = .int n ∧ 0 ≤ n ∧ n < 2 ^ 63) ∧ Q v H') E0) := by
  intro pins s σ H xs us Q I r h
  obtain ⟨a, dx, fs, rfl, ha, h⟩ := h
  obtain ⟨f, fd, F, M, cf, hb, _⟩ := F
  rw [Vals.ref1 r]
  obtain ⟨od, J⟩ := ins_at I ha
  have sb : Sub X (j + 1) X.A := ⟨hr.mono hj, rfl⟩
  refine Calls.call_function_entry kind_len plain_len entry_len (args_len1 _) ?_
  unfold Builtin.«len»
  refine wpAny_bind (m := oneArg "len" _) (wpAny_pure ?_)
  refine wpAny_bind (m := callSpecial? (.ref a) (Str.ofString "__len__")) (PySem.W.special_fn I.kIn J M.at_ (beq_iff_eq.mp M.fn) (wpAny_mono (run_sub (us := [.ref a]) (vs := [.ref a]) F hb sb.in1 I (.cons rfl .nil) h) (fun v s' q => ?_) fun _ _ x => x))
  obtain ⟨z, H', I', rz, ⟨n, rfl, h0, h1⟩, q⟩ := q
  obtain ⟨t, rfl⟩ := rz
  refine wpAny_bind (wpAny_holding (wpAny_pure ?_))
  refine wpAny_bind (wpAny_letGo ?_)
  show wpAny _ _ (if n < 0 then _ else _) _ _ _
  rw [if_neg (by omega)]
  show wpAny _ _ (if n ≥ 2 ^ 63 then _ else _) _ _ _
  rw [if_neg (by omega)]
  exact wpAny_bind (wpAny_mkInt (wpAny_pure ⟨_, rfl, .int n, H', I'.tok _, ⟨_, rfl⟩, q⟩))
def lenC (C : Addr) (sp : SpD) : List D → (D → Prop) → Prop
  | [.obj C' fs], Q => C' = C ∧ sp none [.obj C' fs] fun d => ∃ n : Int, d = .int n ∧ (0 ≤ n ∧ n < 2 ^ 63) ∧ Q (.int n)
  | ds, Q => lenR ds Q
theorem dlenC {C : Addr} {sp : SpD} {ps : List Str} {j k : Nat} {p : Pos} {qr : QA} (F : DnM X.prog X.w X.K X.mg X.base j C "__len__" ps sp) (hr : Room k X.A) (hm : X.mg "len" = none) (ha : PDA c X [e] qr) (hj : j + 1 ≤ k := by decide) (hg : Gl X "len" := by rfl) (he : starEach [e] X.env = (false, eval e X.env) :: starEach [] X.env := by rfl) : PD c X (.Call (.Name "len" p) [e] [] pos) (qCB (lenC C sp) qr) := by
  refine PD.callB ((call_len_seq.or call_len_str).or (call_lenC F hr hj)) ?_ hg hm PySem.boot_len ha (by decide) (by decide) he rfl
  intro β G H xs ds Q R hgh hbg r h k
  unfold lenC at h
  split at h
  · obtain ⟨v, rfl, rv⟩ := r.one
    obtain ⟨rfl, h5⟩ := h
    cases rv with
    | obj e1 h1 h2 h3 =>
      refine .inr ⟨_, _, _, rfl, hgh _ _ e1, lf_none hgh hbg (.cons (.obj e1 h1 h2 h3) .nil) h5 fun v d G' H' g rv q => ?_⟩
      obtain ⟨n, rfl, hn, q⟩ := q
      cases rv
      exact ⟨⟨n, rfl, hn⟩, k _ _ G' H' g (.int n) q⟩
  · exact .inl (cd_len β G H xs _ Q R hgh hbg r h k)
/-- a class's constant, an int -/
structure CInt (K : PySem.W.Frag) (C : Addr) (f : Str) (n : Int) : Prop where
  ex : ∃ (mc : Value) (t : Tok), ClX.CRead K C mc ∧ PySem.W.findCls K (.ref C) mc f = some (.val (.int n t))
theorem cint_mk {K : PySem.W.Frag} {C : Addr} {f : Str} {n : Int} {t : Tok} (rd : PySem.W.readsIn K C (.type "type") = true) (ga : PySem.W.specialIn K (.ref C) "__getattribute__" = some (some (.builtin "type.__getattribute__"))) (at_ : PySem.W.findCls K (.ref C) (.type "type") f = some (.val (.int n t))) : CInt K C f n := ⟨.type "type", t, ⟨rd, ga⟩, at_⟩
theorem dcint {C : Addr} {x f : Str} {n : Int} {p : Pos} (hm : X.mg x = some (.ref C)) (k : CInt X.K C f n) (hg : Gl X x := by rfl) (hd : (x == ("__debug__" : Str)) = false := by decide) (hb : attributeBase (.Name x p) f X.env (eval (.Name x p) X.env) = eval (.Name x p) X.env := by rfl) : PD c X (.Attribute (.Name x p) f pos) (qC (.int n)) := by
  obtain ⟨mc, t, r, e1⟩ := k.ex
  refine ⟨_, ClX.pe_cval (pe_glob (v := .ref C) hg hm rfl hd) hb, fun ρ σ G H Q R s h k => ?_⟩
  exact ⟨C, mc, .int n, .int n t, rfl, r, ⟨e1, ⟨_, rfl⟩⟩, k _ _ G H (Grow.refl s.core.gh s.core.bg) (.int n) h⟩
end
end DL
namespace DL
open PySem PySem.Spec PyProof.Rows L2
/-! ### the lambdas of a text, in the order of the text -/
def lamsE : Nat → Expr → List LamC
  | 0, _ => []
  | _ + 1, .Lambda a b s p => [⟨lawQ p, a, b, s⟩]
  | n + 1, .BoolOp _ vs _ => vs.flatMap (lamsE n)
  | n + 1, .BinOp l _ r _ => lamsE n l ++ lamsE n r
  | n + 1, .UnaryOp _ e _ => lamsE n e
  | n + 1, .IfExp t b o _ => lamsE n t ++ (lamsE n b ++ lamsE n o)
  | n + 1, .Compare l _ cs _ => lamsE n l ++ cs.flatMap (lamsE n)
  | n + 1, .Call f as ks _ => lamsE n f ++ (as.flatMap (lamsE n) ++ ks.flatMap fun k => lamsE n k.value)
  | n + 1, .Attribute v _ _ => lamsE n v
  | n + 1, .Subscript v s _ => lamsE n v ++ lamsE n s
  | n + 1, .List es _ => es.flatMap (lamsE n)
  | n + 1, .Tuple es _ _ => es.flatMap (lamsE n)
  | _ + 1, _ => []
def lamsS : Nat → Stmt → List LamC
  | 0, _ => []
  | n + 1, .Return (some e) _ => lamsE n e
  | n + 1, .Assign _ e _ => lamsE n e
  | n + 1, .Expr e _ => lamsE n e
  | n + 1, .For _ i b _ _ => lamsE n i ++ b.flatMap (lamsS n)
  | n + 1, .While t b _ _ => lamsE n t ++ b.flatMap (lamsS n)
  | n + 1, .If t b o _ => lamsE n t ++ (b.flatMap (lamsS n) ++ o.flatMap (lamsS n))
  | n + 1, .FunctionDef _ _ b _ _ _ _ _ _ _ => b.flatMap (lamsS n)
  | _ + 1, _ => []
def noLam : LamC := ⟨"", ⟨[], [], none, [], [], none, []⟩, .Name "" ⟨0, 0, 0, 0⟩, default⟩
def lamAt (st : Stmt) (i : Nat) : LamC := (lamsS 40 st).getD i noLam
/-- a lambda of the text, known by its number -/
theorem dlamK {c : Ctx} {X : Cx} {e : Expr} {cc P : Addr} (k : LamC) (cl : List (Str × Addr)) (hT : TabL c.H0 P) (gT : c.G0 P = none) (TB : LamX.TabB X.base X.mg cc P) (hcode : X.env.code = .ref cc := by rfl)
    (he : ∃ pos, e = .Lambda k.params k.body k.scope pos ∧ k.q = lawQ pos := by exact ⟨_, by kernel_rfl, by kernel_rfl⟩) (hcl : cloFrom X.env.cells k.scope.names [] = cl := by rfl) (hq : k.q = X.env.qual ++ "<lambda>" := by rfl)
    (hfree : ∀ y ∈ k.scope.names, y.2 = .free → ∃ c, X.env.cells.lookup y.1 = some c) (hk : k.params.kwonlyargs = [] := by rfl)
    (hdef : (k.params.defaults = [] ∧ defaultsOf k.params X.env = ([], [])) ∨ (k.params.defaults ≠ [] ∧ ∃ n j p, defaultsOf k.params X.env = ([eval (.Constant (.int n) j p) X.env], [])) := by first | exact .inl ⟨rfl, rfl⟩ | exact .inr ⟨by decide, _, _, _, rfl⟩) :
    PD c X e (qC (.lmu k cl)) := by
  obtain ⟨pos, rfl, hq2⟩ := he
  exact dlam hT gT TB hcode hcl hq hq2 (fun _ => hfree) hk hdef
end DL

namespace DL
open PySem PySem.Spec PyProof.Rows L2
/-! ### what of a lambda is seen in its text -/
def parB (a : Arguments) : Bool := match a with
  | ⟨[], [], none, [], [], none, []⟩ => true
  | ⟨[], [⟨_, none, _⟩], none, [], [], none, [.Constant (.int _) _ _]⟩ => true
  | _ => false
theorem par_of {a : Arguments} (h : parB a = true) : a = ⟨[], [], none, [], [], none, []⟩ ∨ ∃ x p n j q, a = ⟨[], [⟨x, none, p⟩], none, [], [], none, [.Constant (.int n) j q]⟩ := by
  unfold parB at h
  split at h
  · exact .inl rfl
  · exact .inr ⟨_, _, _, _, _, rfl⟩
  · cases h
/-- nms: what it captures; names: the names of the def it stands in -/
def lamB (k : LamC) (names : List (Str × NameKind)) (nms : List Str) : Bool :=
  parB k.params && decide (k.scope.kind = .function) && !k.scope.isCoroutine && !k.scope.isGenerator && k.scope.names.all (fun y => decide (y.2 ≠ .cell)) && k.scope.names.all (fun y => decide (y.2 ≠ .free) || nms.contains y.1) && nms.all (fun x => decide (k.scope.names.lookup x = some .free)) &&
    decide nms.Nodup && k.params.args.all (fun a => decide (k.scope.names.lookup a.arg = some .local)) && k.scope.names.all (fun y => decide (y.2 ≠ .free) || names.any fun z => z.1 == y.1 && decide (z.2 = .cell))
structure LamT (k : LamC) (names : List (Str × NameKind)) (nms : List Str) : Prop where
  par : k.params = ⟨[], [], none, [], [], none, []⟩ ∨ ∃ x p n j q, k.params = ⟨[], [⟨x, none, p⟩], none, [], [], none, [.Constant (.int n) j q]⟩
  sc : LamSc k nms
  arg : ∀ a ∈ k.params.args, k.scope.names.lookup a.arg = some .local
  fr : ∀ y ∈ k.scope.names, y.2 = .free → ∃ z ∈ names, z.1 = y.1 ∧ z.2 = .cell
theorem lamT_of {k : LamC} {names : List (Str × NameKind)} {nms : List Str} (h : lamB k names nms = true) : LamT k names nms := by
  unfold lamB at h
  simp only [Bool.and_eq_true, decide_eq_true_eq, List.all_eq_true, Bool.not_eq_true', Bool.or_eq_true, List.any_eq_true, beq_iff_eq, List.contains_iff_mem] at h
  obtain ⟨⟨⟨⟨⟨⟨⟨⟨⟨h1, h2⟩, h3⟩, h4⟩, h5⟩, h6⟩, h7⟩, h8⟩, h9⟩, h10⟩ := h
  refine ⟨par_of h1, ⟨h2, h3, h4, h5, fun y hy e => ?_, h7, h8⟩, h9, fun y hy e => ?_⟩
  · rcases h6 y hy with z | z
    · exact absurd e z
    · exact z
  · rcases h10 y hy with z | ⟨z, h1, h2, h3⟩
    · exact absurd e z
    · exact ⟨z, h1, h2, h3⟩
theorem cells_acc {x : Str} : ∀ (names : List (Str × NameKind)) (n : Nat) (acc : List (Str × Addr)), (∃ c, acc.lookup x = some c) → ∃ c, (cellsFrom n names acc).lookup x = some c
  | [], n, acc, h => h
  | (y, k) :: r, n, acc, h => by
    unfold cellsFrom
    split
    · refine cells_acc r (n + 1) _ ?_
      rw [List.lookup_cons]
      split
      · exact ⟨_, rfl⟩
      · exact h
    · exact cells_acc r n acc h
theorem cells_has {x : Str} : ∀ (names : List (Str × NameKind)) (n : Nat) (acc : List (Str × Addr)), (∃ z ∈ names, z.1 = x ∧ z.2 = .cell) → ∃ c, (cellsFrom n names acc).lookup x = some c
  | [], n, acc, h => by obtain ⟨z, h, _⟩ := h; simp at h
  | (y, k) :: r, n, acc, h => by
    obtain ⟨z, hz, h1, h2⟩ := h
    unfold cellsFrom
    rcases List.mem_cons.mp hz with rfl | hz
    · simp only at h1 h2
      subst h1 h2
      rw [if_pos (by decide)]
      refine cells_acc r (n + 1) _ ?_
      rw [List.lookup_cons]
      simp
    · split
      · exact cells_has r (n + 1) _ ⟨z, hz, h1, h2⟩
      · exact cells_has r n acc ⟨z, hz, h1, h2⟩
theorem LamT.ok {P : Program} {w : World} {K : PySem.W.Frag} {mg : Str → Option Value} {base : Heap} {n : Nat} {k : LamC} {names : List (Str × NameKind)} {nms : List Str} {sp : SpX} (T : LamT k names nms)
    (body : ∀ (cl : List (Str × Addr)) (f c' : Addr) (A : Around) (outer : List Env) (s : Shared) (H : Hp) (E : XK) (c : Ctx), Room n (A.deeper (PySem.W.envX k.q k.scope s.heap.objs.size f (.ref c') cl)) → TakesC c (lamX P w K mg base k cl nms f c' A outer s H E) →
      ∃ q, PD c (lamX P w K mg base k cl nms f c' A outer s H E) k.body q ∧ ∀ ds Q, sp c.β ds Q c.ξ → q (ds.map Slot.d) Q) : LamOk P w K mg base n k nms sp := by
  obtain ⟨par, sc, arg, fr⟩ := T
  obtain ⟨q, params, kb, scope⟩ := k
  rcases par with e | ⟨x, p, m, j, r, e⟩ <;> (simp only at e; subst e)
  · exact ⟨sc, fun cl pm cd ct _ => rfl, fun cl T pm cd ct i t h => absurd rfl h, body⟩
  · refine ⟨sc, fun cl pm cd ct h => (by cases h), fun cl T pm cd ct i t h => ⟨_, x, rfl, ?_, arg _ List.mem_cons_self⟩, body⟩
    simp [List.lookup]
/-- a lambda of the law -/
theorem dlamT {c : Ctx} {X : Cx} {e : Expr} {cc P : Addr} {names : List (Str × NameKind)} {nms : List Str} {L : Addr} (k : LamC) (cl : List (Str × Addr)) (T : LamT k names nms) (hT : TabL c.H0 P) (gT : c.G0 P = none) (TB : LamX.TabB X.base X.mg cc P) (hcl : cloFrom (cellsFrom (L + 1) names []) k.scope.names [] = cl) (hcode : X.env.code = .ref cc := by rfl) (hce : X.env.cells = cellsFrom (L + 1) names [] := by rfl)
    (he : e = .Lambda k.params k.body k.scope e.pos := by kernel_rfl) (hq2 : k.q = lawQ e.pos := by kernel_rfl) (hq : k.q = X.env.qual ++ "<lambda>" := by kernel_rfl) : PD c X e (qC (.lmu k cl)) := by
  generalize e.pos = pos at he hq2
  subst he
  refine dlam hT gT TB hcode (by rw [hce]; exact hcl) hq hq2 (fun _ y hy e => ?_) ?_ ?_
  · rw [hce]
    exact cells_has _ _ _ (T.fr y hy e)
  · rcases T.par with e | ⟨x, p, m, j, r, e⟩ <;> rw [e]
  · rcases T.par with e | ⟨x, p, m, j, r, e⟩ <;> rw [e]
    · exact .inl ⟨rfl, rfl⟩
    · exact .inr ⟨by simp, _, _, _, rfl⟩
end DL

namespace PySem
open Sem (wp)
/-! ### enumerate(tuple) -/
theorem meets_enumerate_new1 {v : Value} {o : Obj} {H : Heap → Prop} (B : Begins v o H) :
    Meets (Builtin.«enumerate.__new__» ⟨[.type "enumerate", v], []⟩) (fun _ R s => H s.heap ∧
      R (.ok (.ret (.ref (s.heap.push o).objs.size))) { s with heap := (s.heap.push o).push { cls := .type "enumerate", data := .fields #[.none, .bool false, .ref s.heap.objs.size, rawInt 0, .none, .none] } }) :=
  .of_wp fun prog w A R s h => by
    obtain ⟨hp, g, d, tk, os⟩ := s; obtain ⟨h1, h⟩ := h
    have hsub := sub_enumerate
    have q1 : ∀ {A' : Around} {E : Value → Shared → Prop} {Q : Value → Shared → Prop}, Q (.ref hp.objs.size) ⟨hp.push o, g, d, tk, os⟩ → wpAny (model prog w) A' (pyIter v) Q E ⟨hp, g, d, tk, os⟩ :=
      fun q => B.iter prog w _ _ ⟨hp, g, d, tk, os⟩ _ h1 q
    wp_walk using q1
    refine wpAny_stack_any fun st => wpAny_pure ?_
    split
    · rename_i c _ _ _ _ _
      cases (c == Value.type "enumerate")
      · wp_walk using q1
        exact ⟨_, rfl, h⟩
      · wp_walk using q1
        exact ⟨_, rfl, h⟩
    · wp_walk using q1
      exact ⟨_, rfl, h⟩
theorem call_enumerate_tuple {prog : Program} {w : World} {A : Around} {E : Value → Shared → Prop} {s : Shared} {l : Addr} {items : Array Value} {Q : Value → Shared → Prop} (hL : s.heap.IsTuple l items)
    (h : ∀ h', IsEnum h' (s.heap.objs.size + 1) s.heap.objs.size 0 .none → h'.IsTupleIter s.heap.objs.size l 0 → h'.objs.size = s.heap.objs.size + 2 →
      (∀ b o, s.heap.get? b = some o → h'.get? b = some o) → Q (.ref (s.heap.objs.size + 1)) { s with heap := h' }) :
    wpAny (model prog w) A (call (.type "enumerate") [.ref l]) Q E s := by
  refine callType_new F.called_enumerate (by decide) (F.typeCall_enumerate_1 _) (F.newCall_enumerate_1 _) (fun obj => F.args_object_init_2 obj _) F.entry_enumerate_new
    (meets_enumerate_new1 (begins_tuple l items)) ⟨hL, ?_⟩
  have hz : (s.heap.push { cls := .type "tuple_iterator", data := .fields #[.ref l, .int 0 0] }).objs.size = s.heap.objs.size + 1 := Heap.size_push ..
  show _ ∧ _
  rw [hz]
  have he : IsEnum ((s.heap.push { cls := .type "tuple_iterator", data := .fields #[.ref l, .int 0 0] }).push
      { cls := .type "enumerate", data := .fields #[.none, .bool false, .ref s.heap.objs.size, rawInt 0, .none, .none] }) (s.heap.objs.size + 1) s.heap.objs.size 0 .none := by
    have := Heap.get?_push_size (s.heap.push { cls := .type "tuple_iterator", data := .fields #[.ref l, .int 0 0] })
      (o := { cls := .type "enumerate", data := .fields #[.none, .bool false, .ref s.heap.objs.size, rawInt 0, .none, .none] }) rfl
    rw [hz] at this; exact this
  refine ⟨⟨_, he, rfl⟩, h _ he ⟨_, Heap.get?_push_of_some _ (Heap.get?_push_size _ rfl), rfl, rfl⟩ (by rw [Heap.size_push, hz]) fun b o x => Heap.get?_push_of_some _ (Heap.get?_push_of_some _ x)⟩
end PySem
namespace DL
open PySem PySem.Spec PyProof.Rows L2
/-- the tuple at a, each item in a new pair -/
def IteT (K : PySem.W.Frag) (a : Addr) : It :=
  ⟨fun i H => ∃ (xs : List V) (x : V), SqT K H a xs ∧ xs[i]? = some x, fun i H v H' => ∃ T x, v = .ref T ∧ H T = none ∧ H' = upd H T (.tup [.int (i : Nat), x]) ∧ ∀ xs, SqT K H a xs → xs[i]? = some x, fun i H => ∃ xs : List V, SqT K H a xs ∧ xs.length = i⟩
theorem turn_enumT {P : Program} {w : World} {K : PySem.W.Frag} {elts : List Expr} {kk : Nat} {tpos : Pos} (a e it : Addr) :
    Turn P w K (.Tuple elts kk tpos) (IteT K a) [e, it] e (fun i h => (∃ old, IsEnum h e it ((i : Nat) : Int) old) ∧ h.IsTupleIter it a i ∧ e ≠ it ∧ a ≠ e ∧ a ≠ it) where
  mem := by simp
  obj := fun i h st b hb => by
    obtain ⟨⟨old, he⟩, ⟨o, ho, hc, hd⟩, _⟩ := st
    have e' : b = e ∨ b = it := by simpa using hb
    rcases e' with z | z
    · rw [z]; exact ⟨_, he, fun v q => nomatch q⟩
    · rw [z]; exact ⟨o, ho, fun v q => by rw [hd] at q; cases q⟩
  keep := fun i h h' st k => let ⟨⟨old, he⟩, hi, hne⟩ := st; ⟨⟨old, k e (by simp) _ he⟩, hi.at fun o q => k it (by simp) o q, hne⟩
  item := by
    intro X hP hw hK hc i pins s σ H E I hf st hg
    subst hP hw hK
    obtain ⟨⟨old, he⟩, hit, hne, hae, hai⟩ := st
    obtain ⟨xs, x, hq, hx⟩ := hg
    obtain ⟨its, rv, p, hz⟩ := I.tuple hq
    obtain ⟨u, hu, ru⟩ := rv.get hx
    have hel : e < s.heap.objs.size := Heap.lt_size he
    have hil : it < s.heap.objs.size := by obtain ⟨_, q, _⟩ := hit; exact Heap.lt_size q
    have hlt : i < its.toArray.size := by
      obtain ⟨h1, _⟩ := List.getElem?_eq_some_iff.mp hu
      simpa using h1
    refine wpAny_pyNext_enum_itemD (Draws.tuple (A := X.A.in1) (I.ok.hd hc) it a hai its.toArray) he ⟨hit, p⟩ hlt hne (by simp [hne, Ne.symm hae]) fun x' h' tk hpx ho hst hT hsz hk => ?_
    obtain rfl : x' = u := by
      rw [List.getElem?_toArray, hu] at hpx
      cases hpx; rfl
    obtain ⟨hit', _⟩ := hst
    refine ⟨_, rfl, wpAny_letOwnedTupleGo_enum (s := { s with heap := h', toks := tk + 1 }) ho fun h'' he' sb => ?_⟩
    have hT2 : h''.get? s.heap.objs.size = some { cls := .type "tuple", data := .seq #[.int i tk, x'] } := (sb.2 _ (Nat.ne_of_gt hel)).trans hT
    have new : ObjOk X.prog X.w (upd H s.heap.objs.size (.tup [.int (i : Nat), x])) h'' s.heap.objs.size (.tup [.int (i : Nat), x]) :=
      ⟨by show 2 ≤ sizeLine; decide, [.int i tk, x'], .cons ⟨_, rfl⟩ (.cons ru .nil), ⟨_, hT2, rfl, _, rfl⟩⟩
    have I1 : Inv X pins σ (upd H s.heap.objs.size (.tup [.int (i : Nat), x])) { s with heap := h'', toks := tk + 1 } :=
      I.turnedNew (ch := [e, it]) (fun b ob hb q => (sb.2 b (fun z => hb (by simp [z]))).trans (hk b ob (fun z => hb (by simp [z])) (fun z => hb (by simp [z])) q)) hf (Nat.le_refl _) new
    refine ⟨.ref s.heap.objs.size, _, I1, rfl, ⟨_, x, rfl, I.hok.fresh (Nat.le_refl _), rfl, fun ys hy => by rw [I.tuple_inj hy hq]; exact hx⟩, ⟨⟨x', ?_⟩, hit'.at fun o q => (sb.2 it (Ne.symm hne)).trans q, hne, hae, hai⟩, fun b hb => ?_⟩
    · have e1 : ((i + 1 : Nat) : Int) = (i : Int) + 1 := by omega
      rw [e1]; exact he'
    · have hb' : b < s.heap.objs.size := by
        have e' : b = e ∨ b = it := by simpa using hb
        rcases e' with z | z
        · rw [z]; exact hel
        · rw [z]; exact hil
      rw [upd_ne (Nat.ne_of_lt hb')]
      exact (hf b hb).1
  done := by
    intro X hP hw hK hc i pins s σ H E I hf st hg
    subst hP hw hK
    obtain ⟨⟨old, he⟩, hit, hne, hae, hai⟩ := st
    obtain ⟨xs, hq, hx⟩ := hg
    obtain ⟨its, rv, p, hz⟩ := I.tuple hq
    obtain ⟨f0, f1, f2, f3, f4, f5⟩ := hf it (by simp)
    have hl := rv.length
    have hn : i = its.toArray.size := by simp; omega
    subst hn
    exact wpAny_pyNext_enum_endD (Draws.tuple (A := X.A.in1) (I.ok.hd hc) it a hai its.toArray) he ⟨hit, p⟩ fun h' eb => ⟨rfl, I.turned (t' := s.toks) (fun b o hb q => eb b o hb q) f0 f1 f3 f4 f5⟩
  self := fun A i s Q E st h => let ⟨⟨_, he⟩, _⟩ := st; wpAny_pyIter_enum he h
def iEnumB (K : PySem.W.Frag) (ta : TA) : TI := fun σ H R => ta σ H fun vs H1 => ∃ a xs, vs = [.ref a] ∧ ((SqL K H1 a xs ∧ R (Ite K a) H1) ∨ (SqT K H1 a xs ∧ R (IteT K a) H1))
theorem pi_enumB {X : Cx} {e : Expr} {ta : TA} {p pos tpos : Pos} {elts : List Expr} {kk : Nat} (hg : Gl X "enumerate") (hm : X.mg "enumerate" = none) (ha : PA X [e] ta) (hs : starEach [e] X.env = [(false, eval e X.env)] := by rfl) :
    PI X (.Tuple elts kk tpos) (.Call (.Name "enumerate" p) [e] [] pos) (iEnumB X.K ta) := by
  refine ⟨fun pins s σ H R I h => ?_⟩
  refine Call_ (ld_blt I hg hm boot_enumerate (PyProof.Rows.callWith_type1 (thn (ha.run pos pins s σ H _ I h) fun us s1 ⟨vs, H1, I1, r1, q1⟩ => ?_) hs rfl))
  obtain ⟨a, xs, ex, hq⟩ := q1
  subst ex
  cases r1 with
  | cons r rr =>
    cases rr
    cases r
    have fp : ∀ b ∈ [s1.heap.objs.size + 1, s1.heap.objs.size], s1.heap.objs.size ≤ b := fun b hb => by
      have e' : b = s1.heap.objs.size + 1 ∨ b = s1.heap.objs.size := by simpa using hb
      rcases e' with z | z
      · rw [z]; exact Nat.le_add_right _ _
      · rw [z]; exact Nat.le_refl _
    rcases hq with ⟨hq, q⟩ | ⟨hq, q⟩
    · obtain ⟨its, rv, p', hz⟩ := I1.list hq
      refine call_enumerate_list p'.isList fun h' he hit hsz hk => wpAny_pyIter_enum he ?_
      have I2 : Inv X pins σ H1 { s1 with heap := h' } := I1.kept (t' := s1.toks) hk
      refine ⟨s1.heap.objs.size + 1, [s1.heap.objs.size + 1, s1.heap.objs.size], _, _, H1, rfl, I2, turn_enum a (s1.heap.objs.size + 1) s1.heap.objs.size, ⟨⟨.none, he⟩, hit, Nat.succ_ne_self _⟩, fun b hb => ?_, q⟩
      exact I1.fpOk (fp b hb) (I1.hok.fresh (fp b hb))
    · obtain ⟨its, rv, p', hz⟩ := I1.tuple hq
      have hal : a < s1.heap.objs.size := by obtain ⟨o, q, _⟩ := p'; exact Heap.lt_size q
      refine call_enumerate_tuple p' fun h' he hit hsz hk => wpAny_pyIter_enum he ?_
      have I2 : Inv X pins σ H1 { s1 with heap := h' } := I1.kept (t' := s1.toks) hk
      refine ⟨s1.heap.objs.size + 1, [s1.heap.objs.size + 1, s1.heap.objs.size], _, _, H1, rfl, I2, turn_enumT a (s1.heap.objs.size + 1) s1.heap.objs.size, ⟨⟨.none, he⟩, hit, Nat.succ_ne_self _, Nat.ne_of_lt (Nat.lt_succ_of_lt hal), Nat.ne_of_lt hal⟩, fun b hb => ?_, q⟩
      exact I1.fpOk (fp b hb) (I1.hok.fresh (fp b hb))
def enumB : List D → (List D → Prop) → Prop
  | [.lst xs], Q => Q (enumD xs)
  | [.tup xs], Q => Q (enumD xs)
  | _, _ => False
theorem enumB_l {xs : List D} {Q : List D → Prop} : enumB [.lst xs] Q = Q (enumD xs) := rfl
theorem enumB_t {xs : List D} {Q : List D → Prop} : enumB [.tup xs] Q = Q (enumD xs) := rfl
def iEnB (q : QA) : QI := fun ρ Q => q ρ fun ds => enumB ds Q
theorem ienB {c : Ctx} {X : Cx} {a : Expr} {qr : QA} {pos : Pos} {elts : List Expr} {kk : Nat} {p tpos : Pos} (hm : X.mg "enumerate" = none) (ha : PDA c X [a] qr) (hg : Gl X "enumerate" := by rfl) (hs : starEach [a] X.env = [(false, eval a X.env)] := by rfl) :
    PDI c X (.Tuple elts kk tpos) (.Call (.Name "enumerate" p) [a] [] pos) (iEnB qr) := by
  obtain ⟨t, pp, sd⟩ := ha.ex
  refine ⟨_, pi_enumB hg hm pp hs, fun ρ σ G H Q R s hq k => sd ρ σ G H _ _ s hq fun vs ds G' H' g r h => ?_⟩
  have g' := g.gh
  match ds, h with
  | [.lst xs], h =>
    obtain ⟨v, r', rfl, rv, rr⟩ := r.inv
    obtain rfl := rr.inv0
    cases rv with
    | lst e n q =>
    refine ⟨_, _, rfl, .inl ⟨.inl (.inl (g' _ _ e)), k _ _ G' H' g ?_ h⟩⟩
    intro G1 H1 x1 gh b _
    have e1 := gh _ _ (x1 _ _ e)
    refine ⟨fun i it hi => ?_, ⟨_, .inl (.inl e1), by rw [n]; simp [enumD]⟩⟩
    obtain ⟨x, hx, rfl⟩ := enum_get hi
    obtain ⟨v1, hv1, r1⟩ := RepL.get ⟨n, q⟩ hx
    refine ⟨⟨_, _, .inl (.inl e1), hv1⟩, fun z H2 yl => ?_⟩
    obtain ⟨T, y1, rfl, hT, rfl, f1⟩ := yl
    have z1 := f1 _ (.inl (.inl e1))
    rw [hv1] at z1
    cases z1
    have gn := Grow.new (o := .tup [.int ((i : Nat) : Int), v1]) gh b hT
    exact ⟨_, gn, .tup upd_same rfl (RepL.mono gn.gg (.cons (.int _) (.cons (r1.mono x1) .nil))).2⟩
  | [.tup xs], h =>
    obtain ⟨v, r', rfl, rv, rr⟩ := r.inv
    obtain rfl := rr.inv0
    cases rv with
    | tup e n q =>
    refine ⟨_, _, rfl, .inr ⟨e.sq g', k _ _ G' H' g ?_ h⟩⟩
    intro G1 H1 x1 gh b _
    have e1 : SqT X.K H1 _ _ := (e.ex x1).sq gh
    refine ⟨fun i it hi => ?_, ⟨_, e1, by rw [n]; simp [enumD]⟩⟩
    obtain ⟨x, hx, rfl⟩ := enum_get hi
    obtain ⟨v1, hv1, r1⟩ := RepL.get ⟨n, q⟩ hx
    refine ⟨⟨_, _, e1, hv1⟩, fun z H2 yl => ?_⟩
    obtain ⟨T, y1, rfl, hT, rfl, f1⟩ := yl
    have z1 := f1 _ e1
    rw [hv1] at z1
    cases z1
    have gn := Grow.new (o := .tup [.int ((i : Nat) : Int), v1]) gh b hT
    exact ⟨_, gn, .tup upd_same rfl (RepL.mono gn.gg (.cons (.int _) (.cons (r1.mono x1) .nil))).2⟩
end DL

namespace L2
open PySem PySem.Spec PyProof.Rows
/-! ### tuple * int, also by one -/
theorem tuple_mul1 (l : Addr) (items : Array Value) (n : Nat) (dd : Option Addr) (sl : Array (Option Value)) (u : Tok) :
    Meets (Builtin.«tuple.__mul__» ⟨[.ref l, .int 1 u], []⟩) (fun _ R s => s.heap.get? l = some { cls := .type "tuple", dict := dd, data := .seq items n, slots := sl } ∧ R (.ok (.ret (Value.ref l))) s) :=
  .of_wp fun prog w A R s h => by
    obtain ⟨hp, g, d, tk, os⟩ := s
    obtain ⟨hl, h⟩ := h
    have f1 := AutoSeq1.idx_int
    have c0 : (decide ((1 : Int) < -(2 ^ 63)) || decide ((1 : Int) ≥ 2 ^ 63)) = false := by decide
    have c1 : (items.isEmpty || (1 : Int) == 1) = true := by simp
    wp_walk using wpAny_loadPart' hl
    repeat (first
      | (refine wpAny_ite_false (decide_eq_false (by rw [c0]; exact Bool.false_ne_true)) ?_; wp_walk using wpAny_loadPart' hl)
      | (refine wpAny_ite_true (decide_eq_true c1) ?_; wp_walk using wpAny_loadPart' hl))
    exact ⟨_, rfl, h⟩
def rRep1 (K : PySem.W.Frag) : R2 := fun x y H Q => ∃ l xs, x = .ref l ∧ y = .int 1 ∧ SqT K H l xs ∧ Q (.ref l) H
theorem op_rep1 {X : Cx} : OpR X (binaryOp .Mult) (rRep1 X.K) := by
  intro pins s σ H x y v u Q I rx ry h
  obtain ⟨l, xs, rfl, rfl, hT, q⟩ := h
  cases rx
  obtain ⟨t, rfl⟩ := ry
  obtain ⟨its, r, ⟨⟨cls, dd, data, sl⟩, ho, hc, n, hd⟩, hs⟩ := I.tuple hT
  simp only at hc hd
  subst hc hd
  refine wpAny_binaryOp_repeat_ref (T := "tuple") (U := "int") (by decide) ⟨_, ho, rfl⟩ (fun s' => typeIs_int s' 1 t) noFill_tuple_mul F.fills_int_mul F.slot_int_rmul repeat_tuple F.slot_int_index.lookup
    (call_meets F.slot_int_rmul (typeIs_int s 1 t) F.entry_int_rmul (F.args_int_rmul_2 _ _) (int_rmul_tuple 1 t l its.toArray n dd sl)
      ⟨ho, rfl, ⟨_, ho, rfl⟩, call_meets F.slot_tuple_mul ⟨_, ho, rfl⟩ F.entry_tuple_mul (F.args_tuple_mul_2 _ _) (tuple_mul1 l its.toArray n dd sl t) ⟨ho, ?_⟩⟩)
  exact ⟨.ref l, H, I, rfl, q⟩
end L2
namespace DL
open PySem PySem.Spec PyProof.Rows L2
def mulT : D → D → (D → Prop) → Prop
  | .tup xs, .int j, Q => (xs ≠ [] ∧ 1 ≤ j ∧ j ≤ 1000 ∧ xs.length ≤ 100) ∧ Q (.tup (List.replicate j.toNat xs).flatten)
  | _, _, _ => False
theorem mulT_ti {xs : List D} {j : Int} {Q : D → Prop} : mulT (.tup xs) (.int j) Q = ((xs ≠ [] ∧ 1 ≤ j ∧ j ≤ 1000 ∧ xs.length ≤ 100) ∧ Q (.tup (List.replicate j.toNat xs).flatten)) := rfl
theorem opd_mulT {K : PySem.W.Frag} : OpD (fun x y H Q => rRepT K x y H Q ∨ rRep1 K x y H Q) mulT := by
  intro β G H x y a b Q R hgh hbg ra rb h k
  cases ra <;> cases rb <;> try (exact h.elim)
  case tup.int a vs ds e n r j =>
    obtain ⟨⟨h0, h1, h2, h4⟩, h3⟩ := h
    by_cases hj : j = 1
    · subst hj
      refine .inr ⟨a, vs, rfl, rfl, e.sq hgh, opd_ret hgh hbg k (.tup e n r) ?_⟩
      have : (List.replicate (1 : Int).toNat ds).flatten = ds := by
        show (List.replicate 1 ds).flatten = ds
        simp
      rw [this] at h3
      exact h3
    · refine .inl ⟨a, j, vs, rfl, rfl, e.sq hgh, fun z => ?_, by omega, by omega, by rw [n]; omega, fun p hp => opd_tup hgh hbg k hp (RepL.flatten ⟨n, r⟩ _) h3⟩
      subst z
      exact h0 (List.length_eq_zero_iff.mp n.symm)
theorem dmulT {c : Ctx} {X : Cx} {a b : Expr} {qa qb : QE} {pos : Pos} (ha : PD c X a qa) (hb : PD c X b qb) : PD c X (.BinOp a .Mult b pos) (qOp mulT qa qb) := PD.op (op_repT.or op_rep1) opd_mulT ha hb
end DL

namespace DL
open PySem PySem.Spec PyProof.Rows L2
/-! ### the heads of error classes -/
structure HdX (K : PySem.W.Frag) (x : Str) (C : Addr) : Prop where
  ns : PySem.W.nsIn K mainGlobals x = some (some (.ref C))
  ox : OexC K C
  er : ErT K C
theorem hdx_mk {K : PySem.W.Frag} {x : Str} {C : Addr} {nm q : Str} {N : Addr} {bs bm : List Value} {sn : List Str} {sub : List Value} {ab : Bool} {col : Option Bool} {dd : Option Addr} {k0 k1 k2 k3 k5 : Option Value}
    (ns : PySem.W.nsIn K mainGlobals x = some (some (.ref C))) (l : K.lookup C = some (excClassObj nm q C N bs bm true sn sub ab col dd k0 k1 k2 k3 k5 "ValueError.__new__")) (ve : PySem.HandSPX.refsVE bm = true)
    (sa : PySem.W.findIn K (.ref C) "__setattr__" = some (some (.builtin "object.__setattr__"))) (exC : PySem.W.subIn K (.ref C) (.type "BaseException") = some true) (tyC : PySem.W.typeIn K (.ref C) = some (.type "type")) (kC : PySem.W.keepIn K (.ref C) = true)
    (ga : PySem.W.findIn K (.ref C) "__getattribute__" = some (some (.builtin "BaseException.__getattribute__"))) (gg : PySem.W.findIn K (.ref C) "__getattr__" = some none) (hd : PySem.W.hasDictIn K C = true)
    (n1 : PySem.W.findIn K (.ref C) "code" = some none) (n2 : PySem.W.findIn K (.ref C) "at" = some none) (n3 : PySem.W.findIn K (.ref C) "most" = some none) (n4 : PySem.W.findIn K (.ref C) "name" = some none) (n5 : PySem.W.findIn K (.ref C) "line" = some none) (n6 : PySem.W.findIn K (.ref C) "given" = some none) : HdX K x C :=
  ⟨ns, ⟨⟨_, _, _, _, _, _, _, _, _, _, _, _, _, _, _, l, ve⟩, sa, exC, tyC, kC⟩, ⟨⟨ga, gg, exC, hd⟩, n1, n2, n3, n4, n5, n6⟩⟩
theorem HdX.errC {K : PySem.W.Frag} {x : Str} {C : Addr} (h : HdX K x C) : ErrC K C := ⟨h.ox, h.er.n_code, h.er.xf⟩
/-- its own __init__ -/
structure HdXI (K : PySem.W.Frag) (C : Addr) (qual : Str) (st : Stmt) : Prop where
  ex : ∃ (f : Addr) (fd : FuncData), PySem.W.findIn K (.ref C) "__init__" = some (some (.ref f)) ∧ PySem.W.typeIn K (.ref f) = some (.type "function") ∧ Fun K "__init__" qual st f fd
theorem hdxi_mk {K : PySem.W.Frag} {C : Addr} {qual : Str} {st : Stmt} {f : Addr} {oc : Value} {od : Option Addr} {kV dc pm : Value} {an : Option Addr} {cd ct : Value} {sl : Array (Option Value)} (a : PySem.W.findIn K (.ref C) "__init__" = some (some (.ref f))) (t : PySem.W.typeIn K (.ref f) = some (.type "function"))
    (l : K.lookup f = some ⟨oc, od, .func (PySem.W.fnOf "__init__" qual (defArgs st) (defBody st) (defScope st) .none kV dc pm an cd ct), sl⟩) (c : PySem.W.codeIn K cd qual = true) (k : PySem.W.keepIn K (.ref f) = true) : HdXI K C qual st := ⟨f, _, a, t, fun_mk (st := st) l c k⟩
/-- WishError -/
structure HdW (K : PySem.W.Frag) (W : Addr) (st : Stmt) : Prop where
  ns : PySem.W.nsIn K mainGlobals "WishError" = some (some (.ref W))
  ve : PySem.W.nsIn K mainGlobals "ValueError" = some none
  vi : PySem.W.findCls K (.type "ValueError") (.type "type") "__init__" = some (.val (.builtin "ValueError.__init__"))
  ex : ∃ (g : Addr) (fd : FuncData), CFn K W "__init__" g ∧ Fun K "__init__" "WishError.__init__" st g fd
theorem hdw_mk {K : PySem.W.Frag} {W : Addr} {st : Stmt} {g : Addr} {oc : Value} {od : Option Addr} {kV dc pm : Value} {an : Option Addr} {cd ct : Value} {sl : Array (Option Value)} (ns : PySem.W.nsIn K mainGlobals "WishError" = some (some (.ref W))) (ve : PySem.W.nsIn K mainGlobals "ValueError" = some none)
    (vi : PySem.W.findCls K (.type "ValueError") (.type "type") "__init__" = some (.val (.builtin "ValueError.__init__"))) (rd : PySem.W.readsIn K W (.type "type") = true) (ga : PySem.W.specialIn K (.ref W) "__getattribute__" = some (some (.builtin "type.__getattribute__")))
    (at_ : PySem.W.findCls K (.ref W) (.type "type") "__init__" = some (.val (.ref g))) (k : PySem.W.keepIn K (.ref g) = true)
    (l : K.lookup g = some ⟨oc, od, .func (PySem.W.fnOf "__init__" "WishError.__init__" (defArgs st) (defBody st) (defScope st) .none kV dc pm an cd ct), sl⟩) (c : PySem.W.codeIn K cd "WishError.__init__" = true) : HdW K W st := ⟨ns, ve, vi, g, _, ⟨rd, ga, at_, k⟩, fun_mk (st := st) l c k⟩
theorem kit_cls {K : PySem.W.Frag} {t c : Value} {b : Bool} (h : PySem.W.kitOne K t c = some b) (n : (t == c) = false) : PySem.W.kitCls K t c = some b := by
  unfold PySem.W.kitOne at h
  rw [if_neg (by rw [n]; decide)] at h
  exact h
/-- which of the clause's three classes takes an error of the class C -/
theorem exm_mk {K : PySem.W.Frag} {C W M N : Addr} {b1 b2 b3 : Bool} (s1 : PySem.W.subIn K (.ref W) (.type "BaseException") = some true) (s2 : PySem.W.subIn K (.ref M) (.type "BaseException") = some true) (s3 : PySem.W.subIn K (.ref N) (.type "BaseException") = some true)
    (k1 : PySem.W.kitOne K (.ref C) (.ref W) = some b1) (k2 : PySem.W.kitOne K (.ref C) (.ref M) = some b2) (k3 : PySem.W.kitOne K (.ref C) (.ref N) = some b3) (n1 : (Value.ref C == Value.ref W) = false) (n2 : (Value.ref C == Value.ref M) = false) (n3 : (Value.ref C == Value.ref N) = false) (hb : (b1 || (b2 || (b3 || false))) = true) :
    PySem.W.exmAny K (.ref C) [.ref W, .ref M, .ref N] = some true := by
  have one : ∀ {c : Addr} {b : Bool}, PySem.W.subIn K (.ref c) (.type "BaseException") = some true → PySem.W.kitOne K (.ref C) (.ref c) = some b → (Value.ref C == Value.ref c) = false → PySem.W.exmOne K (.ref C) (.ref c) = some b := fun s k n => by
    unfold PySem.W.exmOne
    rw [if_pos (by rw [s]; rfl)]
    exact kit_cls k n
  simp only [PySem.W.exmAny, one s1 k1 n1, one s2 k2 n2, one s3 k3 n3, hb]
end DL

namespace DL
open PySem L2
/-! ### class methods that may raise: the class is a datum, its address -/
def DnCX (P : Program) (w : World) (K : PySem.W.Frag) (mg : Str → Option Value) (base : Heap) (k : Nat) (C : Addr) (m : Str) (ps : List Str) (sp : SpX) : Prop :=
  ∃ p g fd mc, FnOk P w K mg base (L2.CX P w) k g fd ps (lfX sp) ∧ ClX.CRead K C mc ∧ ClX.CMet K C mc m p g ∧ Binds K fd ps [] ∧ KBinds K fd ps (ps.drop 1) kwM kwM
/-- what the head tells -/
def HdCM (K : PySem.W.Frag) (C : Addr) (m qual : Str) (st : Stmt) : Prop := ∃ (p g : Addr) (mc : Value) (oc : Value) (od : Option Addr) (kV dc pm : Value) (an : Option Addr) (cd ct : Value) (sl : Array (Option Value)),
  ClX.CRead K C mc ∧ ClX.CMet K C mc m p g ∧ PySem.W.keepIn K (.ref g) = true ∧ K.lookup g = some ⟨oc, od, .func (PySem.W.fnOf m qual (defArgs st) (defBody st) (defScope st) .none kV dc pm an cd ct), sl⟩ ∧ PySem.W.codeIn K cd qual = true
theorem hdcm_mk {K : PySem.W.Frag} {C p f : Addr} {m qual : Str} {st : Stmt} {rest : List Value} {oc : Value} {od : Option Addr} {kV dc pm : Value} {an : Option Addr} {cd ct : Value} {sl : Array (Option Value)} (rd : PySem.W.readsIn K C (.type "type") = true) (ga : PySem.W.specialIn K (.ref C) "__getattribute__" = some (some (.builtin "type.__getattribute__")))
    (a : PySem.W.findCls K (.ref C) (.type "type") m = some (.get (.builtin "classmethod.__get__") (.ref p) .none (.ref C))) (rc : PySem.W.recIn K p "classmethod" = some (.ref f :: rest)) (fi : PySem.W.fnIn K f = true) (k : PySem.W.keepIn K (.ref f) = true)
    (l : K.lookup f = some ⟨oc, od, .func (PySem.W.fnOf m qual (defArgs st) (defBody st) (defScope st) .none kV dc pm an cd ct), sl⟩) (c : PySem.W.codeIn K cd qual = true) : HdCM K C m qual st := ⟨p, f, .type "type", _, _, _, _, _, _, _, _, _, ⟨rd, ga⟩, ⟨a, ⟨rest, rc⟩, fi⟩, k, l, c⟩
def DfCM (K : PySem.W.Frag) (C : Addr) (m qual : Str) (st : Stmt) (ps : List Str) : Prop := ∃ p g fd mc, Fun K m qual st g fd ∧ ClX.CRead K C mc ∧ ClX.CMet K C mc m p g ∧ Binds K fd ps [] ∧ KBinds K fd ps (ps.drop 1) kwM kwM
theorem HdCM.df {K : PySem.W.Frag} {C : Addr} {m qual : Str} {st : Stmt} {ps : List Str} (H : HdCM K C m qual st) (hp : ps ≠ [])
    (hb : ∀ (kV doc pm : Value) (an : Option Addr) (cdv ct : Value) (us : List Value), us.length = ps.length → bindArgs (PySem.W.fnOf m qual (defArgs st) (defBody st) (defScope st) .none kV doc pm an cdv ct) ⟨us, []⟩ = pure (ps.zip us))
    (hk : ∀ (kV doc pm : Value) (an : Option Addr) (cdv ct u : Value) (ws : List Value), (u :: ws).length = ps.length → bindArgs (PySem.W.fnOf m qual (defArgs st) (defBody st) (defScope st) .none kV doc pm an cdv ct) ⟨[u], (ps.drop 1).zip ws⟩ = pure (ps.zip (u :: ws))) : DfCM K C m qual st ps := by
  obtain ⟨p, f, mc, oc, od, kV, dc, pm, an, cd, ct, sl, r, cm, k, l, c⟩ := H
  have F := fun_mk (st := st) l c k
  refine ⟨p, f, _, mc, F, r, cm, F.binds hb, fun s us ws _ hl => ?_, fun r rz => kwM_rel r rz⟩
  match us, hl with
  | [u], hl => exact .of_eq (hk kV dc pm an cd ct u ws hl)
  | [], hl => exact absurd (List.length_eq_zero_iff.mp hl.symm) hp
  | _ :: _ :: _, hl => exact absurd (List.length_eq_zero_iff.mp hl.symm) hp
section
variable {P : Program} {w : World} {K : PySem.W.Frag} {mg : Str → Option Value} {base : Heap}
theorem DnCX.mono {k j : Nat} {C : Addr} {m : Str} {ps : List Str} {sp : SpX} (h : DnCX P w K mg base k C m ps sp) (e : k ≤ j) : DnCX P w K mg base j C m ps sp := by
  obtain ⟨p, f, fd, mc, a, b⟩ := h
  exact ⟨p, f, fd, mc, a.mono e, b⟩
theorem DfCM.okX {C : Addr} {m qual : Str} {st : Stmt} {N ps : List Str} {k : Nat} {sp : SpX} (F : DfCM K C m qual st ps) (S : FnScope N ps (defScope st)) (hl : ∀ β ds Q ξ, sp β ds Q ξ → ds.length = ps.length)
    (body : ∀ (f : Addr) (cdv : Value) (A : Around) (outer : List Env) (s : Shared) (H : Hp) (E : XK) (c : Ctx), Room k (A.deeper (PyProof.Rows.envOfC qual (defScope st) s.heap.objs.size f cdv)) → TakesC c (cxOf (L2.CX P w) P w K mg base N qual (defScope st) f cdv A outer s H E) →
      ∃ q, PDB c (cxOf (L2.CX P w) P w K mg base N qual (defScope st) f cdv A outer s H E) (defBody st) q ∧ ∀ ds Q, sp c.β ds Q c.ξ → q (startS N ds) { nx := fun _ => Q .non, rt := fun d _ => Q d }) : DnCX P w K mg base (k + 1) C m ps sp := by
  obtain ⟨p, f, fd, mc, F, b⟩ := F
  exact ⟨p, f, fd, mc, fn_dlX F S hl (body f), b⟩
/-- .. where nothing is raised -/
def DnC (P : Program) (w : World) (K : PySem.W.Frag) (mg : Str → Option Value) (base : Heap) (k : Nat) (C : Addr) (m : Str) (ps : List Str) (sp : SpD) : Prop :=
  ∃ p g fd mc, FnOk P w K mg base CX0 k g fd ps (lf sp) ∧ ClX.CRead K C mc ∧ ClX.CMet K C mc m p g ∧ Binds K fd ps [] ∧ KBinds K fd ps (ps.drop 1) kwM kwM
theorem DnCX.dn {k : Nat} {C : Addr} {m : Str} {ps : List Str} {sp : SpX} (h : DnCX P w K mg base k C m ps sp) : DnC P w K mg base k C m ps (spD sp) := by
  obtain ⟨p, f, fd, mc, a, b⟩ := h
  exact ⟨p, f, fd, mc, FnOk.noX a fun _ _ _ _ => lfX_no, b⟩
end
section
variable {c : Ctx} {X : Cx} {e o : Expr} {es : List Expr} {qr : QA} {q : QE} {p pos apos npos : Pos} {x m : Str} {C : Addr} {kws : List Keyword}
def qCMX (C : Addr) (sp : SpX) (c : Ctx) (qr : QA) : QE := fun ρ Q => qr ρ fun ds => sp c.β (.adr C :: ds) Q c.ξ
def qCM (C : Addr) (sp : SpD) (β : Option Addr) (qr : QA) : QE := fun ρ Q => qr ρ fun ds => sp β (.adr C :: ds) Q
theorem snd_cmX {sp : SpX} {t : TA} (sa : SndA c t qr) : SndE c (fun σ H Q => t σ H fun vs H1 => lfX sp (.ref C :: vs) H1 Q (wishC c)) (qCMX C sp c qr) := by
  intro ρ σ G H Q R s h k
  refine sa ρ σ G H _ _ s h fun vs ds G1 H1 g1 r1 h1 => ?_
  have s1 := s.grow g1
  exact ⟨c.β, G1, _, Q, c.ξ, .cons (.adr C) r1, s1.core.gh, s1.core.bg, h1, fun v d G' H' g r q => k v d G' H' (g1.trans g s.hb) r q, fun C dx fvs fs G' H' g e1 e2 e3 => wish_of s1.core g e1 e2 e3⟩
theorem snd_cm {sp : SpD} {t : TA} {E : XK} (sa : SndA c t qr) : SndE c (fun σ H Q => t σ H fun vs H1 => lf sp (.ref C :: vs) H1 Q E) (qCM C sp c.β qr) := by
  intro ρ σ G H Q R s h k
  refine sa ρ σ G H _ _ s h fun vs ds G1 H1 g1 r1 h1 => ?_
  have s1 := s.grow g1
  exact ⟨c.β, G1, _, Q, .cons (.adr C) r1, s1.core.gh, s1.core.bg, h1, fun v d G' H' g r q => k v d G' H' (g1.trans g s.hb) r q⟩
/-- C.m(..) -/
theorem pe_cm {CX : CXT} {k : Nat} {pp g : Addr} {fd : FuncData} {ps : List Str} {mc : Value} {sp : Sp} {E : XK} {t : TA} {pl : Sem Bool} (F : FnOk X.prog X.w X.K X.mg X.base CX k g fd ps sp) (r : ClX.CRead X.K C mc) (cm : ClX.CMet X.K C mc m pp g) (b : Binds X.K fd ps []) (hr : Room k X.A) (hx : Passes CX X E) (hm : X.mg x = some (.ref C)) (ha : PA X (e :: es) t)
    (hg : Gl X x) (hd : (x == ("__debug__" : Str)) = false) (hst : starEach (e :: es) X.env = (false, eval e X.env) :: starEach es X.env) (hpl : (backTo pos (starEach es X.env)).any (·.1) = false)
    (ht : eval (.Call (.Attribute (.Name x npos) m apos) (e :: es) [] pos) X.env = (do
      let ov ← eval (.Name x npos) X.env
      standAt apos.atName
      let (f, first) ← holding [ov] (getMethod ov m pl)
      callWith pos f first (backTo pos (starEach (e :: es) X.env)) (backToKw pos (keywordEach [] X.env)))) :
    PE X (.Call (.Attribute (.Name x npos) m apos) (e :: es) [] pos) (fun σ H Q => t σ H fun vs H1 => sp (.ref C :: vs) H1 Q E) := by
  have p := ClX.pe_cmeth (pl := pl) (o := .Name x npos) (pe_glob hg hm (show RelV (.ref C) (.ref C) from rfl) hd) r cm (F.raw b .nil) hr hx ha hst hpl ht
  refine ⟨fun pins s σ H Q I h => p.run pins s σ H Q I ?_⟩
  refine ⟨rfl, ?_⟩
  simpa only [List.append_nil] using h
/-- C.m(k = v) -/
theorem pe_cmK {CX : CXT} {k : Nat} {pp g : Addr} {fd : FuncData} {ps ks : List Str} {mc : Value} {sp : Sp} {E : XK} {tk : TA} {pl : Sem Bool} (F : FnOk X.prog X.w X.K X.mg X.base CX k g fd ps sp) (r : ClX.CRead X.K C mc) (cm : ClX.CMet X.K C mc m pp g) (hb : KBinds X.K fd ps ks kwM kwM) (hr : Room k X.A) (hx : Passes CX X E) (hm : X.mg x = some (.ref C))
    (hkw : PK X kws tk) (hall : (backToKw pos (keywordEach kws X.env)).all (·.1.isSome) = true) (hks : (backToKw pos (keywordEach kws X.env)).filterMap (·.1) = ks)
    (hpl : ((backTo pos (starEach [] X.env)).any (·.1) || (backToKw pos (keywordEach kws X.env)).any (·.1.isNone)) = false) (hg : Gl X x) (hd : (x == ("__debug__" : Str)) = false)
    (ht : eval (.Call (.Attribute (.Name x npos) m apos) [] kws pos) X.env = (do
      let ov ← eval (.Name x npos) X.env
      standAt apos.atName
      let (f, first) ← holding [ov] (getMethod ov m pl)
      callWith pos f first (backTo pos (starEach [] X.env)) (backToKw pos (keywordEach kws X.env)))) :
    PE X (.Call (.Attribute (.Name x npos) m apos) [] kws pos) (fun σ H Q => tk σ H fun vs H1 => sp (.ref C :: vs) H1 Q E) := by
  refine ⟨fun pins s σ H Q I h => ?_⟩
  refine PySem.W.methodCall_KW (pl := pl) (thn ((pe_glob hg hm (show RelV (.ref C) (.ref C) from rfl) hd).run pins s σ H (fun v H' => v = .ref C ∧ H' = H) I ⟨rfl, rfl⟩) fun u s1 ⟨v, H1, I1, rv, e1, e2⟩ => ?_) ht
  subst e1 e2
  obtain rfl : u = Value.ref C := rv
  refine ClX.getmethcm_ok I1 r cm fun s2 I2 => ?_
  refine PySem.W.callWith_of (P := PySem.W.MethP X.K s1.heap.objs.size g (.ref C)) hpl (PySem.W.keeps_M cm.fi) (PyProof.Rows.evalArgs_kw2_nil hall (thn (hkw.run pos _ s2 σ H1 _ I2 h) fun ws s3 ⟨zs, H2, I3, rz, q2⟩ => ⟨⟨ClX.pin_at I3, I3.kIn⟩, ?_⟩))
  rw [hks]
  have r2 : Vals (kwM [V.ref C] zs) (kwM [Value.ref C] ws) := hb.rel (.cons rfl .nil) rz
  have hl : (kwM [Value.ref C] ws).length = ps.length := by rw [← r2.length]; exact F.len _ _ _ _ q2
  have z : wpAny (model X.prog X.w) X.A (call (.ref s1.heap.objs.size) ([] ++ []) (ks.zip ws)) (EP X ((s1.heap.objs.size, PySem.W.methodObj (.ref g) (.ref C)) :: pins) σ Q) X.xe s3 := by
    refine wpAny_call (PySem.W.method_call (ClX.pin_at I3) (codeAny_mono (F.run X.A X.stack s3 H2 ⟨[.ref C], ks.zip ws⟩ (kwM [Value.ref C] ws) (kwM [V.ref C] zs) Q E hr I3.env0 (hb.to s3 [.ref C] ws I3.kIn hl) r2 q2) fun r s' hq => ?_))
    cases r with
    | error e => exact hx _ σ H2 s3 e s' I3 hq
    | ok fl =>
      cases fl with
      | ret u => exact I3.after hq
      | next => exact False.elim hq
      | brk => exact False.elim hq
      | cont => exact False.elim hq
  exact thn z fun _ _ y => ClX.unpinE y
theorem dcmX {sp : SpX} {j k : Nat} {ps : List Str} {pl : Sem Bool} (F : DnCX X.prog X.w X.K X.mg X.base j C m ps sp) (hm : X.mg x = some (.ref C)) (tk : TakesC c X) (hr : Room k X.A) (ha : PDA c X (e :: es) qr) (hj : j ≤ k := by decide) (hg : Gl X x := by rfl) (hd : (x == ("__debug__" : Str)) = false := by decide)
    (hst : starEach (e :: es) X.env = (false, eval e X.env) :: starEach es X.env := by rfl) (hpl : (backTo pos (starEach es X.env)).any (·.1) = false := by rfl)
    (ht : eval (.Call (.Attribute (.Name x npos) m apos) (e :: es) [] pos) X.env = (do
      let ov ← eval (.Name x npos) X.env
      standAt apos.atName
      let (f, first) ← holding [ov] (getMethod ov m pl)
      callWith pos f first (backTo pos (starEach (e :: es) X.env)) (backToKw pos (keywordEach [] X.env))) := by rfl) :
    PD c X (.Call (.Attribute (.Name x npos) m apos) (e :: es) [] pos) (qCMX C sp c qr) := by
  obtain ⟨pp, f, fd, mc, F, r, cm, b, _⟩ := F
  obtain ⟨t, pa, sa⟩ := ha.ex
  exact ⟨_, pe_cm F r cm b (hr.mono hj) tk.pass hm pa hg hd hst hpl ht, snd_cmX sa⟩
theorem dcmXK {sp : SpX} {j k : Nat} {ps : List Str} {pl : Sem Bool} (F : DnCX X.prog X.w X.K X.mg X.base j C m ps sp) (hm : X.mg x = some (.ref C)) (tk : TakesC c X) (hr : Room k X.A) (ha : PDK c X kws qr) (hj : j ≤ k := by decide) (hg : Gl X x := by rfl) (hd : (x == ("__debug__" : Str)) = false := by decide)
    (hall : (backToKw pos (keywordEach kws X.env)).all (·.1.isSome) = true := by rfl) (hks : (backToKw pos (keywordEach kws X.env)).filterMap (·.1) = ps.drop 1 := by rfl)
    (hpl : ((backTo pos (starEach [] X.env)).any (·.1) || (backToKw pos (keywordEach kws X.env)).any (·.1.isNone)) = false := by rfl)
    (ht : eval (.Call (.Attribute (.Name x npos) m apos) [] kws pos) X.env = (do
      let ov ← eval (.Name x npos) X.env
      standAt apos.atName
      let (f, first) ← holding [ov] (getMethod ov m pl)
      callWith pos f first (backTo pos (starEach [] X.env)) (backToKw pos (keywordEach kws X.env))) := by rfl) :
    PD c X (.Call (.Attribute (.Name x npos) m apos) [] kws pos) (qCMX C sp c qr) := by
  obtain ⟨pp, f, fd, mc, F, r, cm, _, b⟩ := F
  obtain ⟨t, pa, sa⟩ := ha.ex
  exact ⟨_, pe_cmK F r cm b (hr.mono hj) tk.pass hm pa hall hks hpl hg hd ht, snd_cmX sa⟩
theorem dcm {sp : SpD} {j k : Nat} {ps : List Str} {pl : Sem Bool} (F : DnC X.prog X.w X.K X.mg X.base j C m ps sp) (hm : X.mg x = some (.ref C)) (hr : Room k X.A) (ha : PDA c X (e :: es) qr) (hj : j ≤ k := by decide) (hg : Gl X x := by rfl) (hd : (x == ("__debug__" : Str)) = false := by decide)
    (hst : starEach (e :: es) X.env = (false, eval e X.env) :: starEach es X.env := by rfl) (hpl : (backTo pos (starEach es X.env)).any (·.1) = false := by rfl)
    (ht : eval (.Call (.Attribute (.Name x npos) m apos) (e :: es) [] pos) X.env = (do
      let ov ← eval (.Name x npos) X.env
      standAt apos.atName
      let (f, first) ← holding [ov] (getMethod ov m pl)
      callWith pos f first (backTo pos (starEach (e :: es) X.env)) (backToKw pos (keywordEach [] X.env))) := by rfl) :
    PD c X (.Call (.Attribute (.Name x npos) m apos) (e :: es) [] pos) (qCM C sp c.β qr) := by
  obtain ⟨pp, f, fd, mc, F, r, cm, b, _⟩ := F
  obtain ⟨t, pa, sa⟩ := ha.ex
  exact ⟨_, pe_cm F r cm b (hr.mono hj) pass0 hm pa hg hd hst hpl ht, snd_cm sa⟩
/-- x(..), x a local name that holds the class at C -/
def qMakeLX (i : Nat) (C : Addr) (sp : SpIX) (c : Ctx) (q : QA) : QE := fun ρ Q => ρ[i]? = some (.d (.adr C)) ∧ q ρ fun ds => sp c.β ds (fun fs => Q (.obj C fs)) c.ξ
theorem dmkLX {sp : SpIX} {j k : Nat} {ps : List Str} {y : Str} (i : Nat) (F : DnIX X.prog X.w X.K X.mg X.base j y C ps [] sp) (tk : TakesC c X) (hr : Room k X.A) (ha : PDA c X (e :: es) qr) (hj : j + 1 ≤ k := by decide)
    (hN : X.N[i]? = some x := by rfl) (hv : Vis X.env.scope x := by first | exact Or.inl rfl | exact Or.inr (Or.inl rfl) | exact Or.inr (Or.inr rfl)) (hdb : (x == ("__debug__" : Str)) = false := by decide) (hcd : (x == ("__classdict__" : Str)) = false := by decide)
    (he : starEach (e :: es) X.env = (false, eval e X.env) :: starEach es X.env := by rfl) (hpl : (backTo pos (starEach es X.env)).any (·.1) = false := by rfl) : PD c X (.Call (.Name x p) (e :: es) [] pos) (qMakeLX i C sp c qr) := by
  obtain ⟨f, fd, F, M, _, m, _, b⟩ := F
  obtain ⟨us, vu, bd⟩ := b 0 (Nat.le_refl _)
  obtain ⟨t, pa, sa⟩ := ha.ex
  have pe : PE X (.Call (.Name x p) (e :: es) [] pos) (fun σ H Q => σ[i]? = some (some (.ref C)) ∧ tMake C (lfIX C sp) [] (wishC c) t σ H Q) := by
    refine ⟨fun pins s σ H Q I h => ?_⟩
    obtain ⟨hs, ht⟩ := h
    refine wpAny_Call_Name_kw (thn ((pe_var (pos := p) hN hv hdb hcd).run pins s σ H (fun v H1 => v = .ref C ∧ H1 = H) I ⟨.ref C, hs, rfl, rfl⟩) fun u s1 ⟨v, H1, I1, r1, q1⟩ => ?_)
    obtain ⟨rfl, rfl⟩ := q1
    cases r1
    refine PySem.W.callWith_K (h₀ := X.base) I.ok.mod.kin M.kp (thn (pa.run pos pins s1 σ _ _ I1 ht) fun us s2 ⟨vs, H2, I2, r, q⟩ => ⟨I2.kIn, ?_⟩) he hpl
    exact run_make M F (hr.mono hj) bd vu tk.pass I2 r q
  refine ⟨_, pe, fun ρ σ G H Q R s h k => ?_⟩
  obtain ⟨h0, h1⟩ := h
  obtain ⟨v, hv, r⟩ := s.sl i _ h0
  cases r
  refine ⟨hv, snd_makeX (C := C) (sp := sp) (dd := []) (dv := []) (fun _ => .nil) sa ρ σ G H Q R s ?_ k⟩
  simpa only [qMakeX, List.append_nil] using h1
end
end DL

namespace L2
open PySem PySem.Spec PyProof.Rows
/-- C() where __init__ has no argument beside self -/
theorem pmk_oex0 {X : Cx} {p pos : Pos} {CX : CXT} {x : Str} {C fI : Addr} {k : Nat} {fd : FuncData} {ps : List Str} {sp : Sp} {ds : List Value} {dvs : List V} (T : OexC X.K C) (iC : PySem.W.findIn X.K (.ref C) "__init__" = some (some (.ref fI))) (tI : PySem.W.typeIn X.K (.ref fI) = some (.type "function"))
    (F1 : FnOk X.prog X.w X.K X.mg X.base CX k fI fd ps sp) (hr : Room (k + 1) X.A) (hb : Binds X.K fd ps ds) (hd : Vals dvs ds) (hx : Passes CX X (fun _ _ _ => False)) (hg : Gl X x) (hm : X.mg x = some (.ref C))
    (hdb : (x == ("__debug__" : Str)) = false := by decide) :
    PMk X (.Call (.Name x p) [] [] pos) (tMkO C sp dvs tNil) := by
  intro pins s σ H Q I h
  obtain ⟨nm, q, N, bs, bm, sn, sub, ab, col, dd, k0, k1, k2, k3, k5, hC, hbm⟩ := T.cls
  refine wpAny_Call_Name_kw (ld_glob I hg hm ?_ hdb)
  refine PySem.W.callWith_K0 I.kIn T.kC ?_
  obtain ⟨hz, q1⟩ := h
  obtain ⟨us, r1⟩ : ∃ us : List Value, us = [] := ⟨_, rfl⟩
  show wpAny _ _ (call (.ref C) []) _ _ _
  rw [← r1]
  have r1 : Vals ([] : List V) us := by rw [r1]; exact .nil
  obtain ⟨hp, g, dr, tk, os⟩ := s
  have I1 := I
  have hsz : hp.objs.size ≤ hp.objs.size + 1 := Nat.le_succ _
  have hn : H (hp.objs.size + 1) = none := I1.hok.fresh hsz
  have hq := q1 (hp.objs.size + 1) hn
  have kk : ∀ b o, hp.get? b = some o → ((hp.push (PySem.W.kdv_tup us)).push (PySem.HandSPX.excO C hp.objs.size)).get? b = some o := fun b o e => Heap.get?_push_of_some _ (Heap.get?_push_of_some _ e)
  have hget : ((hp.push (PySem.W.kdv_tup us)).push (PySem.HandSPX.excO C hp.objs.size)).get? (hp.objs.size + 1) = some (PySem.HandSPX.excO C hp.objs.size) := by heap_get
  have I2 : Inv X pins σ (upd H (hp.objs.size + 1) (exo (hp.objs.size + 1) C none)) ⟨(hp.push (PySem.W.kdv_tup us)).push (PySem.HandSPX.excO C hp.objs.size), g, dr, tk, os⟩ :=
    I1.laid (t' := tk) (a := hp.objs.size + 1) (o := exo (hp.objs.size + 1) C none) (h' := (hp.push (PySem.W.kdv_tup us)).push (PySem.HandSPX.excO C hp.objs.size)) kk hsz (exo_ok hget)
  have r2 : Vals (V.ref (hp.objs.size + 1) :: ([] ++ dvs)) (Value.ref (hp.objs.size + 1) :: (us ++ ds)) := .cons rfl (r1.append hd)
  have hl : (Value.ref (hp.objs.size + 1) :: us ++ ds).length = ps.length := by
    have e := r2.length
    rw [F1.len _ _ _ _ hq] at e
    exact e.symm
  have hus : us.length ≤ sizeLine := by rw [← Paired.length r1]; exact Nat.zero_le _
  refine wpAny_call (PySem.HandSPX.call_own F.excBase_ValueError (fun Y => PySem.HandSPX.refsVE_contains Y bm hbm) (I1.kIn _ _ hC) (PySem.W.looks_findIn I1.kIn iC) (fun self => PySem.W.bind_fn I1.kIn self tI) hus
    (codeAny_mono (F1.run _ X.stack _ _ ⟨Value.ref (hp.objs.size + 1) :: us, []⟩ (Value.ref (hp.objs.size + 1) :: (us ++ ds)) _ _ (fun _ _ _ => False) (hr.make C us []) (I2.env0.make C us []) (hb _ (Value.ref (hp.objs.size + 1) :: us) I2.kIn hl) r2 hq) fun r s' hq' => ?_))
  cases r with
  | error er => exact hx pins σ _ _ er s' I2 hq'
  | ok fl =>
    cases fl with
    | ret u =>
      obtain ⟨v, H2, os2, bare2, un2, hok2, rv, ev, d, fs, ea, ed, hd1, q2⟩ := hq'
      subst ev
      obtain ⟨h2, g2, d2, t2, os'⟩ := s'
      exact ⟨rv, mk_end (raises_own T.exC T.tyC) I1 hsz kk un2 hok2 os2 bare2 ea ed hd1 q2⟩
    | next => exact False.elim hq'
    | brk => exact False.elim hq'
    | cont => exact False.elim hq'
end L2
namespace DL
open PySem L2
section
variable {c : Ctx} {X : Cx} {p1 p2 p3 : Pos} {x : Str} {C : Addr} {code : Str}
def qRaise0 (c : Ctx) (C : Addr) (code : Str) : QS := fun _ _ => c.ξ (.exc C [("code", .str code)])
theorem sraise0 {k : Nat} (E0' : Er0 X.prog X.w X.K X.mg X.base x C code) (tk : TakesC c X) (hr : Room k X.A) (hc : X.calm = true := by rfl) (hk : 3 ≤ k := by decide) (hg : Gl X x := by rfl) (hdb : (x == ("__debug__" : Str)) = false := by decide) : PDS c X (.Raise (some (.Call (.Name x p1) [] [] p2)) none p3) (qRaise0 c C code) := by
  obtain ⟨T, hm, f, fd, iC, tI, F, b⟩ := E0'
  refine ⟨_, ps_raise hc tk (pmk_oex0 T.ox iC tI F (hr.mono hk) b .nil pass0 hg hm hdb), fun ρ σ G H Φ D' s h _ => ?_⟩
  refine ⟨by simp, fun a ha => ?_⟩
  refine ⟨a, rfl, upd_same, fun dx hdx hne => ⟨rfl, dx, [("code", .str code)], upd_same, by rw [upd_ne hne, upd_same], by rw [upd_ne hne] at hdx; exact hdx, ?_⟩⟩
  have hd0 : H dx = none := by rw [upd_ne hne] at hdx; exact hdx
  have gn := Grow.new (o := .xd [("code", .str code)]) s.core.gh s.core.bg hd0
  have e : upd (del (upd (upd (upd H a (exo a C none)) dx (exd dx [("code", V.str code)])) a (exo a C (some dx))) a) dx (.xd [("code", V.str code)]) = upd H dx (.xd [("code", V.str code)]) := by
    funext z
    by_cases h1 : z = dx
    · rw [h1, upd_same, upd_same]
    · rw [upd_ne h1, upd_ne h1]
      by_cases h2 : z = a
      · rw [h2, del_same, ha]
      · rw [del_ne h2, upd_ne h2, upd_ne h1, upd_ne h2]
  rw [e]
  exact wish_of s.core gn upd_same (RepF.one' (.str code)) h
end
/-! ### own + of two objects of one class, which may raise -/
section
variable {c : Ctx} {X : Cx} {a b : Expr} {qa qb : QE} {pos : Pos} {C : Addr}
def addX (C : Addr) (sp : SpX) (c : Ctx) : D → D → (D → Prop) → Prop
  | .obj C1 fs, .obj C2 gs, Q => (C1 = C ∧ C2 = C) ∧ sp c.β [.obj C1 fs, .obj C2 gs] Q c.ξ
  | _, _, _ => False
theorem op_addX {sp : SpX} {k j : Nat} {ps : List Str} (sf : PySem.W.selfFirst X.K C = true) (F : DnMX X.prog X.w X.K X.mg X.base j C "__add__" ps sp) (tk : TakesC c X) (hr : Room k X.A) (hj : j ≤ k) :
    OpR X (binaryOp .Add) (fun x y H Q => ∃ a dx fs b dy gs, x = .ref a ∧ y = .ref b ∧ H a = some (.ins C dx fs) ∧ H b = some (.ins C dy gs) ∧ lfX sp [x, y] H Q (wishC c)) := by
  intro pins s σ H x y u v Q I rx ry h
  obtain ⟨f, fd, F, M, cf, b, _⟩ := F
  obtain ⟨m, hF⟩ := I.fr
  obtain ⟨a, dx, fs, d, dy, gs, rfl, rfl, ha, hc, h⟩ := h
  obtain rfl : u = Value.ref a := rx
  obtain rfl : v = Value.ref d := ry
  obtain ⟨od, J⟩ := ins_at I ha
  obtain ⟨od', J'⟩ := ins_at I hc
  refine PySem.W.binop_K hF I.ok.mod.kin J J'.type sf M.at_ M.fn (back_ni ?_)
  exact run_fn (us := [.ref a, .ref d]) (vs := [.ref a, .ref d]) F (hr.mono hj) b .nil tk.pass I (.cons rfl (.cons rfl .nil)) h
theorem daddX {sp : SpX} {k j : Nat} {ps : List Str} (sf : PySem.W.selfFirst X.K C = true) (F : DnMX X.prog X.w X.K X.mg X.base j C "__add__" ps sp) (tk : TakesC c X) (hr : Room k X.A) (ha : PD c X a qa) (hb : PD c X b qb) (hj : j ≤ k := by decide) : PD c X (.BinOp a .Add b pos) (qOp (addX C sp c) qa qb) := by
  obtain ⟨ta, pa, sa⟩ := ha.ex
  obtain ⟨tb, pb, sb⟩ := hb.ex
  refine ⟨_, pe_op (op_addX sf F tk hr hj) pa pb, fun ρ σ G H Q R s h k => ?_⟩
  refine sa ρ σ G H _ _ s h fun v1 d1 G1 H1 g1 r1 h1 => ?_
  have s1 := s.grow g1
  refine sb ρ σ G1 H1 _ _ s1 h1 fun v2 d2 G2 H2 g2 r2 h2 => ?_
  have s2 := s1.grow g2
  have r1' := r1.mono g2.gg
  have g12 := g1.trans g2 s.hb
  cases d1 with
  | obj C1 fs =>
    cases d2 with
    | obj C2 gs =>
      obtain ⟨⟨rfl, rfl⟩, h3⟩ := h2
      have rr : RepL G2 [v1, v2] [.obj _ fs, .obj _ gs] := .cons r1' (.cons r2 .nil)
      cases r1' with
      | obj e1 _ _ _ =>
      cases r2 with
      | obj e2 _ _ _ =>
      exact ⟨_, _, _, _, _, _, rfl, rfl, g2.gh _ _ e1, g2.gh _ _ e2, c.β, G2, _, Q, c.ξ, rr, s2.core.gh, s2.core.bg, h3, fun v d G' H' g r q => k v d G' H' (g12.trans g s.hb) r q, fun C dx fvs fs G' H' g e1 e2 e3 => wish_of s2.core g e1 e2 e3⟩
    | _ => exact h2.elim
  | _ => exact h2.elim
end
end DL

namespace DL
open PySem PySem.Spec PyProof.Rows L2
/-! ### != of two objects with an own == -/
section
variable {prog : Program} {w : World} {A : Around} {E : Value → Shared → Prop} {s : Shared} {K : PySem.W.Frag} {x y C f : Addr} {ox : Obj} {od : Option Obj}
theorem entry_ne (X : K.In s.heap) (I : PySem.W.InstAt s.heap x ox C od) (he : PySem.W.findIn K (.ref C) "__eq__" = some (some (.ref f))) (hf : PySem.W.isFn K (.ref f) = true) (hu : A.units < cLine) {Q : Fin → Shared → Prop}
    (h : wpAny (model prog w) A (call (.ref f) [.ref x, .ref y]) (fun v s' => ∃ b, v = .bool b ∧ Q (.done (.ret (.bool (!b)))) s') E s) : wpAny (model prog w) A (Builtin.«object.__ne__» ⟨[.ref x, .ref y], []⟩) Q E s := by
  unfold Builtin.«object.__ne__»
  repeat (first
    | with_reducible refine wpAny_cRoomFor hu ?_
    | (refine wpAny_bind (m := callSpecialIfBound? (.ref x) (Str.ofString "__eq__") [.ref y])
        (PySem.W.ifBound_K X I he hf (wpAny_mono h (fun r s' hr => by
          obtain ⟨b, rfl, hq⟩ := hr
          repeat (first | exact hq | exact wpAny_pure hq | exact wpAny_truthy_bool hq | (refine wpAny_bind (m := truthy (.bool _)) (wpAny_truthy_bool ?_)) | wp_step)) fun _ _ e => e)))
    | wp_step)
theorem ifBound_objNe {args : List Value} {Q : Option Value → Shared → Prop} {M : Model} (X : K.In s.heap) (I : PySem.W.InstAt s.heap x ox C od) (hs : PySem.W.findIn K (.ref C) "__ne__" = some (some (.builtin "object.__ne__")))
    (h : wpAny M A (call (.builtin "object.__ne__") (.ref x :: args)) (fun v => Q (some v)) E s) : wpAny M A (callSpecialIfBound? (.ref x) "__ne__" args) Q E s := by
  simp only [callSpecialIfBound?, bindSpecialIfBound?]
  refine wpAny_holding (wpAny_bind (wpAny_bind (wpAny_bind (I.type.here ((PySem.W.looks_findIn X hs).here ?_)))))
  refine wpAny_bind (wpAny_askSetting (wpAny_ite ?_))
  have fin : wpAny M A (call (.builtin "object.__ne__") ([.ref x] ++ args) >>= fun v => pure (some v)) Q E s := wpAny_bind (wpAny_mono h (fun v s' h' => wpAny_pure h') fun _ _ h' => h')
  split
  · exact wpAny_bind (wpAny_of_eq (F.cmp_object.ne.bind _) (wpAny_pure (by exact fin)))
  · exact wpAny_tryCatch (wpAny_bind (wpAny_of_eq (F.cmp_object.ne.bind _) (wpAny_pure (by exact fin))))
theorem rc_neO {Q : Value → Shared → Prop} (hu : A.units + 1 < cLine) (X : K.In s.heap) (I : PySem.W.InstAt s.heap x ox C od) (hb : PySem.W.Looks (model prog w) s.heap (typeOf (.ref y)) (.ref C)) (hm : PySem.W.mroIn K C (.type "object") = some true) (hs : PySem.W.findIn K (.ref C) "__ne__" = some (some (.builtin "object.__ne__")))
    (he : PySem.W.findIn K (.ref C) "__eq__" = some (some (.ref f))) (hf : PySem.W.isFn K (.ref f) = true)
    (h : wpAny (model prog w) A.in1 (call (.ref f) [.ref x, .ref y]) (fun v s' => ∃ b, v = .bool b ∧ Q (.bool (!b)) s') E s) : wpAny (model prog w) A (richCompare .NotEq (.ref x) (.ref y)) Q E s := by
  have one : wpAny (model prog w) A (tryCompare (.ref x) "__ne__" (.ref y)) (fun r s' => ∃ v, r = some v ∧ Q v s') E s := by
    unfold tryCompare
    refine wpAny_bind (ifBound_objNe X I hs (wpAny_call (codeAny_call_builtin F.cmp_object.ne.plain F.cmpEntry_ne (PySem.W.check_slot F.cmpKind_ne F.cmpSplit_ne (I.type.andThen (PySem.W.looks_mroIn X hm)) (F.cmpArgs_ne _ _)
      (entry_ne (A := A.in1) X I he hf hu (wpAny_mono h (fun v s' hv => ?_) fun _ _ e => e))))))
    obtain ⟨b, rfl, hq⟩ := hv
    first | exact ⟨b, rfl, wpAny_pure ⟨_, rfl, hq⟩⟩ | exact ⟨b, rfl, _, rfl, wpAny_pure ⟨_, rfl, hq⟩⟩
  unfold richCompare
  simp only [oneThing_ref]
  refine wpAny_holding (wpAny_bind (wpAny_cRoomFor (by omega) ?_))
  refine wpAny_bind (I.type.here (wpAny_bind (hb.here ?_)))
  rw [cmpInfo_NotEq]
  dsimp only
  split
  · rename_i q
    simp at q
  · refine wpAny_bind (wpAny_pure ?_)
    simp only [Bool.false_eq_true, if_false]
    refine wpAny_bind (wpAny_mono one (fun r s' z => ?_) fun _ _ e => e)
    obtain ⟨v, rfl, hq⟩ := z
    exact wpAny_pure hq
end
section
variable {c : Ctx} {X : Cx} {a b : Expr} {qa qb : QE} {pos : Pos} {C : Addr} {sp : SpD} {k j : Nat} {ps : List Str}
def NeO (K : PySem.W.Frag) (C : Addr) : Prop := PySem.W.findIn K (.ref C) "__ne__" = some (some (.builtin "object.__ne__"))
theorem op_neO (hs : NeO X.K C) (F : DnM X.prog X.w X.K X.mg X.base j C "__eq__" ps sp) (hr : Room k X.A) (hj : j + 1 ≤ k) : OpR X (compareOp .NotEq) (fun x y H Q => ∃ a dx fs b dy gs, x = .ref a ∧ y = .ref b ∧ H a = some (.ins C dx fs) ∧ H b = some (.ins C dy gs) ∧ lf sp [x, y] H (fun v H' => ∃ r, v = .bl r ∧ Q (.bl (!r)) H') E0) := by
  intro pins s σ H x y u v Q I rx ry h
  obtain ⟨f, fd, F, M, cf, hb, _⟩ := F
  obtain ⟨a, dx, fs, d, dy, gs, rfl, rfl, ha, hc, h⟩ := h
  obtain rfl : u = Value.ref a := rx
  obtain rfl : v = Value.ref d := ry
  obtain ⟨od, J⟩ := ins_at I ha
  obtain ⟨od', J'⟩ := ins_at I hc
  have sb : Sub X (j + 1) X.A := ⟨hr.mono hj, rfl⟩
  show wpAny _ _ (richCompare .NotEq (.ref a) (.ref d)) _ _ _
  refine rc_neO (by have := hu_ hr; omega) I.kIn J J'.type cf.hm hs M.at_ M.fn (wpAny_mono (run_sub (us := [.ref a, .ref d]) (vs := [.ref a, .ref d]) F hb sb.in1 I (.cons rfl (.cons rfl .nil)) h) (fun v s' q => ?_) fun _ _ x => x)
  obtain ⟨z, H', I', rz, r, rfl, q⟩ := q
  cases rz
  exact ⟨r, rfl, .bl (!r), H', I', rfl, q⟩
def neO (C : Addr) (sp : SpD) : D → D → (D → Prop) → Prop
  | .obj C1 fs, .obj C2 gs, Q => (C1 = C ∧ C2 = C) ∧ sp none [.obj C1 fs, .obj C2 gs] fun d => ∃ r, d = .bl r ∧ Q (.bl (!r))
  | a, b, Q => neR a b Q
theorem opd_neO : OpD (fun x y H Q => rNeD X.K x y H Q ∨ ∃ a dx fs b dy gs, x = .ref a ∧ y = .ref b ∧ H a = some (.ins C dx fs) ∧ H b = some (.ins C dy gs) ∧ lf sp [x, y] H (fun v H' => ∃ r, v = .bl r ∧ Q (.bl (!r)) H') E0) (neO C sp) := by
  intro β G H x y a b Q R hgh hbg ra rb h k
  have gen : neR a b Q → rNeD X.K x y H R ∨ ∃ a dx fs b dy gs, x = .ref a ∧ y = .ref b ∧ H a = some (.ins C dx fs) ∧ H b = some (.ins C dy gs) ∧ lf sp [x, y] H (fun v H' => ∃ r, v = .bl r ∧ R (.bl (!r)) H') E0 := fun h => .inl (opd_ne β G H x y a b Q R hgh hbg ra rb h k)
  have rr : RepL G [x, y] [a, b] := .cons ra (.cons rb .nil)
  cases a with
  | obj C1 fs =>
    cases b with
    | obj C2 gs =>
      obtain ⟨⟨rfl, rfl⟩, h⟩ := h
      cases ra with
      | obj e1 _ _ _ =>
      cases rb with
      | obj e2 _ _ _ =>
      refine .inr ⟨_, _, _, _, _, _, rfl, rfl, hgh _ _ e1, hgh _ _ e2, lf_none hgh hbg rr h fun v d G' H' g r q => ?_⟩
      obtain ⟨z, rfl, q⟩ := q
      cases r
      exact ⟨z, rfl, k _ _ G' H' g (.bl _) q⟩
    | _ => exact gen h
  | _ => exact gen h
theorem dneO (hs : NeO X.K C) (F : DnM X.prog X.w X.K X.mg X.base j C "__eq__" ps sp) (hr : Room k X.A) (ha : PD c X a qa) (hb : PD c X b qb) (hj : j + 1 ≤ k := by decide) : PD c X (.Compare a [.NotEq] [b] pos) (qOp (neO C sp) qa qb) :=
  PD.cmp ((op_neD (by have := hu_ hr; omega)).or (op_neO hs F hr hj)) opd_neO ha hb (nomark _)
theorem tneO (hs : NeO X.K C) (F : DnM X.prog X.w X.K X.mg X.base j C "__eq__" ps sp) (hr : Room k X.A) (ha : PD c X a qa) (hb : PD c X b qb) (hj : j + 1 ≤ k := by decide) : PDT c X (.Compare a [.NotEq] [b] pos) (qTest (qOp (neO C sp) qa qb)) :=
  PDT.cmp ((op_neD (by have := hu_ hr; omega)).or (op_neO hs F hr hj)) opd_neO ha hb (nomark _)
end
end DL

namespace DL
open PySem PySem.Spec PyProof.Rows L2
/-! ### x in o, x not in o, where o's class has an own __contains__ -/
section
variable {c : Ctx} {X : Cx} {a b : Expr} {qa qb : QE} {pos : Pos} {C : Addr} {sp : SpD} {k j : Nat} {ps : List Str}
def rInO (C : Addr) (sp : SpD) (neg : Bool) : R2 := fun x y H Q => ∃ a dx fs, y = .ref a ∧ H a = some (.ins C dx fs) ∧ lf sp [y, x] H (fun v H' => ∃ r, v = .bl r ∧ Q (.bl (if neg then !r else r)) H') E0
theorem op_inO (F : DnM X.prog X.w X.K X.mg X.base j C "__contains__" ps sp) (hr : Room k X.A) (hj : j ≤ k) : OpR X (compareOp .In) (rInO C sp false) := by
  intro pins s σ H x y u v Q I rx ry h
  obtain ⟨f, fd, F, M, cf, hb, _⟩ := F
  obtain ⟨a, dx, fs, rfl, ha, h⟩ := h
  obtain rfl : v = Value.ref a := ry
  obtain ⟨od, J⟩ := ins_at I ha
  obtain ⟨m, hF⟩ := I.fr
  refine PySem.W.in_K hF I.ok.mod.kin J M.at_ M.fn (wpAny_mono (run_fn (us := [.ref a, u]) (vs := [.ref a, x]) F (hr.mono hj) hb .nil pass0 I (.cons rfl (.cons rx .nil)) h) (fun v s' q => ?_) fun _ _ x => x)
  obtain ⟨z, H', I', rz, r, rfl, q⟩ := q
  cases rz
  exact wpAny_truthy_bool ⟨.bl r, H', I', rfl, q⟩
theorem op_ninO (F : DnM X.prog X.w X.K X.mg X.base j C "__contains__" ps sp) (hr : Room k X.A) (hj : j ≤ k) : OpR X (compareOp .NotIn) (rInO C sp true) := by
  intro pins s σ H x y u v Q I rx ry h
  obtain ⟨f, fd, F, M, cf, hb, _⟩ := F
  obtain ⟨a, dx, fs, rfl, ha, h⟩ := h
  obtain rfl : v = Value.ref a := ry
  obtain ⟨od, J⟩ := ins_at I ha
  obtain ⟨m, hF⟩ := I.fr
  refine PySem.W.notIn_K hF I.ok.mod.kin J M.at_ M.fn (wpAny_mono (run_fn (us := [.ref a, u]) (vs := [.ref a, x]) F (hr.mono hj) hb .nil pass0 I (.cons rfl (.cons rx .nil)) h) (fun v s' q => ?_) fun _ _ x => x)
  obtain ⟨z, H', I', rz, r, rfl, q⟩ := q
  cases rz
  exact wpAny_truthy_bool ⟨.bl (!r), H', I', rfl, q⟩
def inO (C : Addr) (sp : SpD) (neg : Bool) (a b : D) (Q : D → Prop) : Prop := match b with
  | .obj C' gs => C' = C ∧ sp none [.obj C' gs, a] fun d => ∃ r, d = .bl r ∧ Q (.bl (if neg then !r else r))
  | b => inR neg a b Q
theorem opd_inO {r0 : R2} {neg : Bool} (h0 : OpD r0 (inR neg)) : OpD (fun x y H Q => r0 x y H Q ∨ rInO C sp neg x y H Q) (inO C sp neg) := by
  intro β G H x y a b Q R hgh hbg ra rb h k
  have gen : inR neg a b Q → r0 x y H R ∨ rInO C sp neg x y H R := fun h => .inl (h0 β G H x y a b Q R hgh hbg ra rb h k)
  have rr : RepL G [y, x] [b, a] := .cons rb (.cons ra .nil)
  cases b with
  | obj C' gs =>
    obtain ⟨rfl, h⟩ := h
    cases rb with
    | obj e1 _ _ _ =>
    refine .inr ⟨_, _, _, rfl, hgh _ _ e1, lf_none hgh hbg rr h fun v d G' H' g r q => ?_⟩
    obtain ⟨z, rfl, q⟩ := q
    cases r
    exact ⟨z, rfl, k _ _ G' H' g (.bl _) q⟩
  | _ => exact gen h
theorem dinO (F : DnM X.prog X.w X.K X.mg X.base j C "__contains__" ps sp) (hr : Room k X.A) (ha : PD c X a qa) (hb : PD c X b qb) (hj : j ≤ k := by decide) (hm : behindInMarks .In b = false := by rfl) : PD c X (.Compare a [.In] [b] pos) (qOp (inO C sp false) qa qb) :=
  PD.cmp ((op_in_seq.or (op_inD (hu_ hr))).or (op_inO F hr hj)) (opd_inO opd_in) ha hb hm
theorem dninO (F : DnM X.prog X.w X.K X.mg X.base j C "__contains__" ps sp) (hr : Room k X.A) (ha : PD c X a qa) (hb : PD c X b qb) (hj : j ≤ k := by decide) (hm : behindInMarks .NotIn b = false := by rfl) : PD c X (.Compare a [.NotIn] [b] pos) (qOp (inO C sp true) qa qb) :=
  PD.cmp ((op_notIn_seq.or (op_notInD (hu_ hr))).or (op_ninO F hr hj)) (opd_inO opd_nin) ha hb hm
theorem tinO (F : DnM X.prog X.w X.K X.mg X.base j C "__contains__" ps sp) (hr : Room k X.A) (ha : PD c X a qa) (hb : PD c X b qb) (hj : j ≤ k := by decide) (hm : behindInMarks .In b = false := by rfl) : PDT c X (.Compare a [.In] [b] pos) (qTest (qOp (inO C sp false) qa qb)) :=
  PDT.cmp ((op_in_seq.or (op_inD (hu_ hr))).or (op_inO F hr hj)) (opd_inO opd_in) ha hb hm
theorem tninO (F : DnM X.prog X.w X.K X.mg X.base j C "__contains__" ps sp) (hr : Room k X.A) (ha : PD c X a qa) (hb : PD c X b qb) (hj : j ≤ k := by decide) (hm : behindInMarks .NotIn b = false := by rfl) : PDT c X (.Compare a [.NotIn] [b] pos) (qTest (qOp (inO C sp true) qa qb)) :=
  PDT.cmp ((op_notIn_seq.or (op_notInD (hu_ hr))).or (op_ninO F hr hj)) (opd_inO opd_nin) ha hb hm
end
end DL

namespace L2
open PySem PySem.Spec PyProof.Rows
/-! ### tuple * 0 -/
theorem tuple_mul0 (l : Addr) (items : Array Value) (n : Nat) (dd : Option Addr) (sl : Array (Option Value)) (u : Tok) (hi : items.isEmpty = false) :
    Meets (Builtin.«tuple.__mul__» ⟨[.ref l, .int 0 u], []⟩) (fun _ R s => s.heap.get? l = some { cls := .type "tuple", dict := dd, data := .seq items n, slots := sl } ∧ R (.ok (.ret (Value.ref s.heap.objs.size))) { s with heap := s.heap.push { cls := Value.type "tuple", data := Data.seq #[] }, toks := s.toks }) :=
  .of_wp fun prog w A R s h => by
    obtain ⟨hp, g, d, tk, os⟩ := s
    obtain ⟨hl, h⟩ := h
    have f1 := AutoSeq1.idx_int
    have c0 : (decide ((0 : Int) < -(2 ^ 63)) || decide ((0 : Int) ≥ 2 ^ 63)) = false := by decide
    have c1 : (items.isEmpty || (0 : Int) == 1) = false := by rw [hi]; decide
    have c2 : (decide ((0 : Int) ≤ 0) || items.isEmpty) = true := by simp
    wp_walk using wpAny_loadPart' hl
    repeat (first
      | (refine wpAny_ite_false (decide_eq_false (by rw [c0]; exact Bool.false_ne_true)) ?_; wp_walk using wpAny_loadPart' hl)
      | (refine wpAny_ite_false (decide_eq_false (by rw [c1]; exact Bool.false_ne_true)) ?_; wp_walk using wpAny_loadPart' hl)
      | (refine wpAny_ite_true (decide_eq_true c2) ?_; wp_walk using wpAny_loadPart' hl))
    exact ⟨_, rfl, h⟩
def rRep0 (K : PySem.W.Frag) : R2 := fun x y H Q => ∃ l xs, x = .ref l ∧ y = .int 0 ∧ SqT K H l xs ∧ xs ≠ [] ∧ ∀ p, H p = none → Q (.ref p) (upd H p (.tup []))
theorem op_rep0 {X : Cx} : OpR X (binaryOp .Mult) (rRep0 X.K) := by
  intro pins s σ H x y v u Q I rx ry h
  obtain ⟨l, xs, rfl, rfl, hT, hne, q⟩ := h
  cases rx
  obtain ⟨t, rfl⟩ := ry
  obtain ⟨its, r, ⟨⟨cls, dd, data, sl⟩, ho, hc, n, hd⟩, hs⟩ := I.tuple hT
  simp only at hc hd
  subst hc hd
  have hle : its.length = xs.length := r.length.symm
  have hi : its.toArray.isEmpty = false := by
    cases its with
    | nil => exact absurd (List.eq_nil_of_length_eq_zero hle.symm) hne
    | cons a b => rfl
  refine wpAny_binaryOp_repeat_ref (T := "tuple") (U := "int") (by decide) ⟨_, ho, rfl⟩ (fun s' => typeIs_int s' 0 t) noFill_tuple_mul F.fills_int_mul F.slot_int_rmul repeat_tuple F.slot_int_index.lookup
    (call_meets F.slot_int_rmul (typeIs_int s 0 t) F.entry_int_rmul (F.args_int_rmul_2 _ _) (int_rmul_tuple 0 t l its.toArray n dd sl)
      ⟨ho, rfl, ⟨_, ho, rfl⟩, call_meets F.slot_tuple_mul ⟨_, ho, rfl⟩ F.entry_tuple_mul (F.args_tuple_mul_2 _ _) (tuple_mul0 l its.toArray n dd sl t hi) ⟨ho, ?_⟩⟩)
  refine ⟨.ref s.heap.objs.size, _, I.laid (t' := s.toks) (o := .tup []) (fun b ob q => Heap.get?_push_of_some _ q) (Nat.le_refl _) ?_, rfl, q _ (I.hok.fresh (Nat.le_refl _))⟩
  exact ⟨by rw [sizeLine_eq]; simp, _, .nil, IsTup.new _ _⟩
end L2
namespace DL
open PySem PySem.Spec PyProof.Rows L2
def mulZ : D → D → (D → Prop) → Prop
  | .tup xs, .int j, Q => (xs ≠ [] ∧ 0 ≤ j ∧ j ≤ 1000 ∧ xs.length ≤ 100) ∧ Q (.tup (List.replicate j.toNat xs).flatten)
  | _, _, _ => False
theorem mulZ_ti {xs : List D} {j : Int} {Q : D → Prop} : mulZ (.tup xs) (.int j) Q = ((xs ≠ [] ∧ 0 ≤ j ∧ j ≤ 1000 ∧ xs.length ≤ 100) ∧ Q (.tup (List.replicate j.toNat xs).flatten)) := rfl
theorem opd_mulZ {K : PySem.W.Frag} : OpD (fun x y H Q => (rRepT K x y H Q ∨ rRep1 K x y H Q) ∨ rRep0 K x y H Q) mulZ := by
  intro β G H x y a b Q R hgh hbg ra rb h k
  cases ra <;> cases rb <;> try (exact h.elim)
  case tup.int a vs ds e n r j =>
    obtain ⟨⟨h0, h1, h2, h4⟩, h3⟩ := h
    by_cases hj : j = 0
    · subst hj
      refine .inr ⟨a, vs, rfl, rfl, e.sq hgh, fun z => ?_, fun p hp => opd_tup hgh hbg k hp .nil h3⟩
      subst z
      exact h0 (List.length_eq_zero_iff.mp n.symm)
    · exact .inl (opd_mulT β G H _ _ (.tup ds) (.int j) Q R hgh hbg (.tup e n r) (.int j) ⟨⟨h0, by omega, h2, h4⟩, h3⟩ k)
theorem dmulZ {c : Ctx} {X : Cx} {a b : Expr} {qa qb : QE} {pos : Pos} (ha : PD c X a qa) (hb : PD c X b qb) : PD c X (.BinOp a .Mult b pos) (qOp mulZ qa qb) := PD.op ((op_repT.or op_rep1).or op_rep0) opd_mulZ ha hb
end DL

namespace DL
open PySem PySem.Spec PyProof.Rows L2
/-- a value that is none of a kind -/
def NotA (v : Value) (T : String) (h : Heap) : Prop := ∀ M : Model, PySem.W.Looks M h (typeOf v >>= fun t => isSubtype t (.type T)) false
theorem NotA.at {v : Value} {T : String} {s : Shared} (n : NotA v T s.heap) {M : Model} {A : Around} {E : Value → Shared → Prop} {Q : Bool → Shared → Prop} (q : Q false s) : wpAny M A (isInstance v (.type T)) Q E s := by
  show wpAny _ _ (typeOf v >>= fun t => isSubtype t (.type T)) _ _ _
  exact (n M).here q
theorem list_eq_notA (l x : Addr) (items : Array Value) (n : Nat) (dd : Option Addr) (sl : Array (Option Value)) :
    Meets (Builtin.«list.__eq__» ⟨[.ref l, .ref x], []⟩) (fun _ R s => s.heap.get? l = some { cls := .type "list", dict := dd, data := .seq items n, slots := sl } ∧ NotA (.ref x) "list" s.heap ∧ R (.ok (.ret .notImplemented)) s) :=
  .of_wp fun prog w A R s h => by
    obtain ⟨hp, g, d, tk, os⟩ := s; obtain ⟨hl, hn, h⟩ := h
    have q1 : ∀ {A' : Around} {E' : Value → Shared → Prop} {Q' : Bool → Shared → Prop}, Q' false ⟨hp, g, d, tk, os⟩ → wpAny (model prog w) A' (isInstance (.ref x) (.type "list")) Q' E' ⟨hp, g, d, tk, os⟩ := fun q => NotA.at (s := ⟨hp, g, d, tk, os⟩) hn q
    wp_walk using q1
    all_goals (try wp_walk using wpAny_loadPart' hl)
    all_goals (try wp_walk using q1)
    exact ⟨_, rfl, h⟩
theorem int_eq_inst (i : Int) (t : Tok) (x C dx : Addr) :
    Meets (Builtin.«int.__eq__» ⟨[.int i t, .ref x], []⟩) (fun _ R s => s.heap.get? x = some (PySem.W.instObj C dx) ∧ R (.ok (.ret .notImplemented)) s) :=
  .of_wp fun prog w A R s h => by
    obtain ⟨hp, g, d, tk, os⟩ := s; obtain ⟨hn, h⟩ := h
    wp_walk using wpAny_load hn
    exact ⟨_, rfl, h⟩
theorem str_eq_inst (i : Str) (t : Tok) (x C dx : Addr) :
    Meets (Builtin.«str.__eq__» ⟨[.str i t, .ref x], []⟩) (fun _ R s => s.heap.get? x = some (PySem.W.instObj C dx) ∧ R (.ok (.ret .notImplemented)) s) :=
  .of_wp fun prog w A R s h => by
    obtain ⟨hp, g, d, tk, os⟩ := s; obtain ⟨hn, h⟩ := h
    wp_walk using wpAny_load hn
    exact ⟨_, rfl, h⟩
section
variable {prog : Program} {w : World} {A : Around} {E : Value → Shared → Prop} {s : Shared} {K : PySem.W.Frag} {x C f : Addr} {ox : Obj} {od : Option Obj}
/-- x == u, where x's own __eq__ declines and so does u's kind -/
theorem rc_ni {u : Value} {T : String} {Q : Value → Shared → Prop} (hu : A.units < cLine) (X : K.In s.heap) (I : PySem.W.InstAt s.heap x ox C od) (hT : s.TypeIs u T) (hsub : PySem.W.subIn K (.type T) (.ref C) = some false) (hs : PySem.W.findIn K (.ref C) "__eq__" = some (some (.ref f))) (hf : PySem.W.isFn K (.ref f) = true)
    (h : wpAny (model prog w) A (call (.ref f) [.ref x, u]) (fun v s1 => v = .notImplemented ∧ wpAny (model prog w) A (tryCompare u "__eq__" (.ref x)) (fun r s2 => r = none ∧ wpAny (model prog w) A (isSame (.ref x) u) (fun b s3 => b = false ∧ Q (.bool false) s3) E s2) E s1) E s) :
    wpAny (model prog w) A (richCompare .Eq (.ref x) u) Q E s := by
  have one : wpAny (model prog w) A (tryCompare (.ref x) "__eq__" u) (fun r s1 => r = none ∧ wpAny (model prog w) A (tryCompare u "__eq__" (.ref x)) (fun r s2 => r = none ∧ wpAny (model prog w) A (isSame (.ref x) u) (fun b s3 => b = false ∧ Q (.bool false) s3) E s2) E s1) E s := by
    unfold tryCompare
    refine wpAny_bind (PySem.W.ifBound_K X I hs hf (wpAny_mono h (fun v s1 z => ?_) fun _ _ e => e))
    obtain ⟨rfl, z⟩ := z
    exact wpAny_pure ⟨rfl, z⟩
  simp only [richCompare, cmpInfo_Eq, oneThing_ref]
  refine wpAny_holding (wpAny_bind (wpAny_cRoomFor hu ?_))
  refine wpAny_bind (I.type.here ?_)
  refine wpAny_bind (wpAny_typeOf hT ?_)
  split
  · refine wpAny_bind ((PySem.W.looks_subIn X hsub).here ?_)
    simp only [Bool.false_eq_true, if_false, Bool.not_false, if_true]
    refine wpAny_bind (m := tryCompare (.ref x) _ u) (wpAny_mono one (fun r s1 z => ?_) fun _ _ e => e)
    obtain ⟨z1, z2⟩ := z
    subst z1
    refine wpAny_bind (m := tryCompare u _ (.ref x)) (wpAny_mono z2 (fun r s2 z => ?_) fun _ _ e => e)
    obtain ⟨z1, z3⟩ := z
    subst z1
    refine wpAny_bind (wpAny_rule (wpAny_bind (wpAny_mono z3 (fun b s3 z => ?_) fun _ _ e => e)))
    obtain ⟨rfl, z⟩ := z
    exact wpAny_pure z
  · rename_i q
    exact absurd (by simp) q
end
def NR (outer : List Env) (P : Program) (w : World) (H : Hp) (s : Shared) (Q : VK) (r : Result) (s' : Shared) : Prop :=
  match r with
  | .ok (.ret u) => u = .notImplemented ∧ CE outer P w H s Q .none s'
  | .ok _ => False
  | .error e => CX0 outer H s E0 e s'
/-- the run of a def that answers NotImplemented at once: if t: return NotImplemented -/
theorem ni_of {P : Program} {w : World} {K : PySem.W.Frag} {mg : Str → Option Value} {base : Heap} {k : Nat} {f : Addr} {x qual : Str} {st : Stmt} {fd : FuncData} {N ps : List Str} {t : Expr} {p1 p2 p3 : Pos} {rest : List Stmt} (F : Fun K x qual st f fd) (S : FnScope N ps (defScope st))
    (hbd : defBody st = .If t [.Return (some (.Name "NotImplemented" p1)) p2] [] p3 :: rest) (hm : mg "NotImplemented" = none)
    {A : Around} {outer : List Env} {s : Shared} {H : Hp} {us : List Value} {vs : List V} {Q : VK} (hr : Room (k + 1) A) (e0 : Env0 P w K mg base A outer s H) (hb : BindsTo s fd ⟨us, []⟩ (ps.zip us)) (hl : vs.length = ps.length) (r : Vals vs us)
    (ht : ∀ cdv : Value, ∃ tt, PT (cxOf CX0 P w K mg base N qual (defScope st) f cdv A outer s H E0) t tt ∧ Gl (cxOf CX0 P w K mg base N qual (defScope st) f cdv A outer s H E0) "NotImplemented" ∧ tt (start N vs) H (fun b H' => b = true ∧ Q .non H')) :
    codeAny (model P w) A (.call (.ref f) ⟨us, []⟩) (NR outer P w H s Q) s := by
  obtain ⟨oc, od, kV, doc, pm, an, cdv, ct, osl, rfl, lk, hcd⟩ := F.ex
  have KX : K.In s.heap := e0.mod.kin.keeps fun b o e => (e0.bs b o e).1
  have lim : s.heap.NoLimit := e0.mod.nolimit.keeps fun b o e => (e0.bs b o e).1
  have hkind : ∀ y ∈ ps.zip us, (defScope st).names.lookup y.1 = some .local ∨ ((defScope st).names.lookup y.1 = some .cell ∧ ((cellsFrom (s.heap.objs.size + 1) (defScope st).names []).lookup y.1).isSome = true) := fun ⟨n, v⟩ hy => by
    rcases S.par n (List.of_mem_zip hy).1 with q | q
    · exact .inl q
    · exact .inr ⟨q, PySem.W.cellsFrom_some _ _ _ (.inl q)⟩
  refine codeAny_call_function hr.depth (KX _ _ lk) rfl S.co S.gen rfl (PySem.W.codeRec_of KX hcd) (hb _ _ _ _ ?_)
  refine wpAny_newFunctionEnv_cells S.kind hkind fun env he s1 x => ?_
  subst he
  refine ⟨lim.keeps x.toInCall.keep, codeAny_func ?_⟩
  obtain ⟨tt, pt, gl, hq⟩ := ht cdv
  have I : Inv (cxOf CX0 P w K mg base N qual (defScope st) f cdv A outer s H E0) [] (start N vs) H s1 := inv_start S hr.hd e0 hl r x
  show wpAny _ _ (execs (defBody st) _) _ _ _
  rw [hbd]
  refine wpAny_execs_cons (wpAny_If (wpAny_mono (pt.run [] s1 (start N vs) H _ I hq) (fun d s2 z => ?_) (fun e s' z => z)))
  · obtain ⟨H2, I2, hd, q2⟩ := z
    subst hd
    refine wpAny_execs_cons (wpAny_Return_some (ld_blt (u := .notImplemented) I2 gl hm (by decide +kernel) ?_))
    exact ⟨rfl, .non, H2, I2.os, I2.bare, I2.base, I2.hok, rfl, q2⟩

def DnNI (P : Program) (w : World) (K : PySem.W.Frag) (mg : Str → Option Value) (base : Heap) (k : Nat) (C : Addr) (m : Str) (dom : D → Prop) : Prop := ∃ f : Addr, Meth K C m f ∧ ClF K C ∧
  ∀ (A : Around) (outer : List Env) (s : Shared) (β : Option Addr) (G H : Hp) (a : Addr) (fs : List (Str × D)) (v : V) (u : Value) (d : D) (Q : VK), Room k A → Env0 P w K mg base A outer s H → RelV v u → Ex G H → (∀ b, β = some b → Bag G H b) → Rep G (.ref a) (.obj C fs) → Rep G v d → dom d →
    (∀ G' H', Grow β G H G' H' → Q .non H') → codeAny (model P w) A (.call (.ref f) ⟨[.ref a, u], []⟩) (NR outer P w H s Q) s
theorem DfM.okNI {P : Program} {w : World} {K : PySem.W.Frag} {mg : Str → Option Value} {base : Heap} {C : Addr} {m qual : Str} {st : Stmt} {N ps : List Str} {k : Nat} {dom : D → Prop} {t : Expr} {p1 p2 p3 : Pos} {rest : List Stmt} (F : DfM K C m qual st ps) (cf : ClF K C) (S : FnScope N ps (defScope st)) (hps : ps.length = 2)
    (hbd : defBody st = .If t [.Return (some (.Name "NotImplemented" p1)) p2] [] p3 :: rest) (hm : mg "NotImplemented" = none)
    (ht : ∀ (f : Addr) (cdv : Value) (A : Around) (outer : List Env) (s : Shared) (H : Hp) (c : Ctx), Room k (A.deeper (envOfC qual (defScope st) s.heap.objs.size f cdv)) → Gl (cxOf CX0 P w K mg base N qual (defScope st) f cdv A outer s H E0) "NotImplemented" ∧ ∃ qt, PDT c (cxOf CX0 P w K mg base N qual (defScope st) f cdv A outer s H E0) t qt ∧ ∀ fs d, dom d → qt (startS N [.obj C fs, d]) (fun b => b = true)) :
    DnNI P w K mg base (k + 1) C m dom := by
  obtain ⟨f, fd, F, M, b, _⟩ := F
  refine ⟨f, M, cf, fun A outer s β G H a fs v u d Q hr e0 rv gh bg rs rd hd hq => ?_⟩
  have KX : K.In s.heap := e0.mod.kin.keeps fun b o e => (e0.bs b o e).1
  have hb := b s [.ref a, u] KX (by simpa using hps.symm)
  rw [List.append_nil] at hb
  refine ni_of (vs := [.ref a, v]) F S hbd hm hr e0 hb (by rw [hps]; rfl) (.cons rfl (.cons rv .nil)) fun cdv => ?_
  obtain ⟨gl, qt, ⟨⟨tt, pt, sd⟩⟩, h⟩ := ht f cdv A outer s H ⟨β, G, H, fun _ => False⟩ (hr.deeper _)
  exact ⟨tt, pt, gl, sd _ _ G H _ _ (sta_start (.cons rs (.cons rd .nil)) gh bg) (h fs d hd) fun b G' H' g e => ⟨e, hq G' H' g⟩⟩
theorem sub_builtin {K : PySem.W.Frag} {C : Addr} {T : String} (hT : T = "list" ∨ T = "int" ∨ T = "str") : PySem.W.subIn K (.type T) (.ref C) = some false := by
  rcases hT with rfl | rfl | rfl
  · have e : fastBuiltinMro "list" = some [.type "list", .type "object"] := by decide +kernel
    show (fastBuiltinMro "list").map (·.contains (.ref C)) = some false
    rw [e]; first | rfl | simp
  · have e : fastBuiltinMro "int" = some [.type "int", .type "object"] := by decide +kernel
    show (fastBuiltinMro "int").map (·.contains (.ref C)) = some false
    rw [e]; first | rfl | simp
  · have e : fastBuiltinMro "str" = some [.type "str", .type "object"] := by decide +kernel
    show (fastBuiltinMro "str").map (·.contains (.ref C)) = some false
    rw [e]; first | rfl | simp
section
variable {c : Ctx} {X : Cx} {C : Addr} {dom : D → Prop} {k j : Nat}
def LISn : D → Prop
  | .lst _ => True
  | .int _ => True
  | .str _ => True
  | _ => False
def rEqNI (C : Addr) (dom : D → Prop) : R2 := fun x y H Q => ∃ (β : Option Addr) (G : Hp) (a : Addr) (fs : List (Str × D)) (d : D), Ex G H ∧ (∀ b, β = some b → Bag G H b) ∧ x = .ref a ∧ Rep G (.ref a) (.obj C fs) ∧ Rep G y d ∧ dom d ∧ LISn d ∧ ∀ G' H', Grow β G H G' H' → Q (.bl false) H'
/-- what the text has of a class: it is no list -/
def NoList (K : PySem.W.Frag) (C : Addr) : Prop := PySem.W.subIn K (.ref C) (.type "list") = some false
theorem op_eqNI (FN : DnNI X.prog X.w X.K X.mg X.base j C "__eq__" dom) (sl : NoList X.K C) (hr : Room k X.A) (hj : j ≤ k) : OpR X (compareOp .Eq) (rEqNI C dom) := by
  intro pins s σ H x y u v Q I rx ry h
  obtain ⟨f, M, cf, FN⟩ := FN
  obtain ⟨β, G, a, fs, d, gh, bg, rfl, ra, rd, hd, hk, q⟩ := h
  obtain rfl : u = Value.ref a := rx
  have ra0 := ra
  cases ra with
  | @obj _ _ dx fvs _ ea _ _ _ =>
  have hu : X.A.units < cLine := by have := hu_ hr; omega
  obtain ⟨od, J⟩ := ins_at I (gh _ _ ea)
  show wpAny _ _ (richCompare .Eq (.ref a) v) _ _ _
  have call : wpAny (model X.prog X.w) X.A (call (.ref f) [.ref a, v]) (fun z s1 => z = .notImplemented ∧ ∃ G1 H1, Grow β G H G1 H1 ∧ Inv X pins σ H1 s1) X.xe s := by
    refine wpAny_call (codeAny_mono (FN X.A X.stack s β G H a fs y v d (fun _ H1 => ∃ G1, Grow β G H G1 H1) (hr.mono hj) I.env0 ry gh bg ra0 rd hd fun G1 H1 g => ⟨G1, g⟩) fun r s' hq => ?_)
    match r, hq with
    | .ok (.ret u), hq =>
      obtain ⟨rfl, hq⟩ := hq
      obtain ⟨z, H1, I1, rz, G1, g⟩ := I.after hq
      exact ⟨rfl, G1, H1, g, I1⟩
  cases d with
  | lst xs =>
    cases rd with
    | @lst l vs _ el _ _ =>
    obtain rfl : v = Value.ref l := ry
    have hne : a ≠ l := fun z => by subst z; rw [ea] at el; cases el
    obtain ⟨_, its, n, _, ho⟩ := I.hok l _ (gh _ _ el)
    refine rc_ni (T := "list") hu I.kIn J ⟨_, ho, rfl⟩ (sub_builtin (.inl rfl)) M.at_ M.fn (wpAny_mono call (fun z s1 hz => ?_) fun _ _ e => e)
    obtain ⟨rfl, G1, H1, g, I1⟩ := hz
    obtain ⟨_, its1, n1, _, ho1⟩ := I1.hok l _ (g.gh _ _ (g.gg _ _ el))
    obtain ⟨od1, J1⟩ := ins_at I1 (g.gh _ _ (g.gg _ _ ea))
    refine ⟨rfl, wpAny_tryCompare_declines ⟨_, ho1, rfl⟩ PySem.F.slot_list_eq_refl (call_meets PySem.F.slot_list_eq_refl ⟨_, ho1, rfl⟩ PySem.F.entry_list_eq (PySem.F.args_list_eq_2 _ _) (list_eq_notA l a its1.toArray n1 none #[]) ⟨ho1, fun M => J1.type.andThen (PySem.W.looks_subIn I1.kIn sl), rfl, rfl, ?_⟩)⟩
    exact PySem.SeqAt.wpAny_isSame_ref_other' hne J1.1 ho1 (by simp) ⟨rfl, .bl false, H1, I1, rfl, q G1 H1 g⟩
  | int i =>
    cases rd
    obtain ⟨t, rfl⟩ := ry
    refine rc_ni (T := "int") hu I.kIn J (typeIs_int s i t) (sub_builtin (.inr (.inl rfl))) M.at_ M.fn (wpAny_mono call (fun z s1 hz => ?_) fun _ _ e => e)
    obtain ⟨rfl, G1, H1, g, I1⟩ := hz
    obtain ⟨od1, J1⟩ := ins_at I1 (g.gh _ _ (g.gg _ _ ea))
    refine ⟨rfl, wpAny_tryCompare_declines (typeIs_int s1 i t) PySem.F.slot_int_eq_refl (call_meets PySem.F.slot_int_eq_refl (typeIs_int s1 i t) PySem.F.entry_int_eq (PySem.F.args_int_eq_2 _ _) (int_eq_inst i t a C dx) ⟨J1.1, rfl, rfl, ?_⟩)⟩
    exact wpAny_of_eq (rfl : isSame (.ref a) (.int i t) = pure false) ⟨rfl, .bl false, H1, I1, rfl, q G1 H1 g⟩
  | str i =>
    cases rd
    obtain ⟨t, rfl⟩ := ry
    refine rc_ni (T := "str") hu I.kIn J (typeIs_str s i t) (sub_builtin (.inr (.inr rfl))) M.at_ M.fn (wpAny_mono call (fun z s1 hz => ?_) fun _ _ e => e)
    obtain ⟨rfl, G1, H1, g, I1⟩ := hz
    obtain ⟨od1, J1⟩ := ins_at I1 (g.gh _ _ (g.gg _ _ ea))
    refine ⟨rfl, wpAny_tryCompare_declines (typeIs_str s1 i t) PySem.F.slot_str_eq_refl (call_meets PySem.F.slot_str_eq_refl (typeIs_str s1 i t) PySem.F.entry_str_eq (PySem.F.args_str_eq_2 _ _) (str_eq_inst i t a C dx) ⟨J1.1, rfl, rfl, ?_⟩)⟩
    exact wpAny_of_eq (rfl : isSame (.ref a) (.str i t) = pure false) ⟨rfl, .bl false, H1, I1, rfl, q G1 H1 g⟩
  | _ => exact hk.elim
/-- == of an object with an own __eq__, against the like or against a list, an int, a str -/
def eqN (C : Addr) (sp : SpD) (dom : D → Prop) : D → D → (D → Prop) → Prop
  | .obj C1 fs, .lst xs, Q => (C1 = C ∧ dom (.lst xs)) ∧ Q (.bl false)
  | .obj C1 fs, .int xs, Q => (C1 = C ∧ dom (.int xs)) ∧ Q (.bl false)
  | .obj C1 fs, .str xs, Q => (C1 = C ∧ dom (.str xs)) ∧ Q (.bl false)
  | a, b, Q => eqO C sp a b Q
theorem opd_eqN {sp : SpD} : OpD (fun x y H Q => (rEqD X.K x y H Q ∨ ∃ a dx fs b dy gs, x = .ref a ∧ y = .ref b ∧ H a = some (.ins C dx fs) ∧ H b = some (.ins C dy gs) ∧ lf sp [x, y] H Q E0) ∨ rEqNI C dom x y H Q) (eqN C sp dom) := by
  intro β G H x y a b Q R hgh hbg ra rb h k
  have gen : eqO C sp a b Q → _ := fun h => Or.inl (b := rEqNI C dom x y H R) (opd_eqO (X := X) (C := C) (sp := sp) β G H x y a b Q R hgh hbg ra rb h k)
  cases a with
  | obj C1 fs =>
    cases b with
    | lst xs =>
      obtain ⟨⟨rfl, hd⟩, hq⟩ := h
      have ra0 := ra
      cases ra with
      | obj _ _ _ _ => exact .inr ⟨β, G, _, fs, _, hgh, hbg, rfl, ra0, rb, hd, trivial, fun G' H' g => k _ _ G' H' g (.bl _) hq⟩
    | int xs =>
      obtain ⟨⟨rfl, hd⟩, hq⟩ := h
      have ra0 := ra
      cases ra with
      | obj _ _ _ _ => exact .inr ⟨β, G, _, fs, _, hgh, hbg, rfl, ra0, rb, hd, trivial, fun G' H' g => k _ _ G' H' g (.bl _) hq⟩
    | str xs =>
      obtain ⟨⟨rfl, hd⟩, hq⟩ := h
      have ra0 := ra
      cases ra with
      | obj _ _ _ _ => exact .inr ⟨β, G, _, fs, _, hgh, hbg, rfl, ra0, rb, hd, trivial, fun G' H' g => k _ _ G' H' g (.bl _) hq⟩
    | _ => exact gen h
  | _ => exact gen h
theorem deqN {a b : Expr} {qa qb : QE} {pos : Pos} {sp : SpD} {l : Nat} {ps : List Str} (F : DnM X.prog X.w X.K X.mg X.base j C "__eq__" ps sp) (FN : DnNI X.prog X.w X.K X.mg X.base l C "__eq__" dom) (sl : NoList X.K C) (hr : Room k X.A) (ha : PD c X a qa) (hb : PD c X b qb) (hj : j ≤ k := by decide) (hl : l ≤ k := by decide) : PD c X (.Compare a [.Eq] [b] pos) (qOp (eqN C sp dom) qa qb) :=
  PD.cmp (((op_eqD (by have := hu_ hr; omega)).or (op_eqO F hr hj)).or (op_eqNI FN sl hr hl)) (opd_eqN (X := X)) ha hb (nomark _)
theorem teqN {a b : Expr} {qa qb : QE} {pos : Pos} {sp : SpD} {l : Nat} {ps : List Str} (F : DnM X.prog X.w X.K X.mg X.base j C "__eq__" ps sp) (FN : DnNI X.prog X.w X.K X.mg X.base l C "__eq__" dom) (sl : NoList X.K C) (hr : Room k X.A) (ha : PD c X a qa) (hb : PD c X b qb) (hj : j ≤ k := by decide) (hl : l ≤ k := by decide) : PDT c X (.Compare a [.Eq] [b] pos) (qTest (qOp (eqN C sp dom) qa qb)) :=
  PDT.cmp (((op_eqD (by have := hu_ hr; omega)).or (op_eqO F hr hj)).or (op_eqNI FN sl hr hl)) (opd_eqN (X := X)) ha hb (nomark _)
end
end DL

namespace DL
open PySem PySem.Spec PyProof.Rows L2
/-! ### built-in calls over views of lists, with a flat answer -/
def flatQ (Q : D → Prop) (d : D) : Prop := d.flat = true ∧ Q d
def qCBV (rd : List D → (D → Prop) → Prop) (q : QA) : QE := fun ρ Q => q ρ fun xs => rd xs (flatQ Q)
section
variable {c : Ctx} {X : Cx} {e : Expr} {es : List Expr} {qr : QA} {q : QE} {p pos npos : Pos} {x : Str}
theorem flat_grow {β : Option Addr} {G H G1 G' H' : Hp} (gh : Ex G H) (bg : ∀ b, β = some b → Bag G H b) (x2 : Ex G G1) (g : Grow none G1 H G' H') : Grow β G H G H' := by
  have keep : ∀ a o, H a = some o → NT o → H' a = some o := fun a o h => g.hh a o h (by simp)
  refine ⟨Same.refl G, fun a o h _ => keep a o h, g.tn, g.tb, (x2.trans g.gg).trans g.gh, fun a o h _ n => absurd (h.symm.trans n) (by simp), fun b e => ?_⟩
  have B := bg b e
  obtain ⟨c', cells, y1, y2, y3, y4, hb, hc, rest⟩ := B.is
  exact ⟨B.out, c', cells, y1, y2, y3, y4, keep _ _ hb nt_lst, hc, rest⟩
theorem PD.callBV {id : String} {r : List V → Hp → VK → Prop} {rd : List D → (D → Prop) → Prop} (hc : CallR X (.builtin id) r) (hd : CallD r rd) (hg : Gl X x) (hm : X.mg x = none) (hv : bootBuiltins x = some (.builtin id)) (ha : PDAV c X (e :: es) qr)
    (hn : x ≠ "__name__" := by decide) (hdb : (x == ("__debug__" : Str)) = false := by decide)
    (he : starEach (e :: es) X.env = (false, eval e X.env) :: starEach es X.env := by rfl) (hpl : (backTo pos (starEach es X.env)).any (·.1) = false := by rfl) : PD c X (.Call (.Name x p) (e :: es) [] pos) (qCBV rd qr) := by
  obtain ⟨t, pa, sa⟩ := ha.ex
  refine ⟨_, pe_callB hc hg hm hv pa hn hdb he hpl, fun ρ σ G H Q R s h k => ?_⟩
  refine sa ρ σ G H _ _ s h fun vs ds G1 H1 g1 hl r1 h1 => ?_
  have s1 := s.grow g1
  obtain ⟨G2, x2, y2, r2⟩ := views_frz s1.core.gh hl r1
  exact hd none G2 H1 vs ds (flatQ Q) R y2 (fun b e => (by cases e)) r2 h1 fun v d G' H' g r q => k v d G1 H' (g1.trans (flat_grow s1.core.gh s1.core.bg x2 g) s.hb) (flat_rep' r q.1) q.2
theorem dlenV (hm : X.mg "len" = none) (ha : PDAV c X [e] qr) (hg : Gl X "len" := by rfl) (he : starEach [e] X.env = (false, eval e X.env) :: starEach [] X.env := by rfl) : PD c X (.Call (.Name "len" p) [e] [] pos) (qCBV lenR qr) :=
  PD.callBV (call_len_seq.or call_len_str) cd_len hg hm PySem.boot_len ha (by decide) (by decide) he rfl
theorem disoV {cs : List Addr} {e2 : Expr} (T : ClsT X.K cs) (hm : X.mg "isinstance" = none) (ha : PDAV c X [e, e2] qr) (hg : Gl X "isinstance" := by rfl) (he : starEach [e, e2] X.env = (false, eval e X.env) :: starEach [e2] X.env := by rfl) (hpl : (backTo pos (starEach [e2] X.env)).any (·.1) = false := by rfl) : PD c X (.Call (.Name "isinstance" p) [e, e2] [] pos) (qCBV (isoR cs) qr) :=
  PD.callBV (call_isi.or call_isiT) (cd_iso T) hg hm (by decide +kernel) ha (by decide) (by decide) he hpl
/-- list(v), a new list -/
theorem dlistV (hm : X.mg "list" = none) (ha : PDV c X e q) (hg : Gl X "list" := by rfl) (he : starEach [e] X.env = (false, eval e X.env) :: starEach [] X.env := by rfl) : PD c X (.Call (.Name "list" p) [e] [] pos) (qCB listR (qCons q qNil)) := by
  obtain ⟨t, pa, sa⟩ := ha.ex
  refine ⟨_, pe_callTy call_list_of hg hm (by decide +kernel) (pa_cons pa pa_nil he) (by decide) (by decide) he rfl, fun ρ σ G H Q R s h k => ?_⟩
  refine sa ρ σ G H _ _ s h fun v d G1 H1 g1 r1 h1 => ?_
  have s1 := s.grow g1
  rcases r1 with r1 | ⟨a, xs, vs, rfl, rfl, ha, ra, _⟩
  · exact cd_list c.β G1 H1 [v] [d] Q R s1.core.gh s1.core.bg (.cons r1 .nil) h1 fun v d G' H' g r q => k v d G' H' (g1.trans g s.hb) r q
  · exact ⟨_, _, rfl, .inl (.inl (.inl ha)), fun l hl => opd_lst s1.core.gh s1.core.bg (fun v d G' H' g r q => k v d G' H' (g1.trans g s.hb) r q) hl ra h1⟩
/-- v[i] -/
theorem dixV {b : Expr} {qb : QE} (ha : PDV c X e q) (hb : PD c X b qb) (hs : PlainIx b := by exact fun _ _ => rfl) : PD c X (.Subscript e b pos) (qOp ixR q qb) := by
  obtain ⟨ta, pa, sa⟩ := ha.ex
  obtain ⟨tb, pb, sb⟩ := hb.ex
  refine ⟨_, pe_ix ix_seq pa pb hs, fun ρ σ G H Q R s h k => ?_⟩
  refine sa ρ σ G H _ _ s h fun v1 d1 G1 H1 g1 r1 h1 => ?_
  have s1 := s.grow g1
  refine sb ρ σ G1 H1 _ _ s1 h1 fun v2 d2 G2 H2 g2 r2 h2 => ?_
  have s2 := s1.grow g2
  rcases r1.grow g2 with r1 | ⟨a, xs, vs, rfl, rfl, ha, ra, _⟩
  · exact opd_ix c.β G2 H2 v1 v2 d1 d2 Q R s2.core.gh s2.core.bg r1 r2 h2 fun v d G' H' g r q => k v d G' H' ((g1.trans g2 s.hb).trans g s.hb) r q
  · cases d2 with
    | int j =>
      cases r2
      obtain ⟨d, e1, h⟩ := h2
      obtain ⟨v, e2, r2⟩ := atI_rep ra e1
      exact .inl ⟨a, vs, j, v, rfl, rfl, .inl (.inl ha), e2, k v d G2 H2 (g1.trans g2 s.hb) r2 h⟩
    | _ => exact h2.elim
/-! ### a list that is lent to a constructor -/
/-- the slot of a parameter: data, or a list that is the caller's -/
def LentAt (c : Ctx) (sj : DL.Slot) (d : D) : Prop := sj = .d d ∨ ∃ (a : Addr) (xs : List D) (vs : List V), sj = .raw (.ref a) ∧ d = .lst xs ∧ c.H0 a = some (.lst vs) ∧ some a ≠ c.β ∧ RepL c.G0 vs xs
def qVarL (i : Nat) (sj : DL.Slot) (d : D) : QE := fun ρ Q => ρ[i]? = some sj ∧ Q d
theorem LentAt.view {sj : DL.Slot} {d : D} {G H : Hp} {σ : L2.St} {ρ : List DL.Slot} {i : Nat} (L : LentAt c sj d) (s : Sta c G H σ ρ) (e : ρ[i]? = some sj) : ∃ v, σ[i]? = some (some v) ∧ ViewR c.β G H v d := by
  rcases L with rfl | ⟨a, xs, vs, rfl, rfl, h0, nb, r⟩
  · obtain ⟨v, hv, rv⟩ := s.sl i _ e
    exact ⟨v, hv, .inl rv⟩
  · exact ⟨.ref a, s.sl i _ e, .inr ⟨a, xs, vs, rfl, rfl, s.core.h0 a _ h0 nb nt_lst, r.mono s.core.g0, nb⟩⟩
theorem vL {sj : DL.Slot} {d : D} (L : LentAt c sj d) (i : Nat) (hN : X.N[i]? = some x := by rfl) (hv : Vis X.env.scope x := by first | exact Or.inl rfl | exact Or.inr (Or.inl rfl) | exact Or.inr (Or.inr rfl)) (hd : (x == ("__debug__" : Str)) = false := by decide)
    (hcd : (x == ("__classdict__" : Str)) = false := by decide) : PDV c X (.Name x npos) (qVarL i sj d) := by
  refine ⟨_, pe_var hN hv hd hcd, fun ρ σ G H Q R s h k => ?_⟩
  obtain ⟨v, e1, r⟩ := L.view s h.1
  exact ⟨v, e1, k _ _ G H s.refl r h.2⟩
/-- enumerate(v), v lent -/
theorem ienL {sj : DL.Slot} {d : D} (L : LentAt c sj d) (i : Nat) {elts : List Expr} {kk : Nat} {tpos : Pos} (hm : X.mg "enumerate" = none) (hN : X.N[i]? = some x := by rfl) (hv : Vis X.env.scope x := by first | exact Or.inl rfl | exact Or.inr (Or.inl rfl) | exact Or.inr (Or.inr rfl)) (hd : (x == ("__debug__" : Str)) = false := by decide)
    (hcd : (x == ("__classdict__" : Str)) = false := by decide) (hg : Gl X "enumerate" := by rfl) (hs : starEach [.Name x npos] X.env = [(false, eval (.Name x npos) X.env)] := by rfl) :
    PDI c X (.Tuple elts kk tpos) (.Call (.Name "enumerate" p) [.Name x npos] [] pos) (iEnB (qCons (qVarL i sj d) qNil)) := by
  rcases L with rfl | ⟨a, xs, vs, rfl, rfl, h0, nb, r⟩
  · obtain ⟨wi, pi, si⟩ := (ienB (c := c) (elts := elts) (kk := kk) (p := p) (tpos := tpos) (pos := pos) hm (pac (dv i hN hv hd hcd) pa0 (by rw [hs]; rfl)) hg hs).ex
    refine ⟨wi, pi, fun ρ σ G H Q R s h k => si ρ σ G H Q R s ?_ k⟩
    obtain ⟨e, h⟩ := h
    show slotD ρ[i]? _
    rw [e]
    exact h
  · refine ⟨_, pi_enumB hg hm (pa_cons (pe_var hN hv hd hcd) pa_nil (by rw [hs]; rfl)) hs, fun ρ σ G H Q R s h k => ?_⟩
    obtain ⟨e, h⟩ := h
    have h : Q (enumD xs) := h
    have e1 := s.core.h0 a _ h0 nb nt_lst
    refine ⟨.ref a, s.sl i _ e, a, vs, rfl, .inl ⟨.inl (.inl e1), k _ _ G H s.refl ?_ h⟩⟩
    have rG := r.mono s.core.g0
    intro G1 H1 x1 gh b hk
    have e1 := hk a _ h0 nb nt_lst
    refine ⟨fun i it hi => ?_, ⟨_, .inl (.inl e1), by rw [rG.1]; simp [enumD]⟩⟩
    obtain ⟨y, hx, rfl⟩ := enum_get hi
    obtain ⟨v1, hv1, r1⟩ := RepL.get rG hx
    refine ⟨⟨_, _, .inl (.inl e1), hv1⟩, fun z H2 yl => ?_⟩
    obtain ⟨T, y1, rfl, hT, rfl, f1⟩ := yl
    have z1 := f1 _ (.inl (.inl e1))
    rw [hv1] at z1
    cases z1
    have gn := Grow.new (o := .tup [.int ((i : Nat) : Int), v1]) gh b hT
    exact ⟨_, gn, .tup upd_same rfl (RepL.mono gn.gg (.cons (.int _) (.cons (r1.mono x1) .nil))).2⟩
end
/-- a promise of a constructor that is lent a list as its argument j -/
def lfV (C : Addr) (sp : SpI) (j : Nat) : Sp := fun vs H R _ => ∃ (β : Option Addr) (G : Hp) (ds : List D) (Q : List (Str × D) → Prop) (x dx : Addr) (vs' : List V), vs = .ref x :: vs' ∧ (vs'.length = ds.length ∧ ∀ (i : Nat) (v : V) (d : D), vs'[i]? = some v → ds[i]? = some d → (i ≠ j → Rep G v d) ∧ (i = j → ViewR β G (hide2 H x dx) v d)) ∧ Ex G (hide2 H x dx) ∧ (∀ b, β = some b → Bag G H b) ∧ H x = some (.ins C dx []) ∧ H dx = some (.own x) ∧ sp β ds Q ∧
  ∀ fs fvs G' H', Grow β G (hide2 H x dx) G' H' → G' x = none → G' dx = none → H' x = some (.ins C dx fvs) → H' dx = some (.own x) → RepF G' fvs fs → Q fs → R .non H'
section
variable {P : Program} {w : World} {K : PySem.W.Frag} {mg : Str → Option Value} {base : Heap}
theorem sta_initV {β : Option Addr} {G H : Hp} {N : List Str} {x dx C : Addr} {vs' : List V} {ds : List D} {ξ : D → Prop} {j : Nat} {v : V} {d : D} (hj : vs'[j]? = some v) (hd : ds[j]? = some d) (hl : vs'.length = ds.length) (r : ∀ (i : Nat) (v : V) (d : D), vs'[i]? = some v → ds[i]? = some d → (i ≠ j → Rep G v d) ∧ (i = j → ViewR β G (hide2 H x dx) v d)) (gh : Ex G (hide2 H x dx)) (bg : ∀ b, β = some b → Bag G H b) (hx : H x = some (.ins C dx [])) (hdx : H dx = some (.own x)) :
    ∃ sj, LentAt ⟨β, G, hide2 H x dx, ξ⟩ sj d ∧ Sta ⟨β, G, hide2 H x dx, ξ⟩ G H (L2.start N (.ref x :: vs')) (.own x (.ins C dx []) :: ((ds.map Slot.d).set j sj ++ List.replicate (N.length - (ds.length + 1)) .un)) := by
  have hjl : j < ds.length := (List.getElem?_eq_some_iff.mp hd).1
  rcases (r j v d hj hd).2 rfl with rv | ⟨a, xs, us, rfl, rfl, ha, ra, nb⟩
  · refine ⟨.d d, .inl rfl, ?_⟩
    have e : (ds.map Slot.d).set j (.d d) = ds.map Slot.d := by
      apply List.ext_getElem?
      intro i
      rw [List.getElem?_set]
      split
      · rename_i q; subst q
        rw [if_pos (by simpa using hjl), List.getElem?_map, hd]; rfl
      · rfl
    rw [e]
    refine sta_init ⟨hl, fun i v' d' h1 h2 => ?_⟩ gh bg hx hdx
    by_cases q : i = j
    · subst q; rw [hj] at h1; rw [hd] at h2; cases h1; cases h2; exact rv
    · exact (r i v' d' h1 h2).1 q
  · refine ⟨.raw (.ref a), .inr ⟨a, xs, us, rfl, rfl, ha, nb, ra⟩, ?_⟩
    have r0 : RepL G (vs'.set j .non) (ds.set j .non) := by
      refine ⟨by simp [hl], fun i v' d' h1 h2 => ?_⟩
      rw [List.getElem?_set] at h1 h2
      by_cases q : j = i
      · rw [if_pos q] at h1 h2
        rw [if_pos (by omega)] at h1 h2
        cases h1; cases h2; exact .non
      · rw [if_neg q] at h1 h2
        exact (r i v' d' h1 h2).1 (Ne.symm q)
    have s0 := (sta_init (N := N) (ξ := ξ) r0 gh bg hx hdx).setRaw (i := j + 1) (v := .ref a)
    have e1 : (L2.start N (.ref x :: vs'.set j .non)).set (j + 1) (some (.ref a)) = L2.start N (.ref x :: vs') := by
      unfold L2.start
      have hjv : j < vs'.length := by omega
      rw [List.map_cons, List.map_cons, List.cons_append, List.set_cons_succ, List.set_append_left _ _ (by simpa using hjv), List.map_set, List.set_set, List.length_cons, List.length_cons, List.length_set, List.cons_append]
      congr 2
      apply List.ext_getElem?
      intro i
      rw [List.getElem?_set]
      split
      · rename_i q; subst q
        rw [if_pos (by simpa using hjv), List.getElem?_map, hj]; rfl
      · rfl
    have e2 : (DL.Slot.own x (.ins C dx []) :: ((ds.set j .non).map Slot.d ++ List.replicate (N.length - ((ds.set j .non).length + 1)) .un)).set (j + 1) (.raw (.ref a)) = .own x (.ins C dx []) :: ((ds.map Slot.d).set j (.raw (.ref a)) ++ List.replicate (N.length - (ds.length + 1)) .un) := by
      rw [List.set_cons_succ, List.set_append_left _ _ (by simpa using hjl), List.map_set, List.set_set, List.length_set]
    rw [e1, e2] at s0
    exact s0
theorem fn_initV {x qual : Str} {params : Arguments} {body : List Stmt} {scope : Scope} {dvs : List V} {kws : List (Str × V)} {f C : Addr} {fd : FuncData} {N ps : List Str} {k j : Nat} {sp : SpI} (F : FunD K x qual params body scope dvs kws f fd) (S : FnScope N ps scope) (hl : ∀ β ds Q, sp β ds Q → ds.length + 1 = ps.length) (hj : j + 1 < ps.length)
    (bd : ∀ (cdv : Value) (A : Around) (outer : List Env) (s : Shared) (H : Hp) (E : XK) (c : Ctx) (sj : DL.Slot) (d : D), Room k (A.deeper (PyProof.Rows.envOfC qual scope s.heap.objs.size f cdv)) → LentAt c sj d →
      ∃ q, PDB c (cxOf CX0 P w K mg base N qual scope f cdv A outer s H E).nox body q ∧ ∀ x dx ds Q, ds[j]? = some d → sp c.β ds Q → q (.own x (.ins C dx []) :: ((ds.map Slot.d).set j sj ++ List.replicate (N.length - (ds.length + 1)) .un)) { nx := fun ρ => ∃ fs, ρ[0]? = some (.own x (.ins C dx fs)) ∧ Q fs, rt := fun d ρ => d = .non ∧ ∃ fs, ρ[0]? = some (.own x (.ins C dx fs)) ∧ Q fs }) : FnOk P w K mg base CX0 (k + 1) f fd ps (lfV C sp j) := by
  refine F.ok S (fun vs H Q E h => ?_) (fun cdv A outer s H vs R E hr h => ?_)
  · obtain ⟨β, G, ds, Q, x, dx, vs', rfl, r, _, _, _, _, h, _⟩ := h
    rw [List.length_cons, r.1]; exact hl β ds Q h
  · obtain ⟨β, G, ds, Q, x, dx, vs', rfl, r, gh, bg, hx, hdx, h, kk⟩ := h
    have hlen := hl β ds Q h
    have hjd : j < ds.length := by omega
    have hjv : j < vs'.length := by rw [r.1]; exact hjd
    obtain ⟨sj, L, st0⟩ := sta_initV (N := N) (ξ := fun _ => False) (List.getElem?_eq_getElem hjv) (List.getElem?_eq_getElem hjd) r.1 r.2 gh bg hx hdx
    obtain ⟨q, pb, hq⟩ := bd cdv A outer s H E ⟨β, G, hide2 H x dx, fun _ => False⟩ sj _ hr L
    obtain ⟨t, p, sd⟩ := pb.ex
    have fin : ∀ (G' H' : Hp) (σ' : L2.St) (ρ' : List DL.Slot), Sta ⟨β, G, hide2 H x dx, fun _ => False⟩ G' H' σ' ρ' → (∃ fs, ρ'[0]? = some (.own x (.ins C dx fs)) ∧ Q fs) → R .non H' := fun G' H' σ' ρ' s' ⟨fs, ea, hQ⟩ => by
      obtain ⟨e1, e2, e3, gd, hd0, hdx', fvs, hf, rf⟩ := s'.sl 0 _ ea
      exact kk fs fvs G' H' s'.core.grows e2 gd hf hdx' rf hQ
    refine ⟨t, p.nox, sd _ _ G H _ _ st0 (hq x dx ds Q (List.getElem?_eq_getElem hjd) h) ⟨fun ρ' σ' G' H' _ s' h' => fin G' H' σ' ρ' s' h', fun v d ρ' σ' G' H' _ s' rv h' => ?_, fun _ _ _ _ _ _ h => h.elim, fun _ _ _ _ _ _ h => h.elim, fun _ _ _ _ _ _ _ _ _ _ _ _ _ h => h.elim⟩⟩
    obtain ⟨rfl, h'⟩ := h'
    cases rv
    exact fin G' H' σ' ρ' s' h'
def DnV (P : Program) (w : World) (K : PySem.W.Frag) (mg : Str → Option Value) (base : Heap) (k : Nat) (x : Str) (C : Addr) (ps : List Str) (sp : SpI) (j : Nat) : Prop :=
  ∃ f fd, FnOk P w K mg base CX0 k f fd ps (lfV C sp j) ∧ Mk K C f ∧ ClF K C ∧ mg x = some (.ref C) ∧ FdAt K f fd ∧ Binds K fd ps []
theorem HdI.okV {x : Str} {C : Addr} {qual : Str} {st : Stmt} {N ps : List Str} {k j : Nat} {sp : SpI} (F : HdI K C qual st []) (cf : ClF K C) (mc : mg x = some (.ref C)) (S : FnScope N ps (defScope st)) (hl : ∀ β ds Q, sp β ds Q → ds.length + 1 = ps.length) (hj : j + 1 < ps.length)
    (hb0 : ∀ (kV doc pm : Value) (an : Option Addr) (cdv ct : Value) (us : List Value), us.length = ps.length → bindArgs (PySem.W.fnOf "__init__" qual (defArgs st) (defBody st) (defScope st) .none kV doc pm an cdv ct) ⟨us, []⟩ = pure (ps.zip us))
    (body : ∀ (f : Addr) (cdv : Value) (A : Around) (outer : List Env) (s : Shared) (H : Hp) (E : XK) (c : Ctx) (sj : DL.Slot) (d : D), Room k (A.deeper (PyProof.Rows.envOfC qual (defScope st) s.heap.objs.size f cdv)) → LentAt c sj d →
      ∃ q, PDB c (cxOf CX0 P w K mg base N qual (defScope st) f cdv A outer s H E).nox (defBody st) q ∧ ∀ x dx ds Q, ds[j]? = some d → sp c.β ds Q → q (.own x (.ins C dx []) :: ((ds.map Slot.d).set j sj ++ List.replicate (N.length - (ds.length + 1)) .un)) { nx := fun ρ => ∃ fs, ρ[0]? = some (.own x (.ins C dx fs)) ∧ Q fs, rt := fun d ρ => d = .non ∧ ∃ fs, ρ[0]? = some (.own x (.ins C dx fs)) ∧ Q fs }) : DnV P w K mg base (k + 1) x C ps sp j := by
  obtain ⟨f, oc, od, dV, kV, dc, pm, an, cd, ct, sl, a, i, kp, l, c, df, mk⟩ := F
  have FD : FunD K "__init__" qual (defArgs st) (defBody st) (defScope st) ([].map V.int) [] f (PySem.W.fnOf "__init__" qual (defArgs st) (defBody st) (defScope st) dV kV dc pm an cd ct) := ⟨⟨oc, od, dV, kV, dc, pm, an, cd, ct, sl, rfl, l, c, df, .inl rfl⟩, kp⟩
  obtain ⟨us, vu, hb⟩ := HdI.bindsD (C := C) (ns := []) FD (by simp) (fun _ => hb0) (fun h => absurd rfl h) 0 (Nat.le_refl _)
  cases vu
  exact ⟨f, _, fn_initV FD S hl hj (body f), ⟨mk, a, i, cf.kp⟩, cf, mc, ⟨_, _, _, l⟩, hb⟩
end
/-- a constructor without defaults that raises nothing, for calls of any form -/
def DnK (P : Program) (w : World) (K : PySem.W.Frag) (mg : Str → Option Value) (base : Heap) (k : Nat) (x : Str) (C : Addr) (ps : List Str) (sp : SpI) : Prop :=
  ∃ f fd, FnOk P w K mg base CX0 k f fd ps (lfI C sp) ∧ Mk K C f ∧ ClF K C ∧ mg x = some (.ref C) ∧ FdAt K f fd ∧ Binds K fd ps []
section
variable {P : Program} {w : World} {K : PySem.W.Frag} {mg : Str → Option Value} {base : Heap}
theorem DnV.dk {k j : Nat} {x : Str} {C : Addr} {ps : List Str} {sp : SpI} (h : DnV P w K mg base k x C ps sp j) : DnK P w K mg base k x C ps sp := by
  obtain ⟨f, fd, F, M, cf, mc, fa, b⟩ := h
  refine ⟨f, fd, F.imp fun vs H R E z => ?_, M, cf, mc, fa, b⟩
  obtain ⟨β, G, ds, Q, x, dx, vs', e, r, gh, bg, hx, hdx, h, kk⟩ := z
  exact ⟨β, G, ds, Q, x, dx, vs', e, ⟨r.1, fun i v d h1 h2 => ⟨fun _ => r.2 i v d h1 h2, fun _ => .inl (r.2 i v d h1 h2)⟩⟩, gh, bg, hx, hdx, h, kk⟩
theorem DnK.dn {k : Nat} {x : Str} {C : Addr} {ps : List Str} {sp : SpI} (h : DnK P w K mg base k x C ps sp) : DnI P w K mg base k x C ps [] sp := by
  obtain ⟨f, fd, F, M, cf, mc, fa, b⟩ := h
  exact ⟨f, fd, F, M, cf, mc, fun j hj => ⟨[], by simp; exact .nil, b⟩⟩
theorem DnIX.dk {k : Nat} {x : Str} {C : Addr} {ps : List Str} {sp : SpIX} (h : DnIX P w K mg base k x C ps [] sp) : DnK P w K mg base k x C ps (spI sp) := by
  obtain ⟨f, fd, F, M, cf, mc, fa, b⟩ := h
  obtain ⟨us, vu, hb⟩ := b 0 (Nat.le_refl _)
  cases vu
  refine ⟨f, fd, FnOk.noX F fun vs H R E z => ?_, M, cf, mc, fa, hb⟩
  obtain ⟨β, G, ds, Q, x, dx, vs', e, r, gh, bg, hx, hdx, h, kk⟩ := z
  exact ⟨β, G, ds, Q, _, x, dx, vs', e, r, gh, bg, hx, hdx, h, kk, fun _ _ _ _ _ _ _ _ _ z => z⟩
end
def NoLst (d : D) : Prop := ∀ xs, d ≠ .lst xs
def qMakeV (C : Addr) (sp : SpI) (j : Nat) (β : Option Addr) (q : QA) : QE := fun ρ Q => q ρ fun ds => (∀ i d, ds[i]? = some d → i ≠ j → NoLst d) ∧ sp β ds fun fs => Q (.obj C fs)
section
variable {c : Ctx} {X : Cx} {e : Expr} {es : List Expr} {qr : QA} {p pos : Pos} {x : Str} {C : Addr}
theorem dmkV {sp : SpI} {j k l : Nat} {ps : List Str} (F : DnV X.prog X.w X.K X.mg X.base l x C ps sp j) (hr : Room k X.A) (ha : PDAV c X (e :: es) qr) (hj : l + 1 ≤ k := by decide)
    (hg : Gl X x := by rfl) (hdb : (x == ("__debug__" : Str)) = false := by decide) (he : starEach (e :: es) X.env = (false, eval e X.env) :: starEach es X.env := by rfl) (hpl : (backTo pos (starEach es X.env)).any (·.1) = false := by rfl) : PD c X (.Call (.Name x p) (e :: es) [] pos) (qMakeV C sp j c.β qr) := by
  obtain ⟨f, fd, F, M, _, m, _, bd⟩ := F
  obtain ⟨t, pa, sa⟩ := ha.ex
  refine ⟨_, pe_make M F (hr.mono hj) hg m bd .nil pass0 pa hdb he hpl, fun ρ σ G H Q R s h k => ?_⟩
  refine sa ρ σ G H _ _ s h fun vs ds G1 H1 g1 hl r1 h1 x dx hx hdx ne => ?_
  have s1 := s.grow g1
  have eqH : ∀ a, a ≠ x → a ≠ dx → upd (upd H1 dx (.own x)) x (.ins C dx []) a = H1 a := fun a h1 h2 => by rw [upd_ne h1, upd_ne h2]
  have hid : hide2 (upd (upd H1 dx (.own x)) x (.ins C dx [])) x dx = H1 := by
    funext a
    by_cases q1 : a = x
    · rw [q1, hide2_x, hx]
    · by_cases q2 : a = dx
      · rw [q2, hide2_y, hdx]
      · rw [hide2_ne q1 q2, eqH a q1 q2]
  have nb : ∀ b, c.β = some b → b ≠ x ∧ b ≠ dx := fun b e => ⟨fun z => s1.hb b e (by rw [z]; exact hx), fun z => s1.hb b e (by rw [z]; exact hdx)⟩
  rw [List.append_nil]
  refine ⟨c.β, G1, ds, _, x, dx, vs, rfl, ⟨hl, fun i v d e1 e2 => ⟨fun n => ?_, fun _ => by rw [hid]; exact r1 i v d e1 e2⟩⟩, by rw [hid]; exact s1.core.gh, fun b e => (s1.core.bg b e).mono (Same.refl G1) (eqH b (nb b e).1 (nb b e).2) (s1.core.bg b e).out, upd_same, by rw [upd_ne ne, upd_same], h1.2, fun fs fvs G' H' g gx gdx hx' hdx' rf hq => ?_⟩
  · rcases r1 i v d e1 e2 with z | ⟨_, xs, _, _, rfl, _⟩
    · exact z
    · exact absurd rfl (h1.1 i _ e2 n xs)
  · rw [hid] at g
    obtain ⟨G2, g2, r2⟩ := frzI g hx hdx gx gdx hx' hdx' rf s1.hb
    exact ⟨rfl, k _ _ G2 H' (g1.trans g2 s.hb) r2 hq⟩
end
end DL

namespace DL
open PySem PySem.Spec PyProof.Rows L2
/-! ### repr(o) by an own __repr__ -/
section
variable {c : Ctx} {X : Cx} {e o : Expr} {es : List Expr} {qr : QA} {q : QE} {p pos npos apos : Pos} {x m : Str} {C : Addr} {kws : List Keyword}
theorem call_reprO {sp : SpD} {ps : List Str} {j k : Nat} (F : DnM X.prog X.w X.K X.mg X.base j C "__repr__" ps sp) (hr : Room k X.A) (hj : j + 1 ≤ k) : CallR X (.builtin "repr") (fun xs H Q => ∃ a dx fs, xs = [.ref a] ∧ H a = some (.ins C dx fs) ∧ lf sp [.ref a] H (fun v H' => (∃ y, v = .str y) ∧ Q v H') E0) := by
  intro pins s σ H xs us Q I r h
  obtain ⟨a, dx, fs, rfl, ha, h⟩ := h
  obtain ⟨f, fd, F, M, cf, hb, _⟩ := F
  rw [Vals.ref1 r]
  obtain ⟨od, J⟩ := ins_at I ha
  obtain ⟨mm, hF⟩ := I.fr
  have sb : Sub X (j + 1) X.A := ⟨hr.mono hj, rfl⟩
  refine PySem.W.repr_K sb.in1.room.units0 hF I.ok.mod.kin J M.at_ M.fn (wpAny_mono (run_sub (us := [.ref a]) (vs := [.ref a]) F hb sb.in1 I (.cons rfl .nil) h) (fun v s' q => ?_) fun _ _ x => x)
  obtain ⟨z, H', I', rz, ⟨y, rfl⟩, q⟩ := q
  obtain ⟨t, rfl⟩ := rz
  exact ⟨.str y, H', I', ⟨t, rfl⟩, q⟩
def reprO (C : Addr) (sp : SpD) : List D → (D → Prop) → Prop
  | [.obj C' fs], Q => C' = C ∧ sp none [.obj C' fs] fun d => ∃ y, d = .str y ∧ Q (.str y)
  | _, _ => False
theorem dreprO {sp : SpD} {ps : List Str} {j k : Nat} (F : DnM X.prog X.w X.K X.mg X.base j C "__repr__" ps sp) (hr : Room k X.A) (hm : X.mg "repr" = none) (ha : PDA c X [e] qr) (hj : j + 1 ≤ k := by decide) (hg : Gl X "repr" := by rfl) (he : starEach [e] X.env = (false, eval e X.env) :: starEach [] X.env := by rfl) : PD c X (.Call (.Name "repr" p) [e] [] pos) (qCB (reprO C sp) qr) := by
  refine PD.callB (call_reprO F hr hj) ?_ hg hm (by decide +kernel) ha (by decide) (by decide) he rfl
  intro β G H xs ds Q R hgh hbg r h k
  match ds, h with
  | [.obj C' fs], h =>
    obtain ⟨v, rfl, rv⟩ := r.one
    obtain ⟨rfl, h5⟩ := h
    cases rv with
    | obj e1 h1 h2 h3 =>
      refine ⟨_, _, _, rfl, hgh _ _ e1, lf_none hgh hbg (.cons (.obj e1 h1 h2 h3) .nil) h5 fun v d G' H' g rv q => ?_⟩
      obtain ⟨y, rfl, q⟩ := q
      cases rv
      exact ⟨⟨y, rfl⟩, k _ _ G' H' g (.str y) q⟩
/-! ### x.clear(), x owns a list -/
def qClr (i : Nat) : QS := fun ρ Φ => slotO ρ[i]? fun a _ => Φ.nx (ρ.set i (.own a (.lst [])))
theorem sclr (i : Nat) (hN : X.N[i]? = some x := by rfl) (hv : Vis X.env.scope x := by first | exact Or.inl rfl | exact Or.inr (Or.inl rfl) | exact Or.inr (Or.inr rfl)) (hd : (x == ("__debug__" : Str)) = false := by decide)
    (hcd : (x == ("__classdict__" : Str)) = false := by decide) (h1 : attributeBase (.Name x npos) "clear" X.env (eval (.Name x npos) X.env) = eval (.Name x npos) X.env := by rfl) (h3 : (apos.endLine == p.line) = true := by rfl)
    (hs : swapsWith (.Call (.Attribute (.Name x npos) "clear" apos) [] [] p) none pos.line X.env = pure false := by rfl) : PDS c X (.Expr (.Call (.Attribute (.Name x npos) "clear" apos) [] [] p) pos) (qClr i) := by
  refine ⟨_, ps_expr (pe_bm0 PySem.F.plainAttrs_list PySem.F.slot_list_clear PySem.F.type_list_clear mt_clear (pe_var hN hv hd hcd) h1 h3) hs, fun ρ σ G H Φ D' s h f => ?_⟩
  obtain ⟨a, xs, ea, h⟩ := slotO_inv h
  obtain ⟨e1, e2, e3, vs, e4, e5⟩ := s.sl i _ ea
  exact ⟨.ref a, e1, .inl ⟨rfl, vs, .inl (.inl e4)⟩, a, vs, rfl, rfl, e4, f.nx _ _ G _ (Same.refl G) (s.mut ea .nil) h⟩
/-! ### a new list that is changed and let go -/
def qTmpA (q : QA) (qe : QE) : QS := fun ρ Φ => q ρ fun xs => xs.length < 90000 ∧ qe ρ fun _ => Φ.nx ρ
theorem sappT {ql : QA} (ho : PDL c X o ql) (he : PD c X e q) (h1 : attributeBase o "append" X.env (eval o X.env) = eval o X.env := by rfl) (h2 : starEach [e] X.env = (false, eval e X.env) :: starEach [] X.env := by rfl) (h3 : (apos.endLine == p.line) = true := by rfl)
    (hfew : ((backTo p (starEach [e] X.env)).all (fun x => !x.1) && (backToKw p (keywordEach [] X.env)).all (fun x => x.1.isSome)
      && decide ([e].length + ([] : List Keyword).length + (if ([] : List Keyword).isEmpty then 0 else 1) < 30)) = true := by rfl) (hs : swapsWith (.Call (.Attribute o "append" apos) [e] [] p) none pos.line X.env = pure false := by rfl) :
    PDS c X (.Expr (.Call (.Attribute o "append" apos) [e] [] p) pos) (qTmpA ql q) := by
  obtain ⟨tl, pl, sl⟩ := ho.ex
  obtain ⟨t, pe, sd⟩ := he.ex
  refine ⟨_, ps_expr (pe_bm PySem.F.plainAttrs_list PySem.F.slot_list_append PySem.F.type_list_append mt_append pl (pa_cons pe pa_nil h2) h1 hfew h3 h2 rfl) hs, fun ρ σ G H Φ D' s h f => ?_⟩
  refine sl ρ σ G H _ _ s h fun a vs ds G1 H1 g1 ha ga hh r hq => ⟨.inl ⟨rfl, vs, .inl (.inl hh)⟩, ?_⟩
  have s1 := s.grow g1
  have z := free_of (G' := G) (H' := H) s ha
  have nb : some a ≠ c.β := fun e => s.hb a e.symm ha
  refine sd ρ σ G1 H1 _ _ s1 hq.2 fun v d G2 H2 g2 r2 hq2 => ?_
  have s2 := s1.grow g2
  have hh2 := g2.hh _ _ hh nb nt_lst
  exact ⟨a, vs, v, rfl, rfl, hh2, by rw [r.1]; exact szl (by omega), f.nx _ _ G2 _ (g1.trans g2 s.hb).gg (s2.other (g2.own hh nt_lst (fun _ z => by cases z) nb ga) z.1 hh2 z.2) hq2⟩
def qTmpC (q : QA) : QS := fun ρ Φ => q ρ fun _ => Φ.nx ρ
theorem sclrT {ql : QA} (ho : PDL c X o ql) (h1 : attributeBase o "clear" X.env (eval o X.env) = eval o X.env := by rfl) (h3 : (apos.endLine == p.line) = true := by rfl)
    (hs : swapsWith (.Call (.Attribute o "clear" apos) [] [] p) none pos.line X.env = pure false := by rfl) : PDS c X (.Expr (.Call (.Attribute o "clear" apos) [] [] p) pos) (qTmpC ql) := by
  obtain ⟨tl, pl, sl⟩ := ho.ex
  refine ⟨_, ps_expr (pe_bm0 PySem.F.plainAttrs_list PySem.F.slot_list_clear PySem.F.type_list_clear mt_clear pl h1 h3) hs, fun ρ σ G H Φ D' s h f => ?_⟩
  refine sl ρ σ G H _ _ s h fun a vs ds G1 H1 g1 ha ga hh r hq => ⟨.inl ⟨rfl, vs, .inl (.inl hh)⟩, ?_⟩
  have s1 := s.grow g1
  have z := free_of (G' := G) (H' := H) s ha
  exact ⟨a, vs, rfl, rfl, hh, f.nx _ _ G1 _ g1.gg (s1.other ga z.1 hh z.2) hq⟩
end
/-! ### methods that promise a new list -/
def DnMN (P : Program) (w : World) (K : PySem.W.Frag) (mg : Str → Option Value) (base : Heap) (k : Nat) (C : Addr) (m : Str) (ps : List Str) (sp : SpN) : Prop :=
  ∃ f fd, FnOk P w K mg base CX0 k f fd ps (lfN sp) ∧ Meth K C m f ∧ ClF K C ∧ Binds K fd ps [] ∧ KBinds K fd ps (ps.drop 1) kwM kwM
section
variable {P : Program} {w : World} {K : PySem.W.Frag} {mg : Str → Option Value} {base : Heap}
theorem DfM.okN {C : Addr} {m qual : Str} {st : Stmt} {N ps : List Str} {k : Nat} {sp : SpN} (F : DfM K C m qual st ps) (cf : ClF K C) (S : FnScope N ps (defScope st)) (hl : ∀ β ds Q, sp β ds Q → ds.length = ps.length)
    (body : ∀ (f : Addr) (cdv : Value) (A : Around) (outer : List Env) (s : Shared) (H : Hp) (E : XK) (c : Ctx), Room k (A.deeper (PyProof.Rows.envOfC qual (defScope st) s.heap.objs.size f cdv)) →
      ∃ q, PDB c (cxOf CX0 P w K mg base N qual (defScope st) f cdv A outer s H E).nox (defBody st) q ∧ ∀ ds Q, sp c.β ds Q → q (startS N ds) { nx := fun _ => False, rt := fun _ _ => False, rn := fun es _ => Q es }) : DnMN P w K mg base (k + 1) C m ps sp := by
  obtain ⟨f, fd, F, M, b, kb⟩ := F
  exact ⟨f, fd, fn_dlN F S hl (body f), M, cf, b, kb⟩
theorem DnMN.dn {k : Nat} {C : Addr} {m : Str} {ps : List Str} {sp : SpN} (h : DnMN P w K mg base k C m ps sp) : DnM P w K mg base k C m ps (spOfN sp) := by
  obtain ⟨f, fd, a, b⟩ := h
  exact ⟨f, fd, a.imp fun vs H Q E hq => lfN_lf hq, b⟩
end
section
variable {c : Ctx} {X : Cx} {e o : Expr} {es : List Expr} {qr : QA} {q : QE} {p pos npos apos : Pos} {x m : Str} {C : Addr} {kws : List Keyword}
def qMethN (C : Addr) (m : Str) (sp : SpN) (β : Option Addr) (q : QE) (qr : QA) : QA := fun ρ Q => q ρ fun d => objM C m d ∧ qr ρ fun ds => sp β (d :: ds) Q
theorem dmethN0 {sp : SpN} {j k : Nat} {ps : List Str} {pl : Sem Bool} (F : DnMN X.prog X.w X.K X.mg X.base j C m ps sp) (hr : Room k X.A) (ho : PD c X o q) (hj : j ≤ k := by decide)
    (ht : eval (.Call (.Attribute o m apos) [] [] pos) X.env = (do
      let ov ← eval o X.env
      standAt apos.atName
      let (f, first) ← holding [ov] (getMethod ov m pl)
      callWith pos f first (backTo pos (starEach [] X.env)) (backToKw pos (keywordEach [] X.env))) := by rfl) :
    PDL c X (.Call (.Attribute o m apos) [] [] pos) (qMethN C m sp c.β q qNil) := by
  obtain ⟨f, fd, F, M, cf, b, _⟩ := F
  obtain ⟨ta, po, so⟩ := ho.ex
  refine ⟨_, pe_meth0 po cf.cl M F (hr.mono hj) b .nil pass0 ht, fun ρ σ G H Q R s h k => ?_⟩
  refine so ρ σ G H _ _ s h fun v d G1 H1 g1 r1 h1 => ?_
  have s1 := s.grow g1
  obtain ⟨hm, h1⟩ := h1
  match d, hm with
  | .obj C' fs, ⟨hC, hlk⟩ =>
    subst hC
    have r1' := r1
    cases r1 with
    | obj e1 e2 e3 e4 =>
      refine ⟨_, _, _, rfl, g1.gh _ _ e1, RepF.none ⟨e3, e4⟩ hlk, ?_⟩
      exact ⟨c.β, G1, _, Q, .cons r1' .nil, s1.core.gh, s1.core.bg, h1, fun a vs' es G' H' g hn gn hh r q => k a vs' es G' H' (g1.trans g s.hb) (grow_none s g1 hn) gn hh r q⟩
theorem dmethN {sp : SpN} {j k : Nat} {ps : List Str} {pl : Sem Bool} (F : DnMN X.prog X.w X.K X.mg X.base j C m ps sp) (hr : Room k X.A) (ho : PD c X o q) (ha : PDA c X (e :: es) qr) (hj : j ≤ k := by decide)
    (ht : eval (.Call (.Attribute o m apos) (e :: es) [] pos) X.env = (do
      let ov ← eval o X.env
      standAt apos.atName
      let (f, first) ← holding [ov] (getMethod ov m pl)
      callWith pos f first (backTo pos (starEach (e :: es) X.env)) (backToKw pos (keywordEach [] X.env))) := by rfl) (he : starEach (e :: es) X.env = (false, eval e X.env) :: starEach es X.env := by rfl) (hpl : (backTo pos (starEach es X.env)).any (·.1) = false := by rfl) :
    PDL c X (.Call (.Attribute o m apos) (e :: es) [] pos) (qMethN C m sp c.β q qr) := by
  obtain ⟨f, fd, F, M, cf, b, _⟩ := F
  obtain ⟨ta, po, so⟩ := ho.ex
  obtain ⟨t, pa, sa⟩ := ha.ex
  refine ⟨_, pe_meth po cf.cl M F (hr.mono hj) b .nil pass0 pa he hpl ht, fun ρ σ G H Q R s h k => ?_⟩
  refine so ρ σ G H _ _ s h fun v d G1 H1 g1 r1 h1 => ?_
  have s1 := s.grow g1
  obtain ⟨hm, h1⟩ := h1
  match d, hm with
  | .obj C' fs, ⟨hC, hlk⟩ =>
    subst hC
    have r1' := r1
    cases r1 with
    | obj e1 e2 e3 e4 =>
      refine ⟨_, _, _, rfl, g1.gh _ _ e1, RepF.none ⟨e3, e4⟩ hlk, ?_⟩
      refine sa ρ σ G1 H1 _ _ s1 h1 fun vs ds G2 H2 g2 r2 h2 => ?_
      have s2 := s1.grow g2
      rw [List.append_nil]
      exact ⟨c.β, G2, _, Q, .cons (r1'.mono g2.gg) r2, s2.core.gh, s2.core.bg, h2, fun a vs' es G' H' g hn gn hh r q => k a vs' es G' H' ((g1.trans g2 s.hb).trans g s.hb) (grow_none s (g1.trans g2 s.hb) hn) gn hh r q⟩
end
/-! ### a constructor called by keywords alone -/
def gI {α : Type} (idx : List Nat) : List α → List α → List α := fun us ws => us ++ pick idx ws
def KwI (K : PySem.W.Frag) (C : Addr) (ps ks : List Str) (idx : List Nat) : Prop := ∃ f fd, PySem.W.findIn K (.ref C) "__init__" = some (some (.ref f)) ∧ FdAt K f fd ∧ KBn K fd ps 1 ks (gI idx) (gI idx)
theorem HdI.kwi {K : PySem.W.Frag} {C : Addr} {qual : Str} {st : Stmt} {ps ks : List Str} {idx : List Nat} (F : HdI K C qual st [])
    (hk : ∀ (kV doc pm : Value) (an : Option Addr) (cdv ct : Value) (u : Value) (ws : List Value), ws.length = ks.length → bindArgs (PySem.W.fnOf "__init__" qual (defArgs st) (defBody st) (defScope st) .none kV doc pm an cdv ct) ⟨[u], ks.zip ws⟩ = pure (ps.zip (u :: pick idx ws))) : KwI K C ps ks idx := by
  obtain ⟨f, oc, od, dV, kV, dc, pm, an, cd, ct, sl, a, i, kp, l, c, df, mk⟩ := F
  have hd : dV = .none := by
    rcases df with ⟨_, h⟩ | ⟨h, _⟩
    · exact h
    · exact absurd rfl h
  subst hd
  refine ⟨f, _, a, ⟨_, _, _, l⟩, ⟨fun s us ws _ h1 h2 => ?_, fun {vs us zs ws} r rz => r.append (Vals.pick rz idx)⟩⟩
  match us, h1 with
  | [u], _ => exact .of_eq (hk kV dc pm an cd ct u ws h2)
section
variable {c : Ctx} {X : Cx} {qr : QA} {p pos : Pos} {x : Str} {C : Addr} {kws : List Keyword}
def qMakeK (C : Addr) (sp : SpI) (idx : List Nat) (m : Nat) (β : Option Addr) (q : QA) : QE := fun ρ Q => q ρ fun ds => ds.length = m ∧ sp β (pick idx ds) (fun fs => Q (.obj C fs))
theorem dmkK {sp : SpI} {j k : Nat} {ps ks : List Str} {idx : List Nat} (F : DnK X.prog X.w X.K X.mg X.base j x C ps sp) (W : KwI X.K C ps ks idx) (hr : Room k X.A) (ha : PDK c X kws qr) (hj : j + 1 ≤ k := by decide) (hg : Gl X x := by rfl)
    (hall : (backToKw pos (keywordEach kws X.env)).all (·.1.isSome) = true := by rfl) (hks : (backToKw pos (keywordEach kws X.env)).filterMap (·.1) = ks := by rfl) (hdb : (x == ("__debug__" : Str)) = false := by decide)
    (hpl : ((backTo pos (starEach [] X.env)).any (·.1) || (backToKw pos (keywordEach kws X.env)).any (·.1.isNone)) = false := by rfl) : PD c X (.Call (.Name x p) [] kws pos) (qMakeK C sp idx ks.length c.β qr) := by
  obtain ⟨f, fd, F, M, cf, mc, fa, _⟩ := F
  obtain ⟨f', fd', i', fa', kb⟩ := W
  have ef : f' = f := by
    have := M.init
    rw [i'] at this
    cases this
    rfl
  subst ef
  have efd : fd' = fd := by
    obtain ⟨_, _, _, l1⟩ := fa
    obtain ⟨_, _, _, l2⟩ := fa'
    rw [l1] at l2
    cases l2
    rfl
  subst efd
  obtain ⟨t, pk, sa⟩ := ha.ex
  refine ⟨_, pe_makeK0 M F (hr.mono hj) hg mc kb pass0 pk hall hks hdb hpl, fun ρ σ G H Q R s h k => ?_⟩
  show t σ H _
  refine sa ρ σ G H _ _ s h fun zs ds G1 H1 g1 r1 h1 => ⟨rfl, by rw [r1.1]; exact h1.1, fun x dx hx hdx ne => ?_⟩
  have s1 := s.grow g1
  have eqH : ∀ a, a ≠ x → a ≠ dx → upd (upd H1 dx (.own x)) x (.ins C dx []) a = H1 a := fun a h1 h2 => by rw [upd_ne h1, upd_ne h2]
  have hid : hide2 (upd (upd H1 dx (.own x)) x (.ins C dx [])) x dx = H1 := by
    funext a
    by_cases q1 : a = x
    · rw [q1, hide2_x, hx]
    · by_cases q2 : a = dx
      · rw [q2, hide2_y, hdx]
      · rw [hide2_ne q1 q2, eqH a q1 q2]
  have nb : ∀ b, c.β = some b → b ≠ x ∧ b ≠ dx := fun b e => ⟨fun z => s1.hb b e (by rw [z]; exact hx), fun z => s1.hb b e (by rw [z]; exact hdx)⟩
  refine ⟨c.β, G1, pick idx ds, _, x, dx, pick idx zs, rfl, r1.pick idx, by rw [hid]; exact s1.core.gh, fun b e => (s1.core.bg b e).mono (Same.refl G1) (eqH b (nb b e).1 (nb b e).2) (s1.core.bg b e).out, upd_same, by rw [upd_ne ne, upd_same], h1.2, fun fs fvs G' H' g gx gdx hx' hdx' rf hq => ?_⟩
  rw [hid] at g
  obtain ⟨G2, g2, r2⟩ := frzI g hx hdx gx gdx hx' hdx' rf s1.hb
  exact ⟨rfl, k _ _ G2 H' (g1.trans g2 s.hb) r2 hq⟩
end
/-! ### readings, for the steps -/
theorem lenC_l {C : Addr} {sp : SpD} {xs : List D} {Q : D → Prop} : lenC C sp [.lst xs] Q = Q (.int xs.length) := rfl
theorem lenC_t {C : Addr} {sp : SpD} {xs : List D} {Q : D → Prop} : lenC C sp [.tup xs] Q = Q (.int xs.length) := rfl
theorem eqN_oo {C C1 C2 : Addr} {sp : SpD} {dom : D → Prop} {fs gs : List (Str × D)} {Q : D → Prop} : eqN C sp dom (.obj C1 fs) (.obj C2 gs) Q = eqO C sp (.obj C1 fs) (.obj C2 gs) Q := rfl
theorem eqN_ol {C C1 : Addr} {sp : SpD} {dom : D → Prop} {fs : List (Str × D)} {xs : List D} {Q : D → Prop} : eqN C sp dom (.obj C1 fs) (.lst xs) Q = ((C1 = C ∧ dom (.lst xs)) ∧ Q (.bl false)) := rfl
theorem eqN_ll {C : Addr} {sp : SpD} {dom : D → Prop} {xs ys : List D} {Q : D → Prop} : eqN C sp dom (.lst xs) (.lst ys) Q = eqR (.lst xs) (.lst ys) Q := rfl
end DL

/-! ### own error classes over LookupError (or another built-in error) -/
namespace PySem
namespace OEG
open PySem.W PySem.Calls PyProof.Rows PySem.HandSPX
/-- what is asked of the mro of a class over a built-in error -/
structure MroG (bm : List Value) (tl : List Value) : Prop where
  pass : ∀ self, PySem.refuseLoop self "__setattr__" bm = pure ()
  has : ∀ Y : String, bm.contains (.type Y) = tl.contains (.type Y)
  ne : bm.isEmpty = false
theorem MroG.cons {bm tl : List Value} {c : Addr} (h : MroG bm tl) : MroG (.ref c :: bm) tl :=
  ⟨fun self => by rw [refuseLoop_ref]; exact h.pass self, fun Y => by rw [List.contains_cons, h.has]; rfl, rfl⟩
theorem mroG_LE : MroG [.type "LookupError", .type "Exception", .type "BaseException", .type "object"] [.type "LookupError", .type "Exception", .type "BaseException", .type "object"] :=
  ⟨fun self => PySem.F.store_LookupError.passes self, fun _ => rfl, rfl⟩
section
open Builtin Builtin.ObjectAttr
variable {prog : Program} {w : World} {A : Around} {E : Value → Shared → Prop} {R : Result → Shared → Prop} {hp : Heap} {g : Array GenState} {d : Drawn} {t : Nat} {os : OsState}
/-- the first field -/
theorem osaG {K : W.Frag} {tl : List Value} {name : Str} {tk : Tok} {v : Value} {x C : Addr} {fv : Array Value} {cd : ClassData}
    (X : K.In hp) (hx : hp.get? x = some { cls := .ref C, data := .fields fv }) (hcd : W.clsIn K C = some cd) (hm : MroG cd.mro tl) (hto : tl.contains (.type "object") = true) (hh : cd.hasDict = true) (ha : W.findIn K (.ref C) name = some none)
    (hq : ∀ h' tk' dx, (∀ b o, b ≠ x → hp.get? b = some o → h'.get? b = some o) → hp.objs.size ≤ dx → dx ≠ x → h'.get? x = some { cls := .ref C, dict := some dx, data := .fields fv } → h'.Ns1 dx (fun y => if y = name then some v else none) → R (.ok (.ret .none)) ⟨h', g, d, tk', os⟩) :
    codeAny (model prog w) A (.call (.builtin "object.__setattr__") ⟨[.ref x, .str name tk, v], []⟩) R ⟨hp, g, d, t, os⟩ := by
  have IA : W.InstAt hp x { cls := .ref C, data := .fields fv } C none := ⟨hx, rfl, rfl, trivial⟩
  have SF := F.store_object
  have hxs : x ≠ hp.objs.size := Nat.ne_of_lt (Heap.lt_size hx)
  have su : W.Looks (model prog w) hp (isInstance (.ref x) (.type "object")) true := IA.type.andThen (W.looks_mroIn X (by unfold W.mroIn; rw [hcd, Option.bind_some, if_neg (by rw [hm.ne]; decide), hm.has, hto]))
  refine codeAny_call_builtin SF.slot.plain SF.entry (@W.check_slot (model prog w) _ _ ⟨hp, g, d, t, os⟩ "object.__setattr__" "object" "__setattr__" (.ref x) [.str name tk, v] [] _ SF.kind SF.split su (SF.args (.ref x) (.str name tk) v) ?_)
  have mr : W.Looks (model prog w) hp (mroOf (.ref C)) cd.mro := (W.looks_clsIn X hcd).andThen .now
  have nt : W.Looks (model prog w) hp (storeTaker? none) none := .now
  have kd : W.Looks (model prog w) hp (classData C) cd := W.looks_clsIn X hcd
  rw [W.osa_eq, refuse_eq]
  refine wpAny_bind (wpAny_bind (IA.type.at (wpAny_bind (mr.at ?_))))
  rw [hm.pass]
  refine wpAny_pure (wpAny_bind (IA.type.at (wpAny_bind ((W.looks_findIn X ha).at (wpAny_bind (nt.at ?_))))))
  show wpAny _ _ (storeInOwnDict (.ref x) (.ref C) (.str name tk) name v false) _ _ _
  obtain ⟨c1, c2, c3, c4, c5, c6, c7, c8, c9, c10, c11⟩ := cd
  dsimp only at hh
  subst hh
  unfold storeInOwnDict ownDictForStores
  repeat (first | with_reducible refine store_in_new ?_ ?_ | with_reducible refine wpAny_loadPart_at hx ?_ | with_reducible refine kd.at ?_ | wp_step)
  · exact ⟨_, #[], _, (Heap.get?_update_ne _ _ _ _ hxs.symm).trans (Heap.get?_push_at rfl rfl), rfl, fun e he => absurd he (by simp), fun _ => rfl⟩
  · intro h' tk' hn' hs
    have z : (hp.push { cls := .type "dict", data := .dict #[] }).get? x = some { cls := .ref C, data := .fields fv } := Heap.get?_push_of_some _ hx
    exact hq h' tk' hp.objs.size (fun b o hb ho => (hs.2 b (Nat.ne_of_lt (Heap.lt_size ho))).trans ((Heap.get?_update_ne _ _ _ _ hb).trans (Heap.get?_push_of_some _ ho))) (Nat.le_refl _) hxs.symm ((hs.2 x hxs).trans (Heap.get?_update_self _ z rfl)) hn'
/-- a further field -/
theorem osaG2 {K : W.Frag} {tl : List Value} {name : Str} {tk : Tok} {v : Value} {x C dx : Addr} {fv : Array Value} {cd : ClassData} {m0 : Str → Option Value} {nl : List Str}
    (X : K.In hp) (hx : hp.get? x = some { cls := .ref C, dict := some dx, data := .fields fv }) (hns : hp.Ns1 dx m0) (hw : Within m0 nl) (hz : nl.length ≤ 1000) (hcd : W.clsIn K C = some cd) (hm : MroG cd.mro tl) (hto : tl.contains (.type "object") = true) (hh : cd.hasDict = true) (ha : W.findIn K (.ref C) name = some none)
    (hq : ∀ h' tk', (∀ b o, b ≠ dx → hp.get? b = some o → h'.get? b = some o) → h'.Ns1 dx (fun y => if y = name then some v else m0 y) → R (.ok (.ret .none)) ⟨h', g, d, tk', os⟩) :
    codeAny (model prog w) A (.call (.builtin "object.__setattr__") ⟨[.ref x, .str name tk, v], []⟩) R ⟨hp, g, d, t, os⟩ := by
  obtain ⟨oD, esD, epD, hoD, hdD, _⟩ := hns.count hw
  have IA : W.InstAt hp x { cls := .ref C, dict := some dx, data := .fields fv } C (some oD) := ⟨hx, rfl, rfl, hoD⟩
  have SF := F.store_object
  have su : W.Looks (model prog w) hp (isInstance (.ref x) (.type "object")) true := IA.type.andThen (W.looks_mroIn X (by unfold W.mroIn; rw [hcd, Option.bind_some, if_neg (by rw [hm.ne]; decide), hm.has, hto]))
  refine codeAny_call_builtin SF.slot.plain SF.entry (@W.check_slot (model prog w) _ _ ⟨hp, g, d, t, os⟩ "object.__setattr__" "object" "__setattr__" (.ref x) [.str name tk, v] [] _ SF.kind SF.split su (SF.args (.ref x) (.str name tk) v) ?_)
  have mr : W.Looks (model prog w) hp (mroOf (.ref C)) cd.mro := (W.looks_clsIn X hcd).andThen .now
  have nt : W.Looks (model prog w) hp (storeTaker? none) none := .now
  have kd : W.Looks (model prog w) hp (classData C) cd := W.looks_clsIn X hcd
  rw [W.osa_eq, refuse_eq]
  refine wpAny_bind (wpAny_bind (IA.type.at (wpAny_bind (mr.at ?_))))
  rw [hm.pass]
  refine wpAny_pure (wpAny_bind (IA.type.at (wpAny_bind ((W.looks_findIn X ha).at (wpAny_bind (nt.at ?_))))))
  show wpAny _ _ (storeInOwnDict (.ref x) (.ref C) (.str name tk) name v false) _ _ _
  obtain ⟨c1, c2, c3, c4, c5, c6, c7, c8, c9, c10, c11⟩ := cd
  dsimp only at hh
  subst hh
  unfold storeInOwnDict ownDictForStores
  repeat (first | with_reducible refine PySem.OEX.store_in_old hns hw hz ?_ | with_reducible refine wpAny_loadPart_at hx ?_ | with_reducible refine kd.at ?_ | wp_step)
  intro h' tk' hn' hs
  exact hq h' tk' (fun b o hb ho => (hs.2 b hb).trans ho) hn'
end
theorem typ_LE : typeOf (.type "LookupError") = pure (.type "type") := by kernel_rfl
end OEG
end PySem
namespace L2
open PySem PySem.Spec PyProof.Rows
/-- a class over LookupError -/
abbrev leTl : List Value := [.type "LookupError", .type "Exception", .type "BaseException", .type "object"]
structure OexL (K : PySem.W.Frag) (C : Addr) : Prop where
  cls : ∃ nm q N bs bm sn sub ab col dd k0 k1 k2 k3 k5, K.lookup C = some (excClassObj nm q C N bs bm true sn sub ab col dd k0 k1 k2 k3 k5 "LookupError.__new__") ∧ PySem.OEG.MroG bm leTl
  sa : PySem.W.findIn K (.ref C) "__setattr__" = some (some (.builtin "object.__setattr__"))
  exC : PySem.W.subIn K (.ref C) (.type "BaseException") = some true
  tyC : PySem.W.typeIn K (.ref C) = some (.type "type")
  kC : PySem.W.keepIn K (.ref C) = true
section
variable {X : Cx} {pins : List (Addr × Obj)} {σ : St} {H : Hp} {s : Shared} {a C dx : Addr} {f : Str} {y : V} {u : Value} {fs : List (Str × V)} {Q : Unit → Shared → Prop} {E : Value → Shared → Prop} {A : Around}
theorem ostL_new (T : OexL X.K C) (I : Inv X pins σ H s) (e : H a = some (exo a C none)) (hno : PySem.W.findIn X.K (.ref C) f = some none) (ry : RelV y u)
    (h : ∀ dx s', H dx = none → dx ≠ a → Inv X pins σ (upd (upd H dx (exd dx [(f, y)])) a (exo a C (some dx))) s' → Q () s') : wpAny (model X.prog X.w) A (setAttr (.ref a) f u) Q E s := by
  obtain ⟨nm, q, N, bs, bm, sn, sub, ab, col, dd, k0, k1, k2, k3, k5, hC, hbm⟩ := T.cls
  have hcl : PySem.W.clsIn X.K C = some { name := nm, bases := bs, mro := .ref C :: bm, ns := N, qualname := q, hasDict := true, slotNames := sn, subclasses := sub, abstract := ab, collection := col, hasDel := false } := by unfold PySem.W.clsIn; rw [hC] <;> rfl
  obtain ⟨t1, ho⟩ := exo_at I.hok e
  obtain ⟨hp, gg, dr, t, os⟩ := s
  refine PySem.W.set_plain I.kIn (ox := { cls := .ref C, dict := none, data := .fields #[.ref t1, .none, .none, .none, .bool false, .none] }) (od := none) ⟨ho, rfl, rfl, trivial⟩ T.sa ?_
  refine PySem.OEG.osaG I.kIn ho hcl hbm.cons (by decide) rfl hno (fun h' tk' dx k dn dne hx hn => ?_)
  have hnd : H dx = none := I.hok.fresh dn
  have nd : ∀ {b : Addr} {o : Obj}, hp.get? b = some o → b ≠ dx := fun {b o} q => Nat.ne_of_lt (Nat.lt_of_lt_of_le (Heap.lt_size q) dn)
  have na : ∀ {b : Addr}, H b = none → b ≠ a := fun {b} n z => by
    rw [z, e] at n
    cases n
  have un : Un X.fs [] H (upd (upd H dx (exd dx [(f, y)])) a (exo a C (some dx))) hp h' := {
    keep := fun b o q n _ _ => k b o (na n) q
    slot := fun b o q n _ _ => ⟨o.slots, k b o (na n) q⟩
    free := fun b o q n _ => by rw [upd_ne (na n), upd_ne (nd q)]; exact n
    there := fun b o q _ => by
      by_cases hb : b = a
      · exact ⟨_, by rw [hb]; exact hx⟩
      · exact ⟨o, k b o hb q⟩
    tups := fun b xs q => by rw [upd_ne (at_ne e q exo_tup), upd_ne (ne_of_none q hnd)]; exact q
    frzs := fun b o v q => by rw [upd_ne (at_ne e q exo_frz), upd_ne (ne_of_none q hnd)]; exact q
    tbls := fun b ps q => ⟨#[], by rw [upd_ne (at_ne e q exo_tbl), upd_ne (ne_of_none q hnd), q]; simp⟩ }
  refine h dx _ hnd dne (I.un (t' := tk') un fun b o q => ?_)
  by_cases hb : b = a
  · subst hb
    rw [upd_same] at q
    cases q
    exact exo_ok hx
  · rw [upd_ne hb] at q
    by_cases hd : b = dx
    · subst hd
      rw [upd_same] at q
      cases q
      exact exd_ok hn (relO_put (fs := []) ry fun g => True.intro)
    · rw [upd_ne hd] at q
      refine (I.hok b o q).stay (fun c v hc z => k c v ?_ z) (fun c hc => ?_) (fun c xs hc => ?_)
      · rcases hc with hc | hc
        · rw [hc]; exact hb
        · exact at_ne e hc exo_own
      · rw [upd_ne (at_ne e hc exo_own), upd_ne (ne_of_none hc hnd)]; exact hc
      · rw [upd_ne (at_ne e hc exo_tup), upd_ne (ne_of_none hc hnd)]; exact hc
theorem ostL_old (T : OexL X.K C) (I : Inv X pins σ H s) (e : H a = some (exo a C (some dx))) (ed : H dx = some (exd dx fs)) (hl : fs.length ≤ 900) (hno : PySem.W.findIn X.K (.ref C) f = some none) (ry : RelV y u)
    (h : ∀ s', Inv X pins σ (upd H dx (exd dx ((f, y) :: fs))) s' → Q () s') : wpAny (model X.prog X.w) A (setAttr (.ref a) f u) Q E s := by
  obtain ⟨nm, q, N, bs, bm, sn, sub, ab, col, dd, k0, k1, k2, k3, k5, hC, hbm⟩ := T.cls
  have hcl : PySem.W.clsIn X.K C = some { name := nm, bases := bs, mro := .ref C :: bm, ns := N, qualname := q, hasDict := true, slotNames := sn, subclasses := sub, abstract := ab, collection := col, hasDel := false } := by unfold PySem.W.clsIn; rw [hC] <;> rfl
  obtain ⟨t1, ho⟩ := exo_at I.hok e
  obtain ⟨mA, hns, rel⟩ := exd_at I.hok ed
  have hw := within_of rel
  obtain ⟨hp, gg, dr, t, os⟩ := s
  obtain ⟨oD, _, _, hoD, _, _⟩ := hns.count hw
  refine PySem.W.set_plain I.kIn (ox := { cls := .ref C, dict := some dx, data := .fields #[.ref t1, .none, .none, .none, .bool false, .none] }) (od := some oD) ⟨ho, rfl, rfl, hoD⟩ T.sa ?_
  refine PySem.OEG.osaG2 I.kIn ho hns hw (by rw [List.length_map]; omega) hcl hbm.cons (by decide) rfl hno (fun h' tk' k hn => ?_)
  have hd : ∃ o, h'.get? dx = some o := by
    obtain ⟨o, _, _, e', _⟩ := hn
    exact ⟨o, e'⟩
  exact h _ (I.write (t' := tk') (x := dx) (e := dx) (o := exd dx ((f, y) :: fs)) (by rw [ed]; exact True.intro) (.inl rfl) k hd (exd_ok hn (relO_put ry rel)))
theorem initL_ok {us : List Value} {Q : Value → Shared → Prop} (T : OexL X.K C) (I : Inv X pins σ H s) (e : H a = some (exo a C none)) (hl : us.length ≤ sizeLine) (h : ∀ s', Inv X pins σ H s' → Q .none s') :
    wpAny (model X.prog X.w) A (call (.builtin "LookupError.__init__") (.ref a :: us)) Q E s := by
  obtain ⟨nm, q, N, bs, bm, sn, sub, ab, col, dd, k0, k1, k2, k3, k5, hC, hbm⟩ := T.cls
  obtain ⟨t1, ho⟩ := exo_at I.hok e
  obtain ⟨hp, gg, dr, t, os⟩ := s
  refine wpAny_call (PySem.HandSPX.init_base F.excBase_LookupError hbm.has (I.kIn _ _ hC) ho hl fun h' t2 k hx => ?_)
  have J := I.write (t' := t) (x := a) (e := a) (o := exo a C none) (by rw [e]; exact True.intro) (.inl rfl) k ⟨_, hx⟩ (exo_ok hx)
  have eu : upd H a (exo a C none) = H := by
    funext b
    by_cases hb : b = a
    · rw [hb, upd_same, e]
    · rw [upd_ne hb]
  rw [eu] at J
  exact h _ J
end
def tLeI (K : PySem.W.Frag) (ta : TA) : TE := fun σ H Q => ta σ H fun vs H1 => ∃ (a C : Addr) (ws : List V), vs = .ref a :: ws ∧ ws.length ≤ 1000 ∧ OexL K C ∧ H1 a = some (exo a C none) ∧ Q .non H1
def tOstL (K : PySem.W.Frag) (f : Str) (to te : TE) : TS := fun D σ H => te σ H fun y H1 => to σ H1 fun x H2 => ∃ a C : Addr, x = .ref a ∧ OexL K C ∧ PySem.W.findIn K (.ref C) f = some none ∧
  ((H2 a = some (exo a C none) ∧ ∀ dx, H2 dx = none → dx ≠ a → D.nx σ (upd (upd H2 dx (exd dx [(f, y)])) a (exo a C (some dx)))) ∨
    ∃ (dx : Addr) (fs : List (Str × V)), H2 a = some (exo a C (some dx)) ∧ H2 dx = some (exd dx fs) ∧ fs.length ≤ 900 ∧ D.nx σ (upd H2 dx (exd dx ((f, y) :: fs))))
section
variable {X : Cx} {o e : Expr} {es : List Expr} {to te : TE} {ta : TA} {f : Str} {p p' p1 p2 pos : Pos}
theorem pe_leinit {pl : Sem Bool} (hg : Gl X "LookupError") (hm : X.mg "LookupError" = none) (vV : PySem.W.findCls X.K (.type "LookupError") (.type "type") "__init__" = some (.val (.builtin "LookupError.__init__"))) (ha : PA X (e :: es) ta)
    (hc : eval (.Call (.Attribute (.Name "LookupError" p1) "__init__" p2) (e :: es) [] pos) X.env = (do
      let ov ← eval (.Name "LookupError" p1) X.env
      standAt p2.atName
      let (f, first) ← holding [ov] (getMethod ov "__init__" pl)
      callWith pos f first (backTo pos (starEach (e :: es) X.env)) (backToKw pos (keywordEach [] X.env))) := by rfl)
    (he : starEach (e :: es) X.env = (false, eval e X.env) :: starEach es X.env := by rfl) (hpl : (backTo pos (starEach es X.env)).any (·.1) = false := by rfl) :
    PE X (.Call (.Attribute (.Name "LookupError" p1) "__init__" p2) (e :: es) [] pos) (tLeI X.K ta) := by
  refine ⟨fun pins s σ H Q I h => ?_⟩
  refine PySem.W.methodCall_KW (ld_blt I hg hm PyProof.Rows.Boot.«LookupError» ?_ (by decide) (by decide)) hc
  obtain ⟨m, fr⟩ := I.fr
  refine PySem.W.method_type fr I.ok.mod.kin PySem.OEG.typ_LE (by decide +kernel) vV (by decide +kernel) ?_
  show wpAny _ _ (callWith pos (Value.builtin "LookupError.__init__") [] (backTo pos (starEach (e :: es) X.env)) []) _ _ _
  refine PyProof.Rows.callWith_method1 (thn (ha.run pos pins _ σ H _ (I.tok _) h) fun us s1 ⟨vs, H1, I1, r1, a, C, ws, ev, hl, T, ea, q⟩ => ?_) he hpl
  subst ev
  cases r1 with
  | @cons _ u0 _ ur ra rw' =>
    obtain rfl : u0 = Value.ref a := ra
    exact initL_ok T I1 ea (by rw [← Paired.length rw', sizeLine_eq]; omega) fun s' J => ⟨.non, H1, J, rfl, q⟩
theorem ps_ostL (ho : PE X o to) (he : PE X e te) (hs : swapsWith e (some (.Attribute o f p')) pos.line X.env = pure false := by rfl) : PS X (.Assign [.Attribute o f p'] e pos) (tOstL X.K f to te) := by
  refine ⟨fun pins s σ H D I h => ?_⟩
  refine plainObj_wpAny_Assign_Attribute (thn (he.run pins s σ H _ I h) fun v s1 ⟨y, H1, I1, r1, q1⟩ => thn (ho.run pins s1 σ H1 _ I1 q1) fun u s2 ⟨x, H2, I2, r2, a, C, ex, T, hno, q⟩ => ?_) hs
  subst ex
  obtain rfl : u = Value.ref a := r2
  rcases q with ⟨ea, q⟩ | ⟨dx, fs, ea, ed, hl, q⟩
  · exact ostL_new T I2 ea hno r1 fun dx s' n ne J => ⟨σ, _, J, q dx n ne⟩
  · exact ostL_old T I2 ea ed hl hno r1 fun s' J => ⟨σ, _, J, q⟩
theorem pmk_oexL {CX : CXT} {x : Str} {C fI : Addr} {k : Nat} {fd : FuncData} {ps : List Str} {sp : Sp} {ds : List Value} {dvs : List V} (T : OexL X.K C) (iC : PySem.W.findIn X.K (.ref C) "__init__" = some (some (.ref fI))) (tI : PySem.W.typeIn X.K (.ref fI) = some (.type "function"))
    (F1 : FnOk X.prog X.w X.K X.mg X.base CX k fI fd ps sp) (hr : Room (k + 1) X.A) (hb : Binds X.K fd ps ds) (hd : Vals dvs ds) (hx : Passes CX X (fun _ _ _ => False)) (hg : Gl X x) (hm : X.mg x = some (.ref C)) (ha : PA X (e :: es) ta)
    (hdb : (x == ("__debug__" : Str)) = false := by decide) (he : starEach (e :: es) X.env = (false, eval e X.env) :: starEach es X.env := by rfl) (hpl : (backTo pos (starEach es X.env)).any (·.1) = false := by rfl) :
    PMk X (.Call (.Name x p) (e :: es) [] pos) (tMkO C sp dvs ta) := by
  intro pins s σ H Q I h
  obtain ⟨nm, q, N, bs, bm, sn, sub, ab, col, dd, k0, k1, k2, k3, k5, hC, hbm⟩ := T.cls
  refine wpAny_Call_Name_kw (ld_glob I hg hm ?_ hdb)
  refine PySem.W.callWith_K (h₀ := X.base) I.ok.mod.kin T.kC (thn (ha.run pos pins s σ H _ I h) fun us s1 ⟨vs, H1, I1, r1, hz, q1⟩ => ⟨I1.kIn, ?_⟩) he hpl
  show wpAny _ _ (call (.ref C) us) _ _ _
  obtain ⟨hp, gg, dr, tk, os⟩ := s1
  have hsz : hp.objs.size ≤ hp.objs.size + 1 := Nat.le_succ _
  have hn : H1 (hp.objs.size + 1) = none := I1.hok.fresh hsz
  have hq := q1 (hp.objs.size + 1) hn
  have kk : ∀ b o, hp.get? b = some o → ((hp.push (PySem.W.kdv_tup us)).push (PySem.HandSPX.excO C hp.objs.size)).get? b = some o := fun b o e => Heap.get?_push_of_some _ (Heap.get?_push_of_some _ e)
  have hget : ((hp.push (PySem.W.kdv_tup us)).push (PySem.HandSPX.excO C hp.objs.size)).get? (hp.objs.size + 1) = some (PySem.HandSPX.excO C hp.objs.size) := by heap_get
  have I2 : Inv X pins σ (upd H1 (hp.objs.size + 1) (exo (hp.objs.size + 1) C none)) ⟨(hp.push (PySem.W.kdv_tup us)).push (PySem.HandSPX.excO C hp.objs.size), gg, dr, tk, os⟩ :=
    I1.laid (t' := tk) (a := hp.objs.size + 1) (o := exo (hp.objs.size + 1) C none) (h' := (hp.push (PySem.W.kdv_tup us)).push (PySem.HandSPX.excO C hp.objs.size)) kk hsz (exo_ok hget)
  have r2 : Vals (V.ref (hp.objs.size + 1) :: (vs ++ dvs)) (Value.ref (hp.objs.size + 1) :: (us ++ ds)) := .cons rfl (r1.append hd)
  have hl : (Value.ref (hp.objs.size + 1) :: us ++ ds).length = ps.length := by
    have e := r2.length
    rw [F1.len _ _ _ _ hq] at e
    exact e.symm
  have hus : us.length ≤ sizeLine := by
    rw [← Paired.length r1, sizeLine_eq]
    omega
  refine wpAny_call (PySem.HandSPX.call_own F.excBase_LookupError hbm.has (I1.kIn _ _ hC) (PySem.W.looks_findIn I1.kIn iC) (fun self => PySem.W.bind_fn I1.kIn self tI) hus
    (codeAny_mono (F1.run _ X.stack _ _ ⟨Value.ref (hp.objs.size + 1) :: us, []⟩ (Value.ref (hp.objs.size + 1) :: (us ++ ds)) _ _ (fun _ _ _ => False) (hr.make C us []) (I2.env0.make C us []) (hb _ (Value.ref (hp.objs.size + 1) :: us) I2.kIn hl) r2 hq) fun r s' hq' => ?_))
  match r, hq' with
  | .error er, hq' => exact hx pins σ _ _ er s' I2 hq'
  | .ok (.ret u), hq' =>
    obtain ⟨v, H2, os2, bare2, un2, hok2, rv, ev, d, fs, ea, ed, hd1, q2⟩ := hq'
    subst ev
    obtain ⟨h2, g2, d2, t2, os'⟩ := s'
    exact ⟨rv, mk_end (raises_own T.exC T.tyC) I1 hsz kk un2 hok2 os2 bare2 ea ed hd1 q2⟩
end
end L2

namespace DL
open PySem PySem.Spec PyProof.Rows L2
/-! ### errors over LookupError: their heads and their raise -/
def refsL : List Value → Bool
  | .ref _ :: r => refsL r
  | l => l == leTl
theorem refsL_mro : ∀ l : List Value, refsL l = true → PySem.OEG.MroG l leTl
  | .ref c :: r, e => (refsL_mro r e).cons
  | [], e => absurd e (by decide)
  | .none :: _, e => by rw [beq_iff_eq.mp (show (_ == leTl) = true from e)]; exact PySem.OEG.mroG_LE
  | .ellipsis :: _, e => by rw [beq_iff_eq.mp (show (_ == leTl) = true from e)]; exact PySem.OEG.mroG_LE
  | .notImplemented :: _, e => by rw [beq_iff_eq.mp (show (_ == leTl) = true from e)]; exact PySem.OEG.mroG_LE
  | .bool _ :: _, e => by rw [beq_iff_eq.mp (show (_ == leTl) = true from e)]; exact PySem.OEG.mroG_LE
  | .int _ _ :: _, e => by rw [beq_iff_eq.mp (show (_ == leTl) = true from e)]; exact PySem.OEG.mroG_LE
  | .float _ _ :: _, e => by rw [beq_iff_eq.mp (show (_ == leTl) = true from e)]; exact PySem.OEG.mroG_LE
  | .str _ _ :: _, e => by rw [beq_iff_eq.mp (show (_ == leTl) = true from e)]; exact PySem.OEG.mroG_LE
  | .bytes _ _ :: _, e => by rw [beq_iff_eq.mp (show (_ == leTl) = true from e)]; exact PySem.OEG.mroG_LE
  | .type _ :: _, e => by rw [beq_iff_eq.mp (show (_ == leTl) = true from e)]; exact PySem.OEG.mroG_LE
  | .builtin _ :: _, e => by rw [beq_iff_eq.mp (show (_ == leTl) = true from e)]; exact PySem.OEG.mroG_LE
def spMiss (K : PySem.W.Frag) : Sp := fun vs H R _ => ∃ (a C : Addr) (v : V), vs = [.ref a, v] ∧ OexL K C ∧ PySem.W.findIn K (.ref C) "code" = some none ∧ H a = some (exo a C none) ∧ ∀ dx, H dx = none → dx ≠ a → R .non (upd (upd H dx (exd dx [("code", v)])) a (exo a C (some dx)))
structure ErrL (K : PySem.W.Frag) (C : Addr) : Prop where
  ox : OexL K C
  nc : PySem.W.findIn K (.ref C) "code" = some none
  xf : XfC K C
def Er1L (P : Program) (w : World) (K : PySem.W.Frag) (mg : Str → Option Value) (base : Heap) (x : Str) (C : Addr) (p code : Str) : Prop :=
  ErrL K C ∧ mg x = some (.ref C) ∧ PySem.W.findIn K (.ref C) p = some none ∧ ∃ f fd, PySem.W.findIn K (.ref C) "__init__" = some (some (.ref f)) ∧ PySem.W.typeIn K (.ref f) = some (.type "function") ∧ FnOk P w K mg base CX0 2 f fd ["self", p] (spErr1 K C p code) ∧ Binds K fd ["self", p] []
section
variable {c : Ctx} {X : Cx} {e : Expr} {q : QE} {p1 p2 p3 : Pos} {x : Str} {C : Addr} {p code : Str}
theorem sraise1L {k : Nat} (E1 : Er1L X.prog X.w X.K X.mg X.base x C p code) (tk : TakesC c X) (hr : Room k X.A) (he : PD c X e q) (hc : X.calm = true := by rfl) (hk : 3 ≤ k := by decide) (hg : Gl X x := by rfl) (hdb : (x == ("__debug__" : Str)) = false := by decide)
    (hst : starEach [e] X.env = (false, eval e X.env) :: starEach [] X.env := by rfl) (hpl : (backTo p2 (starEach [] X.env)).any (·.1) = false := by rfl) : PDS c X (.Raise (some (.Call (.Name x p1) [e] [] p2)) none p3) (qRaise1 c C p code q) := by
  obtain ⟨T, hm, np, f, fd, iC, tI, F, b⟩ := E1
  obtain ⟨t, pe, sd⟩ := he.ex
  refine ⟨_, ps_raise hc tk (pmk_oexL T.ox iC tI F (hr.mono hk) b .nil pass0 hg hm (pa_cons pe pa_nil hst) hdb hst hpl), fun ρ σ G H Φ D' s h _ => ?_⟩
  refine sd ρ σ G H _ _ s h fun v d G1 H1 g1 r1 h1 => ⟨by simp, fun a ha => ?_⟩
  have s1 := s.grow g1
  refine ⟨a, v, rfl, upd_same, fun dx hdx hne => ⟨rfl, dx, _, by rw [upd_ne (Ne.symm hne), upd_same], upd_same, by rw [upd_ne hne] at hdx; exact hdx, ?_⟩⟩
  have hd0 : H1 dx = none := by rw [upd_ne hne] at hdx; exact hdx
  have gn := Grow.new (o := .xd [(p, v), ("code", .str code)]) s1.core.gh s1.core.bg hd0
  have e : upd (del (upd (upd (upd (upd H1 a (exo a C none)) dx (exd dx [("code", V.str code)])) a (exo a C (some dx))) dx (exd dx [(p, v), ("code", V.str code)])) a) dx (.xd [(p, v), ("code", V.str code)]) = upd H1 dx (.xd [(p, v), ("code", V.str code)]) := by
    funext z
    by_cases h1 : z = dx
    · rw [h1, upd_same, upd_same]
    · rw [upd_ne h1, upd_ne h1]
      by_cases h2 : z = a
      · rw [h2, del_same, ha]
      · rw [del_ne h2, upd_ne h1, upd_ne h2, upd_ne h1, upd_ne h2]
  rw [e]
  exact wish_of s1.core gn upd_same (RepF.two (r1.mono gn.gg) (.str code)) h1
end
structure HdXL (K : PySem.W.Frag) (x : Str) (C : Addr) : Prop where
  ns : PySem.W.nsIn K mainGlobals x = some (some (.ref C))
  ox : OexL K C
  er : ErT K C
theorem hdxl_mk {K : PySem.W.Frag} {x : Str} {C : Addr} {nm q : Str} {N : Addr} {bs bm : List Value} {sn : List Str} {sub : List Value} {ab : Bool} {col : Option Bool} {dd : Option Addr} {k0 k1 k2 k3 k5 : Option Value}
    (ns : PySem.W.nsIn K mainGlobals x = some (some (.ref C))) (l : K.lookup C = some (excClassObj nm q C N bs bm true sn sub ab col dd k0 k1 k2 k3 k5 "LookupError.__new__")) (ve : refsL bm = true)
    (sa : PySem.W.findIn K (.ref C) "__setattr__" = some (some (.builtin "object.__setattr__"))) (exC : PySem.W.subIn K (.ref C) (.type "BaseException") = some true) (tyC : PySem.W.typeIn K (.ref C) = some (.type "type")) (kC : PySem.W.keepIn K (.ref C) = true)
    (ga : PySem.W.findIn K (.ref C) "__getattribute__" = some (some (.builtin "BaseException.__getattribute__"))) (gg : PySem.W.findIn K (.ref C) "__getattr__" = some none) (hd : PySem.W.hasDictIn K C = true)
    (n1 : PySem.W.findIn K (.ref C) "code" = some none) (n2 : PySem.W.findIn K (.ref C) "at" = some none) (n3 : PySem.W.findIn K (.ref C) "most" = some none) (n4 : PySem.W.findIn K (.ref C) "name" = some none) (n5 : PySem.W.findIn K (.ref C) "line" = some none) (n6 : PySem.W.findIn K (.ref C) "given" = some none) : HdXL K x C :=
  ⟨ns, ⟨⟨_, _, _, _, _, _, _, _, _, _, _, _, _, _, _, l, refsL_mro _ ve⟩, sa, exC, tyC, kC⟩, ⟨⟨ga, gg, exC, hd⟩, n1, n2, n3, n4, n5, n6⟩⟩
theorem HdXL.errL {K : PySem.W.Frag} {x : Str} {C : Addr} (h : HdXL K x C) : ErrL K C := ⟨h.ox, h.er.n_code, h.er.xf⟩
/-- Missing -/
structure HdMi (K : PySem.W.Frag) (W : Addr) (st : Stmt) : Prop where
  ns : PySem.W.nsIn K mainGlobals "Missing" = some (some (.ref W))
  ve : PySem.W.nsIn K mainGlobals "LookupError" = some none
  vi : PySem.W.findCls K (.type "LookupError") (.type "type") "__init__" = some (.val (.builtin "LookupError.__init__"))
  ex : ∃ (g : Addr) (fd : FuncData), CFn K W "__init__" g ∧ Fun K "__init__" "Missing.__init__" st g fd
theorem hdmi_mk {K : PySem.W.Frag} {W : Addr} {st : Stmt} {g : Addr} {oc : Value} {od : Option Addr} {kV dc pm : Value} {an : Option Addr} {cd ct : Value} {sl : Array (Option Value)} (ns : PySem.W.nsIn K mainGlobals "Missing" = some (some (.ref W))) (ve : PySem.W.nsIn K mainGlobals "LookupError" = some none)
    (vi : PySem.W.findCls K (.type "LookupError") (.type "type") "__init__" = some (.val (.builtin "LookupError.__init__"))) (rd : PySem.W.readsIn K W (.type "type") = true) (ga : PySem.W.specialIn K (.ref W) "__getattribute__" = some (some (.builtin "type.__getattribute__")))
    (at_ : PySem.W.findCls K (.ref W) (.type "type") "__init__" = some (.val (.ref g))) (k : PySem.W.keepIn K (.ref g) = true)
    (l : K.lookup g = some ⟨oc, od, .func (PySem.W.fnOf "__init__" "Missing.__init__" (defArgs st) (defBody st) (defScope st) .none kV dc pm an cd ct), sl⟩) (c : PySem.W.codeIn K cd "Missing.__init__" = true) : HdMi K W st := ⟨ns, ve, vi, g, _, ⟨rd, ga, at_, k⟩, fun_mk (st := st) l c k⟩
end DL

namespace DL
open PySem PySem.Spec PyProof.Rows L2
/-! ### a + b of two lists, a new list -/
def catN : D → D → (List D → Prop) → Prop
  | .lst xs, .lst ys, Q => xs.length + ys.length ≤ 100000 ∧ Q (xs ++ ys)
  | _, _, _ => False
def qCatN (qa qb : QE) : QA := fun ρ Q => qa ρ fun x => qb ρ fun y => catN x y Q
theorem ViewR.lst {β : Option Addr} {G H : Hp} {v : V} {xs : List D} (gh : Ex G H) (r : ViewR β G H v (.lst xs)) : ∃ a vs, v = .ref a ∧ H a = some (.lst vs) ∧ RepL G vs xs := by
  rcases r with r | ⟨a, ys, vs, rfl, h, ha, r, _⟩
  · cases r with
    | lst e n q => exact ⟨_, _, rfl, gh _ _ e, n, q⟩
  · cases h
    exact ⟨a, vs, rfl, ha, r⟩
theorem daddN {c : Ctx} {X : Cx} {a b : Expr} {qa qb : QE} {pos : Pos} (ha : PDV c X a qa) (hb : PDV c X b qb) : PDL c X (.BinOp a .Add b pos) (qCatN qa qb) := by
  obtain ⟨ta, pa, sa⟩ := ha.ex
  obtain ⟨tb, pb, sb⟩ := hb.ex
  refine ⟨_, pe_op op_cat pa pb, fun ρ σ G H Q R s h k => ?_⟩
  refine sa ρ σ G H _ _ s h fun v1 d1 G1 H1 g1 r1 h1 => ?_
  have s1 := s.grow g1
  refine sb ρ σ G1 H1 _ _ s1 h1 fun v2 d2 G2 H2 g2 r2 h2 => ?_
  have s2 := s1.grow g2
  have r1' := r1.grow g2
  match d1, d2, h2 with
  | .lst xs, .lst ys, h2 =>
    obtain ⟨p1, vs1, rfl, e1, q1⟩ := r1'.lst s2.core.gh
    obtain ⟨p2, vs2, rfl, e2, q2⟩ := r2.lst s2.core.gh
    refine ⟨p1, p2, vs1, vs2, rfl, rfl, e1, e2, by rw [q1.1, q2.1]; exact sz h2.1, fun p hp => ?_⟩
    have gn := Grow.fresh (o := .lst (vs1 ++ vs2)) s2.core.gh s2.core.bg hp
    have g12 := g1.trans g2 s.hb
    exact k p _ _ G2 _ (g12.trans gn s.hb) (g12.fr hp) (s2.core.gh.free hp) upd_same (q1.app q2) h2.2
theorem catN_ll {xs ys : List D} {Q : List D → Prop} : catN (.lst xs) (.lst ys) Q = (xs.length + ys.length ≤ 100000 ∧ Q (xs ++ ys)) := rfl
end DL

namespace DL
theorem cons_val {q : QE} {qr : QA} {ρ : List Slot} {Q : List D → Prop} (d : D) (h : ∀ R : D → Prop, R d → q ρ R) (k : qr ρ fun ds => Q (d :: ds)) : qCons q qr ρ Q := h _ k
theorem cons_lst {qa qr : QA} {ρ : List Slot} {Q : List D → Prop} (k : qa ρ fun ds => ds.length ≤ 100000 ∧ qr ρ fun es => Q (.lst ds :: es)) : qCons (qLst qa) qr ρ Q := k
theorem nil_val {ρ : List Slot} {Q : List D → Prop} (k : Q []) : qNil ρ Q := k
end DL
namespace DL
open PySem in
theorem neO_ll {C : PySem.Addr} {sp : SpD} {xs ys : List D} {Q : D → Prop} : neO C sp (.lst xs) (.lst ys) Q = neR (.lst xs) (.lst ys) Q := rfl
end DL

namespace DL
open PySem PySem.Spec PyProof.Rows L2 PySem.W
/-! ### any(a list of ints), sorted(a list of at most one), x.extend(a new list) -/
def rAnyIL (K : PySem.W.Frag) : List V → Hp → VK → Prop := fun vs H Q => ∃ (a : PySem.Addr) (ns : List Int), vs = [.ref a] ∧ SqL K H a (ns.map V.int) ∧ Q (.bl (ns.any (· != 0))) H
theorem cr_anyIL {X : Cx} (hc : X.calm = true) : CallR X (.builtin "any") (rAnyIL X.K) := by
  intro pins s σ H vs us Q I r h
  obtain ⟨a, ns, rfl, hs, q⟩ := h
  rw [Vals.ref1 r]
  obtain ⟨its, rv, hl, _⟩ := I.list hs
  refine any_list_data (I.ok.hd hc) hl.isList (DL.reads_ints rv) ?_ (fun x hx => ?_) fun h' tk hk => ?_
  · exact DL.plain_ints ns
  · obtain ⟨i, _, rfl⟩ := List.mem_map.mp hx
    trivial
  · refine ⟨.bl _, H, I.kept hk, ?_, q⟩
    show Value.bool _ = Value.bool _
    rw [List.any_map]
    rfl
def rSort1 (K : PySem.W.Frag) : List V → Hp → VK → Prop := fun vs H Q => ∃ a xs, vs = [.ref a] ∧ SqL K H a xs ∧ xs.length ≤ 1 ∧ ∀ p, H p = none → Q (.ref p) (upd H p (.lst xs))
theorem cr_sort1 {X : Cx} : CallR X (.builtin "sorted") (rSort1 X.K) := by
  intro pins s σ H vs us Q I r h
  obtain ⟨a, xs, rfl, hs, h1, q⟩ := h
  rw [Vals.ref1 r]
  obtain ⟨its, rv, hl, hz⟩ := I.list hs
  have hlen : its.length = xs.length := rv.length.symm
  refine _root_.Srt.sorted_any hl.isList (by rw [hlen]; exact hz) (fun h2 => by omega) fun out hp => ?_
  obtain rfl : out = its := by
    match its, out, hp, hlen with
    | [], out, hp, _ => exact hp.eq_nil
    | [y], out, hp, _ => exact List.perm_singleton.mp hp
    | _ :: _ :: _, _, _, hlen => simp at hlen; omega
  obtain ⟨c, hc⟩ := sortedAll_at s.heap out out.toArray
  exact ⟨.ref (s.heap.objs.size + 1), upd H (s.heap.objs.size + 1) (.lst xs), I.laid (t' := s.toks) (fun _ _ => sortedAll_old) (Nat.le_succ _) ⟨hz, out, c, rv, hc⟩, rfl, q _ (I.hok.fresh (Nat.le_succ _))⟩
end DL
namespace DL
open PySem PySem.Spec PyProof.Rows L2
def anyIL : List D → (D → Prop) → Prop
  | [.lst xs], Q => (∃ bs, blsOf xs = some bs ∧ Q (.bl (bs.any id))) ∨ ∃ ns, intsOf xs = some ns ∧ Q (.bl (ns.any (· != 0)))
  | _, _ => False
theorem cd_anyIL {K : PySem.W.Frag} : CallD (fun vs H Q => rAny K vs H Q ∨ rAnyIL K vs H Q) anyIL := by
  intro β G H xs ds Q R hgh hbg r h k
  match ds, h with
  | [.lst ys], .inl h => exact .inl (cd_any β G H xs [.lst ys] Q R hgh hbg r h k)
  | [.lst ys], .inr ⟨ns, hb, h⟩ =>
    obtain ⟨v, rfl, rv⟩ := r.one
    cases rv with
    | lst e l q =>
      have := intsOf_eq hb
      subst this
      have := RepL.ints ⟨l, q⟩
      subst this
      exact .inr ⟨_, ns, rfl, .inl (.inl (hgh _ _ e)), opd_ret hgh hbg k (.bl _) h⟩
def sort1R : List D → (D → Prop) → Prop
  | [.lst xs], Q => (xs.length ≤ 1 ∧ Q (.lst xs)) ∨ sortR [.lst xs] Q
  | _, _ => False
theorem cd_sort1 {K : PySem.W.Frag} : CallD (fun vs H Q => rSort1 K vs H Q ∨ rSortA K vs H Q) sort1R := by
  intro β G H xs ds Q R hgh hbg r h k
  match ds, h with
  | [.lst ys], .inl ⟨h1, h⟩ =>
    obtain ⟨v, rfl, rv⟩ := r.one
    cases rv with
    | lst e l q =>
      exact .inl ⟨_, _, rfl, .inl (.inl (hgh _ _ e)), by rw [l]; exact h1, fun p hp => opd_lst hgh hbg k hp ⟨l, q⟩ h⟩
  | [.lst ys], .inr h => exact .inr (cd_sort β G H xs [.lst ys] Q R hgh hbg r h k)
section
variable {c : Ctx} {X : Cx} {e : Expr} {qr : QA} {p pos npos apos : Pos} {x : Str}
theorem danyL (hc : X.calm = true) (hm : X.mg "any" = none) (ha : PDA c X [e] qr) (hg : Gl X "any" := by rfl) (he : starEach [e] X.env = (false, eval e X.env) :: starEach [] X.env := by rfl) : PD c X (.Call (.Name "any" p) [e] [] pos) (qCB anyIL qr) :=
  PD.callB ((cr_any hc).or (cr_anyIL hc)) cd_anyIL hg hm (by decide +kernel) ha (by decide) (by decide) he rfl
theorem dsorted1 (hu : X.A.units + 65 < cLine) (hm : X.mg "sorted" = none) (ha : PDA c X [e] qr) (hg : Gl X "sorted" := by rfl) (he : starEach [e] X.env = (false, eval e X.env) :: starEach [] X.env := by rfl) : PD c X (.Call (.Name "sorted" p) [e] [] pos) (qCB sort1R qr) :=
  PD.callB (cr_sort1.or (cr_sortA hu)) cd_sort1 hg hm (by decide +kernel) ha (by decide) (by decide) he rfl
def qExt (i : Nat) (q : QA) : QS := fun ρ Φ => slotO ρ[i]? fun a xs => q ρ fun ds => xs.length + ds.length < 90000 ∧ Φ.nx (ρ.set i (.own a (.lst (xs ++ ds))))
theorem sext (i : Nat) (he : PDL c X e qr) (hN : X.N[i]? = some x := by rfl) (hv : Vis X.env.scope x := by first | exact Or.inl rfl | exact Or.inr (Or.inl rfl) | exact Or.inr (Or.inr rfl)) (hd : (x == ("__debug__" : Str)) = false := by decide)
    (hcd : (x == ("__classdict__" : Str)) = false := by decide) (h1 : attributeBase (.Name x npos) "extend" X.env (eval (.Name x npos) X.env) = eval (.Name x npos) X.env := by rfl) (h2 : starEach [e] X.env = (false, eval e X.env) :: starEach [] X.env := by rfl) (h3 : (apos.endLine == p.line) = true := by rfl) (hfew : ((backTo p (starEach [e] X.env)).all (fun x => !x.1) && (backToKw p (keywordEach [] X.env)).all (fun x => x.1.isSome)
      && decide ([e].length + ([] : List Keyword).length + (if ([] : List Keyword).isEmpty then 0 else 1) < 30)) = true := by rfl) (hs : swapsWith (.Call (.Attribute (.Name x npos) "extend" apos) [e] [] p) none pos.line X.env = pure false := by rfl) :
    PDS c X (.Expr (.Call (.Attribute (.Name x npos) "extend" apos) [e] [] p) pos) (qExt i qr) := by
  obtain ⟨t, pe, sd⟩ := he.ex
  refine ⟨_, ps_expr (pe_bm PySem.F.plainAttrs_list PySem.F.slot_list_extend PySem.F.type_list_extend mt_extend (pe_var hN hv hd hcd) (pa_cons pe pa_nil h2) h1 hfew h3 h2 rfl) hs, fun ρ σ G H Φ D' s h f => ?_⟩
  obtain ⟨a, xs, ea, h⟩ := slotO_inv h
  obtain ⟨e1, e2, e3, vs, e4, e5⟩ := s.sl i _ ea
  refine ⟨.ref a, e1, .inl ⟨rfl, vs, .inl (.inl e4)⟩, sd ρ σ G H _ _ s h fun b zs ds G1 H1 g1 ha ga hh r hq => ?_⟩
  have s1 := s.grow g1
  obtain ⟨e1', e2', e3', vs', e4', e5'⟩ := s1.sl i _ ea
  rw [e1] at e1'
  cases e1'
  exact ⟨a, b, vs', zs, rfl, rfl, e4', hh, by rw [e5'.1, r.1, sizeLine_eq]; omega, f.nx _ _ G1 _ g1.gg (s1.mut ea (e5'.app r)) hq.2⟩
end
theorem anyIL_l {xs : List D} {Q : D → Prop} : anyIL [.lst xs] Q = ((∃ bs, blsOf xs = some bs ∧ Q (.bl (bs.any id))) ∨ ∃ ns, intsOf xs = some ns ∧ Q (.bl (ns.any (· != 0)))) := rfl
theorem sort1R_l {xs : List D} {Q : D → Prop} : sort1R [.lst xs] Q = ((xs.length ≤ 1 ∧ Q (.lst xs)) ∨ sortR [.lst xs] Q) := rfl
end DL
/-! ### a comprehension over a list that the def owns -/
namespace DL
open PySem PySem.Spec PyProof.Rows L2
def WalksO (c : Ctx) (J : It) (G H : Hp) (items : List D) : Prop := ∀ G1 H1, Ex G G1 → Ex G1 H1 → (∀ b, c.β = some b → Bag G1 H1 b) → (∀ a o, H a = some o → some a ≠ c.β → NT o → H1 a = some o) →
  (∀ (i : Nat) (it : D), items[i]? = some it → J.go i H1 ∧ ∀ x H2, J.yld i H1 x H2 → ∃ G2, Grow c.β G1 H1 G2 H2 ∧ Rep G2 x it) ∧ J.stop items.length H1
def SndIO (c : Ctx) (wi : TI) (q : QI) : Prop := ∀ (ρ : List DL.Slot) (σ : L2.St) (G H : Hp) (Q : List D → Prop) (R : It → Hp → Prop), Sta c G H σ ρ → q ρ Q → (∀ J items, WalksO c J G H items → Q items → R J H) → wi σ H R
structure PDIO (c : Ctx) (X : Cx) (tg iter : Expr) (q : QI) : Prop where
  ex : ∃ wi, PI X tg iter wi ∧ SndIO c wi q
def qIO (i : Nat) : QI := fun ρ Q => slotO ρ[i]? fun _ xs => Q xs
theorem isqO (i : Nat) {c : Ctx} {X : Cx} {tg : Expr} {x : Str} {npos : Pos} (hN : X.N[i]? = some x := by rfl) (hv : Vis X.env.scope x := by first | exact Or.inl rfl | exact Or.inr (Or.inl rfl) | exact Or.inr (Or.inr rfl)) (hd : (x == ("__debug__" : Str)) = false := by decide)
    (hcd : (x == ("__classdict__" : Str)) = false := by decide) : PDIO c X tg (.Name x npos) (qIO i) := by
  refine ⟨_, pi_seqA (pe_var hN hv hd hcd), fun ρ σ G H Q R s h k => ?_⟩
  obtain ⟨a, xs, ea, h⟩ := slotO_inv h
  obtain ⟨e1, e2, e3, vs, e4, e5⟩ := s.sl i _ ea
  have nb : some a ≠ c.β := fun e => s.core.b0 a e.symm e3
  refine ⟨.ref a, e1, a, rfl, .inl ⟨⟨vs, .inl (.inl e4)⟩, k _ xs ?_ h⟩⟩
  intro G1 H1 x1 gh b hk
  have f1 : SqL X.K H1 a vs := .inl (.inl (hk a _ e4 nb nt_lst))
  refine ⟨fun j it hj => ?_, ⟨vs, f1, by rw [e5.1]; exact Nat.le_refl _⟩⟩
  obtain ⟨v, hv, rv⟩ := e5.get hj
  refine ⟨⟨vs, v, f1, hv⟩, fun z H2 y => ?_⟩
  obtain ⟨rfl, y⟩ := y
  have := y vs f1
  rw [hv] at this
  cases this
  exact ⟨G1, .refl gh b, rv.mono x1⟩
theorem snd_lcO {c : Ctx} {wi : TI} {g' : TG} {tt : TT} {te : TE} {qi : QI} {g : QG} {qt : QT} {qe : QE} {ws vs : List Nat} (hw : ∀ w ∈ ws, w ∈ vs) (si : SndIO c wi qi) (sg : SndG c g' g ws) (st : SndT c tt qt) (se : SndE c te qe) : SndL c (tLc wi g' tt te vs) (qLc qi g qt qe vs) := by
  intro ρ σ G H Q R s h k
  refine si ρ σ G H _ _ s h fun J items wk hq D' hD => ?_
  obtain ⟨hl, Pv, p0, turn, fin⟩ := hq
  have hD0 : H D' = none := hD
  have nb : some D' ≠ c.β := fun e => by
    obtain ⟨c', cells, x1, x2, x3, x4, hb, _⟩ := (s.core.bg D' e.symm).is
    rw [hb] at hD; cases hD
  have gD := s.core.gh.free hD
  have gf := Grow.fresh (β := c.β) (o := .lst []) s.core.gh s.core.bg hD
  refine ⟨fun i m H' => ∃ G' us acc, i + m = items.length ∧ Grow c.β G H G' H' ∧ Ex G G' ∧ G' D' = none ∧ H' D' = some (.lst us) ∧ RepL G' us acc ∧ acc.length ≤ i ∧ Pv i acc, ⟨items.length, G, [], [], by omega, gf, Same.refl _, gD, upd_same, .nil, Nat.le_refl _, p0⟩, fun i m H' hW => ?_⟩
  obtain ⟨G', us, acc, hm, gg, ex, nD, hh, ra, hacc, pv⟩ := hW
  have s' := s.grow gg
  have w := wk G' H' ex s'.core.gh s'.core.bg gg.hh
  by_cases hi : i < items.length
  · obtain ⟨go, yl⟩ := w.1 i items[i] (List.getElem?_eq_getElem hi)
    refine .inr ⟨go, fun H2 => ∃ G2 us acc, Grow c.β G H G2 H2 ∧ Ex G G2 ∧ G2 D' = none ∧ H2 D' = some (.lst us) ∧ RepL G2 us acc ∧ acc.length ≤ i + 1 ∧ Pv (i + 1) acc, fun H2 ⟨G2, us, acc, x1, x2, x3, x4, x5, x6, x7⟩ => ⟨m - 1, by omega, G2, us, acc, by omega, x1, x2, x3, x4, x5, x6, x7⟩, fun x H2 y => ?_⟩
    obtain ⟨G2, g2, r2⟩ := yl x H2 y
    have keepD : ∀ {Ga Ha Gb Hb : Hp} {u : List V}, Grow c.β Ga Ha Gb Hb → Ga D' = none → Ha D' = some (.lst u) → Gb D' = none ∧ Hb D' = some (.lst u) := fun {Ga Ha Gb Hb u} gr h1 h2 => by
      exact ⟨gr.own h2 nt_lst (fun _ z => by cases z) nb h1, gr.hh _ _ h2 nb nt_lst⟩
    obtain ⟨nD2, hh2⟩ := keepD g2 nD hh
    have gg2 := gg.trans g2 s.hb
    have s2 := (s.grow gg2).wipe vs
    refine sg x _ (wipeS ρ vs) (L2.wipe σ vs) G2 H2 _ _ s2 r2 (turn i _ acc (List.getElem?_eq_getElem hi) pv) fun ρ3 σ3 s3 w3 _ h3 => ⟨?_, ?_⟩
    · rw [w3 vs hw]
      exact wipe_wipe σ vs
    · refine st ρ3 σ3 G2 H2 _ _ s3 h3 fun b G3 H3 g3 h4 => ?_
      obtain ⟨nD3, hh3⟩ := keepD g3 nD2 hh2
      have gg3 := gg2.trans g3 s.hb
      cases b with
      | true =>
        refine se ρ3 σ3 G3 H3 _ _ (s3.grow g3) h4 fun v d G4 H4 g4 r4 h5 => ?_
        obtain ⟨nD4, hh4⟩ := keepD g4 nD3 hh3
        have gg4 := gg3.trans g4 s.hb
        refine ⟨us, hh4, ?_, G4, us ++ [v], acc ++ [d], ?_, ((ex.trans g2.gg).trans g3.gg).trans g4.gg, nD4, upd_same, ((((ra.mono g2.gg).mono g3.gg).mono g4.gg)).snoc r4, by simp; omega, h5⟩
        · rw [ra.1, sizeLine_eq]; omega
        · exact gg4.put hD0 nD4 hh4 nt_lst nb
      | false => exact ⟨G3, us, acc, gg3, (ex.trans g2.gg).trans g3.gg, nD3, hh3, (ra.mono g2.gg).mono g3.gg, by omega, h4⟩
  · have : i = items.length := by omega
    subst this
    exact .inl ⟨w.2, k D' us acc G' H' gg hD0 nD hh ra (fin acc pv)⟩
section
variable {c : Ctx} {X : Cx} {pos : Pos} {elt tg iter : Expr} {ifs : List Expr} {scope : Scope} {qi : QI} {g : QG} {ws : List Nat} {qt : QT} {qe : QE}
theorem dlcO (own : List (Str × Nat)) (hc : X.calm = true) (hN : X.N.Nodup) (hi : PDIO c X tg iter qi) (hg : Blk X scope fun Y => PDG c Y tg g ws) (ht : Blk X scope fun Y => PDTs c Y ifs qt) (he : Blk X scope fun Y => PD c Y elt qe)
    (ok : blkC X.N X.env.scope scope own = true := by kernel_rfl) (hw : ∀ w ∈ ws, w ∈ own.map (·.2) := by decide) (hs : ∀ x, foldedSetIterable iter X.env x = pure x := by intro _; rfl) :
    PDL c X (.ListComp elt [⟨tg, iter, ifs, 0⟩] scope pos) (qLc qi g qt qe (own.map (·.2))) := by
  obtain ⟨wi, pi, si⟩ := hi.ex
  exact ⟨_, pe_lc hc hN pi (blkOk_by ok) (fun s H C cl fp => (hg s H C cl fp).can) (fun s H C cl fp => (ht s H C cl fp).can) (fun s H C cl fp => (he s H C cl fp).can) hs, snd_lcO hw si snd_rdG snd_rdT snd_rdE⟩
theorem ssetLcO (i : Nat) {y : Str} {py spos : Pos} (own : List (Str × Nat)) (hc : X.calm = true) (hN : X.N.Nodup) (hi : PDIO c X tg iter qi) (hg : Blk X scope fun Y => PDG c Y tg g ws) (ht : Blk X scope fun Y => PDTs c Y ifs qt) (he : Blk X scope fun Y => PD c Y elt qe)
    (hy : X.N[i]? = some y := by rfl) (hyl : X.env.scope.names.lookup y = some .local := by rfl) (hsw : swapsWith (.ListComp elt [⟨tg, iter, ifs, 0⟩] scope pos) (some (.Name y py)) spos.line X.env = pure true := by exact sw_true rfl rfl rfl (by decide +kernel))
    (ok : blkC X.N X.env.scope scope own = true := by kernel_rfl) (hw : ∀ w ∈ ws, w ∈ own.map (·.2) := by decide) (hs : ∀ x, foldedSetIterable iter X.env x = pure x := by intro _; rfl) :
    PDS c X (.Assign [.Name y py] (.ListComp elt [⟨tg, iter, ifs, 0⟩] scope pos) spos) (qSet i (qLst' (qLc qi g qt qe (own.map (·.2))))) := by
  obtain ⟨wi, pi, si⟩ := hi.ex
  exact ⟨_, ps_setLc hc hN hy hyl hsw pi (blkOk_by ok) (fun s H C cl fp => (hg s H C cl fp).can) (fun s H C cl fp => (ht s H C cl fp).can) (fun s H C cl fp => (he s H C cl fp).can) hs, snd_asg (snd_ofL (snd_lcO hw si snd_rdG snd_rdT snd_rdE))⟩
end
end DL

namespace DL
open PySem PySem.Spec PyProof.Rows L2 PySem.W
/-! ### two readings of one expression -/
section
variable {c : Ctx} {X : Cx} {e o : Expr} {q q1 q2 : QE} {t1 t2 : QT} {f : Str} {pos : Pos} {C : PySem.Addr}
def qEi (q1 q2 : QE) : QE := fun ρ Q => q1 ρ Q ∨ q2 ρ Q
theorem dei (h1 : PD c X e q1) (h2 : PD c X e q2) : PD c X e (qEi q1 q2) := by
  obtain ⟨a1, p1, s1⟩ := h1.ex
  obtain ⟨a2, p2, s2⟩ := h2.ex
  refine ⟨fun σ H R => a1 σ H R ∨ a2 σ H R, ⟨fun pins s σ H Q I h => ?_⟩, fun ρ σ G H Q R s h k => ?_⟩
  · exact h.elim (p1.run pins s σ H Q I) (p2.run pins s σ H Q I)
  · exact h.elim (fun h => .inl (s1 ρ σ G H Q R s h k)) (fun h => .inr (s2 ρ σ G H Q R s h k))
/-! ### a constant of the class, read off an instance -/
/-- of plain data -/
def CCon (K : PySem.W.Frag) (C : PySem.Addr) (f : Str) (d : D) : Prop := ∃ (v : V) (u : Value), Con K C f v u ∧ ∀ G : Hp, Rep G v d
theorem ccon_s {K : PySem.W.Frag} {C : PySem.Addr} {f : Str} {x : Str} {t : Tok} (a : PySem.W.findIn K (.ref C) f = some (some (.str x t))) (g : PySem.W.specialIn K (.str x t) "__get__" = some none) (cp : PySem.W.copiedNames.contains f = false) : CCon K C f (.str x) :=
  ⟨.str x, .str x t, ⟨a, ⟨t, rfl⟩, g, cp⟩, fun _ => .str x⟩
theorem ccon_b {K : PySem.W.Frag} {C : PySem.Addr} {f : Str} {b : Bool} (a : PySem.W.findIn K (.ref C) f = some (some (.bool b))) (g : PySem.W.specialIn K (.bool b) "__get__" = some none) (cp : PySem.W.copiedNames.contains f = false) : CCon K C f (.bl b) :=
  ⟨.bl b, .bool b, ⟨a, rfl, g, cp⟩, fun _ => .bl b⟩
def conR (C : PySem.Addr) (f : Str) (d : D) : D → (D → Prop) → Prop
  | .obj C' fs, Q => (C' = C ∧ fs.lookup f = none) ∧ Q d
  | _, _ => False
theorem dcon {d : D} (hC : ClF X.K C) (k : CCon X.K C f d) (he : PD c X e q) (hb : attributeBase e f X.env (eval e X.env) = eval e X.env := by rfl) : PD c X (.Attribute e f pos) (qUn (conR C f d) q) := by
  obtain ⟨v, u, kc, kr⟩ := k
  obtain ⟨t, p, sd⟩ := he.ex
  refine ⟨_, pe_con p hb, fun ρ σ G H Q R s h k => sd ρ σ G H _ _ s h fun w d' G' H' g r hq => ?_⟩
  cases r with
  | obj e hd n q =>
    obtain ⟨⟨rfl, hl⟩, hq⟩ := hq
    refine ⟨_, _, _, _, v, u, rfl, g.gh _ _ e, hC.cl, kc, ?_, k v d G' H' g (kr G') hq⟩
    have h1 : ∀ {fv : List (Str × V)} {fd : List (Str × D)}, fv.map (·.1) = fd.map (·.1) → fd.lookup f = none → fv.lookup f = none := by
      intro fv
      induction fv with
      | nil => intro fd _ _; rfl
      | cons a fv ih =>
        intro fd e1 e2
        cases fd with
        | nil => cases e1
        | cons b fd =>
          injection e1 with e1 e3
          have e1 : a.1 = b.1 := e1
          rw [List.lookup_cons] at e2 ⊢
          rw [e1]
          cases hx : (f == b.1) with
          | true => rw [hx] at e2; cases e2
          | false => rw [hx] at e2; exact ih e3 e2
    exact h1 n hl
  | _ => exact hq.elim
end
/-! ### bool(x) -/
theorem run_subE {X : Cx} {E : Value → Shared → Prop} {pins : List (PySem.Addr × Obj)} {σ : L2.St} {H : Hp} {s : Shared} {A : Around} {f : PySem.Addr} {fd : FuncData} {ps : List Str} {j : Nat} {sp : Sp} {us : List Value} {vs : List V} {Q : VK} (F : FnOk X.prog X.w X.K X.mg X.base CX0 j f fd ps sp) (hb : Binds X.K fd ps []) (sb : Sub X j A) (I : Inv X pins σ H s) (r2 : Vals vs us) (h : sp vs H Q E0) :
    wpAny (model X.prog X.w) A (call (.ref f) us) (EP X pins σ Q) E s := by
  have e0 : Env0 X.prog X.w X.K X.mg X.base A X.stack s H := by
    have e := I.env0
    exact ⟨by rw [sb.fr]; exact e.frames, e.mod, e.bs, e.bsz, e.funs, e.frf, e.hok, e.bare⟩
  have hl := F.len _ _ _ _ h
  have hl' : us.length = ps.length := by rw [← r2.length]; exact hl
  refine wpAny_call (codeAny_mono (F.run A X.stack s H ⟨us, []⟩ us vs _ E0 sb.room e0 (by
    have := hb s us I.kIn (by simpa using hl')
    simpa using this) r2 h) fun r s' hq => ?_)
  cases r with
  | error e =>
    exact False.elim hq
  | ok fl =>
    cases fl with
    | ret w =>
      obtain ⟨z, H', I', rz, ez⟩ := I.after hq
      exact ⟨z, H', I', rz, ez⟩
    | next => exact False.elim hq
    | brk => exact False.elim hq
    | cont => exact False.elim hq
section
variable {prog : Program} {w : World} {A : Around} {E : Value → Shared → Prop} {s : Shared}
theorem bool_newRef {x : PySem.Addr} : MeetsIn prog w (Builtin.«bool.__new__» ⟨[.type "bool", .ref x], []⟩) (fun A R s => ∀ E, wpAny (model prog w) A.in1 (truthy (.ref x)) (fun b s' => R (.ok (.ret (.bool b))) s') E s) :=
  .of_wp fun A R s h => by
    obtain ⟨hp, g, d, tk, os⟩ := s
    have f1 := F.conv_sub_bool
    repeat (first | (refine wpAny_bind (m := truthy (.ref x)) (wpAny_mono (h _) (fun b s' hr => ?_) fun _ _ e => e)) | assumption | wp_step)
    exact ⟨_, rfl, hr⟩
theorem call_boolRef {x : PySem.Addr} {Q : Value → Shared → Prop} (h : ∀ E, wpAny (model prog w) A.in1.in1 (truthy (.ref x)) (fun b s' => Q (.bool b) s') E s) : wpAny (model prog w) A (call (.type "bool") [.ref x]) Q E s :=
  callType_newIn F.called_bool F.newNe_bool (F.typeCall_bool_1 _) (F.newCall_bool_1 _) (fun obj => F.args_object_init_2 obj _) F.entry_bool_new bool_newRef (fun E' => wpAny_mono (h E') (fun b s' hr => ⟨rfl, hr⟩) fun _ _ e => e)
end
section
variable {c : Ctx} {X : Cx} {e : Expr} {q : QE} {qr : QA} {p pos : Pos} {C : PySem.Addr} {sp : SpD} {k j : Nat} {ps : List Str}
def boolR : List D → (D → Prop) → Prop
  | [.int i], Q => Q (.bl (i != 0))
  | [.bl b], Q => Q (.bl b)
  | _, _ => False
theorem cd_bool : CallD (fun xs H Q => (∃ i, xs = [V.int i] ∧ Q (.bl (i != 0)) H) ∨ ∃ k, xs = [V.bl k] ∧ Q (.bl k) H) boolR := by
  intro β G H xs ds Q R hgh hbg r h k
  match ds, h with
  | [.int i], h =>
    obtain ⟨v, rfl, rv⟩ := r.one
    cases rv
    exact .inl ⟨i, rfl, opd_ret hgh hbg k (.bl _) h⟩
  | [.bl b], h =>
    obtain ⟨v, rfl, rv⟩ := r.one
    cases rv
    exact .inr ⟨b, rfl, opd_ret hgh hbg k (.bl _) h⟩
theorem dbool (hm : X.mg "bool" = none) (ha : PDA c X [e] qr) (hg : Gl X "bool" := by rfl) (he : starEach [e] X.env = (false, eval e X.env) :: starEach [] X.env := by rfl) : PD c X (.Call (.Name "bool" p) [e] [] pos) (qCB boolR qr) :=
  PD.callTy call_bool1 cd_bool hg hm (by decide +kernel) ha (by decide) (by decide) he rfl
/-- bool(o) by an own __bool__ -/
def rBoolO (C : PySem.Addr) (sp : SpD) : List V → Hp → VK → Prop := fun xs H Q => ∃ a dx fs, xs = [.ref a] ∧ H a = some (.ins C dx fs) ∧ lf sp xs H (fun v H' => ∃ r, v = .bl r ∧ Q (.bl r) H') E0
theorem truthyO {A : Around} {pins : List (PySem.Addr × Obj)} {σ : L2.St} {H : Hp} {s : Shared} {a dx : PySem.Addr} {fs : List (Str × V)} {Q : Bool → Shared → Prop} {E : Value → Shared → Prop} (F : DnM X.prog X.w X.K X.mg X.base j C "__bool__" ps sp) (sb : Sub X j A) (I : Inv X pins σ H s) (ha : H a = some (.ins C dx fs))
    (h : lf sp [.ref a] H (fun v H' => ∃ r, v = .bl r ∧ ∀ s', Inv X pins σ H' s' → Q r s') E0) : wpAny (model X.prog X.w) A (truthy (.ref a)) Q E s := by
  obtain ⟨f, fd, F, M, cf, hb, _⟩ := F
  obtain ⟨od, J⟩ := ins_at I ha
  obtain ⟨m, hF⟩ := I.fr
  refine PySem.W.truthy_K hF I.ok.mod.kin J M.at_ M.fn (wpAny_mono (run_subE (us := [.ref a]) (vs := [.ref a]) F hb sb I (.cons rfl .nil) h) (fun v s' q => ?_) fun _ _ x => x)
  obtain ⟨z, H', I', rz, r, rfl, q⟩ := q
  cases rz
  exact q s' I'
theorem lf_imp {sp : SpD} {vs : List V} {H : Hp} {R R' : VK} {E : XK} (h : lf sp vs H R E) (k : ∀ v H', R v H' → R' v H') : lf sp vs H R' E := by
  obtain ⟨β, G, ds, Q, h1, h2, h3, h4, h5⟩ := h
  exact ⟨β, G, ds, Q, h1, h2, h3, h4, fun v d G' H' g r q => k _ _ (h5 v d G' H' g r q)⟩
theorem call_boolO (F : DnM X.prog X.w X.K X.mg X.base j C "__bool__" ps sp) (hr : Room k X.A) (hj : j + 2 ≤ k) : CallR X (.type "bool") (fun xs H Q => ∃ a dx fs, xs = [.ref a] ∧ H a = some (.ins C dx fs) ∧ lf sp [.ref a] H (fun v H' => ∃ r, v = .bl r ∧ Q (.bl r) H') E0) := by
  intro pins s σ H xs us Q I r h
  obtain ⟨a, dx, fs, rfl, ha, h⟩ := h
  rw [Vals.ref1 r]
  have sb : Sub X (j + 2) X.A := ⟨hr.mono hj, rfl⟩
  refine call_boolRef fun E => truthyO F sb.in1.in1 I ha (lf_imp h fun v H' ⟨r, e, q⟩ => ⟨r, e, fun s' I' => ⟨.bl r, H', I', rfl, q⟩⟩)
def boolO (C : PySem.Addr) (sp : SpD) : List D → (D → Prop) → Prop
  | [.obj C' fs], Q => C' = C ∧ sp none [.obj C' fs] fun d => ∃ r, d = .bl r ∧ Q (.bl r)
  | ds, Q => boolR ds Q
theorem dboolO (F : DnM X.prog X.w X.K X.mg X.base j C "__bool__" ps sp) (hr : Room k X.A) (hm : X.mg "bool" = none) (ha : PDA c X [e] qr) (hj : j + 2 ≤ k := by decide) (hg : Gl X "bool" := by rfl) (he : starEach [e] X.env = (false, eval e X.env) :: starEach [] X.env := by rfl) : PD c X (.Call (.Name "bool" p) [e] [] pos) (qCB (boolO C sp) qr) := by
  refine PD.callTy (call_bool1.or (call_boolO F hr hj)) ?_ hg hm (by decide +kernel) ha (by decide) (by decide) he rfl
  intro β G H xs ds Q R hgh hbg r h k
  have gen : boolR ds Q → ((∃ i, xs = [V.int i] ∧ R (.bl (i != 0)) H) ∨ ∃ k, xs = [V.bl k] ∧ R (.bl k) H) ∨ ∃ a dx fs, xs = [.ref a] ∧ H a = some (.ins C dx fs) ∧ lf sp [.ref a] H (fun v H' => ∃ r, v = .bl r ∧ R (.bl r) H') E0 := fun h => .inl (cd_bool β G H xs ds Q R hgh hbg r h k)
  match ds, h with
  | [], h => exact gen h
  | [.obj C' fs], h =>
    obtain ⟨v, rfl, rv⟩ := r.one
    obtain ⟨rfl, h5⟩ := h
    cases rv with
    | obj e1 h1 h2 h3 =>
      refine .inr ⟨_, _, _, rfl, hgh _ _ e1, lf_none hgh hbg (.cons (.obj e1 h1 h2 h3) .nil) h5 fun v d G' H' g rv q => ?_⟩
      obtain ⟨y, rfl, q⟩ := q
      cases rv
      exact ⟨y, rfl, k _ _ G' H' g (.bl y) q⟩
  | .obj C' fs :: _ :: _, h => exact gen h
  | .non :: _, h => exact gen h
  | .bl _ :: _, h => exact gen h
  | .int _ :: _, h => exact gen h
  | .str _ :: _, h => exact gen h
  | .adr _ :: _, h => exact gen h
  | .ty _ :: _, h => exact gen h
  | .tup _ :: _, h => exact gen h
  | .lst _ :: _, h => exact gen h
  | .dK _ :: _, h => exact gen h
  | .dT _ :: _, h => exact gen h
  | .exc _ _ :: _, h => exact gen h
  | .lmu _ _ :: _, h => exact gen h
end
/-! ### min, max of two ints -/
section
variable {c : Ctx} {X : Cx} {a b : Expr} {qr : QA} {p pos : Pos}
def min2R : List D → (D → Prop) → Prop
  | [.int i, .int j], Q => Q (.int (if j < i then j else i))
  | _, _ => False
def max2R : List D → (D → Prop) → Prop
  | [.int i, .int j], Q => Q (.int (if j > i then j else i))
  | _, _ => False
theorem dmin2 (hc : X.calm = true) (hm : X.mg "min" = none) (ha : PDA c X [a, b] qr) (hg : Gl X "min" := by rfl) (he : starEach [a, b] X.env = (false, eval a X.env) :: starEach [b] X.env := by rfl) (hpl : (backTo pos (starEach [b] X.env)).any (·.1) = false := by rfl) : PD c X (.Call (.Name "min" p) [a, b] [] pos) (qCB min2R qr) := by
  refine PD.callB (call_min2 hc) ?_ hg hm (by decide +kernel) ha (by decide) (by decide) he hpl
  intro β G H xs ds Q R hgh hbg r h k
  match ds, h with
  | [.int i, .int j], h =>
    obtain ⟨v, w, rfl, r1, r2⟩ := r.two
    cases r1
    cases r2
    exact ⟨i, j, rfl, opd_ret hgh hbg k (.int _) h⟩
theorem dmax2 (hc : X.calm = true) (hm : X.mg "max" = none) (ha : PDA c X [a, b] qr) (hg : Gl X "max" := by rfl) (he : starEach [a, b] X.env = (false, eval a X.env) :: starEach [b] X.env := by rfl) (hpl : (backTo pos (starEach [b] X.env)).any (·.1) = false := by rfl) : PD c X (.Call (.Name "max" p) [a, b] [] pos) (qCB max2R qr) := by
  refine PD.callB (call_max2 hc) ?_ hg hm (by decide +kernel) ha (by decide) (by decide) he hpl
  intro β G H xs ds Q R hgh hbg r h k
  match ds, h with
  | [.int i, .int j], h =>
    obtain ⟨v, w, rfl, r1, r2⟩ := r.two
    cases r1
    cases r2
    exact ⟨i, j, rfl, opd_ret hgh hbg k (.int _) h⟩
end
theorem boolR_i {i : Int} {Q : D → Prop} : boolR [.int i] Q = Q (.bl (i != 0)) := rfl
theorem boolR_b {b : Bool} {Q : D → Prop} : boolR [.bl b] Q = Q (.bl b) := rfl
theorem min2_i {i j : Int} {Q : D → Prop} : min2R [.int i, .int j] Q = Q (.int (if j < i then j else i)) := rfl
theorem max2_i {i j : Int} {Q : D → Prop} : max2R [.int i, .int j] Q = Q (.int (if j > i then j else i)) := rfl
end DL
/-! ### x[i], x[j] = a, b for an owned list -/
namespace DL
open PySem PySem.Spec PyProof.Rows L2
section
variable {c : Ctx} {X : Cx} {e a b ek1 ek2 : Expr} {q qk1 qk2 : QE} {pos : Pos}
def tup2 : D → (D → D → Prop) → Prop
  | .tup [x, y], Q => Q x y
  | _, _ => False
theorem tup2_inv {d : D} {Q : D → D → Prop} (h : tup2 d Q) : ∃ x y, d = .tup [x, y] ∧ Q x y := by
  match d, h with
  | .tup [x, y], h => exact ⟨x, y, rfl, h⟩
def qParI (i : Nat) (q qk1 qk2 : QE) : QS := fun ρ Φ => q ρ fun d => tup2 d fun d1 d2 => slotO ρ[i]? fun a xs => qk1 ρ fun kd => inI kd fun k => ∃ j, ixN xs.length k = some j ∧ qk2 (ρ.set i (.own a (.lst (xs.set j d1)))) fun kd2 => inI kd2 fun k2 => ∃ j2, ixN xs.length k2 = some j2 ∧ Φ.nx (ρ.set i (.own a (.lst ((xs.set j d1).set j2 d2))))
theorem sparI (i : Nat) {x : Str} {n1 n2 p1 p2 pt pt2 : Pos} {kt k2 : Nat} (hc : X.calm = true) (he : PD c X (.Tuple [a, b] k2 pt2) q) (hk1 : PD c X ek1 qk1) (hk2 : PD c X ek2 qk2) (hN : X.N[i]? = some x := by rfl) (hv : Vis X.env.scope x := by first | exact Or.inl rfl | exact Or.inr (Or.inl rfl) | exact Or.inr (Or.inr rfl)) (hd : (x == ("__debug__" : Str)) = false := by decide)
    (hcd : (x == ("__classdict__" : Str)) = false := by decide)
    (h0 : ∀ v, assign (.Subscript (.Name x n1) ek1 p1) X.env v = (do
      let ov ← holding [v] (eval (.Name x n1) X.env)
      let iv ← holding [v, ov] (eval ek1 X.env)
      standAt p1
      holding [v, ov, iv] (setItem ov iv v)
      release [v, ov, iv] []) := by intro _; rfl)
    (h0' : ∀ v, assign (.Subscript (.Name x n2) ek2 p2) X.env v = (do
      let ov ← holding [v] (eval (.Name x n2) X.env)
      let iv ← holding [v, ov] (eval ek2 X.env)
      standAt p2
      holding [v, ov, iv] (setItem ov iv v)
      release [v, ov, iv] []) := by intro _; rfl)
    (hs : swapsWithSole [.Tuple [.Subscript (.Name x n1) ek1 p1, .Subscript (.Name x n2) ek2 p2] kt pt] (.Tuple [a, b] k2 pt2) pos.line X.env = pure false := by rfl)
    (hw : swappedStores [.Tuple [.Subscript (.Name x n1) ek1 p1, .Subscript (.Name x n2) ek2 p2] kt pt] (.Tuple [a, b] k2 pt2) X.env = pure none := by rfl)
    (h1 : (assignEach [.Tuple [.Subscript (.Name x n1) ek1 p1, .Subscript (.Name x n2) ek2 p2] kt pt] X.env).map (·.2) = [assign (.Tuple [.Subscript (.Name x n1) ek1 p1, .Subscript (.Name x n2) ek2 p2] kt pt) X.env] := by rfl)
    (hn : (assignEach [.Subscript (.Name x n1) ek1 p1, .Subscript (.Name x n2) ek2 p2] X.env).length = 2 := by rfl) (hst : (assignEach [.Subscript (.Name x n1) ek1 p1, .Subscript (.Name x n2) ek2 p2] X.env).findIdx? (·.1) = none := by rfl)
    (hq1 : (assignEach [.Subscript (.Name x n1) ek1 p1, .Subscript (.Name x n2) ek2 p2] X.env).map (·.2) = assign (.Subscript (.Name x n1) ek1 p1) X.env :: (assignEach [.Subscript (.Name x n2) ek2 p2] X.env).map (·.2) := by rfl)
    (hq2 : (assignEach [.Subscript (.Name x n2) ek2 p2] X.env).map (·.2) = assign (.Subscript (.Name x n2) ek2 p2) X.env :: (assignEach [] X.env).map (·.2) := by rfl) :
    PDS c X (.Assign [.Tuple [.Subscript (.Name x n1) ek1 p1, .Subscript (.Name x n2) ek2 p2] kt pt] (.Tuple [a, b] k2 pt2) pos) (qParI i q qk1 qk2) := by
  obtain ⟨t, pe, sd⟩ := he.ex
  obtain ⟨t1, pk1, sk1⟩ := hk1.ex
  obtain ⟨t2, pk2, sk2⟩ := hk2.ex
  refine ⟨_, ps_asg pe (pg_tup hc (pgs_cons (pg_sub (pe_var hN hv hd hcd) pk1 set_list h0) (pgs_cons (pg_sub (pe_var hN hv hd hcd) pk2 set_list h0') pgs_nil hq2) hq1) hn hst) hs hw h1, fun ρ σ G H Φ D' s h f => ?_⟩
  refine sd ρ σ G H _ _ s h fun v d G1 H1 g1 r1 h' => ?_
  obtain ⟨d1, d2, rfl, h'⟩ := tup2_inv h'
  obtain ⟨l, xs, ea, h'⟩ := slotO_inv h'
  have s1 := s.grow g1
  cases r1 with
  | @tup ta vs _ ht hl hr =>
  obtain ⟨v1, v2, rfl⟩ : ∃ v1 v2, vs = [v1, v2] := by
    match vs, hl with
    | [v1, v2], _ => exact ⟨v1, v2, rfl⟩
  have rv1 : Rep G1 v1 d1 := hr 0 _ _ rfl rfl
  have rv2 : Rep G1 v2 d2 := hr 1 _ _ rfl rfl
  refine ⟨ta, [v1, v2], rfl, ht.sq s1.core.gh, rfl, v1, [v2], rfl, ?_⟩
  obtain ⟨e1, e2, e3, vs1, e4, e5⟩ := s1.sl i _ ea
  refine ⟨.ref l, e1, sk1 ρ σ G1 H1 _ _ s1 h' fun w kd G2 H2 g2 r2 h' => ?_⟩
  obtain ⟨k, rfl, j, ek, h'⟩ := inI_inv h'
  cases r2
  have s2 := s1.grow g2
  obtain ⟨_, _, _, vs2, e4', e5'⟩ := s2.sl i _ ea
  refine ⟨l, vs2, k, j, rfl, rfl, e4', by rw [e5'.1]; exact ek, ?_⟩
  have s3 := s2.mut ea (e5'.set j (rv1.mono g2.gg))
  refine ⟨v2, [], rfl, ?_⟩
  have ea3 : (ρ.set i (.own l (.lst (xs.set j d1))))[i]? = some (.own l (.lst (xs.set j d1))) := by
    have : i < ρ.length := (List.getElem?_eq_some_iff.mp ea).1
    rw [List.getElem?_set_self this]
  obtain ⟨f1, f2, f3, vs3, f4, f5⟩ := s3.sl i _ ea3
  refine ⟨.ref l, f1, sk2 _ σ G2 _ _ _ s3 h' fun w2 kd2 G4 H4 g4 r4 h' => ?_⟩
  obtain ⟨k2', rfl, j2, ek2', h'⟩ := inI_inv h'
  cases r4
  have s4 := s3.grow g4
  obtain ⟨_, _, _, vs4, f4', f5'⟩ := s4.sl i _ ea3
  refine ⟨l, vs4, k2', j2, rfl, rfl, f4', by rw [f5'.1, List.length_set]; exact ek2', rfl, ?_⟩
  have s5 := s4.mut ea3 (f5'.set j2 ((rv2.mono g2.gg).mono g4.gg))
  rw [List.set_set] at s5
  exact f.nx _ _ G4 _ ((g1.gg.trans g2.gg).trans g4.gg) s5 h'
end
end DL
namespace DL
open PySem PySem.Spec PyProof.Rows L2
/-- xs * k, a new list -/
def mulNL : D → D → (List D → Prop) → Prop
  | .lst xs, .int j, Q => (0 ≤ j ∧ j ≤ 1000 ∧ xs.length ≤ 100) ∧ Q (List.replicate j.toNat xs).flatten
  | _, _, _ => False
def qMulN (qa qb : QE) : QA := fun ρ Q => qa ρ fun x => qb ρ fun y => mulNL x y Q
theorem dmulN {c : Ctx} {X : Cx} {a b : Expr} {qa qb : QE} {pos : Pos} (ha : PD c X a qa) (hb : PD c X b qb) : PDL c X (.BinOp a .Mult b pos) (qMulN qa qb) := by
  obtain ⟨ta, pa, sa⟩ := ha.ex
  obtain ⟨tb, pb, sb⟩ := hb.ex
  refine ⟨_, pe_op op_rep pa pb, fun ρ σ G H Q R s h k => ?_⟩
  refine sa ρ σ G H _ _ s h fun v1 d1 G1 H1 g1 r1 h1 => ?_
  have s1 := s.grow g1
  refine sb ρ σ G1 H1 _ _ s1 h1 fun v2 d2 G2 H2 g2 r2 h2 => ?_
  have s2 := s1.grow g2
  have r1' := r1.mono g2.gg
  match d1, d2, h2 with
  | .lst xs, .int j, ⟨⟨h0, h1, h2⟩, h3⟩ =>
    cases r1' with
    | @lst l vs _ e n r =>
    cases r2
    refine ⟨l, j, vs, rfl, rfl, s2.core.gh _ _ e, by omega, by omega, ?_, fun p hp => ?_⟩
    · rw [n]
      have := Nat.mul_le_mul h2 (show j.toNat ≤ 1000 by omega)
      rw [sizeLine_eq]; omega
    · have gn := Grow.fresh (o := .lst (List.replicate j.toNat vs).flatten) s2.core.gh s2.core.bg hp
      have g12 := g1.trans g2 s.hb
      exact k p _ _ G2 _ (g12.trans gn s.hb) (g12.fr hp) (s2.core.gh.free hp) upd_same (RepL.flatten ⟨n, r⟩ _) h3
theorem mulN_li {xs : List D} {j : Int} {Q : List D → Prop} : mulNL (.lst xs) (.int j) Q = ((0 ≤ j ∧ j ≤ 1000 ∧ xs.length ≤ 100) ∧ Q (List.replicate j.toNat xs).flatten) := rfl
theorem conR_o {C C' : PySem.Addr} {f : Str} {d : D} {fs : List (Str × D)} {Q : D → Prop} : conR C f d (.obj C' fs) Q = ((C' = C ∧ fs.lookup f = none) ∧ Q d) := rfl
theorem neO_ii {C : PySem.Addr} {sp : SpD} {i j : Int} {Q : D → Prop} : neO C sp (.int i) (.int j) Q = neR (.int i) (.int j) Q := rfl
theorem neO_ss {C : PySem.Addr} {sp : SpD} {i j : Str} {Q : D → Prop} : neO C sp (.str i) (.str j) Q = neR (.str i) (.str j) Q := rfl
end DL

namespace DL
open PySem PySem.Spec PyProof.Rows L2 PySem.W
/-! ### xs[::-1] -/
def revR : D → (D → Prop) → Prop
  | .lst xs, Q => Q (.lst xs.reverse)
  | _, _ => False
theorem RepL.rev {G : Hp} {vs : List V} {ds : List D} (r : RepL G vs ds) : RepL G vs.reverse ds.reverse := by
  refine ⟨by rw [List.length_reverse, List.length_reverse]; exact r.1, fun i v d hv hd => ?_⟩
  have hi : i < vs.length := by
    have := (List.getElem?_eq_some_iff.mp hv).1
    rwa [List.length_reverse] at this
  rw [List.getElem?_reverse hi] at hv
  rw [List.getElem?_reverse (by rw [← r.1]; exact hi)] at hd
  rw [← r.1] at hd
  exact r.2 _ _ _ hv hd
section
variable {c : Ctx} {X : Cx} {e a b : Expr} {q qa qb : QE} {p1 p2 p3 pos : Pos} {k1 : Tok}
theorem drev (h : PD c X e q) : PD c X (.Subscript e (.Slice none none (some (.UnaryOp .USub (.Constant (.int 1) k1 p1) p2)) p3) pos) (qUn revR q) := by
  obtain ⟨t, p, sd⟩ := h.ex
  refine ⟨_, pe_revL p, fun ρ σ G H Q R s h k => ?_⟩
  refine sd ρ σ G H _ _ s h fun v d G1 H1 g1 r1 h => ?_
  have s1 := s.grow g1
  have kk : ∀ v d G' H', Grow c.β G1 H1 G' H' → Rep G' v d → Q d → R v H' := fun v d G' H' g r q => k v d G' H' (g1.trans g s.hb) r q
  cases r1 with
  | lst e n r => exact ⟨_, _, rfl, .inl (.inl (s1.core.gh _ _ e)), fun p hp => opd_lst s1.core.gh s1.core.bg kk hp (RepL.rev ⟨n, r⟩) h⟩
  | _ => exact h.elim
end
/-! ### x is True -/
def isBR : D → D → (D → Prop) → Prop
  | .bl x, .bl y, Q => Q (.bl (decide (x = y)))
  | _, _, _ => False
theorem opd_isB : OpD rIsB isBR := by
  intro β G H x y a b Q R hgh hbg ra rb h k
  match a, b, h with
  | .bl p, .bl q, h =>
    cases ra; cases rb
    exact ⟨p, q, rfl, rfl, opd_ret hgh hbg k (.bl _) h⟩
section
variable {c : Ctx} {X : Cx} {a b : Expr} {qa qb : QE} {pos : Pos}
theorem disB (ha : PD c X a qa) (hb : PD c X b qb) : PD c X (.Compare a [.Is] [b] pos) (qOp isBR qa qb) := PD.cmp op_isBl opd_isB ha hb (nomark _)
theorem tisB (ha : PD c X a qa) (hb : PD c X b qb) : PDT c X (.Compare a [.Is] [b] pos) (qTest (qOp isBR qa qb)) := PDT.cmp op_isBl opd_isB ha hb (nomark _)
end
/-! ### an int == an object whose own __eq__ declines -/
section
variable {prog : Program} {w : World} {A : Around} {E : Value → Shared → Prop} {s : Shared} {K : PySem.W.Frag} {x C f : PySem.Addr} {ox : Obj} {od : Option Obj}
theorem rc_ni2 {i : Int} {t : Tok} {Q : Value → Shared → Prop} (hu : A.units < cLine) (X : K.In s.heap) (I : PySem.W.InstAt s.heap x ox C od) (hsub : PySem.W.subIn K (.ref C) (.type "int") = some false) (hs : PySem.W.findIn K (.ref C) "__eq__" = some (some (.ref f))) (hf : PySem.W.isFn K (.ref f) = true)
    (h : wpAny (model prog w) A (tryCompare (.int i t) "__eq__" (.ref x)) (fun r s1 => r = none ∧ s1 = s) E s) (h2 : wpAny (model prog w) A (call (.ref f) [.ref x, .int i t]) (fun v s1 => v = .notImplemented ∧ Q (.bool false) s1) E s) :
    wpAny (model prog w) A (richCompare .Eq (.int i t) (.ref x)) Q E s := by
  have two : wpAny (model prog w) A (tryCompare (.ref x) "__eq__" (.int i t)) (fun r s1 => r = none ∧ Q (.bool false) s1) E s := by
    unfold tryCompare
    refine wpAny_bind (PySem.W.ifBound_K X I hs hf (wpAny_mono h2 (fun v s1 z => ?_) fun _ _ e => e))
    obtain ⟨rfl, z⟩ := z
    exact wpAny_pure ⟨rfl, z⟩
  have ot : oneThing? .Eq (.int i t) (.ref x) = none := rfl
  simp only [richCompare, cmpInfo_Eq, ot]
  refine wpAny_holding (wpAny_bind (wpAny_cRoomFor hu ?_))
  refine wpAny_bind (wpAny_typeOf (typeIs_int s i t) ?_)
  refine wpAny_bind (I.type.here ?_)
  split
  · refine wpAny_bind ((PySem.W.looks_subIn X hsub).here ?_)
    simp only [Bool.false_eq_true, if_false, Bool.not_false, if_true]
    refine wpAny_bind (m := tryCompare (.int i t) _ (.ref x)) (wpAny_mono h (fun r s1 z => ?_) fun _ _ e => e)
    obtain ⟨z1, z2⟩ := z
    subst z1 z2
    refine wpAny_bind (m := tryCompare (.ref x) _ (.int i t)) (wpAny_mono two (fun r s2 z => ?_) fun _ _ e => e)
    obtain ⟨z1, z3⟩ := z
    subst z1
    refine wpAny_bind (wpAny_rule (wpAny_bind (wpAny_of_eq (rfl : isSame (.int i t) (.ref x) = pure false) ?_)))
    exact wpAny_pure z3
  · rename_i q
    exact absurd (by simp) q
end
section
variable {c : Ctx} {X : Cx} {C : PySem.Addr} {dom : D → Prop} {k j : Nat}
def rEqIN (C : PySem.Addr) (dom : D → Prop) : R2 := fun x y H Q => ∃ (β : Option PySem.Addr) (G : Hp) (a : PySem.Addr) (fs : List (Str × D)) (i : Int), Ex G H ∧ (∀ b, β = some b → Bag G H b) ∧ y = .ref a ∧ Rep G (.ref a) (.obj C fs) ∧ x = .int i ∧ dom (.int i) ∧ ∀ G' H', Grow β G H G' H' → Q (.bl false) H'
/-- what the text has of a class: it is no int -/
def NoInt (K : PySem.W.Frag) (C : PySem.Addr) : Prop := PySem.W.subIn K (.ref C) (.type "int") = some false
theorem op_eqIN (FN : DnNI X.prog X.w X.K X.mg X.base j C "__eq__" dom) (sl : NoInt X.K C) (hr : Room k X.A) (hj : j ≤ k) : OpR X (compareOp .Eq) (rEqIN C dom) := by
  intro pins s σ H x y u v Q I rx ry h
  obtain ⟨f, M, cf, FN⟩ := FN
  obtain ⟨β, G, a, fs, i, gh, bg, rfl, ra, rfl, hd, q⟩ := h
  obtain rfl : v = Value.ref a := ry
  obtain ⟨t, rfl⟩ := rx
  have ra0 := ra
  cases ra with
  | @obj _ _ dx fvs _ ea _ _ _ =>
  have hu : X.A.units < cLine := by have := hu_ hr; omega
  obtain ⟨od, J⟩ := ins_at I (gh _ _ ea)
  show wpAny _ _ (richCompare .Eq (.int i t) (.ref a)) _ _ _
  have call : wpAny (model X.prog X.w) X.A (call (.ref f) [.ref a, .int i t]) (fun z s1 => z = .notImplemented ∧ ∃ G1 H1, Grow β G H G1 H1 ∧ Inv X pins σ H1 s1) X.xe s := by
    refine wpAny_call (codeAny_mono (FN X.A X.stack s β G H a fs (.int i) (.int i t) (.int i) (fun _ H1 => ∃ G1, Grow β G H G1 H1) (hr.mono hj) I.env0 ⟨t, rfl⟩ gh bg ra0 (.int i) hd fun G1 H1 g => ⟨G1, g⟩) fun r s' hq => ?_)
    match r, hq with
    | .ok (.ret u), hq =>
      obtain ⟨rfl, hq⟩ := hq
      obtain ⟨z, H1, I1, rz, G1, g⟩ := I.after hq
      exact ⟨rfl, G1, H1, g, I1⟩
  refine rc_ni2 hu I.kIn J sl M.at_ M.fn ?_ (wpAny_mono call (fun z s1 hz => ?_) fun _ _ e => e)
  · exact wpAny_tryCompare_declines (typeIs_int s i t) PySem.F.slot_int_eq_refl (call_meets PySem.F.slot_int_eq_refl (typeIs_int s i t) PySem.F.entry_int_eq (PySem.F.args_int_eq_2 _ _) (int_eq_inst i t a C dx) ⟨J.1, rfl, rfl, rfl⟩)
  · obtain ⟨rfl, G1, H1, g, I1⟩ := hz
    exact ⟨rfl, .bl false, H1, I1, rfl, q G1 H1 g⟩
/-- == of numbers of one own class and ints -/
def eqM (C : PySem.Addr) (sp : SpD) (dom : D → Prop) : D → D → (D → Prop) → Prop
  | .int i, .obj C1 fs, Q => (C1 = C ∧ dom (.int i)) ∧ Q (.bl false)
  | a, b, Q => eqN C sp dom a b Q
theorem opd_eqM {sp : SpD} : OpD (fun x y H Q => ((rEqD X.K x y H Q ∨ ∃ a dx fs b dy gs, x = .ref a ∧ y = .ref b ∧ H a = some (.ins C dx fs) ∧ H b = some (.ins C dy gs) ∧ lf sp [x, y] H Q E0) ∨ rEqNI C dom x y H Q) ∨ rEqIN C dom x y H Q) (eqM C sp dom) := by
  intro β G H x y a b Q R hgh hbg ra rb h k
  have gen : eqN C sp dom a b Q → _ := fun h => Or.inl (b := rEqIN C dom x y H R) (opd_eqN (X := X) (C := C) (sp := sp) β G H x y a b Q R hgh hbg ra rb h k)
  cases a with
  | int i =>
    cases b with
    | obj C1 fs =>
      obtain ⟨⟨rfl, hd⟩, hq⟩ := h
      have rb0 := rb
      cases ra
      cases rb with
      | obj _ _ _ _ => exact .inr ⟨β, G, _, fs, i, hgh, hbg, rfl, rb0, rfl, hd, fun G' H' g => k _ _ G' H' g (.bl _) hq⟩
    | _ => exact gen h
  | _ => exact gen h
theorem deqM {a b : Expr} {qa qb : QE} {pos : Pos} {sp : SpD} {l : Nat} {ps : List Str} (F : DnM X.prog X.w X.K X.mg X.base j C "__eq__" ps sp) (FN : DnNI X.prog X.w X.K X.mg X.base l C "__eq__" dom) (sl : NoList X.K C) (si : NoInt X.K C) (hr : Room k X.A) (ha : PD c X a qa) (hb : PD c X b qb) (hj : j ≤ k := by decide) (hl : l ≤ k := by decide) : PD c X (.Compare a [.Eq] [b] pos) (qOp (eqM C sp dom) qa qb) :=
  PD.cmp ((((op_eqD (by have := hu_ hr; omega)).or (op_eqO F hr hj)).or (op_eqNI FN sl hr hl)).or (op_eqIN FN si hr hl)) (opd_eqM (X := X)) ha hb (nomark _)
theorem teqM {a b : Expr} {qa qb : QE} {pos : Pos} {sp : SpD} {l : Nat} {ps : List Str} (F : DnM X.prog X.w X.K X.mg X.base j C "__eq__" ps sp) (FN : DnNI X.prog X.w X.K X.mg X.base l C "__eq__" dom) (sl : NoList X.K C) (si : NoInt X.K C) (hr : Room k X.A) (ha : PD c X a qa) (hb : PD c X b qb) (hj : j ≤ k := by decide) (hl : l ≤ k := by decide) : PDT c X (.Compare a [.Eq] [b] pos) (qTest (qOp (eqM C sp dom) qa qb)) :=
  PDT.cmp ((((op_eqD (by have := hu_ hr; omega)).or (op_eqO F hr hj)).or (op_eqNI FN sl hr hl)).or (op_eqIN FN si hr hl)) (opd_eqM (X := X)) ha hb (nomark _)
theorem eqM_ii {C : PySem.Addr} {sp : SpD} {dom : D → Prop} {i j : Int} {Q : D → Prop} : eqM C sp dom (.int i) (.int j) Q = eqR (.int i) (.int j) Q := rfl
theorem eqM_io {C C1 : PySem.Addr} {sp : SpD} {dom : D → Prop} {i : Int} {fs : List (Str × D)} {Q : D → Prop} : eqM C sp dom (.int i) (.obj C1 fs) Q = ((C1 = C ∧ dom (.int i)) ∧ Q (.bl false)) := rfl
theorem eqM_oi {C C1 : PySem.Addr} {sp : SpD} {dom : D → Prop} {i : Int} {fs : List (Str × D)} {Q : D → Prop} : eqM C sp dom (.obj C1 fs) (.int i) Q = ((C1 = C ∧ dom (.int i)) ∧ Q (.bl false)) := rfl
theorem eqM_oo {C C1 C2 : PySem.Addr} {sp : SpD} {dom : D → Prop} {fs gs : List (Str × D)} {Q : D → Prop} : eqM C sp dom (.obj C1 fs) (.obj C2 gs) Q = ((C1 = C ∧ C2 = C) ∧ sp none [.obj C1 fs, .obj C2 gs] Q) := rfl
theorem eqM_ll {C : PySem.Addr} {sp : SpD} {dom : D → Prop} {xs ys : List D} {Q : D → Prop} : eqM C sp dom (.lst xs) (.lst ys) Q = eqR (.lst xs) (.lst ys) Q := rfl
end
end DL

namespace DL
open PySem PySem.Spec PyProof.Rows L2
/-! ### zip of a tuple and a list, in any mix -/
/-- the kind of a sequence -/
inductive Kd | li | tu
def Kd.nm : Kd → String
  | .li => "list_iterator"
  | .tu => "tuple_iterator"
def Kd.sq : Kd → Heap → PySem.Addr → Array Value → Prop
  | .li => Heap.IsList
  | .tu => Heap.IsTuple
def ItAt (k : Kd) (h : Heap) (a l : PySem.Addr) (i : Nat) : Prop := ∃ o, h.get? a = some o ∧ o.cls = .type k.nm ∧ o.data = .fields #[.ref l, .int i 0]
/-- an iterator that stands at place i of a sequence -/
structure Dr (k : Kd) (h : Heap) (it l : PySem.Addr) (xs : Array Value) (i : Nat) : Prop where
  at_ : ItAt k h it l i
  sq : k.sq h l xs
  ne : l ≠ it
theorem Kd.ext {k : Kd} {h h' : Heap} {l b : PySem.Addr} {xs : Array Value} (s : k.sq h l xs) (x : Heap.ExtBut b h h') (n : l ≠ b) : k.sq h' l xs := by
  cases k with
  | li => exact Heap.IsList.extBut s x n
  | tu => exact Heap.IsTuple.extBut s x n
theorem Kd.ext1 {k : Kd} {h h' : Heap} {l : PySem.Addr} {xs : Array Value} (s : k.sq h l xs) (x : ∀ o, h.get? l = some o → h'.get? l = some o) : k.sq h' l xs := by
  cases k <;> obtain ⟨o, e, r⟩ := s <;> exact ⟨o, x o e, r⟩
theorem Dr.ext {k : Kd} {h h' : Heap} {it l b : PySem.Addr} {xs : Array Value} {i : Nat} (d : Dr k h it l xs i) (x : Heap.ExtBut b h h') (n1 : it ≠ b) (n2 : l ≠ b) : Dr k h' it l xs i :=
  ⟨let ⟨o, e, r⟩ := d.at_; ⟨o, x _ _ n1 e, r⟩, Kd.ext d.sq x n2, d.ne⟩
section
variable {prog : Program} {w : World} {A : Around} {E : Value → Shared → Prop} {s : Shared}
theorem Dr.item {k : Kd} {it l : PySem.Addr} {xs : Array Value} {i : Nat} {x : Value} {Q : Value → Shared → Prop} (d : Dr k s.heap it l xs i) (hx : xs[i]? = some x)
    (h : ∀ h', Dr k h' it l xs (i + 1) → Heap.SameBut it s.heap h' → Q x { s with heap := h' }) : wpAny (model prog w) A (Builtin.SmallTypes.nextOf (.ref it)) Q E s := by
  cases k with
  | li => exact wpAny_nextOf_list_item (items := xs) d.at_ d.sq hx fun h' a b => h h' ⟨a, Kd.ext (k := .li) d.sq b.extBut d.ne, d.ne⟩ b
  | tu => exact RZ.nextOf_tuple_item (items := xs) d.at_ d.sq hx fun h' a b => h h' ⟨a, Kd.ext (k := .tu) d.sq b.extBut d.ne, d.ne⟩ b
theorem Dr.stop {k : Kd} {it l : PySem.Addr} {xs : Array Value} {i : Nat} {Q : Value → Shared → Prop} (hh : A.handled = none) (d : Dr k s.heap it l xs i) (hx : xs[i]? = none)
    (h : ∀ h' e, Heap.ExtBut it s.heap h' → (∃ o, h'.get? e = some o ∧ o.cls = .type "StopIteration") → E (.ref e) { s with heap := h' }) : wpAny (model prog w) A (Builtin.SmallTypes.nextOf (.ref it)) Q E s := by
  cases k with
  | li => exact wpAny_nextOf_list_end (items := xs) hh d.at_ d.sq hx h
  | tu => exact RZ.nextOf_tuple_end (items := xs) hh d.at_ d.sq hx h
/-- what stands of a zip while it is walked -/
structure Zp (k1 k2 : Kd) (h : Heap) (z TI TO i1 i2 l1 l2 : PySem.Addr) (xs ys : Array Value) (f0 : Value) (a b : Value) (n1 n2 : Nat) : Prop where
  z : IsZip h z TI TO f0
  o : IsPair h TO a b
  d1 : Dr k1 h i1 l1 xs n1
  d2 : Dr k2 h i2 l2 ys n2
variable {k1 k2 : Kd} {z TI TO i1 i2 l1 l2 : PySem.Addr} {xs ys : Array Value} {n : Nat} {x y a b : Value}
/-- a field of the zip object is written -/
theorem Zp.put {f0 v : Value} {n1 n2 : Nat} {Q : Unit → Shared → Prop} (D : ZipApart z TI TO i1 i2 l1 l2) (p : Zp k1 k2 s.heap z TI TO i1 i2 l1 l2 xs ys f0 a b n1 n2)
    (h : ∀ h', Zp k1 k2 h' z TI TO i1 i2 l1 l2 xs ys v a b n1 n2 → Heap.SameBut z s.heap h' → Q () { s with heap := h' }) : wpAny (model prog w) A (setField (.ref z) 0 v) Q E s :=
  wpAny_setField_rec p.z (by simp) fun h' hz hs => h h' ⟨hz, hs.extBut _ _ D.TOz p.o, p.d1.ext hs.extBut D.i1z D.l1z, p.d2.ext hs.extBut D.i2z D.l2z⟩ hs
/-- the pair that the zip keeps is written -/
theorem Zp.fill {f0 v : Value} {k n1 n2 : Nat} {Q : Unit → Shared → Prop} (D : ZipApart z TI TO i1 i2 l1 l2) (p : Zp k1 k2 s.heap z TI TO i1 i2 l1 l2 xs ys f0 a b n1 n2) {a' b' : Value} (he : (#[a, b] : Array Value).setIfInBounds k v = #[a', b'])
    (h : ∀ h', Zp k1 k2 h' z TI TO i1 i2 l1 l2 xs ys f0 a' b' n1 n2 → Heap.SameBut TO s.heap h' → Q () { s with heap := h' }) : wpAny (model prog w) A (updateSeq TO (·.setIfInBounds k v)) Q E s :=
  wpAny_updateSeq_pair p.o fun h' ho hs => h h' ⟨hs.extBut _ _ D.TOz.symm p.z, by rw [he] at ho; exact ho, p.d1.ext hs.extBut D.TOi1.symm D.l1TO, p.d2.ext hs.extBut D.TOi2.symm D.l2TO⟩ hs
theorem Zp.draw1 {f0 : Value} {n1 n2 : Nat} {Q : Value → Shared → Prop} (D : ZipApart z TI TO i1 i2 l1 l2) (p : Zp k1 k2 s.heap z TI TO i1 i2 l1 l2 xs ys f0 a b n1 n2) (hx : xs[n1]? = some x)
    (h : ∀ h', Zp k1 k2 h' z TI TO i1 i2 l1 l2 xs ys f0 a b (n1 + 1) n2 → Heap.SameBut i1 s.heap h' → Q x { s with heap := h' }) : wpAny (model prog w) A (Builtin.SmallTypes.nextOf (.ref i1)) Q E s :=
  p.d1.item hx fun h' d hs => h h' ⟨hs.extBut _ _ D.i1z.symm p.z, hs.extBut _ _ D.TOi1 p.o, d, p.d2.ext hs.extBut D.i12.symm D.l2i1⟩ hs
theorem Zp.draw2 {f0 : Value} {n1 n2 : Nat} {Q : Value → Shared → Prop} (D : ZipApart z TI TO i1 i2 l1 l2) (p : Zp k1 k2 s.heap z TI TO i1 i2 l1 l2 xs ys f0 a b n1 n2) (hy : ys[n2]? = some y)
    (h : ∀ h', Zp k1 k2 h' z TI TO i1 i2 l1 l2 xs ys f0 a b n1 (n2 + 1) → Heap.SameBut i2 s.heap h' → Q y { s with heap := h' }) : wpAny (model prog w) A (Builtin.SmallTypes.nextOf (.ref i2)) Q E s :=
  p.d2.item hy fun h' d hs => h h' ⟨hs.extBut _ _ D.i2z.symm p.z, hs.extBut _ _ D.TOi2 p.o, p.d1.ext hs.extBut D.i12 D.l1i2, d⟩ hs
/-- all that does not belong to the zip stays -/
def Still (z TO i1 i2 : PySem.Addr) (h h' : Heap) : Prop := ∀ c o, c ≠ z → c ≠ TO → c ≠ i1 → c ≠ i2 → h.get? c = some o → h'.get? c = some o
theorem zp_item {Q : Value → Shared → Prop} (D : ZipApart z TI TO i1 i2 l1 l2) (hT : IsPair s.heap TI (.ref i1) (.ref i2)) (p : Zp k1 k2 s.heap z TI TO i1 i2 l1 l2 xs ys .none a b n n) (hx : xs[n]? = some x) (hy : ys[n]? = some y)
    (hQ : ∀ h', Zp k1 k2 h' z TI TO i1 i2 l1 l2 xs ys (rawInt s.heap.objs.size) x y (n + 1) (n + 1) → IsPair h' s.heap.objs.size x y → Still z TO i1 i2 s.heap h' → Q (.ref s.heap.objs.size) { s with heap := h' }) :
    wpAny (model prog w) A (Builtin.«zip.__next__» ⟨[.ref z], []⟩) (fun fin s' => ∃ v, fin = .done (.ret v) ∧ Q v s') E s := by
  show wpAny _ _ (field (.ref z) 2 >>= _) _ _ _
  refine wpAny_bind (wpAny_field p.z rfl (x := .bool false) rfl ?_)
  show wpAny _ _ (field (.ref z) 3 >>= _) _ _ _
  refine wpAny_bind (wpAny_field p.z rfl (x := .ref TI) rfl (wpAny_bind (wpAny_seqItems hT rfl ?_)))
  show wpAny _ _ (Builtin.SmallTypes.ownedTupleIsFree (.ref z) >>= _) _ _ _
  refine wpAny_bind ?_
  unfold Builtin.SmallTypes.ownedTupleIsFree
  refine wpAny_bind (wpAny_field p.z rfl (x := .none) rfl (wpAny_pure ?_))
  simp only [if_true]
  refine wpAny_bind (wpAny_rule (wpAny_bind (wpAny_field p.z rfl (x := .ref TO) rfl (wpAny_bind (p.put D fun g1 p1 t1 => ?_)))))
  simp only [List.zipIdx_cons, List.zipIdx_nil, List.forIn_cons, List.forIn_nil]
  refine wpAny_bind (wpAny_bind (wpAny_bind (wpAny_onRaise ?_)))
  show wpAny _ _ (Builtin.SmallTypes.nextOf (.ref i1) >>= _) _ _ _
  refine wpAny_bind (Zp.draw1 (s := { s with heap := g1 }) D p1 hx fun g2 p2 t2 => wpAny_pure ?_)
  refine wpAny_bind (wpAny_seqItems p2.o rfl (wpAny_bind (Zp.fill (s := { s with heap := g2 }) D p2 rfl fun g3 p3 t3 => wpAny_bind (wpAny_letGo (wpAny_pure ?_)))))
  refine wpAny_bind (wpAny_bind (wpAny_onRaise ?_))
  show wpAny _ _ (Builtin.SmallTypes.nextOf (.ref i2) >>= _) _ _ _
  refine wpAny_bind (Zp.draw2 (s := { s with heap := g3 }) D p3 hy fun g4 p4 t4 => wpAny_pure ?_)
  refine wpAny_bind (wpAny_seqItems p4.o rfl (wpAny_bind (Zp.fill (s := { s with heap := g4 }) D p4 rfl fun g5 p5 t5 => wpAny_bind (wpAny_letGo (wpAny_pure (wpAny_pure ?_))))))
  refine wpAny_bind (wpAny_seqItems p5.o rfl (wpAny_bind (wpAny_newTuple ?_)))
  have sz : g5.objs.size = s.heap.objs.size := by rw [t5.1, t4.1, t3.1, t2.1, t1.1]
  have st : Still z TO i1 i2 s.heap g5 := fun c o c1 c2 c3 c4 e => t5.extBut _ _ c2 (t4.extBut _ _ c4 (t3.extBut _ _ c2 (t2.extBut _ _ c3 (t1.extBut _ _ c1 e))))
  have zl : z < g5.objs.size := Heap.lt_size p5.z
  show wpAny _ _ (Builtin.SmallTypes.ownedTupleHandOut (.ref z) (.ref g5.objs.size) >>= _) _ _ _
  refine wpAny_bind ?_
  unfold Builtin.SmallTypes.ownedTupleHandOut
  have p6 : Zp k1 k2 (g5.push { cls := .type "tuple", data := .seq #[x, y] }) z TI TO i1 i2 l1 l2 xs ys .ellipsis x y (n + 1) (n + 1) := by
    have up : ∀ c o, g5.get? c = some o → (g5.push { cls := .type "tuple", data := .seq #[x, y] }).get? c = some o := fun c o e => Heap.get?_push_of_some _ e
    exact ⟨up _ _ p5.z, up _ _ p5.o, ⟨let ⟨o, e, r⟩ := p5.d1.at_; ⟨o, up _ _ e, r⟩, Kd.ext1 p5.d1.sq fun o e => up _ _ e, p5.d1.ne⟩, ⟨let ⟨o, e, r⟩ := p5.d2.at_; ⟨o, up _ _ e, r⟩, Kd.ext1 p5.d2.sq fun o e => up _ _ e, p5.d2.ne⟩⟩
  refine wpAny_bind (Zp.put (s := { s with heap := g5.push { cls := .type "tuple", data := .seq #[x, y] } }) (v := rawInt g5.objs.size) D p6 fun g7 p7 t7 => ?_)
  refine wpAny_setField_rec (s := { s with heap := g7 }) (k := 1) (x := .bool false) p7.z (by simp) fun g8 z8 t8 => ?_
  have p8 : Zp k1 k2 g8 z TI TO i1 i2 l1 l2 xs ys (rawInt g5.objs.size) x y (n + 1) (n + 1) := ⟨z8, t8.extBut _ _ D.TOz p7.o, p7.d1.ext t8.extBut D.i1z D.l1z, p7.d2.ext t8.extBut D.i2z D.l2z⟩
  have pT : IsPair g8 g5.objs.size x y := t8.extBut _ _ (Nat.ne_of_gt zl) (t7.extBut _ _ (Nat.ne_of_gt zl) (Heap.get?_push_size _ rfl))
  have st8 : Still z TO i1 i2 s.heap g8 := fun c o c1 c2 c3 c4 e => t8.extBut _ _ c1 (t7.extBut _ _ c1 (Heap.get?_push_of_some _ (st c o c1 c2 c3 c4 e)))
  refine wpAny_pure ⟨_, rfl, ?_⟩
  show Q (.ref g5.objs.size) _
  rw [sz] at p8 pT ⊢
  exact hQ g8 p8 pT st8
theorem zp_stop {Q : PySem.Fin → Shared → Prop} (hh : A.handled = none) (D : ZipApart z TI TO i1 i2 l1 l2) (hT : IsPair s.heap TI (.ref i1) (.ref i2)) (p : Zp k1 k2 s.heap z TI TO i1 i2 l1 l2 xs ys .none a b n n) (he : xs[n]? = none ∨ ys[n]? = none)
    (hE : ∀ h' e, Still z TO i1 i2 s.heap h' → (∃ o, h'.get? e = some o ∧ o.cls = .type "StopIteration") → E (.ref e) { s with heap := h' }) :
    wpAny (model prog w) A (Builtin.«zip.__next__» ⟨[.ref z], []⟩) Q E s := by
  show wpAny _ _ (field (.ref z) 2 >>= _) _ _ _
  refine wpAny_bind (wpAny_field p.z rfl (x := .bool false) rfl ?_)
  show wpAny _ _ (field (.ref z) 3 >>= _) _ _ _
  refine wpAny_bind (wpAny_field p.z rfl (x := .ref TI) rfl (wpAny_bind (wpAny_seqItems hT rfl ?_)))
  show wpAny _ _ (Builtin.SmallTypes.ownedTupleIsFree (.ref z) >>= _) _ _ _
  refine wpAny_bind ?_
  unfold Builtin.SmallTypes.ownedTupleIsFree
  refine wpAny_bind (wpAny_field p.z rfl (x := .none) rfl (wpAny_pure ?_))
  simp only [if_true]
  refine wpAny_bind (wpAny_rule (wpAny_bind (wpAny_field p.z rfl (x := .ref TO) rfl (wpAny_bind (p.put D fun g1 p1 t1 => ?_)))))
  simp only [List.zipIdx_cons, List.zipIdx_nil, List.forIn_cons, List.forIn_nil]
  refine wpAny_bind (wpAny_bind (wpAny_bind (wpAny_onRaise ?_)))
  show wpAny _ _ (Builtin.SmallTypes.nextOf (.ref i1) >>= _) _ _ _
  cases hx : xs[n]? with
  | none =>
    refine wpAny_bind (Dr.stop (s := { s with heap := g1 }) hh p1.d1 hx fun g2 e t2 ⟨oe, ho, hc⟩ => ?_)
    have z2 : IsZip g2 z TI TO .ellipsis := t2 _ _ D.i1z.symm p1.z
    have ez : e ≠ z := fun q => by subst q; rw [z2] at ho; cases ho; simp at hc
    exact wpAny_setField_rec (s := { s with heap := g2 }) z2 (by simp) fun g3 _ t3 => hE g3 e (fun c o c1 _ c3 _ q => t3.extBut _ _ c1 (t2 _ _ c3 (t1.extBut _ _ c1 q))) ⟨oe, t3.extBut _ _ ez ho, hc⟩
  | some x =>
    have hy : ys[n]? = none := he.resolve_left (by rw [hx]; simp)
    refine wpAny_bind (Zp.draw1 (s := { s with heap := g1 }) D p1 hx fun g2 p2 t2 => wpAny_pure ?_)
    refine wpAny_bind (wpAny_seqItems p2.o rfl (wpAny_bind (Zp.fill (s := { s with heap := g2 }) D p2 rfl fun g3 p3 t3 => wpAny_bind (wpAny_letGo (wpAny_pure ?_)))))
    refine wpAny_bind (wpAny_bind (wpAny_onRaise ?_))
    show wpAny _ _ (Builtin.SmallTypes.nextOf (.ref i2) >>= _) _ _ _
    refine wpAny_bind (Dr.stop (s := { s with heap := g3 }) hh p3.d2 hy fun g4 e t4 ⟨oe, ho, hc⟩ => ?_)
    have z4 : IsZip g4 z TI TO .ellipsis := t4 _ _ D.i2z.symm p3.z
    have ez : e ≠ z := fun q => by subst q; rw [z4] at ho; cases ho; simp at hc
    exact wpAny_setField_rec (s := { s with heap := g4 }) z4 (by simp) fun g5 _ t5 => hE g5 e (fun c o c1 c2 c3 c4 q => t5.extBut _ _ c1 (t4 _ _ c4 (t3.extBut _ _ c2 (t2.extBut _ _ c3 (t1.extBut _ _ c1 q))))) ⟨oe, t5.extBut _ _ ez ho, hc⟩
theorem zp_next {Q : Option Value → Shared → Prop} (D : ZipApart z TI TO i1 i2 l1 l2) (hT : IsPair s.heap TI (.ref i1) (.ref i2)) (p : Zp k1 k2 s.heap z TI TO i1 i2 l1 l2 xs ys .none a b n n) (hx : xs[n]? = some x) (hy : ys[n]? = some y)
    (hQ : ∀ h', Zp k1 k2 h' z TI TO i1 i2 l1 l2 xs ys (rawInt s.heap.objs.size) x y (n + 1) (n + 1) → IsPair h' s.heap.objs.size x y → Still z TO i1 i2 s.heap h' → Q (some (.ref s.heap.objs.size)) { s with heap := h' }) :
    wpAny (model prog w) A (pyNext (.ref z)) Q E s := by
  have ty : s.TypeIs (.ref z) "zip" := ⟨_, p.z, rfl⟩
  unfold pyNext
  exact wpAny_bind (wpAny_attempt (wpAny_callSpecial?_slot (name := Str.ofString "__next__") ty F.slot_zip_next (wpAny_call_entry F.slot_zip_next ty F.entry_zip_next (zp_item D hT p hx hy fun h' a1 a2 a3 => wpAny_pure (hQ h' a1 a2 a3)) (F.args_zip_next_1 _))))
theorem zp_end {Q : Option Value → Shared → Prop} (hh : A.handled = none) (D : ZipApart z TI TO i1 i2 l1 l2) (hT : IsPair s.heap TI (.ref i1) (.ref i2)) (p : Zp k1 k2 s.heap z TI TO i1 i2 l1 l2 xs ys .none a b n n) (he : xs[n]? = none ∨ ys[n]? = none)
    (hQ : ∀ h', Still z TO i1 i2 s.heap h' → Q none { s with heap := h' }) : wpAny (model prog w) A (pyNext (.ref z)) Q E s := by
  have ty : s.TypeIs (.ref z) "zip" := ⟨_, p.z, rfl⟩
  unfold pyNext
  refine wpAny_bind (wpAny_attempt (wpAny_callSpecial?_slot (name := Str.ofString "__next__") ty F.slot_zip_next (wpAny_call_entry F.slot_zip_next ty F.entry_zip_next (zp_stop hh D hT p he fun h' e st ⟨o, ho, hc⟩ => ?_) (F.args_zip_next_1 _))))
  exact wpAny_bind (wpAny_isInstance (T := "StopIteration") (b := true) ⟨o, ho, hc⟩ isSubtype_stop (wpAny_pure (hQ _ st)))
end
def SqK (K : PySem.W.Frag) (k : Kd) (H : Hp) (a : PySem.Addr) (xs : List V) : Prop := match k with
  | .li => SqL K H a xs
  | .tu => SqT K H a xs
section
variable {X : Cx} {pins : List (PySem.Addr × Obj)} {σ : L2.St} {H : Hp} {s : Shared} {k : Kd} {a : PySem.Addr} {xs ys : List V}
theorem inv_sq (I : Inv X pins σ H s) (h : SqK X.K k H a xs) : ∃ its : List Value, Vals xs its ∧ k.sq s.heap a its.toArray := by
  cases k with
  | li =>
    obtain ⟨its, r, p, _⟩ := I.list h
    exact ⟨its, r, p.isList⟩
  | tu =>
    obtain ⟨its, r, p, _⟩ := I.tuple h
    exact ⟨its, r, p⟩
theorem inv_inj (I : Inv X pins σ H s) (h : SqK X.K k H a xs) (h' : SqK X.K k H a ys) : xs = ys := by
  cases k with
  | li => exact I.list_inj h h'
  | tu => exact I.tuple_inj h h'
theorem Kd.lt {k : Kd} {h : Heap} {a : PySem.Addr} {its : Array Value} (p : k.sq h a its) : a < h.objs.size := by
  cases k <;> obtain ⟨o, e, _⟩ := p <;> exact Heap.lt_size e
end
/-- the two sequences as they stand at each turn, the items in new pairs -/
def ItzM (K : PySem.W.Frag) (k1 k2 : Kd) (a b : PySem.Addr) : It where
  go i H := ∃ (xs ys : List V) (x y : V), SqK K k1 H a xs ∧ SqK K k2 H b ys ∧ xs[i]? = some x ∧ ys[i]? = some y
  yld i H v H' := ∃ T x y, v = .ref T ∧ H T = none ∧ H' = upd H T (.tup [x, y]) ∧ (∀ xs, SqK K k1 H a xs → xs[i]? = some x) ∧ ∀ ys, SqK K k2 H b ys → ys[i]? = some y
  stop i H := ∃ xs ys : List V, SqK K k1 H a xs ∧ SqK K k2 H b ys ∧ (xs.length ≤ i ∨ ys.length ≤ i)
def ZpT (k1 k2 : Kd) (z TI TO i1 i2 a b : PySem.Addr) (i : Nat) (h : Heap) : Prop := IsZip h z TI TO .none ∧ IsPair h TI (.ref i1) (.ref i2) ∧ (∃ x y, IsPair h TO x y) ∧ ItAt k1 h i1 a i ∧ ItAt k2 h i2 b i
theorem five {z TI TO i1 i2 c : PySem.Addr} (h : c ∈ [z, TI, TO, i1, i2]) : c = z ∨ c = TI ∨ c = TO ∨ c = i1 ∨ c = i2 := by simpa using h
theorem ZpT.has {k1 k2 : Kd} {z TI TO i1 i2 a b c : PySem.Addr} {i : Nat} {h : Heap} (t : ZpT k1 k2 z TI TO i1 i2 a b i h) (hc : c ∈ [z, TI, TO, i1, i2]) : ∃ o, h.get? c = some o ∧ ∀ v, o.data ≠ Data.cell v := by
  obtain ⟨hz, hI, ⟨x, y, hO⟩, ⟨o1, e1, _, d1⟩, ⟨o2, e2, _, d2⟩⟩ := t
  rcases five hc with rfl | rfl | rfl | rfl | rfl
  · exact ⟨_, hz, fun v q => nomatch q⟩
  · exact ⟨_, hI, fun v q => nomatch q⟩
  · exact ⟨_, hO, fun v q => nomatch q⟩
  · exact ⟨o1, e1, fun v q => by rw [d1] at q; cases q⟩
  · exact ⟨o2, e2, fun v q => by rw [d2] at q; cases q⟩
theorem still_out {z TI TO i1 i2 : PySem.Addr} {h h' : Heap} (st : Still z TO i1 i2 h h') {c : PySem.Addr} {o : Obj} (hc : c ∉ [z, TI, TO, i1, i2]) (e : h.get? c = some o) : h'.get? c = some o := by
  simp only [List.mem_cons, List.not_mem_nil, or_false, not_or] at hc
  exact st c o hc.1 hc.2.2.1 hc.2.2.2.1 hc.2.2.2.2 e
theorem turn_zipM {P : Program} {w : World} {K : PySem.W.Frag} {elts : List Expr} {kk : Nat} {tpos : Pos} {k1 k2 : Kd} {a b z TI TO i1 i2 : PySem.Addr} (D : ZipApart z TI TO i1 i2 a b) :
    Turn P w K (.Tuple elts kk tpos) (ItzM K k1 k2 a b) [z, TI, TO, i1, i2] z (ZpT k1 k2 z TI TO i1 i2 a b) where
  mem := by simp
  obj := fun i h t c hc => t.has hc
  keep := fun i h h' t q => by
    obtain ⟨hz, hI, ⟨x, y, hO⟩, ⟨o1, e1, r1⟩, ⟨o2, e2, r2⟩⟩ := t
    exact ⟨q z (by simp) _ hz, q TI (by simp) _ hI, ⟨x, y, q TO (by simp) _ hO⟩, ⟨o1, q i1 (by simp) _ e1, r1⟩, ⟨o2, q i2 (by simp) _ e2, r2⟩⟩
  item := by
    intro X hP hw hK hc i pins s σ H E I hf t hg
    subst hP hw hK
    obtain ⟨xs, ys, x, y, qx, qy, hx, hy⟩ := hg
    obtain ⟨us, ru, pu⟩ := inv_sq I qx
    obtain ⟨ws, rw', pw⟩ := inv_sq I qy
    obtain ⟨u, hu, eu⟩ := ru.get hx
    obtain ⟨v, hv, ev⟩ := rw'.get hy
    have old : ∀ c, c ∈ [z, TI, TO, i1, i2] → c < s.heap.objs.size := fun c hm => by obtain ⟨o, e, _⟩ := t.has hm; exact Heap.lt_size e
    obtain ⟨hz, hI, ⟨x0, y0, hO⟩, t1, t2⟩ := t
    refine zp_next (x := u) (y := v) D hI ⟨hz, hO, ⟨t1, pu, D.l1i1⟩, ⟨t2, pw, D.l2i2⟩⟩ (by simpa using hu) (by simpa using hv) fun h' p' pT st => ?_
    refine ⟨_, rfl, wpAny_letOwnedTupleGo_zip (s := { s with heap := h' }) p'.z fun h'' z'' sb => ?_⟩
    have far : s.heap.objs.size ≠ z := Nat.ne_of_gt (old z (by simp))
    have new : ObjOk X.prog X.w (upd H s.heap.objs.size (.tup [x, y])) h'' s.heap.objs.size (.tup [x, y]) := ⟨by show 2 ≤ sizeLine; decide, [u, v], .cons eu (.cons ev .nil), ⟨_, (sb.2 _ far).trans pT, rfl, _, rfl⟩⟩
    have I1 : Inv X pins σ (upd H s.heap.objs.size (.tup [x, y])) { s with heap := h'' } :=
      I.turnedNew (t' := s.toks) (ch := [z, TI, TO, i1, i2]) (fun c o hm e => (sb.2 c (fun q => hm (by simp [q]))).trans (still_out st hm e)) hf (Nat.le_refl _) new
    refine ⟨.ref s.heap.objs.size, _, I1, rfl, ⟨_, x, y, rfl, I.hok.fresh (Nat.le_refl _), rfl, fun l hl => by rw [inv_inj I hl qx]; exact hx, fun l hl => by rw [inv_inj I hl qy]; exact hy⟩, ⟨z'', (sb.2 _ D.TIz).trans (st _ _ D.TIz D.TITO D.TIi1 D.TIi2 hI), ⟨u, v, (sb.2 _ D.TOz).trans p'.o⟩, ?_, ?_⟩, fun c hm => ?_⟩
    · obtain ⟨o, e, r⟩ := p'.d1.at_
      exact ⟨o, (sb.2 _ D.i1z).trans e, r⟩
    · obtain ⟨o, e, r⟩ := p'.d2.at_
      exact ⟨o, (sb.2 _ D.i2z).trans e, r⟩
    · rw [upd_ne (Nat.ne_of_lt (old c hm))]
      exact (hf c hm).1
  done := by
    intro X hP hw hK hc i pins s σ H E I hf t hg
    subst hP hw hK
    obtain ⟨hz, hI, ⟨x0, y0, hO⟩, t1, t2⟩ := t
    obtain ⟨xs, ys, qx, qy, he⟩ := hg
    obtain ⟨us, ru, pu⟩ := inv_sq I qx
    obtain ⟨ws, rw', pw⟩ := inv_sq I qy
    have l1 := ru.length
    have l2 := rw'.length
    have he' : us.toArray[i]? = none ∨ ws.toArray[i]? = none := he.imp (fun q => by simp; omega) (fun q => by simp; omega)
    exact zp_end (I.ok.hd hc) D hI ⟨hz, hO, ⟨t1, pu, D.l1i1⟩, ⟨t2, pw, D.l2i2⟩⟩ he' fun h' st => ⟨rfl, I.turnedL (t' := s.toks) (ch := [z, TI, TO, i1, i2]) (fun c o hm e => still_out st hm e) hf⟩
  self := fun A i s Q E t h => wpAny_pyIter_zip t.1 h
/-! the making of a zip -/
def itO (k : Kd) (l : PySem.Addr) : Obj := { cls := .type k.nm, data := .fields #[.ref l, .int 0 0] }
def prO (a b : Value) : Obj := { cls := .type "tuple", data := .seq #[a, b] }
def zpO (TI TO : PySem.Addr) : Obj := { cls := .type "zip", data := .fields #[.none, .bool false, .bool false, .ref TI, .ref TO] }
/-- the heap when zip(a, b) is made in a heap of n objects -/
def zpH (k1 k2 : Kd) (h : Heap) (l1 l2 : PySem.Addr) : Heap :=
  ((((h.push (itO k1 l1)).push (itO k2 l2)).push (prO (.ref h.objs.size) (.ref (h.objs.size + 1)))).push (prO .none .none)).push (zpO (h.objs.size + 2) (h.objs.size + 3))
theorem meets_zpM (k1 k2 : Kd) (l1 l2 : PySem.Addr) (xs ys : Array Value) :
    Meets (Builtin.«zip.__new__» ⟨[.type "zip", .ref l1, .ref l2], []⟩) (fun _ R s => k1.sq s.heap l1 xs ∧ k2.sq s.heap l2 ys ∧ R (.ok (.ret (.ref (s.heap.objs.size + 4)))) { s with heap := zpH k1 k2 s.heap l1 l2 }) :=
  .of_wp fun prog w A R s h => by
    obtain ⟨hp, g, d, tk, os⟩ := s
    obtain ⟨a1, a2, h⟩ := h
    have hsub := sub_zip
    unfold zpH itO prO zpO at h
    cases k1 <;> cases k2
    · have L1 : Heap.IsList (Shared.heap ⟨hp, g, d, tk, os⟩) l1 xs := a1
      have L2 : Heap.IsList (Shared.heap ⟨hp.push { cls := .type "list_iterator", data := .fields #[.ref l1, .int 0 0] }, g, d, tk, os⟩) l2 ys := Heap.IsList.push a2 _
      wp_walk using wpAny_pyIter_list L1, wpAny_pyIter_list L2
      refine ⟨_, rfl, ?_⟩
      simp only [Heap.size_push]
      exact h
    · have L1 : Heap.IsList (Shared.heap ⟨hp, g, d, tk, os⟩) l1 xs := a1
      have L2 : Heap.IsTuple (Shared.heap ⟨hp.push { cls := .type "list_iterator", data := .fields #[.ref l1, .int 0 0] }, g, d, tk, os⟩) l2 ys := Heap.IsTuple.push a2 _
      wp_walk using wpAny_pyIter_list L1, wpAny_pyIter_tuple L2
      refine ⟨_, rfl, ?_⟩
      simp only [Heap.size_push]
      exact h
    · have L1 : Heap.IsTuple (Shared.heap ⟨hp, g, d, tk, os⟩) l1 xs := a1
      have L2 : Heap.IsList (Shared.heap ⟨hp.push { cls := .type "tuple_iterator", data := .fields #[.ref l1, .int 0 0] }, g, d, tk, os⟩) l2 ys := Heap.IsList.push a2 _
      wp_walk using wpAny_pyIter_tuple L1, wpAny_pyIter_list L2
      refine ⟨_, rfl, ?_⟩
      simp only [Heap.size_push]
      exact h
    · have L1 : Heap.IsTuple (Shared.heap ⟨hp, g, d, tk, os⟩) l1 xs := a1
      have L2 : Heap.IsTuple (Shared.heap ⟨hp.push { cls := .type "tuple_iterator", data := .fields #[.ref l1, .int 0 0] }, g, d, tk, os⟩) l2 ys := Heap.IsTuple.push a2 _
      wp_walk using wpAny_pyIter_tuple L1, wpAny_pyIter_tuple L2
      refine ⟨_, rfl, ?_⟩
      simp only [Heap.size_push]
      exact h
theorem zpH_at {k1 k2 : Kd} {h : Heap} {l1 l2 : PySem.Addr} : (∀ c o, h.get? c = some o → (zpH k1 k2 h l1 l2).get? c = some o) ∧ ZpT k1 k2 (h.objs.size + 4) (h.objs.size + 2) (h.objs.size + 3) h.objs.size (h.objs.size + 1) l1 l2 0 (zpH k1 k2 h l1 l2) := by
  have up : ∀ {h : Heap} {x : Obj} {c : PySem.Addr} {o : Obj}, h.get? c = some o → (h.push x).get? c = some o := fun e => Heap.get?_push_of_some _ e
  have nw : ∀ {h : Heap} {x : Obj} {n : Nat}, x.isFreed = false → h.objs.size = n → (h.push x).get? n = some x := fun f e => e ▸ Heap.get?_push_size _ f
  have z1 : ∀ {h : Heap} {x : Obj} {n : Nat}, h.objs.size = n → (h.push x).objs.size = n + 1 := fun e => by rw [Heap.size_push, e]
  refine ⟨fun c o e => up (up (up (up (up e)))), nw rfl (z1 (z1 (z1 (z1 rfl)))), up (up (nw rfl (z1 (z1 rfl)))), ⟨_, _, up (nw rfl (z1 (z1 (z1 rfl))))⟩, ⟨_, up (up (up (up (nw rfl rfl)))), rfl, rfl⟩, ⟨_, up (up (up (nw rfl (z1 rfl)))), rfl, rfl⟩⟩
theorem call_zpM {prog : Program} {w : World} {A : Around} {E : Value → Shared → Prop} {s : Shared} {k1 k2 : Kd} {l1 l2 : PySem.Addr} {xs ys : Array Value} {Q : Value → Shared → Prop} (a1 : k1.sq s.heap l1 xs) (a2 : k2.sq s.heap l2 ys)
    (h : Q (.ref (s.heap.objs.size + 4)) { s with heap := zpH k1 k2 s.heap l1 l2 }) : wpAny (model prog w) A (call (.type "zip") [.ref l1, .ref l2]) Q E s := by
  refine callType_new F.called_zip (by decide) (F.typeCall_zip_2 _ _) (F.newCall_zip_2 _ _) (fun obj => F.args_object_init_3 obj _ _) F.entry_zip_new (meets_zpM k1 k2 l1 l2 xs ys) ⟨a1, a2, ?_⟩
  exact ⟨⟨_, zpH_at.2.1, rfl⟩, h⟩
end DL

namespace DL
open PySem PySem.Spec PyProof.Rows L2
def iZipM (K : PySem.W.Frag) (ta : TA) : TI := fun σ H R => ta σ H fun vs H1 => ∃ k1 k2 a b xs ys, vs = [.ref a, .ref b] ∧ SqK K k1 H1 a xs ∧ SqK K k2 H1 b ys ∧ R (ItzM K k1 k2 a b) H1
theorem pi_zipM {X : Cx} {e e2 : Expr} {ta : TA} {p pos tpos : Pos} {elts : List Expr} {kk : Nat} (hg : Gl X "zip") (hm : X.mg "zip" = none) (ha : PA X [e, e2] ta)
    (hs : starEach [e, e2] X.env = (false, eval e X.env) :: starEach [e2] X.env := by rfl) (hpl : (backTo pos (starEach [e2] X.env)).any (·.1) = false := by rfl) :
    PI X (.Tuple elts kk tpos) (.Call (.Name "zip" p) [e, e2] [] pos) (iZipM X.K ta) := by
  refine ⟨fun pins s σ H R I h => Call_ (ld_blt I hg hm PyProof.Rows.boot_zip (PyProof.Rows.callWith_type1 (thn (ha.run pos pins s σ H _ I h) fun us s1 ⟨vs, H1, I1, r1, q1⟩ => ?_) hs hpl))⟩
  obtain ⟨k1, k2, a, b, xs, ys, rfl, qx, qy, q⟩ := q1
  obtain rfl : us = [.ref a, .ref b] := by
    cases r1 with
    | cons r rr =>
      cases rr with
      | cons r' rr =>
        cases rr
        cases r
        cases r'
        rfl
  obtain ⟨u1, _, p1⟩ := inv_sq I1 qx
  obtain ⟨u2, _, p2⟩ := inv_sq I1 qy
  obtain ⟨hk, ht⟩ := zpH_at (k1 := k1) (k2 := k2) (h := s1.heap) (l1 := a) (l2 := b)
  refine call_zpM (xs := u1.toArray) (ys := u2.toArray) p1 p2 (wpAny_pyIter_zip ht.1 ?_)
  have I2 : Inv X pins σ H1 { s1 with heap := zpH k1 k2 s1.heap a b } := I1.kept (t' := s1.toks) hk
  refine ⟨s1.heap.objs.size + 4, _, _, _, H1, rfl, I2, turn_zipM (PySem.W.ktu_apart s1.heap.objs.size a b (Kd.lt p1) (Kd.lt p2)), ht, fun c hc => ?_, q⟩
  have hle : s1.heap.objs.size ≤ c := by rcases five hc with q | q | q | q | q <;> rw [q] <;> first | exact Nat.le_refl _ | exact Nat.le_add_right _ _
  exact I1.fpOk hle (I1.hok.fresh hle)
/-- zip of two lists, two tuples, or one of each -/
def zipMR : List D → (List D → Prop) → Prop
  | [.lst xs, .lst ys], Q => Q ((xs.zip ys).map pairD)
  | [.tup xs, .tup ys], Q => Q ((xs.zip ys).map pairD)
  | [.tup xs, .lst ys], Q => Q ((xs.zip ys).map pairD)
  | [.lst xs, .tup ys], Q => Q ((xs.zip ys).map pairD)
  | _, _ => False
def iZpM (q : QA) : QI := fun ρ Q => q ρ fun ds => zipMR ds Q
theorem zipM_ll {xs ys : List D} {R : List D → Prop} : zipMR [.lst xs, .lst ys] R = R ((xs.zip ys).map pairD) := rfl
theorem zipM_tt {xs ys : List D} {R : List D → Prop} : zipMR [.tup xs, .tup ys] R = R ((xs.zip ys).map pairD) := rfl
theorem zipM_tl {xs ys : List D} {R : List D → Prop} : zipMR [.tup xs, .lst ys] R = R ((xs.zip ys).map pairD) := rfl
theorem zipM_lt {xs ys : List D} {R : List D → Prop} : zipMR [.lst xs, .tup ys] R = R ((xs.zip ys).map pairD) := rfl
/-- a datum that is a sequence of a kind -/
def seqD : Kd → List D → D
  | .li, xs => .lst xs
  | .tu, xs => .tup xs
theorem zipMR_inv {ds : List D} {Q : List D → Prop} (h : zipMR ds Q) : ∃ k1 k2 xs ys, ds = [seqD k1 xs, seqD k2 ys] ∧ Q ((xs.zip ys).map pairD) := by
  unfold zipMR at h
  split at h
  · exact ⟨.li, .li, _, _, rfl, h⟩
  · exact ⟨.tu, .tu, _, _, rfl, h⟩
  · exact ⟨.tu, .li, _, _, rfl, h⟩
  · exact ⟨.li, .tu, _, _, rfl, h⟩
  · exact h.elim
theorem rep_sq {G : Hp} {v : V} {k : Kd} {xs : List D} (r : Rep G v (seqD k xs)) : ∃ a vs, v = .ref a ∧ RepL G vs xs ∧ ∀ (K : PySem.W.Frag) (G1 H : Hp), Ex G G1 → Ex G1 H → SqK K k H a vs := by
  cases k with
  | li =>
    have r : Rep G v (.lst xs) := r
    cases r with
    | lst e n q => exact ⟨_, _, rfl, ⟨n, q⟩, fun K G1 H g h => .inl (.inl (h _ _ (g _ _ e)))⟩
  | tu =>
    have r : Rep G v (.tup xs) := r
    cases r with
    | tup e n q => exact ⟨_, _, rfl, ⟨n, q⟩, fun K G1 H g h => (e.ex g).sq h⟩
section
variable {c : Ctx} {X : Cx} {a b : Expr} {qr : QA}
theorem izpM {elts : List Expr} {kk : Nat} {p pos tpos : Pos} (hm : X.mg "zip" = none) (ha : PDA c X [a, b] qr) (hg : Gl X "zip" := by rfl) (hs : starEach [a, b] X.env = (false, eval a X.env) :: starEach [b] X.env := by rfl) (hpl : (backTo pos (starEach [b] X.env)).any (·.1) = false := by rfl) :
    PDI c X (.Tuple elts kk tpos) (.Call (.Name "zip" p) [a, b] [] pos) (iZpM qr) := by
  obtain ⟨t, pp, sd⟩ := ha.ex
  refine ⟨_, pi_zipM hg hm pp hs hpl, fun ρ σ G H Q R s hq k => sd ρ σ G H _ _ s hq fun vs ds G' H' g r h => ?_⟩
  obtain ⟨k1, k2, xs, ys, rfl, hQ⟩ := zipMR_inv h
  obtain ⟨v, w, rfl, rv, rw'⟩ := r.two
  obtain ⟨a1, us, rfl, ru, f1⟩ := rep_sq rv
  obtain ⟨a2, ws, rfl, rw2, f2⟩ := rep_sq rw'
  refine ⟨k1, k2, a1, a2, us, ws, rfl, f1 _ G' H' (fun _ _ e => e) g.gh, f2 _ G' H' (fun _ _ e => e) g.gh, k _ _ G' H' g ?_ hQ⟩
  intro G1 H1 x1 gh b _
  have e1 := f1 X.K G1 H1 x1 gh
  have e2 := f2 X.K G1 H1 x1 gh
  refine ⟨fun i it hi => ?_, us, ws, e1, e2, ?_⟩
  · obtain ⟨x, y, hx, hy, rfl⟩ := zip_get hi
    obtain ⟨v1, hv1, r1⟩ := ru.get hx
    obtain ⟨v2, hv2, r2⟩ := rw2.get hy
    refine ⟨⟨us, ws, v1, v2, e1, e2, hv1, hv2⟩, fun z H2 yl => ?_⟩
    obtain ⟨T, y1, y2, rfl, hT, rfl, g1, g2⟩ := yl
    have z1 := g1 _ e1
    have z2 := g2 _ e2
    rw [hv1] at z1
    rw [hv2] at z2
    cases z1
    cases z2
    have gn := Grow.new (o := .tup [v1, v2]) gh b hT
    exact ⟨_, gn, .tup upd_same rfl (RepL.mono gn.gg (.cons (r1.mono x1) (.cons (r2.mono x1) .nil))).2⟩
  · rw [List.length_map, List.length_zip, ru.1, rw2.1]
    omega
end
theorem revR_l {xs : List D} {Q : D → Prop} : revR (.lst xs) Q = Q (.lst xs.reverse) := rfl
theorem isB_b {x y : Bool} {Q : D → Prop} : isBR (.bl x) (.bl y) Q = Q (.bl (decide (x = y))) := rfl
/-- a constructor without defaults, for calls of any form -/
theorem HdI.okK {P : Program} {w : World} {K : PySem.W.Frag} {mg : Str → Option Value} {base : Heap} {x : Str} {C : PySem.Addr} {qual : Str} {st : Stmt} {N ps : List Str} {k : Nat} {sp : SpI} (F : HdI K C qual st []) (cf : ClF K C) (mc : mg x = some (.ref C)) (S : FnScope N ps (defScope st)) (hl : ∀ β ds Q, sp β ds Q → ds.length + 1 = ps.length)
    (hb0 : ∀ (kV doc pm : Value) (an : Option PySem.Addr) (cdv ct : Value) (us : List Value), us.length = ps.length → bindArgs (PySem.W.fnOf "__init__" qual (defArgs st) (defBody st) (defScope st) .none kV doc pm an cdv ct) ⟨us, []⟩ = pure (ps.zip us))
    (body : ∀ (f : PySem.Addr) (cdv : Value) (A : Around) (outer : List Env) (s : Shared) (H : Hp) (E : XK) (c : Ctx), Room k (A.deeper (PyProof.Rows.envOfC qual (defScope st) s.heap.objs.size f cdv)) →
      ∃ q, PDB c (cxOf CX0 P w K mg base N qual (defScope st) f cdv A outer s H E).nox (defBody st) q ∧ ∀ x dx ds Q, sp c.β ds Q → q (.own x (.ins C dx []) :: (ds.map Slot.d ++ List.replicate (N.length - (ds.length + 1)) .un)) { nx := fun ρ => ∃ fs, ρ[0]? = some (.own x (.ins C dx fs)) ∧ Q fs, rt := fun d ρ => d = .non ∧ ∃ fs, ρ[0]? = some (.own x (.ins C dx fs)) ∧ Q fs }) : DnK P w K mg base (k + 1) x C ps sp := by
  obtain ⟨f, oc, od, dV, kV, dc, pm, an, cd, ct, sl, a, i, kp, l, c, df, mk⟩ := F
  have FD : FunD K "__init__" qual (defArgs st) (defBody st) (defScope st) ([].map V.int) [] f (PySem.W.fnOf "__init__" qual (defArgs st) (defBody st) (defScope st) dV kV dc pm an cd ct) := ⟨⟨oc, od, dV, kV, dc, pm, an, cd, ct, sl, rfl, l, c, df, .inl rfl⟩, kp⟩
  obtain ⟨us, vu, hb⟩ := HdI.bindsD (C := C) (ns := []) FD (by simp) (fun _ => hb0) (fun h => absurd rfl h) 0 (Nat.le_refl _)
  cases vu
  exact ⟨f, _, fn_init FD S hl (body f), ⟨mk, a, i, cf.kp⟩, cf, mc, ⟨_, _, _, l⟩, hb⟩
theorem pick_0 {α : Type} (a : α) : pick [0] [a] = [a] := rfl
theorem pick_3210 {α : Type} (a b c d : α) : pick [3, 2, 1, 0] [a, b, c, d] = [d, c, b, a] := rfl
end DL

/-! ### == and != of nested data in which own objects stand, where all is equal -/
namespace DL
open PySem L2 PySem.Spec PyProof.Rows
def Prd (P : D → D → Prop) (xs ys : List D) : Prop := xs.length = ys.length ∧ ∀ (i : Nat) x y, xs[i]? = some x → ys[i]? = some y → P x y
/-- equal to the depth n: flat data, objects by their own __eq__, tuples and lists item by item -/
def Lk (C : PySem.Addr) (sp : SpD) : Nat → D → D → Prop
  | 0, a, b => (a.flat = true ∧ b.flat = true ∧ eqD a b = true) ∨ (intObj C a ∧ intObj C b ∧ sp none [a, b] fun z => z = .bl true)
  | n + 1, a, b => Lk C sp n a b ∨ (∃ xs ys, a = .tup xs ∧ b = .tup ys ∧ Prd (Lk C sp n) xs ys) ∨ ∃ xs ys, a = .lst xs ∧ b = .lst ys ∧ Prd (Lk C sp n) xs ys
section
variable {X : Cx} {C : PySem.Addr} {sp : SpD} {ps : List Str} {j k n : Nat} {P P' : D → D → Prop}
/-- == gives True for what P says -/
def EqW (X : Cx) (k : Nat) (P : D → D → Prop) : Prop :=
  ∀ (A : Around) (pins : List (PySem.Addr × Obj)) (s : Shared) (σ : L2.St) (G H : Hp) (x y : V) (u v : Value) (d e : D), Sub X k A → Inv X pins σ H s → RelV x u → RelV y v → Ex G H → Rep G x d → Rep G y e → P d e →
    wpAny (model X.prog X.w) A (eqBool u v) (fun r s' => r = true ∧ ∃ G' H', Grow none G H G' H' ∧ Inv X pins σ H' s') X.xe s
theorem EqW.mono (h : EqW X k P) (hk : k ≤ n) : EqW X n P := fun A pins s σ G H x y u v d e sb => h A pins s σ G H x y u v d e (sb.mono hk)
theorem EqW.or (h : EqW X k P) (h' : EqW X k P') : EqW X k (fun a b => P a b ∨ P' a b) := fun A pins s σ G H x y u v d e sb I rx ry gh rd re p =>
  p.elim (h A pins s σ G H x y u v d e sb I rx ry gh rd re) (h' A pins s σ G H x y u v d e sb I rx ry gh rd re)
theorem nobag {G H : Hp} : ∀ b, none = some b → Bag G H b := fun b h => by cases h
theorem eqW_flat : EqW X 0 (fun a b => a.flat = true ∧ b.flat = true ∧ eqD a b = true) := by
  intro A pins s σ G H x y u v d e sb I rx ry gh rd re ⟨f1, f2, q⟩
  obtain ⟨f3, q2⟩ := flat_rep re rd f2 f1
  obtain ⟨f4, _⟩ := flat_rep rd re f1 f2
  have z := eqAt_V (A := A) (s := s) rx ry f4 f3
  rw [q2, q] at z
  exact z X.prog X.w X.xe _ ⟨rfl, G, H, .refl gh nobag, I⟩
theorem eqW_obj (F : DnM X.prog X.w X.K X.mg X.base j C "__eq__" ps sp) : EqW X j (fun a b => intObj C a ∧ intObj C b ∧ sp none [a, b] fun z => z = .bl true) := by
  intro A pins s σ G H x y u v d e sb I rx ry gh rd re ⟨o1, o2, h⟩
  obtain ⟨p, dx, fs, rfl, gp, _⟩ := rd.intObj_inv o1
  obtain ⟨q, dy, gs, rfl, gq, _⟩ := re.intObj_inv o2
  obtain rfl : u = Value.ref p := rx
  obtain rfl : v = Value.ref q := ry
  by_cases hp : p = q
  · subst hp
    exact SeqAt.EqAt.same (A := A) (s := s) (.ref p) X.prog X.w X.xe _ ⟨rfl, G, H, .refl gh nobag, I⟩
  · refine GQ.eqBool_refG hp (wpAny_mono (rc_ownB (r := true) (W := fun H' => ∃ G', Grow none G H G' H') F sb I (gh _ _ gp) (gh _ _ gq) ?_) (fun v s2 z => ?_) fun _ _ x => x)
    · exact ⟨none, G, [d, e], _, .cons rd (.cons re .nil), gh, nobag, h, fun v d G' H' g rv z => by subst z; cases rv; exact ⟨rfl, G', g⟩⟩
    · obtain ⟨rfl, H', I', G', g'⟩ := z
      exact ⟨_, rfl, rfl, G', H', g', I'⟩
/-- one item -/
theorem eqW_turn (h : EqW X k P) {A : Around} (sb : Sub X (k + 1) A) {pins : List (PySem.Addr × Obj)} {σ : L2.St} {G H : Hp} {xs ys : List V} {ds es : List D} {its its2 : List Value} (p : Prd P ds es) (rx : RepL G xs ds) (ry : RepL G ys es) (r : Vals xs its) (r2 : Vals ys its2)
    (i : Nat) (h1 : i < its.toArray.size) (h2 : i < its2.toArray.size) (s' : Shared) (l : ∃ G' H', Grow none G H G' H' ∧ Inv X pins σ H' s') :
    wpAny (model X.prog X.w) A.in1 (eqBool its.toArray[i] its2.toArray[i]) (fun r s2 => r = true ∧ ∃ G' H', Grow none G H G' H' ∧ Inv X pins σ H' s2) X.xe s' := by
  obtain ⟨G1, H1, g1, I1⟩ := l
  have k1 : i < its.length := by simpa using h1
  have k2 : i < its2.length := by simpa using h2
  have x1 : i < xs.length := by rw [r.length]; exact k1
  have y1 : i < ys.length := by rw [r2.length]; exact k2
  have d1 : i < ds.length := by rw [← rx.1]; exact x1
  have q1 : i < es.length := by rw [← ry.1]; exact y1
  obtain ⟨u, hu, ru⟩ := r.get (List.getElem?_eq_getElem x1)
  obtain ⟨v, hv, rv⟩ := r2.get (List.getElem?_eq_getElem y1)
  have hu' : its.toArray[i] = u := by rw [List.getElem?_eq_getElem k1] at hu; simpa using hu
  have hv' : its2.toArray[i] = v := by rw [List.getElem?_eq_getElem k2] at hv; simpa using hv
  rw [hu', hv']
  refine wpAny_mono (h A.in1 pins s' σ G1 H1 _ _ u v _ _ sb.in1 I1 ru rv g1.gh ((rx.2 i _ _ (List.getElem?_eq_getElem x1) (List.getElem?_eq_getElem d1)).mono g1.gg) ((ry.2 i _ _ (List.getElem?_eq_getElem y1) (List.getElem?_eq_getElem q1)).mono g1.gg) (p.2 i _ _ (List.getElem?_eq_getElem d1) (List.getElem?_eq_getElem q1))) (fun r s2 z => ?_) fun _ _ x => x
  obtain ⟨hr, G2, H2, g2, I2⟩ := z
  exact ⟨hr, G2, H2, g1.trans g2 (fun b h => by cases h), I2⟩
theorem eqW_tup (h : EqW X k P) : EqW X (k + 1) (fun a b => ∃ xs ys, a = .tup xs ∧ b = .tup ys ∧ Prd P xs ys) := by
  intro A pins s σ G H x y u v d e sb I rx ry gh rd re ⟨ds, es, e1, e2, p⟩
  subst e1 e2
  cases rd with
  | @tup a vs _ t1 n1 q1 =>
  cases re with
  | @tup b ws _ t2 n2 q2 =>
  obtain rfl : u = Value.ref a := rx
  obtain rfl : v = Value.ref b := ry
  by_cases hab : a = b
  · subst hab
    exact SeqAt.EqAt.same (A := A) (s := s) (.ref a) X.prog X.w X.xe _ ⟨rfl, G, H, .refl gh nobag, I⟩
  · have s1 : SqT X.K H a vs := t1.sq gh
    have s2 : SqT X.K H b ws := t2.sq gh
    obtain ⟨its, r, e, z⟩ := I.tuple s1
    obtain ⟨its2, r2, e2, z2⟩ := I.tuple s2
    have hsz : its.toArray.size = its2.toArray.size := by rw [List.size_toArray, List.size_toArray, ← r.length, ← r2.length, n1, n2]; exact p.1
    refine GQ.eqBool_refG hab (GQ.rc_tupG hsz sb.room.units0 (fun _ s' => ∃ G' H', Grow none G H G' H' ∧ Inv X pins σ H' s') e e2 (fun i h1 h2 s' q => eqW_turn h sb p ⟨n1, q1⟩ ⟨n2, q2⟩ r r2 i h1 h2 s' q) (fun s' q => ⟨true, rfl, rfl, q⟩) ⟨G, H, .refl gh nobag, I⟩)
theorem listW_of (h : EqW X k P) {A : Around} (sb : Sub X (k + 1) A) {pins : List (PySem.Addr × Obj)} {σ : L2.St} {G H : Hp} {a b : PySem.Addr} {xs ys : List V} {ds es : List D} (ga : G a = some (.lst xs)) (gb : G b = some (.lst ys)) (rx : RepL G xs ds) (ry : RepL G ys es) (p : Prd P ds es) :
    ListB X.prog X.w A X.xe a b xs.length (fun _ => true) (fun s' => ∃ G' H', Grow none G H G' H' ∧ Inv X pins σ H' s') := by
  intro s' q
  obtain ⟨G1, H1, g1, I1⟩ := id q
  obtain ⟨z, its, k1, r, e⟩ := I1.hok a _ (g1.gh _ _ (g1.gg _ _ ga))
  obtain ⟨z2, its2, k2, r2, e2⟩ := I1.hok b _ (g1.gh _ _ (g1.gg _ _ gb))
  refine ⟨its.toArray, its2.toArray, k1, k2, e, e2, by rw [List.size_toArray, r.length], by rw [List.size_toArray, ← r2.length, ry.1, ← p.1, rx.1], fun i h1 h2 => ?_⟩
  exact eqW_turn h sb p rx ry r r2 i h1 h2 s' q
theorem all_true (N : Nat) : (List.range N).all (fun _ => true) = true := by simp
theorem eqW_lst (h : EqW X k P) : EqW X (k + 1) (fun a b => ∃ xs ys, a = .lst xs ∧ b = .lst ys ∧ Prd P xs ys) := by
  intro A pins s σ G H x y u v d e sb I rx ry gh rd re ⟨ds, es, e1, e2, p⟩
  subst e1 e2
  cases rd with
  | @lst a vs _ t1 n1 q1 =>
  cases re with
  | @lst b ws _ t2 n2 q2 =>
  obtain rfl : u = Value.ref a := rx
  obtain rfl : v = Value.ref b := ry
  by_cases hab : a = b
  · subst hab
    exact SeqAt.EqAt.same (A := A) (s := s) (.ref a) X.prog X.w X.xe _ ⟨rfl, G, H, .refl gh nobag, I⟩
  · refine GQ.eqBool_refG hab (rc_listEq sb.room.units0 _ (listW_of (H := H) (pins := pins) (σ := σ) h sb t1 t2 ⟨n1, q1⟩ ⟨n2, q2⟩ p) (fun s' q => ?_) ⟨G, H, .refl gh nobag, I⟩)
    rw [all_true]
    exact ⟨true, rfl, rfl, q⟩
theorem eqW_lk (F : DnM X.prog X.w X.K X.mg X.base j C "__eq__" ps sp) : ∀ n, EqW X (j + n) (Lk C sp n)
  | 0 => (eqW_flat.mono (Nat.zero_le _)).or (eqW_obj F)
  | n + 1 => ((eqW_lk F n).mono (Nat.le_succ _)).or ((eqW_tup (eqW_lk F n)).or (eqW_lst (eqW_lk F n)))
/-- x == y, x != y of two lists that are equal -/
def rEqW (P : D → D → Prop) (neg : Bool) : R2 := fun x y H Q => ∃ (G : Hp) (ds es : List D), Ex G H ∧ Rep G x (.lst ds) ∧ Rep G y (.lst es) ∧ Prd P ds es ∧ ∀ G' H', Grow none G H G' H' → Q (.bl (!neg)) H'
theorem op_eqW (h : EqW X k P) (hr : Room (k + 1) X.A) : OpR X (compareOp .Eq) (rEqW P false) := by
  intro pins s σ H x y u v Q I rx ry ⟨G, ds, es, gh, rd, re, p, q⟩
  cases rd with
  | @lst a vs _ t1 n1 q1 =>
  cases re with
  | @lst b ws _ t2 n2 q2 =>
  obtain rfl : u = Value.ref a := rx
  obtain rfl : v = Value.ref b := ry
  show wpAny _ _ (richCompare .Eq (.ref a) (.ref b)) _ _ _
  refine rc_listEq hr.units0 _ (listW_of (H := H) (pins := pins) (σ := σ) h ⟨hr, rfl⟩ t1 t2 ⟨n1, q1⟩ ⟨n2, q2⟩ p) (fun s' ⟨G', H', g', I'⟩ => ?_) ⟨G, H, .refl gh nobag, I⟩
  rw [all_true]
  exact ⟨.bl _, H', I', rfl, q G' H' g'⟩
theorem op_neW (h : EqW X k P) (hr : Room (k + 1) X.A) : OpR X (compareOp .NotEq) (rEqW P true) := by
  intro pins s σ H x y u v Q I rx ry ⟨G, ds, es, gh, rd, re, p, q⟩
  cases rd with
  | @lst a vs _ t1 n1 q1 =>
  cases re with
  | @lst b ws _ t2 n2 q2 =>
  obtain rfl : u = Value.ref a := rx
  obtain rfl : v = Value.ref b := ry
  show wpAny _ _ (richCompare .NotEq (.ref a) (.ref b)) _ _ _
  refine rc_listNe hr.units0 _ (listW_of (H := H) (pins := pins) (σ := σ) h ⟨hr, rfl⟩ t1 t2 ⟨n1, q1⟩ ⟨n2, q2⟩ p) (fun s' ⟨G', H', g', I'⟩ => ?_) ⟨G, H, .refl gh nobag, I⟩
  rw [all_true]
  exact ⟨.bl _, H', I', rfl, q G' H' g'⟩
/-- != of plain data, or of two lists that are equal to the depth n -/
def neW (C : PySem.Addr) (sp : SpD) (n : Nat) (a b : D) (Q : D → Prop) : Prop := neR a b Q ∨ ∃ ds es, a = .lst ds ∧ b = .lst es ∧ Prd (Lk C sp n) ds es ∧ Q (.bl false)
def eqW (C : PySem.Addr) (sp : SpD) (n : Nat) (a b : D) (Q : D → Prop) : Prop := eqR a b Q ∨ ∃ ds es, a = .lst ds ∧ b = .lst es ∧ Prd (Lk C sp n) ds es ∧ Q (.bl true)
theorem opd_neW {n : Nat} : OpD (fun x y H Q => rNeD X.K x y H Q ∨ rEqW (Lk C sp n) true x y H Q) (neW C sp n) := by
  intro β G H x y a b Q R hgh hbg ra rb h k
  rcases h with h | ⟨ds, es, rfl, rfl, p, h⟩
  · exact .inl (opd_ne β G H x y a b Q R hgh hbg ra rb h k)
  · exact .inr ⟨G, ds, es, hgh, ra, rb, p, fun G' H' g => k _ _ G' H' (g.ofNone hbg) (.bl _) h⟩
theorem opd_eqW {n : Nat} : OpD (fun x y H Q => rEqD X.K x y H Q ∨ rEqW (Lk C sp n) false x y H Q) (eqW C sp n) := by
  intro β G H x y a b Q R hgh hbg ra rb h k
  rcases h with h | ⟨ds, es, rfl, rfl, p, h⟩
  · exact .inl (opd_eq β G H x y a b Q R hgh hbg ra rb h k)
  · exact .inr ⟨G, ds, es, hgh, ra, rb, p, fun G' H' g => k _ _ G' H' (g.ofNone hbg) (.bl _) h⟩
variable {c : Ctx} {a b : Expr} {qa qb : QE} {pos : Pos}
theorem dneW (n : Nat) (F : DnM X.prog X.w X.K X.mg X.base j C "__eq__" ps sp) (hr : Room k X.A) (ha : PD c X a qa) (hb : PD c X b qb) (hj : j + n + 1 ≤ k := by decide) : PD c X (.Compare a [.NotEq] [b] pos) (qOp (neW C sp n) qa qb) :=
  PD.cmp ((op_neD (by have := hu_ hr; omega)).or (op_neW (eqW_lk F n) (hr.mono hj))) (opd_neW (X := X)) ha hb (nomark _)
theorem tneW (n : Nat) (F : DnM X.prog X.w X.K X.mg X.base j C "__eq__" ps sp) (hr : Room k X.A) (ha : PD c X a qa) (hb : PD c X b qb) (hj : j + n + 1 ≤ k := by decide) : PDT c X (.Compare a [.NotEq] [b] pos) (qTest (qOp (neW C sp n) qa qb)) :=
  PDT.cmp ((op_neD (by have := hu_ hr; omega)).or (op_neW (eqW_lk F n) (hr.mono hj))) (opd_neW (X := X)) ha hb (nomark _)
theorem deqW (n : Nat) (F : DnM X.prog X.w X.K X.mg X.base j C "__eq__" ps sp) (hr : Room k X.A) (ha : PD c X a qa) (hb : PD c X b qb) (hj : j + n + 1 ≤ k := by decide) : PD c X (.Compare a [.Eq] [b] pos) (qOp (eqW C sp n) qa qb) :=
  PD.cmp ((op_eqD (by have := hu_ hr; omega)).or (op_eqW (eqW_lk F n) (hr.mono hj))) (opd_eqW (X := X)) ha hb (nomark _)
theorem teqW (n : Nat) (F : DnM X.prog X.w X.K X.mg X.base j C "__eq__" ps sp) (hr : Room k X.A) (ha : PD c X a qa) (hb : PD c X b qb) (hj : j + n + 1 ≤ k := by decide) : PDT c X (.Compare a [.Eq] [b] pos) (qTest (qOp (eqW C sp n) qa qb)) :=
  PDT.cmp ((op_eqD (by have := hu_ hr; omega)).or (op_eqW (eqW_lk F n) (hr.mono hj))) (opd_eqW (X := X)) ha hb (nomark _)
end
end DL

/-! ### a property of an own class, read -/
namespace DL
open PySem L2 PySem.Spec PyProof.Rows
def HdP (K : PySem.W.Frag) (C : PySem.Addr) (m qual : Str) (st : Stmt) : Prop := ∃ (p g : PySem.Addr) (fd : FuncData), PropOf K C m p g ∧ Fun K m qual st g fd
theorem hdp_mk {K : PySem.W.Frag} {C p f : PySem.Addr} {m qual : Str} {st : Stmt} {rest : List Value} {oc : Value} {od : Option PySem.Addr} {kV dc pm : Value} {an : Option PySem.Addr} {cd ct : Value} {sl : Array (Option Value)} (a : PySem.W.findIn K (.ref C) m = some (some (.ref p))) (g : PySem.W.specialIn K (.ref p) "__get__" = some (some (.builtin "property.__get__")))
    (t : PySem.W.takesIn K (.ref p) = some true) (rc : PySem.W.recIn K p "property" = some (.ref f :: rest)) (k : PySem.W.keepIn K (.ref f) = true)
    (l : K.lookup f = some ⟨oc, od, .func (PySem.W.fnOf m qual (defArgs st) (defBody st) (defScope st) .none kV dc pm an cd ct), sl⟩) (c : PySem.W.codeIn K cd qual = true) : HdP K C m qual st := ⟨p, f, _, ⟨a, g, t, rest, rc⟩, fun_mk (st := st) l c k⟩
/-- the property keeps its promise -/
def DnP (P : Program) (w : World) (K : PySem.W.Frag) (mg : Str → Option Value) (base : Heap) (k : Nat) (C : PySem.Addr) (m : Str) (sp : SpD) : Prop :=
  ∃ p g fd, PropOf K C m p g ∧ FnOk P w K mg base CX0 k g fd ["self"] (lf sp) ∧ ClF K C ∧ Binds K fd ["self"] []
theorem HdP.ok {P : Program} {w : World} {K : PySem.W.Frag} {mg : Str → Option Value} {base : Heap} {C : PySem.Addr} {m qual : Str} {st : Stmt} {N : List Str} {k : Nat} {sp : SpD} (F : HdP K C m qual st) (cf : ClF K C) (S : FnScope N ["self"] (defScope st)) (hl : ∀ β ds Q, sp β ds Q → ds.length = 1)
    (hb : ∀ (kV doc pm : Value) (an : Option PySem.Addr) (cdv ct : Value) (us : List Value), us.length = 1 → bindArgs (PySem.W.fnOf m qual (defArgs st) (defBody st) (defScope st) .none kV doc pm an cdv ct) ⟨us, []⟩ = pure ((["self"] : List Str).zip us))
    (body : ∀ (f : PySem.Addr) (cdv : Value) (A : Around) (outer : List Env) (s : Shared) (H : Hp) (E : XK) (c : Ctx), Room k (A.deeper (PyProof.Rows.envOfC qual (defScope st) s.heap.objs.size f cdv)) →
      ∃ q, PDB c (cxOf CX0 P w K mg base N qual (defScope st) f cdv A outer s H E).nox (defBody st) q ∧ ∀ ds Q, sp c.β ds Q → q (startS N ds) { nx := fun _ => Q .non, rt := fun d _ => Q d }) : DnP P w K mg base (k + 1) C m sp := by
  obtain ⟨p, g, fd, pr, F⟩ := F
  exact ⟨p, g, fd, pr, fn_dl F S hl (body g), cf, F.binds hb⟩
section
variable {c : Ctx} {X : Cx} {e : Expr} {q : QE} {pos : Pos} {m : Str} {C : PySem.Addr} {sp : SpD} {j k : Nat}
def qProp (C : PySem.Addr) (sp : SpD) (β : Option PySem.Addr) (q : QE) : QE := fun ρ Q => q ρ fun d => (∃ fs, d = .obj C fs) ∧ sp β [d] Q
theorem dprop (F : DnP X.prog X.w X.K X.mg X.base j C m sp) (hr : Room k X.A) (he : PD c X e q) (hj : j + 1 ≤ k := by decide) (hab : attributeBase e m X.env (eval e X.env) = eval e X.env := by rfl) : PD c X (.Attribute e m pos) (qProp C sp c.β q) := by
  obtain ⟨p, g, fd, pr, F, cf, b⟩ := F
  obtain ⟨t, pe, sd⟩ := he.ex
  refine ⟨_, pe_prop pe cf.cl pr F (hr.mono hj) b .nil pass0 hab, fun ρ σ G H Q R s h k => ?_⟩
  refine sd ρ σ G H _ _ s h fun v d G1 H1 g1 r1 h1 => ?_
  have s1 := s.grow g1
  obtain ⟨⟨fs, rfl⟩, h1⟩ := h1
  have r1' := r1
  cases r1 with
  | obj e1 _ _ _ =>
    exact ⟨_, _, _, rfl, g1.gh _ _ e1, c.β, G1, _, Q, .cons r1' .nil, s1.core.gh, s1.core.bg, h1, fun v d G' H' g r q => k v d G' H' (g1.trans g s.hb) r q⟩
end
end DL

/-! ### a constructor with defaults, called by keywords for all of its parameters -/
namespace DL
open PySem L2 PySem.Spec PyProof.Rows
theorem DnIX.dkD {P : Program} {w : World} {K : PySem.W.Frag} {mg : Str → Option Value} {base : Heap} {k : Nat} {x : Str} {C : PySem.Addr} {ps : List Str} {dvs : List V} {sp : SpIX} (h : DnIX P w K mg base k x C ps dvs sp) : DnK P w K mg base k x C ps (spI sp) := by
  obtain ⟨f, fd, F, M, cf, mc, fa, b⟩ := h
  obtain ⟨us, vu, hb⟩ := b dvs.length (Nat.le_refl _)
  rw [List.drop_length] at vu
  cases vu
  refine ⟨f, fd, FnOk.noX F fun vs H R E z => ?_, M, cf, mc, fa, hb⟩
  obtain ⟨β, G, ds, Q, x, dx, vs', e, r, gh, bg, hx, hdx, h, kk⟩ := z
  exact ⟨β, G, ds, Q, _, x, dx, vs', e, r, gh, bg, hx, hdx, h, kk, fun _ _ _ _ _ _ _ _ _ z => z⟩
theorem HdI.kwiD {K : PySem.W.Frag} {C : PySem.Addr} {qual : Str} {st : Stmt} {n : Int} {ns : List Int} {ps ks : List Str} {idx : List Nat} (F : HdI K C qual st (n :: ns))
    (hk : ∀ (T : PySem.Addr) (kV doc pm : Value) (an : Option PySem.Addr) (cdv ct u : Value) (its ws : List Value), its.length = (n :: ns).length → ws.length = ks.length → ∃ k, bindArgs (PySem.W.fnOf "__init__" qual (defArgs st) (defBody st) (defScope st) (.ref T) kV doc pm an cdv ct) ⟨[u], ks.zip ws⟩ = seqItems? (.ref T) >>= k ∧ k (some its.toArray) = pure (ps.zip (u :: pick idx ws))) : KwI K C ps ks idx := by
  obtain ⟨f, oc, od, dV, kV, dc, pm, an, cd, ct, sl, a, i, kp, l, c, df, mk⟩ := F
  have FD : FunD K "__init__" qual (defArgs st) (defBody st) (defScope st) ((n :: ns).map V.int) [] f (PySem.W.fnOf "__init__" qual (defArgs st) (defBody st) (defScope st) dV kV dc pm an cd ct) := ⟨⟨oc, od, dV, kV, dc, pm, an, cd, ct, sl, rfl, l, c, df, .inl rfl⟩, kp⟩
  obtain ⟨its, kb⟩ := FD.kbindsD (ps := ps) 1 ks (fun us _ ws => us ++ pick idx ws) (by simp) (fun r _ rz => r.append (Vals.pick rz idx)) (fun T kV doc pm an cdv ct us its ws h1 h2 h3 => by
    match us, h1 with
    | [u], _ => exact hk T kV doc pm an cdv ct u its ws (by simpa using h2) h3)
  exact ⟨f, _, a, ⟨_, _, _, l⟩, kb⟩
end DL

/-! ### dicts with tuples as keys -/
namespace DL
open PySem PySem.Spec PyProof.Rows L2
def keyD : Key → D
  | .inl i => .int i
  | .inr x => .str x
theorem rep_key {G : Hp} : ∀ k : Key, Rep G (kV k) (keyD k)
  | .inl i => .int i
  | .inr x => .str x
theorem rep_keys {G : Hp} : ∀ ks : List Key, RepL G (ks.map kV) (ks.map keyD)
  | [] => .nil
  | k :: ks => .cons (rep_key k) (rep_keys ks)
theorem RepL.keys {G : Hp} : ∀ {vs : List V} {ks : List Key}, RepL G vs (ks.map keyD) → vs = ks.map kV
  | [], [], _ => rfl
  | v :: vs, k :: ks, h => by
    have h1 : Rep G v (keyD k) := h.head
    have e : v = kV k := by cases k <;> cases h1 <;> rfl
    have h2 : RepL G vs (ks.map keyD) := h.tail
    rw [e, RepL.keys h2]; rfl
  | [], _ :: _, h => by have := h.1; simp at this
  | _ :: _, [], h => by have := h.1; simp at this
section
variable {κ : Type} [DecidableEq κ]
def valD (kvs : List (κ × D)) (k : κ) : Option D := (kvs.find? fun p => decide (p.1 = k)).map (·.2)
def putT (kvs : List (κ × D)) (k : κ) (v : D) : List (κ × D) :=
  if (kvs.any fun p => decide (p.1 = k)) = true then kvs.map (fun p => if p.1 = k then (p.1, v) else p) else kvs ++ [(k, v)]
theorem valD_nil {k : κ} : valD ([] : List (κ × D)) k = none := rfl
theorem valD_cons {p : κ × D} {r : List (κ × D)} {k : κ} : valD (p :: r) k = if p.1 = k then some p.2 else valD r k := by
  unfold valD
  rw [List.find?_cons]
  by_cases q : p.1 = k
  · rw [decide_eq_true q, if_pos q]; rfl
  · rw [decide_eq_false q, if_neg q]
theorem repF_cons {G : Hp} {v : κ × V} {d : κ × D} {vs : List (κ × V)} {ds : List (κ × D)} (e : v.1 = d.1) (r : Rep G v.2 d.2) (h : RepF G vs ds) : RepF G (v :: vs) (d :: ds) := by
  refine ⟨by rw [List.map_cons, List.map_cons, e, h.1], fun i x y a b => ?_⟩
  cases i with
  | zero => simp at a b; subst a; subst b; exact r
  | succ i => exact h.2 i x y (by simpa using a) (by simpa using b)
theorem RepF.val {G : Hp} {k : κ} : ∀ {vs : List (κ × V)} {ds : List (κ × D)}, RepF G vs ds → (valV vs k = Option.none ∧ valD ds k = Option.none) ∨ ∃ v d, valV vs k = some v ∧ valD ds k = some d ∧ Rep G v d
  | [], [], _ => .inl ⟨rfl, rfl⟩
  | v :: vs, d :: ds, h => by
    have e : v.1 = d.1 := h.hd
    rw [valD_cons]
    by_cases q : v.1 = k
    · rw [valV_pos q, if_pos (e ▸ q)]
      exact .inr ⟨_, _, rfl, rfl, h.2 0 v d rfl rfl⟩
    · rw [valV_neg q, if_neg (fun z => q (e.trans z))]
      exact RepF.val h.tl
  | [], _ :: _, h => by have := h.1; simp at this
  | _ :: _, [], h => by have := h.1; simp at this
theorem RepF.valI {G : Hp} {k : κ} {vs : List (κ × V)} {ds : List (κ × D)} (h : RepF G vs ds) : (valV vs k).isSome = (valD ds k).isSome := by
  rcases h.val (k := k) with ⟨a, b⟩ | ⟨v, d, a, b, _⟩
  · rw [a, b]; rfl
  · rw [a, b]; rfl
theorem repF_app {G : Hp} : ∀ {vs ws : List (κ × V)} {ds es : List (κ × D)}, RepF G vs ds → RepF G ws es → RepF G (vs ++ ws) (ds ++ es)
  | [], _, [], _, _, h => h
  | v :: vs, _, d :: ds, _, h, h' => repF_cons h.hd (h.2 0 v d rfl rfl) (repF_app h.tl h')
  | [], _, _ :: _, _, h, _ => by have := h.1; simp at this
  | _ :: _, _, [], _, h, _ => by have := h.1; simp at this
theorem repF_any {G : Hp} {k : κ} : ∀ {vs : List (κ × V)} {ds : List (κ × D)}, RepF G vs ds → (vs.any fun p => decide (p.1 = k)) = (ds.any fun p => decide (p.1 = k))
  | [], [], _ => rfl
  | v :: vs, d :: ds, h => by rw [List.any_cons, List.any_cons, repF_any h.tl, h.hd]
  | [], _ :: _, h => by have := h.1; simp at this
  | _ :: _, [], h => by have := h.1; simp at this
theorem repF_set {G : Hp} {k : κ} {v : V} {d : D} (r : Rep G v d) : ∀ {vs : List (κ × V)} {ds : List (κ × D)}, RepF G vs ds → RepF G (vs.map fun p => if p.1 = k then (p.1, v) else p) (ds.map fun p => if p.1 = k then (p.1, d) else p)
  | [], [], _ => RepF.nil
  | a :: vs, b :: ds, h => by
    have e : a.1 = b.1 := h.hd
    rw [List.map_cons, List.map_cons]
    by_cases q : a.1 = k
    · rw [if_pos q, if_pos (e ▸ q)]
      exact repF_cons e r (repF_set r h.tl)
    · rw [if_neg q, if_neg (fun z => q (e.trans z))]
      exact repF_cons e (h.2 0 a b rfl rfl) (repF_set r h.tl)
  | [], _ :: _, h => by have := h.1; simp at this
  | _ :: _, [], h => by have := h.1; simp at this
theorem RepF.putT {G : Hp} {k : κ} {v : V} {d : D} {vs : List (κ × V)} {ds : List (κ × D)} (h : RepF G vs ds) (r : Rep G v d) : RepF G (putK vs k v) (DL.putT ds k d) := by
  unfold putK DL.putT
  rw [repF_any h]
  split
  · exact repF_set r h
  · exact repF_app h (repF_cons rfl r RepF.nil)
end
/-- a tuple that stands already is known from here on -/
theorem Grow.see {β : Option Addr} {G H : Hp} {q : Addr} {vs : List V} (gh : Ex G H) (b : ∀ b, β = some b → Bag G H b) (h : H q = some (.tup vs)) : ∃ G', Grow β G H G' H ∧ G' q = some (.tup vs) := by
  cases e : G q with
  | some o =>
    have z := gh q o e
    rw [h] at z
    cases z
    exact ⟨G, Grow.refl gh b, e⟩
  | none =>
    refine ⟨upd G q (.tup vs), ⟨Ex.new e, fun _ _ h _ _ => h, fun a o h _ => by rw [h]; simp, fun _ h => h, fun a o z => ?_, fun a o z nc n => ?_, fun b' eb => ?_⟩, upd_same⟩
    · by_cases w : a = q
      · subst w; rw [upd_same] at z; rw [h]; exact z
      · rw [upd_ne w] at z; exact gh a o z
    · by_cases w : a = q
      · subst w; rw [upd_same] at z; cases z; exact absurd rfl (nc.2 vs)
      · rw [upd_ne w] at z; rw [n] at z; cases z
    · have B := b b' eb
      obtain ⟨c', cells, x1, x2, x3, x4, hb, _⟩ := B.is
      have ne : b' ≠ q := fun w => by subst w; rw [hb] at h; cases h
      exact B.mono (Ex.new e) rfl (by rw [upd_ne ne]; exact B.out)
/-- the keys of a dict, as data -/
def keysT (kvs : List (List Key × D)) : List D := kvs.map fun p => .tup (p.1.map keyD)
theorem keysT_cons {p : List Key × D} {r : List (List Key × D)} : keysT (p :: r) = .tup (p.1.map keyD) :: keysT r := rfl
theorem see_keys {β : Option Addr} {H : Hp} : ∀ {G : Hp} {kvs : List (List Key × V)} {ds : List (List Key × D)} {bs : List Addr}, Ex G H → (∀ b, β = some b → Bag G H b) → IsKeys H kvs bs → kvs.map (·.1) = ds.map (·.1) → ∃ G', Grow β G H G' H ∧ RepL G' (bs.map V.ref) (keysT ds)
  | G, [], [], [], gh, b, _, _ => ⟨G, Grow.refl gh b, .nil⟩
  | G, p :: kvs, d :: ds, a :: bs, gh, b, h, e => by
    cases h with
    | cons h1 h2 =>
    obtain ⟨G1, g1, e1⟩ := Grow.see gh b h1
    rw [List.map_cons, List.map_cons] at e
    injection e with e0 e2
    obtain ⟨G2, g2, r2⟩ := see_keys (ds := ds) g1.gh g1.bg h2 e2
    refine ⟨G2, g1.trans g2 (fun b' eb => (b b' eb).th), .cons ?_ r2⟩
    show Rep G2 (V.ref a) (.tup (d.1.map keyD))
    rw [← e0]
    exact .tup (g2.gg _ _ e1) (rep_keys (G := G2) p.1).1 (rep_keys (G := G2) p.1).2
  | _, [], _ :: _, _, _, _, _, e => by simp at e
  | _, _ :: _, [], _, _, _, _, e => by simp at e
  | _, [], [], _ :: _, _, _, h, _ => by cases h
  | _, _ :: _, _ :: _, [], _, _, h, _ => by cases h

/-! dicts looked at, owned or not -/
def ViewT (β : Option Addr) (G H : Hp) (v : V) (kvs : List (List Key × D)) : Prop := ∃ a vs, v = .ref a ∧ Rd H a (.dT vs) ∧ RepF G vs kvs ∧ some a ≠ β
theorem ViewT.grow {β : Option Addr} {G H G' H' : Hp} {v : V} {kvs : List (List Key × D)} (h : ViewT β G H v kvs) (g : Grow β G H G' H') : ViewT β G' H' v kvs := by
  obtain ⟨a, vs, rfl, h, r, n⟩ := h
  refine ⟨a, vs, rfl, ?_, r.mono g.gg, n⟩
  rcases h with h | ⟨o, h⟩
  · exact .inl (g.hh _ _ h n nt_dT)
  · exact .inr ⟨o, g.hh _ _ h n nt_frz⟩
def SndD (c : Ctx) (t : TE) (q : List Slot → (List (List Key × D) → Prop) → Prop) : Prop := ∀ (ρ : List Slot) (σ : L2.St) (G H : Hp) (Q : List (List Key × D) → Prop) (R : VK), Sta c G H σ ρ → q ρ Q → (∀ v d G' H', Grow c.β G H G' H' → ViewT c.β G' H' v d → Q d → R v H') → t σ H R
structure PDD (c : Ctx) (X : Cx) (e : Expr) (q : List Slot → (List (List Key × D) → Prop) → Prop) : Prop where
  ex : ∃ t, PE X e t ∧ SndD c t q
def dctR : D → (List (List Key × D) → Prop) → Prop
  | .dT kvs, Q => Q kvs
  | _, _ => False
theorem dctR_inv {x : D} {Q : List (List Key × D) → Prop} (h : dctR x Q) : ∃ kvs, x = .dT kvs ∧ Q kvs := by
  match x, h with
  | .dT kvs, h => exact ⟨kvs, rfl, h⟩
def qDct (q : QE) : List Slot → (List (List Key × D) → Prop) → Prop := fun ρ Q => q ρ fun d => dctR d Q
def slotT : Option Slot → (List (List Key × D) → Prop) → Prop
  | some (.own _ (.dT kvs)), Q => Q kvs
  | some (.d (.dT kvs)), Q => Q kvs
  | _, _ => False
theorem slotT_inv {o : Option Slot} {Q : List (List Key × D) → Prop} (h : slotT o Q) : ∃ kvs, ((∃ a, o = some (.own a (.dT kvs))) ∨ o = some (.d (.dT kvs))) ∧ Q kvs := by
  match o, h with
  | some (.own a (.dT kvs)), h => exact ⟨kvs, .inl ⟨a, rfl⟩, h⟩
  | some (.d (.dT kvs)), h => exact ⟨kvs, .inr rfl, h⟩
def qVarT (i : Nat) : List Slot → (List (List Key × D) → Prop) → Prop := fun ρ Q => slotT ρ[i]? Q
theorem rep_view {c : Ctx} {G H : Hp} {σ : L2.St} {ρ : List Slot} {v : V} {kvs : List (List Key × D)} (s : Sta c G H σ ρ) (r : Rep G v (.dT kvs)) : ViewT c.β G H v kvs := by
  cases r with
  | dT h n e =>
    refine ⟨_, _, rfl, .inr ⟨_, s.core.gh _ _ h⟩, ⟨n, e⟩, fun z => ?_⟩
    obtain ⟨c', cells, x1, x2, x3, x4, hb, _⟩ := (s.core.bg _ z.symm).is
    rw [s.core.gh _ _ h] at hb
    cases hb
theorem PD.dd {c : Ctx} {X : Cx} {e : Expr} {q : QE} (h : PD c X e q) : PDD c X e (qDct q) := by
  obtain ⟨t, p, s⟩ := h.ex
  refine ⟨t, p, fun ρ σ G H Q R st hq k => s ρ σ G H _ _ st hq fun v d G' H' g r hd => ?_⟩
  obtain ⟨kvs, rfl, hd⟩ := dctR_inv hd
  exact k v kvs G' H' g (rep_view (st.grow g) r) hd
theorem vd (i : Nat) {c : Ctx} {X : Cx} {x : Str} {npos : Pos} (hN : X.N[i]? = some x := by rfl) (hv : Vis X.env.scope x := by first | exact Or.inl rfl | exact Or.inr (Or.inl rfl) | exact Or.inr (Or.inr rfl)) (hd : (x == ("__debug__" : Str)) = false := by decide)
    (hcd : (x == ("__classdict__" : Str)) = false := by decide) : PDD c X (.Name x npos) (qVarT i) := by
  refine ⟨_, pe_var hN hv hd hcd, fun ρ σ G H Q R s h k => ?_⟩
  obtain ⟨kvs, ea, h⟩ := slotT_inv h
  rcases ea with ⟨a, ea⟩ | ea
  · obtain ⟨e1, e2, e3, vs, e4, e5⟩ := s.sl i _ ea
    exact ⟨.ref a, e1, k _ _ G H s.refl ⟨a, vs, rfl, .inl e4, e5, fun z => s.core.b0 a z.symm e3⟩ h⟩
  · obtain ⟨v, e1, r⟩ := s.sl i _ ea
    exact ⟨v, e1, k _ _ G H s.refl (rep_view s r) h⟩
/-- what a key names -/
def keyR : D → (List Key → Prop) → Prop
  | .tup ds, Q => ∃ k : List Key, ds = k.map keyD ∧ Q k
  | _, _ => False
theorem keyR_inv {x : D} {Q : List Key → Prop} (h : keyR x Q) : ∃ k : List Key, x = .tup (k.map keyD) ∧ Q k := by
  match x, h with
  | .tup ds, ⟨k, e, h⟩ => exact ⟨k, by rw [e], h⟩
theorem rep_dkey {G : Hp} {v : V} {k : List Key} (r : Rep G v (.tup (k.map keyD))) : ∃ b, v = .ref b ∧ G b = some (.tup (k.map kV)) := by
  cases r with
  | @tup b vs ds h n e =>
    have := RepL.keys (ks := k) ⟨n, e⟩
    subst this
    exact ⟨b, rfl, h⟩
def qGetT (qd : List Slot → (List (List Key × D) → Prop) → Prop) (qk : QE) : QE := fun ρ Q => qd ρ fun kvs => qk ρ fun kd => keyR kd fun k => ∃ d, valD kvs k = some d ∧ Q d
def qInT (neg : Bool) (qk : QE) (qd : List Slot → (List (List Key × D) → Prop) → Prop) : QE := fun ρ Q => qk ρ fun kd => qd ρ fun kvs => keyR kd fun k => Q (.bl ((valD kvs k).isSome != neg))
section
variable {c : Ctx} {X : Cx} {o i : Expr} {pos : Pos} {qk : QE} {qd : List Slot → (List (List Key × D) → Prop) → Prop}
theorem dget_of {β : Option Addr} {G H : Hp} {v w : V} {kvs : List (List Key × D)} {k : List Key} (h : ViewT β G H v kvs) (gh : Ex G H) (r : Rep G w (.tup (k.map keyD))) : ∃ a vs, v = .ref a ∧ DGet H a w (valV vs k) ∧ RepF G vs kvs := by
  obtain ⟨a, vs, rfl, hr, rf, _⟩ := h
  obtain ⟨b, rfl, hb⟩ := rep_dkey r
  exact ⟨a, vs, rfl, .inr ⟨vs, k, b, hr, rfl, gh _ _ hb, rfl⟩, rf⟩
theorem dgetT (hu : X.A.units + 65 < cLine) (ho : PDD c X o qd) (hi : PD c X i qk) (hs : NoSl i := by exact fun _ _ => rfl) : PD c X (.Subscript o i pos) (qGetT qd qk) := by
  obtain ⟨t, p, s1⟩ := ho.ex
  obtain ⟨t', p', s2⟩ := hi.ex
  refine ⟨_, pe_dget (by omega) p p' hs, fun ρ σ G H Q R s h k => s1 ρ σ G H _ _ s h fun v kvs G1 H1 g1 r1 h => s2 ρ σ G1 H1 _ _ (s.grow g1) h fun w kd G2 H2 g2 r2 h => ?_⟩
  obtain ⟨ky, rfl, d, hv, h⟩ := keyR_inv h
  obtain ⟨a, vs, rfl, dg, rf⟩ := dget_of (r1.grow g2) g2.gh r2
  rcases rf.val (k := ky) with ⟨z1, z2⟩ | ⟨x, d', z1, z2, rx⟩
  · rw [z2] at hv; cases hv
  · rw [z2] at hv; cases hv
    exact ⟨a, x, rfl, by rw [← z1]; exact dg, k x d G2 H2 (g1.trans g2 s.hb) rx h⟩
theorem snd_inT {t t' : TE} (s1 : SndD c t qd) (s2 : SndE c t' qk) : SndE c (tDIn t' t) (qInT false qk qd) := by
  intro ρ σ G H Q R s h k
  refine s2 ρ σ G H _ _ s h fun w kd G1 H1 g1 r1 h => s1 ρ σ G1 H1 _ _ (s.grow g1) h fun v kvs G2 H2 g2 r2 h => ?_
  obtain ⟨ky, rfl, hq⟩ := keyR_inv h
  obtain ⟨a, vs, rfl, dg, rf⟩ := dget_of r2 g2.gh (r1.mono g2.gg)
  refine ⟨a, _, rfl, dg, k _ _ G2 H2 (g1.trans g2 s.hb) (.bl _) ?_⟩
  rw [rf.valI]
  rw [Bool.bne_false] at hq
  exact hq
theorem snd_ninT {t t' : TE} (s1 : SndD c t qd) (s2 : SndE c t' qk) : SndE c (tDNotIn t' t) (qInT true qk qd) := by
  intro ρ σ G H Q R s h k
  refine s2 ρ σ G H _ _ s h fun w kd G1 H1 g1 r1 h => s1 ρ σ G1 H1 _ _ (s.grow g1) h fun v kvs G2 H2 g2 r2 h => ?_
  obtain ⟨ky, rfl, hq⟩ := keyR_inv h
  obtain ⟨a, vs, rfl, dg, rf⟩ := dget_of r2 g2.gh (r1.mono g2.gg)
  refine ⟨a, _, rfl, dg, k _ _ G2 H2 (g1.trans g2 s.hb) (.bl _) ?_⟩
  rw [rf.valI]
  rw [Bool.bne_true] at hq
  exact hq
theorem dinT (hu : X.A.units + 65 < cLine) (hi : PD c X i qk) (ho : PDD c X o qd) (hm : behindInMarks .In o = false := by rfl) : PD c X (.Compare i [.In] [o] pos) (qInT false qk qd) := by
  obtain ⟨t, p, s1⟩ := ho.ex
  obtain ⟨t', p', s2⟩ := hi.ex
  exact ⟨_, pe_cmp (pc_din (by omega) p' p) hm, snd_inT s1 s2⟩
theorem tinT (hu : X.A.units + 65 < cLine) (hi : PD c X i qk) (ho : PDD c X o qd) (hm : behindInMarks .In o = false := by rfl) : PDT c X (.Compare i [.In] [o] pos) (qTest (qInT false qk qd)) := by
  obtain ⟨t, p, s1⟩ := ho.ex
  obtain ⟨t', p', s2⟩ := hi.ex
  exact ⟨_, pt_cmp (pc_din (by omega) p' p) hm, snd_test (snd_inT s1 s2)⟩
theorem dninT (hu : X.A.units + 65 < cLine) (hi : PD c X i qk) (ho : PDD c X o qd) (hm : behindInMarks .NotIn o = false := by rfl) : PD c X (.Compare i [.NotIn] [o] pos) (qInT true qk qd) := by
  obtain ⟨t, p, s1⟩ := ho.ex
  obtain ⟨t', p', s2⟩ := hi.ex
  exact ⟨_, pe_cmp (pc_dnotin (by omega) p' p) hm, snd_ninT s1 s2⟩
theorem tninT (hu : X.A.units + 65 < cLine) (hi : PD c X i qk) (ho : PDD c X o qd) (hm : behindInMarks .NotIn o = false := by rfl) : PDT c X (.Compare i [.NotIn] [o] pos) (qTest (qInT true qk qd)) := by
  obtain ⟨t, p, s1⟩ := ho.ex
  obtain ⟨t', p', s2⟩ := hi.ex
  exact ⟨_, pt_cmp (pc_dnotin (by omega) p' p) hm, snd_test (snd_ninT s1 s2)⟩
end
end DL

/-! ### dicts with tuples as keys: len, list, new ones, stores, walks -/
namespace L2
open PySem PySem.Spec PyProof.Rows
theorem call_len_rdT {X : Cx} : CallR X (.builtin "len") (fun xs H Q => ∃ (p : Addr) (kvs : List (List Key × V)), xs = [.ref p] ∧ Rd H p (.dT kvs) ∧ Q (.int ((kvs.length : Nat) : Int)) H) := by
  intro pins s σ H xs us Q I r h
  obtain ⟨p, kvs, rfl, hp, q⟩ := h
  obtain ⟨u, rfl, rx⟩ := vals1 r
  obtain rfl : u = .ref p := rx
  obtain ⟨z, hd, ys, rel, dd⟩ := dt_rd I.hok hp
  have hl : kvs.length = ys.length := Paired.length rel
  refine call_len_dictH hd dd (by rw [← hl]; rw [sizeLine_eq] at z; omega) ?_
  rw [← hl]
  exact ⟨.int ((kvs.length : Nat) : Int), H, I.tok _, ⟨_, rfl⟩, q⟩
/-- a thing is locked for good -/
def tStay (t : TS) : TS := fun D σ H => ∃ d u, H d = some u ∧ Mut (some u) ∧ ∀ od, t D σ (upd H d (.frz od u))
theorem ps_stay {X : Cx} {st : Stmt} {t : TS} (h : PS X st t) : PS X st (tStay t) := ⟨fun pins s σ H D I ⟨d, u, hd, mu, hw⟩ =>
  let ⟨od, I1⟩ := I.lock hd mu
  h.run pins s σ _ D I1 (hw od)⟩
theorem pss_stay {X : Cx} {st : List Stmt} {t : TS} (h : PSs X st t) : PSs X st (tStay t) := ⟨fun pins s σ H D I ⟨d, u, hd, mu, hw⟩ =>
  let ⟨od, I1⟩ := I.lock hd mu
  h.run pins s σ _ D I1 (hw od)⟩
/-- a new thing is locked for good -/
def tStayE (t : TE) : TE := fun σ H Q => t σ H fun v H1 => ∃ d u, v = .ref d ∧ H1 d = some u ∧ Mut (some u) ∧ ∀ od, Q v (upd H1 d (.frz od u))
theorem pe_stay {X : Cx} {e : Expr} {t : TE} (h : PE X e t) : PE X e (tStayE t) := ⟨fun pins s σ H Q I hw => thn (h.run pins s σ H _ I hw) fun v s1 ⟨x, H1, I1, r, d, u, ex, hd, mu, q⟩ =>
  let ⟨od, I2⟩ := I1.lock hd mu
  ⟨x, _, I2, r, q od⟩⟩
end L2
namespace DL
open PySem PySem.Spec PyProof.Rows L2
section
variable {c : Ctx} {X : Cx} {o e : Expr} {pos p : Pos} {q qk qv : QE} {qd : List Slot → (List (List Key × D) → Prop) → Prop} {x : Str} {npos : Pos}
def qLenT (qd : List Slot → (List (List Key × D) → Prop) → Prop) : QE := fun ρ Q => qd ρ fun kvs => Q (.int kvs.length)
theorem dlenT (hm : X.mg "len" = none) (ho : PDD c X o qd) (hg : Gl X "len" := by rfl) (he : starEach [o] X.env = (false, eval o X.env) :: starEach [] X.env := by rfl) : PD c X (.Call (.Name "len" p) [o] [] pos) (qLenT qd) := by
  obtain ⟨t, pe, sd⟩ := ho.ex
  refine ⟨_, pe_callB call_len_rdT hg hm PySem.boot_len (pa_cons pe pa_nil he) (by decide) (by decide) he rfl, fun ρ σ G H Q R s h k => ?_⟩
  refine sd ρ σ G H _ _ s h fun v kvs G1 H1 g1 r1 h1 => ?_
  obtain ⟨a, vs, rfl, hr, rf, _⟩ := r1
  exact ⟨a, vs, rfl, hr, k _ _ G1 H1 g1 (.int _) (by rw [rf.len]; exact h1)⟩
def qKeysT (qd : List Slot → (List (List Key × D) → Prop) → Prop) : QA := fun ρ Q => qd ρ fun kvs => Q (keysT kvs)
theorem dlistT (hc : X.calm = true) (hm : X.mg "list" = none) (ho : PDD c X o qd) (hg : Gl X "list" := by rfl) (he : starEach [o] X.env = (false, eval o X.env) :: starEach [] X.env := by rfl) : PDL c X (.Call (.Name "list" p) [o] [] pos) (qKeysT qd) := by
  obtain ⟨t, pe, sd⟩ := ho.ex
  refine ⟨_, pe_callTy (call_list_dT hc) hg hm (by decide +kernel) (pa_cons pe pa_nil he) (by decide) (by decide) he rfl, fun ρ σ G H Q R s h k => ?_⟩
  refine sd ρ σ G H _ _ s h fun v kvs G1 H1 g1 r1 h1 => ?_
  obtain ⟨a, vs, rfl, hr, rf, _⟩ := r1
  refine ⟨a, vs, rfl, hr, fun p bs hp hk => ?_⟩
  have s1 := s.grow g1
  obtain ⟨G2, g2, r2⟩ := see_keys (ds := kvs) s1.core.gh s1.core.bg hk rf.1
  have s2 := s1.grow g2
  have g3 := Grow.fresh (β := c.β) (o := .lst (bs.map V.ref)) s2.core.gh s2.core.bg hp
  exact k p _ _ _ _ ((g1.trans g2 s.hb).trans g3 s.hb) (g1.fr hp) (s2.core.gh.free hp) upd_same r2 h1
/-! a new dict -/
def qSetDT (i : Nat) : QS := fun ρ Φ => ∀ a, Φ.nx (ρ.set i (.own a (.dT [])))
theorem ssetDT (i : Nat) {pos' dpos : Pos} (hN : X.N.Nodup) (hi : X.N[i]? = some x := by rfl) (hx : Loc X.env.scope x := by first | exact .inl rfl | exact .inr rfl) (hs : swapsWith (.Dict [] [] dpos) (some (.Name x pos')) pos.line X.env = pure false := by rfl) (hf : X.fn x = true ∨ X.env.scope.names.lookup x = some .local := by first | exact .inl rfl | exact .inr rfl | assumption) :
    PDS c X (.Assign [.Name x pos'] (.Dict [] [] dpos) pos) (qSetDT i) := by
  refine ⟨_, ps_set hN hi hx pe_dnewT hs hf, fun ρ σ G H Φ D' s h f => fun a ha => ?_⟩
  have g := Grow.fresh (β := c.β) (o := .dT []) s.core.gh s.core.bg ha
  have z := free_of (G' := G) (H' := H) s ha
  exact f.nx _ _ G _ g.gg ((s.grow g).setO (s.core.gh.free ha) z.1 (show ObR c G _ a (.dT []) from ⟨[], upd_same, RepF.nil⟩) z.2) (h a)
/-! d[k] = v -/
def slotOT : Option Slot → (Addr → List (List Key × D) → Prop) → Prop
  | some (.own a (.dT kvs)), Q => Q a kvs
  | _, _ => False
theorem slotOT_inv {o : Option Slot} {Q : Addr → List (List Key × D) → Prop} (h : slotOT o Q) : ∃ a kvs, o = some (.own a (.dT kvs)) ∧ Q a kvs := by
  match o, h with
  | some (.own a (.dT kvs)), h => exact ⟨a, kvs, rfl, h⟩
def qPutT (i : Nat) (qv qk : QE) : QS := fun ρ Φ => qv ρ fun d => slotOT ρ[i]? fun a kvs => qk ρ fun kd => keyR kd fun k => kvs.length < 90000 ∧ Φ.nx (ρ.set i (.own a (.dT (putT kvs k d))))
theorem sputT {ek : Expr} {p' : Pos} (i : Nat) (hu : X.A.units + 65 < cLine) (he : PD c X e qv) (hk : PD c X ek qk) (hN : X.N[i]? = some x := by rfl) (hv : Vis X.env.scope x := by first | exact Or.inl rfl | exact Or.inr (Or.inl rfl) | exact Or.inr (Or.inr rfl)) (hd : (x == ("__debug__" : Str)) = false := by decide)
    (hcd : (x == ("__classdict__" : Str)) = false := by decide) (hs : swapsWith e (some (.Subscript (.Name x npos) ek p')) pos.line X.env = pure false := by rfl) :
    PDS c X (.Assign [.Subscript (.Name x npos) ek p'] e pos) (qPutT i qv qk) := by
  obtain ⟨t, pe, sd⟩ := he.ex
  obtain ⟨tk, pk, sk⟩ := hk.ex
  refine ⟨_, ps_dput (by omega) (pe_var hN hv hd hcd) pk pe hs, fun ρ σ G H Φ D' s h f => ?_⟩
  refine sd ρ σ G H _ _ s h fun v d G1 H1 g1 r1 h1 => ?_
  have s1 := s.grow g1
  obtain ⟨a, kvs, ea, h1⟩ := slotOT_inv h1
  obtain ⟨e1, e2, e3, vs, e4, e5⟩ := s1.sl i _ ea
  refine ⟨.ref a, e1, sk ρ σ G1 H1 _ _ s1 h1 fun w kd G2 H2 g2 r2 h2 => ?_⟩
  obtain ⟨k, rfl, hl, hq⟩ := keyR_inv h2
  have s2 := s1.grow g2
  obtain ⟨_, n2, n3, vs', e4', e5'⟩ := s2.sl i _ ea
  obtain ⟨b, rfl, hb⟩ := rep_dkey r2
  refine ⟨a, _, rfl, DPut.t e4' (s2.core.gh _ _ hb) (by rw [e5'.len, sizeLine_eq]; omega), f.nx _ _ G2 _ (g1.gg.trans g2.gg) (s2.mutO ea ?_) hq⟩
  exact ⟨_, upd_same, e5'.putT (r1.mono g2.gg)⟩
/-! an owned dict is locked: from here on it is data -/
def frzTS (i : Nat) (ρ : List Slot) : List Slot := match ρ[i]? with
  | some (.own _ (.dT kvs)) => ρ.set i (.d (.dT kvs))
  | _ => ρ
theorem Sta.lockT {c : Ctx} {G H : Hp} {σ : L2.St} {ρ : List Slot} {i : Nat} {a : Addr} {kvs : List (List Key × D)} {vs : List (List Key × V)} {od : Obj} (s : Sta c G H σ ρ) (hi : ρ[i]? = some (.own a (.dT kvs))) (hh : H a = some (.dT vs)) (r : RepF G vs kvs) :
    Sta c (upd G a (.frz od (.dT vs))) (upd H a (.frz od (.dT vs))) σ (ρ.set i (.d (.dT kvs))) ∧ Ex G (upd G a (.frz od (.dT vs))) := by
  obtain ⟨es, hg, h0, hr⟩ := s.sl i _ hi
  have x1 : Ex G (upd G a (.frz od (.dT vs))) := Ex.new hg
  have ne0 : ∀ x o, c.H0 x = some o → x ≠ a := fun x o h z => by subst z; rw [h0] at h; cases h
  have nb : ∀ b, c.β = some b → b ≠ a := fun b e z => by subst z; exact s.core.b0 _ e h0
  refine ⟨⟨⟨s.core.g0.trans x1, fun x o h n nt => ?_, fun x o h nt => ?_, fun P h => tab_upd hh nt_dT P (s.core.tb P h), fun x o h nc n => ?_, s.core.gh.upd2, fun b e => ?_, s.core.b0⟩, by simp [s.len], fun j sl e => ?_, fun j k b o1 o2 h1 h2 => ?_⟩, x1⟩
  · rw [upd_ne (ne0 x o h)]; exact s.core.h0 x o h n nt
  · rw [upd_ne (ne0 x o h)]; exact s.core.tn x o h nt
  · by_cases q : x = a
    · rw [q]; exact h0
    · rw [upd_ne q] at h; exact s.core.nw x o h nc n
  · exact (s.core.bg b e).mono x1 (upd_ne (nb b e)) (by rw [upd_ne (nb b e)]; exact (s.core.bg b e).out)
  · rw [List.getElem?_set] at e
    by_cases q : i = j
    · rw [if_pos q] at e
      split at e
      · cases e
        subst q
        exact ⟨.ref a, es, .dT upd_same r.1 (r.mono x1).2⟩
      · cases e
    · rw [if_neg q] at e
      have z := s.sl j sl e
      cases sl with
      | un => trivial
      | d x => obtain ⟨v, e1, r1⟩ := z; exact ⟨v, e1, r1.mono x1⟩
      | raw v => exact z
      | own b ob =>
        obtain ⟨z1, z2, z3, z4⟩ := z
        have nba : b ≠ a := fun w => by subst w; exact q (s.dj i j b _ _ hi e)
        refine ⟨z1, by rw [upd_ne nba]; exact z2, z3, z4.stay x1 (fun y w hy _ _ gy h0y hw => ?_) z2 z3⟩
        have ya : y ≠ a := fun e' => by
          rcases hw with hw | hw
          · exact nba (hw.symm.trans e')
          · subst e'; rw [hh, hw] at hy; cases hy
        rw [upd_ne ya, upd_ne ya]
        exact ⟨gy, hy⟩
  · rw [List.getElem?_set] at h1 h2
    split at h1
    · split at h1 <;> cases h1
    · split at h2
      · split at h2 <;> cases h2
      · exact s.dj j k b _ _ h1 h2
def qFrzT (i : Nat) (q : QS) : QS := fun ρ Φ => slotOT ρ[i]? fun _ kvs => q (ρ.set i (.d (.dT kvs))) Φ
theorem bfrzT {sts : List Stmt} {q1 : QS} (i : Nat) (h : PDB c X sts q1) : PDB c X sts (qFrzT i q1) := by
  obtain ⟨t, p, sd⟩ := h.ex
  refine ⟨_, pss_stay p, fun ρ σ G H Φ D' s hq f => ?_⟩
  obtain ⟨a, kvs, ea, hq⟩ := slotOT_inv hq
  obtain ⟨e1, e2, e3, vs, e4, e5⟩ := s.sl i _ ea
  refine ⟨a, _, e4, trivial, fun od => ?_⟩
  obtain ⟨s', x⟩ := s.lockT (od := od) ea e4 e5
  exact sd _ σ _ _ Φ D' s' hq (f.mono x)
theorem sfrzT {st : Stmt} {q1 : QS} (i : Nat) (h : PDS c X st q1) : PDS c X st (qFrzT i q1) := by
  obtain ⟨t, p, sd⟩ := h.ex
  refine ⟨_, ps_stay p, fun ρ σ G H Φ D' s hq f => ?_⟩
  obtain ⟨a, kvs, ea, hq⟩ := slotOT_inv hq
  obtain ⟨e1, e2, e3, vs, e4, e5⟩ := s.sl i _ ea
  refine ⟨a, _, e4, trivial, fun od => ?_⟩
  obtain ⟨s', x⟩ := s.lockT (od := od) ea e4 e5
  exact sd _ σ _ _ Φ D' s' hq (f.mono x)
/-! a dict is walked -/
theorem walks_dT {c : Ctx} {G : Hp} {a : Addr} {od : Obj} {vs : List (List Key × V)} {ds : List (List Key × D)} (e : G a = some (.frz od (.dT vs))) (r : RepF G vs ds) : Walks c (Itkt a od vs) G (keysT ds) := by
  intro G1 H1 g gh b _
  have e1 : H1 a = some (.frz od (.dT vs)) := gh _ _ (g _ _ e)
  have hl : (keysT ds).length = vs.length := by rw [r.len]; simp [keysT]
  refine ⟨fun i it h => ?_, ?_⟩
  · have hi : i < vs.length := by rw [← hl]; exact (List.getElem?_eq_some_iff.mp h).1
    refine ⟨⟨e1, hi⟩, fun x H2 y => ?_⟩
    obtain ⟨rfl, k, v, q, h1, rfl, h2⟩ := y
    obtain ⟨G2, g2, e2⟩ := Grow.see gh b h2
    refine ⟨G2, g2, ?_⟩
    have : it = .tup (k.map keyD) := by
      unfold keysT at h
      rw [List.getElem?_map] at h
      cases q : ds[i]? with
      | none => rw [q] at h; cases h
      | some p =>
        rw [q] at h
        cases h
        have z : (vs.map (·.1))[i]? = (ds.map (·.1))[i]? := by rw [r.1]
        rw [List.getElem?_map, List.getElem?_map, h1, q] at z
        have z : k = p.1 := by simpa using z
        rw [z]
    rw [this]
    exact .tup e2 (rep_keys (G := G2) k).1 (rep_keys (G := G2) k).2
  · rw [hl]
    exact ⟨e1, Nat.le_refl _⟩
def iSqT (q : QE) : QI := fun ρ Q => q ρ fun d => dctR d fun kvs => Q (keysT kvs)
theorem isqT {tg : Expr} (he : PD c X e q) : PDI c X tg e (iSqT q) := by
  obtain ⟨t, p, sd⟩ := he.ex
  refine ⟨_, pi_keys p, fun ρ σ G H Q R s hq k => sd ρ σ G H _ _ s hq fun v d G' H' g r h => ?_⟩
  obtain ⟨kvs, rfl, h⟩ := dctR_inv h
  cases r with
  | dT e n r => exact ⟨_, _, rfl, .inr ⟨_, g.gh _ _ e, k _ _ G' H' g (walks_dT e ⟨n, r⟩) h⟩⟩
end
end DL

/-! ### == of two dicts whose keys are tuples -/
namespace L2
open PySem PySem.Spec PyProof.Rows
section
variable {prog : Program} {w : World} {κ : Type} [DecidableEq κ] {knd : HeapKind prog w κ} {A : Around} {s : Shared}
/-- what the items of one dict find in another, in order, up to the first that differs -/
inductive HitsT (A : Around) (s : Shared) (kb : List (κ × Addr × Value)) : List (κ × Addr × Value) → Bool → Prop
  | nil : HitsT A s kb [] true
  | miss {x : κ × Addr × Value} {r : List (κ × Addr × Value)} : atKey kb x.1 = none → HitsT A s kb (x :: r) false
  | hit {x : κ × Addr × Value} {r : List (κ × Addr × Value)} {p : Addr × Value} {e b : Bool} : atKey kb x.1 = some p → SeqAt.EqAt A s x.2.2 p.2 e → (e = true → HitsT A s kb r b) → HitsT A s kb (x :: r) (e && b)
theorem same_pairsT {nm : String} {a b : Addr} {xs ys : List (κ × Addr × Value)} {r : Bool} {E : Value → Shared → Prop} {Q : Bool → Shared → Prop} (hu : knd.room A) (ha : (a == sysModules) = false) (hb : (b == sysModules) = false)
    (da : s.heap.DictOfH knd a xs) (db : s.heap.DictOfH knd b ys) (hits : xs.length = ys.length → HitsT A s ys xs r) (h : Q (decide (xs.length = ys.length) && r) s) : wpAny (model prog w) A (Builtin.Dict.samePairs nm a b) Q E s := by
  obtain ⟨oa, ea, pa, ga, _, dta, la, ia, na⟩ := da
  obtain ⟨ob, eb, pb, gb, _, dtb, lb, ib, nb⟩ := db
  have sa := size_of_entries la
  have sb := size_of_entries lb
  unfold Builtin.Dict.samePairs Builtin.Dict.showsAll
  simp only [ha, hb, Bool.false_eq_true, if_false]
  refine wpAny_bind (wpAny_pure (wpAny_bind (wpAny_pure (wpAny_bind (wpAny_dictEntries ga dta ?_)))))
  refine wpAny_bind (wpAny_dictEntries gb dtb ?_)
  by_cases hs : ea.size = eb.size
  · have hl : xs.length = ys.length := by omega
    have q : Q r s := by rw [decide_eq_true hl, Bool.true_and] at h; exact h
    have hits := hits hl
    rw [if_neg (by simp [hs])]
    refine wpAny_bind (wpAny_dictEpoch ga dta ?_)
    refine wpAny_bind ?_
    rw [Std.Legacy.Range.forIn_eq_forIn_range']
    simp only [Std.Legacy.Range.size, Nat.sub_zero, Nat.add_sub_cancel, Nat.div_one]
    have start : List.range' 0 ea.size = List.range' 0 (xs.drop 0).length := by rw [List.drop_zero, sa]
    refine wpAny_forIn_list _ (fun rest v s' => s' = s ∧ v = (none, ()) ∧ ∃ i, rest = List.range' i (xs.drop i).length ∧ HitsT A s ys (xs.drop i) r) _ ?_ ?_ _ _ ⟨rfl, rfl, 0, start, hits⟩
    · rintro j rest v s' ⟨rfl, rfl, i, hr, ht⟩
      cases hx : xs.drop i with
      | nil => rw [hx] at hr; simp at hr
      | cons x tl =>
        have hi : i < xs.length := by
          rcases Nat.lt_or_ge i xs.length with z | z
          · exact z
          · rw [List.drop_eq_nil_of_le z] at hx; cases hx
        have hxi : xs[i]? = some x := by
          have : (xs.drop i)[0]? = some x := by rw [hx]; rfl
          rw [List.getElem?_drop] at this
          simpa using this
        have htl : tl = xs.drop (i + 1) := by
          have := congrArg List.tail hx
          rw [List.tail_drop] at this
          exact this.symm
        rw [hx, List.length_cons, List.range'_succ] at hr
        injection hr with e1 e2
        subst e1
        rw [hx] at ht
        refine wpAny_bind (wpAny_dictEntries ga dta ?_)
        rw [entry_at la j, hxi]
        show wpAny _ _ (holding [Value.ref x.2.1, x.2.2] _ >>= _) _ _ _
        have hk := ia x (List.mem_of_getElem? hxi)
        refine wpAny_bind (wpAny_holding (wpAny_bind (wpAny_dictFind_heap hu hk gb dtb lb ib nb (fun no => ?_) (fun m p hm => ?_))))
        · have z := atKey_none_of_get no
          cases ht with
          | miss _ =>
            refine wpAny_pure ?_
            show wpAny _ _ (if (!false) = true then _ else _) _ _ _
            rw [if_pos (by decide)]
            exact wpAny_pure (wpAny_pure q)
          | hit h1 _ _ => rw [z] at h1; cases h1
        · have z := atKey_of_get nb hm
          cases ht with
          | miss h1 => rw [z] at h1; cases h1
          | @hit _ _ p' e b' h1 h2 h3 =>
            rw [z] at h1
            cases h1
            refine wpAny_bind (wpAny_dictEntries gb dtb ?_)
            rw [entry_at lb m, hm]
            refine wpAny_holding (h2 _ _ _ _ ?_)
            cases e with
            | false =>
              rw [Bool.false_and] at q
              show wpAny _ _ (if (!false) = true then _ else _) _ _ _
              rw [if_pos (by decide)]
              exact wpAny_pure (wpAny_pure q)
            | true =>
              show wpAny _ _ (if (!true) = true then _ else _) _ _ _
              rw [if_neg (by decide)]
              refine wpAny_bind (wpAny_dictEpoch ga dta ?_)
              rw [if_neg (by simp)]
              refine wpAny_pure ⟨rfl, rfl, j + 1, by rw [← htl]; exact e2, ?_⟩
              rw [← htl, Bool.true_and]
              exact h3 rfl
    · rintro v s' ⟨rfl, rfl, i, hr, ht⟩
      refine wpAny_pure ?_
      cases hx : xs.drop i with
      | nil =>
        rw [hx] at ht
        cases ht
        exact q
      | cons x tl => rw [hx] at hr; simp at hr
  · have hl : ¬ xs.length = ys.length := by omega
    rw [decide_eq_false hl, Bool.false_and] at h
    rw [if_pos (by simpa using hs)]
    exact wpAny_bind (wpAny_rule (wpAny_pure h))
theorem eq_dictsT {a b : Addr} {xs ys : List (κ × Addr × Value)} {r : Bool} {E Q : Value → Shared → Prop} (hu : knd.room A.in1) (hu2 : A.units < cLine) (ha : (a == sysModules) = false) (hb : (b == sysModules) = false)
    (da : s.heap.DictOfH knd a xs) (db : s.heap.DictOfH knd b ys) (hits : xs.length = ys.length → HitsT A.in1 s ys xs r) (h : Q (.bool (decide (xs.length = ys.length) && r)) s) : wpAny (model prog w) A (compareOp .Eq (.ref a) (.ref b)) Q E s := by
  refine wpAny_richCompare_same_room (op := .Eq) da.typeIs db.typeIs PySem.F.slot_dict_eq (wpAny_call_entry PySem.F.slot_dict_eq da.typeIs PySem.F.entry_dict_eq ?_ (PySem.F.args_dict_eq_2 _ _)) hu2
  show wpAny _ _ (Builtin.Dict.dictSlotArgs "__eq__" ⟨[.ref a, .ref b], []⟩ >>= _) _ _ s
  unfold Builtin.Dict.dictSlotArgs
  refine wpAny_bind (wpAny_bind (wpAny_notOrdered_dict da.typeIs ?_))
  refine wpAny_pure (wpAny_bind (wpAny_isInstance (T := "dict") db.typeIs PySem.F.sub_dict_dict ?_))
  simp only [Bool.not_true, Bool.false_eq_true, if_false]
  refine wpAny_bind (wpAny_pure (wpAny_bind (wpAny_pure (wpAny_bind (same_pairsT hu ha hb da db hits ?_)))))
  refine wpAny_pure ⟨_, rfl, ?_, by simpa using h⟩
  intro z
  cases z
end
end L2
/-! ### dict comprehensions, the keys of either kind -/
namespace L2
open PySem PySem.Spec PyProof.Rows
/-- dictSet does what the store does -/
theorem d_dictSetG {X : Cx} {pins : List (Addr × Obj)} {σ : St} {H H' : Hp} {s : Shared} {E : Value → Shared → Prop} {a : Addr} {y v : V} {u r : Value} {Q : Unit → Shared → Prop} (hu : X.A.units + 1 < cLine) (I : Inv X pins σ H s) (g : DPut H a y v H') (ry : RelV y u) (rv : RelV v r)
    (h : ∀ s', Inv X pins σ H' s' → Q () s') : wpAny (model X.prog X.w) X.A (dictSet a u r) Q E s := by
  rcases g with ⟨kvs, k, e, ey, l, eH⟩ | ⟨kvs, k, b, e, ey, eb, l, eH⟩
  · subst ey eH
    exact d_dictSet I e l ry rv h
  · subst ey eH
    cases (show u = Value.ref b from ry)
    obtain ⟨z, hd, xs, rel, dd⟩ := dt_of I.hok e
    have hl : (putK kvs k v).length ≤ sizeLine := by have := length_putK kvs k v; omega
    refine wpAny_dictSet_heap (hsz := by rw [← Paired.length rel]; exact z) (show (tupleKind (mixKind X.prog X.w)).room X.A from Nat.lt_of_succ_lt (by simpa using hu)) (key_of I.hok eb) dd fun h' dd' hs => h _ ?_
    obtain ⟨q, es, ep, hq, h2, h3, h4, _, h5⟩ := dd'
    refine d_write I (by rw [e]; exact True.intro) hs ⟨q, hq⟩ ⟨hl, hd, _, (rel.put k eb rv).keeps fun c ys ec => ?_, q, es, ep, hq, h2, h3, h4, h5⟩
    rw [upd_ne (ne_of ec e (fun z => nomatch z))]
    exact ec
section
variable {X : Cx}
/-- what an empty dict is known as -/
structure Empty0 (o0 : HO) : Prop where
  ok : ∀ (P : Program) (w : World) (H : Hp) (h : Heap), sysModules < h.objs.size → ObjOk P w H (h.push { cls := .type "dict", data := .dict #[] }) h.objs.size o0
def tDcG (o0 : HO) (wi : TI) (g : TG) (tt : TT) (tk tv : TE) (vs : List Nat) : TE := fun σ H Q => wi σ H fun J H1 => ∀ D, H1 D = none → ∃ W : Nat → Nat → Hp → Prop, (∃ m, W 0 m (upd H1 D o0)) ∧ ∀ i m H, W i m H →
  (J.stop i H ∧ Q (.ref D) H) ∨ (J.go i H ∧ ∃ Nx : Hp → Prop, (∀ H', Nx H' → ∃ m', m' < m ∧ W (i + 1) m' H') ∧ ∀ x H', J.yld i H x H' → g x (wipe σ vs) H' fun σ2 H2 => wipe σ2 vs = wipe σ vs ∧ tt σ2 H2 fun b H3 =>
    if b = true then tk σ2 H3 fun y H4 => tv σ2 H4 fun z H5 => ∃ H6, DPut H5 D y z H6 ∧ Nx H6 else Nx H3)
abbrev BlkP (X : Cx) (scope : Scope) (P : Cx → Prop) : Prop := ∀ (s : Shared) (H : Hp) (C : Addr) (cl : List (Str × Addr)) (fp : List Addr), P (X.blk s H scope (compEnvC scope cl C X.env) fp)
theorem pe_dcG {o0 : HO} {kx vx tg iter : Expr} {ifs : List Expr} {scope : Scope} {own : List (Str × Nat)} {pos : Pos} {wi : TI} {g : TG} {tt : TT} {tk tv : TE} (h0 : Empty0 o0) (hu : X.A.units + 1 < cLine) (hc : X.calm = true) (hN : X.N.Nodup) (hi : PI X tg iter wi) (ok : BlkOk X.N X.env.scope scope own)
    (hg : BlkP X scope fun Y => PG Y tg g) (ht : BlkP X scope fun Y => PTs Y ifs tt) (hk : BlkP X scope fun Y => PE Y kx tk) (he : BlkP X scope fun Y => PE Y vx tv) (hs : ∀ x, foldedSetIterable iter X.env x = pure x := by intro _; rfl) :
    PE X (.DictComp kx vx [⟨tg, iter, ifs, 0⟩] scope pos) (tDcG o0 wi g tt tk tv (own.map (·.2))) := by
  refine ⟨fun pins s σ H Q I h => ?_⟩
  rw [arm_eval_DictComp]
  have free : ∀ y ∈ scope.names, y.2 = .free → ∃ c, X.env.cells.lookup y.1 = some c := fun y hy e =>
    (ok.free y hy e).elim (fun k => I.ok.has _ (.inl k)) (fun k => I.ok.has _ (.inr k))
  refine wpAny_comprehension_free rfl hs (closure_ok free) ok.kind (fun y hy e => (ok.uniq y hy).trans (by rw [e])) ?_
  refine thn (hi.run pins s σ H _ I h) fun _ s1 k1 => thn k1 fun _ s2 ⟨it, fp, tn, J, H2, ei, I2, T, st2, f2, q⟩ => ?_
  subst ei
  refine wpAny_newObj_type (newEnv_comp ?_)
  have hp : H2 s2.heap.objs.size = none := I2.hok.fresh (Nat.le_refl _)
  obtain ⟨W, ⟨m0, w0⟩, turn⟩ := q _ hp
  -- the def's frame behind the making of the dict
  let s3 : Shared := { s2 with heap := s2.heap.push { cls := .type "dict", data := .dict #[] } }
  have kp3 : ∀ b o, s2.heap.get? b = some o → s3.heap.get? b = some o := fun b o e => Heap.get?_push_of_some _ e
  have I3 : Inv X pins σ (upd H2 s2.heap.objs.size o0) s3 := I2.laid (t' := s2.toks) kp3 (Nat.le_refl _) (h0.ok _ _ _ _ I2.big)
  have fp3 : ∀ b ∈ fp, FpOk X pins (upd H2 s2.heap.objs.size o0) b ∧ b < s3.heap.objs.size := fun b hb => by
    obtain ⟨o, eo, _⟩ := T.obj _ _ st2 b hb
    have lt := Heap.lt_size eo
    exact ⟨⟨by rw [upd_ne (Nat.ne_of_lt lt)]; exact (f2 b hb).1, (f2 b hb).2⟩, Heap.lt_size (kp3 b o eo)⟩
  obtain ⟨H3, eH3⟩ : ∃ H3, H3 = upd H2 s2.heap.objs.size o0 := ⟨_, rfl⟩
  rw [← eH3] at I3 fp3 w0
  -- the block's frame
  have I4 := block_start I3 ok hN fp3
  obtain ⟨ce, ece⟩ : ∃ ce, ce = compEnvC scope (cellsFrom (s3.heap.objs.size + 1) scope.names (cloFrom X.env.cells scope.names [])) s3.heap.objs.size X.env := ⟨_, rfl⟩
  have pg := hg s3 H3 s3.heap.objs.size (cellsFrom (s3.heap.objs.size + 1) scope.names (cloFrom X.env.cells scope.names [])) fp
  have pt := ht s3 H3 s3.heap.objs.size (cellsFrom (s3.heap.objs.size + 1) scope.names (cloFrom X.env.cells scope.names [])) fp
  have pk := hk s3 H3 s3.heap.objs.size (cellsFrom (s3.heap.objs.size + 1) scope.names (cloFrom X.env.cells scope.names [])) fp
  have pv := he s3 H3 s3.heap.objs.size (cellsFrom (s3.heap.objs.size + 1) scope.names (cloFrom X.env.cells scope.names [])) fp
  rw [← ece] at I4 pg pt pk pv
  show codeAny _ _ (.compStart (.DictComp kx vx [⟨tg, iter, ifs, 0⟩] scope pos) 0 (.ref it) (.ref s2.heap.objs.size) (compEnvC scope (cellsFrom (s3.heap.objs.size + 1) scope.names (cloFrom X.env.cells scope.names [])) s3.heap.objs.size X.env)) _ { s3 with heap := pushCells (s3.heap.push { cls := .type "dict", data := .dict #[] }) scope.names }
  rw [← ece]
  have loc : ce.locals = s3.heap.objs.size := by rw [ece]; rfl
  obtain ⟨s4, es4⟩ : ∃ s4 : Shared, s4 = { s3 with heap := pushCells (s3.heap.push { cls := .type "dict", data := .dict #[] }) scope.names } := ⟨_, rfl⟩
  have kp4 : ∀ b o, s3.heap.get? b = some o → s4.heap.get? b = some o := fun b o e => by rw [es4]; exact pushCells_keeps _ _ _ _ (Heap.get?_push_of_some _ e)
  rw [← es4] at I4 ⊢
  have st4 : tn 0 s4.heap := T.keep _ _ _ st2 fun b _ o e => kp4 b o (kp3 b o e)
  let Y := X.blk s3 H3 scope ce fp
  have foot : ∀ {τ : St} {H' : Hp} {s' : Shared}, Inv Y [] τ H' s' → (∀ b ∈ fp, H' b = none) → ∀ b ∈ fp, FpOk Y [] H' b := fun {τ H' s'} I' n b hb =>
    ⟨n b hb, (I'.ok.exf b hb).1, I'.ok.exfs b hb, .inl hb, fun x c e => (I'.ok.exf b hb).2 x c e, fun p hp => absurd (show p ∈ ([] : List (Addr × Obj)) ++ [] from hp) (by simp)⟩
  have loop : codeAny (model X.prog X.w) X.A (.compLoop (.DictComp kx vx [⟨tg, iter, ifs, 0⟩] scope pos) 0 (.ref it) (.ref s2.heap.objs.size) ce) (compPost (model X.prog X.w) X.A X.xe none (fun v s' => ∃ x H', Inv X pins σ H' s' ∧ RelV x v ∧ Q x H') (.ref s2.heap.objs.size) s3.heap.objs.size) s4 := by
    refine compLoop_anyD (fun n s' => ∃ i H', Inv Y [] (wipe σ (own.map (·.2))) H' s' ∧ tn i s'.heap ∧ (∀ b ∈ fp, H' b = none) ∧ W i n H') (fun n s5 ⟨i, H5, I5, st5, n5, w5⟩ => ?_) m0 ⟨0, H3, I4, st4, fun b hb => (fp3 b hb).1.1, w0⟩
    rcases turn i n H5 w5 with ⟨stop, qq⟩ | ⟨go, Nx, hNx, step⟩
    · refine thnF (T.done Y rfl rfl rfl hc i [] s5 _ H5 (fun _ _ => False) I5 (foot I5 n5) st5 stop) fun r s6 ⟨hr, I6⟩ => ?_
      subst hr
      have I7 : Inv X pins σ H5 s6 := I3.call' (ch := fp) I6.os I6.base I6.hok I6.bare fun b hb =>
        let f := (fp3 b hb).1
        ⟨f.2.2.2.1, f.2.1, f.2.2.2.2.1, f.2.2.2.2.2⟩
      have nC : H5 s3.heap.objs.size = none := loc ▸ (show H5 ce.locals = none from I6.free)
      obtain ⟨m, hm, _⟩ := I6.loc
      refine ⟨m, loc ▸ hm, fun h'' sb => ?_⟩
      obtain ⟨f0, f1, _, f3, f4, f5⟩ := I3.fpOk (Nat.le_refl _) nC
      exact ⟨.ref _, H5, I7.turned (t' := s6.toks) (fun b o hb e => (sb.2 b hb).trans e) f0 f1 f3 f4 f5, rfl, qq⟩
    · refine thnF (T.item Y rfl rfl rfl hc i [] s5 _ H5 (fun _ _ => False) I5 (foot I5 n5) st5 go) fun r s6 ⟨u, hr, k6⟩ => ?_
      subst hr
      refine thnF k6 fun _ s7 ⟨x, H7, I7, r7, y7, st7, n7⟩ => ?_
      refine thnF (pg.run _ s7 _ H7 x u _ (I7.pinned (foot I7 n7) (T.obj _ _ st7)) r7 (step x H7 y7)) fun _ s8 ⟨σ8, H8, I8, w8, q8⟩ => ?_
      refine thnF (pt.run _ s8 σ8 H8 _ I8 q8) fun b s9 ⟨H9, I9, q9⟩ => ?_
      have back : ∀ {s' : Shared} {H' : Hp}, Inv Y ([] ++ pinsAt fp s7.heap) σ8 H' s' → Nx H' → ∃ m, m < n ∧ ∃ i H', Inv Y [] (wipe σ (own.map (·.2))) H' s' ∧ tn i s'.heap ∧ (∀ b ∈ fp, H' b = none) ∧ W i m H' := fun {s' H'} I' nx => by
        obtain ⟨m', lt, w'⟩ := hNx H' nx
        have pin : ∀ b ∈ fp, ∀ o, s7.heap.get? b = some o → s'.heap.get? b = some o ∧ H' b = none := fun b hb o e =>
          have z := I'.pin (b, o) (List.mem_append_right _ (List.mem_append_right _ (mem_pinsAt hb e)))
          ⟨z.1, z.2.1⟩
        refine ⟨m', lt, i + 1, H', (I'.unpinned (pins := [])).weak (by rw [← w8, wipe_length]) (fun j v e => ?_), T.keep _ _ _ st7 fun b hb o e => (pin b hb o e).1, fun b hb => ?_, w'⟩
        · rw [← w8] at e
          exact (wipe_some e).1
        · obtain ⟨o, e, _⟩ := T.obj _ _ st7 b hb
          exact (pin b hb o e).2
      cases b with
      | false => exact back I9 q9
      | true =>
        show wpAny _ _ _ _ _ _
        refine thnF (pk.run _ s9 σ8 H9 _ I9 q9) fun z s10 ⟨yk, H10, I10, r10, q10⟩ => thnF (pv.run _ s10 σ8 H10 _ I10 q10) fun z2 s11 ⟨yv, H11, I11, r11, H12, dp, nx⟩ => ?_
        exact d_dictSetG (X := Y) hu I11 dp r10 r11 fun s12 I12 => back I12 nx
  exact codeAny_compStart_dict loop (T.self X.A 0 _ _ _ st4 loop)
end
end L2

/-! ### dicts of data: ==, comprehensions; instances that are called -/
namespace L2
open PySem PySem.Spec PyProof.Rows
/-- the int that a table of ints has at a key -/
def getI {κ : Type} [DecidableEq κ] (t : List (κ × Int)) (k : κ) : Option Int := (t.find? fun p => decide (p.1 = k)).map (·.2)
def eqTab {κ : Type} [DecidableEq κ] (t u : List (κ × Int)) : Bool := decide (t.length = u.length) && t.all fun p => decide (getI u p.1 = some p.2)
theorem valV_ints {κ : Type} [DecidableEq κ] (k : κ) : ∀ u : List (κ × Int), valV (u.map fun p => (p.1, V.int p.2)) k = (getI u k).map V.int
  | [] => rfl
  | p :: u => by
    rw [List.map_cons]
    by_cases q : p.1 = k
    · rw [valV_pos (p := (p.1, V.int p.2)) q]
      simp [getI, q]
    · rw [valV_neg (p := (p.1, V.int p.2)) q, valV_ints k u]
      simp [getI, q]
theorem hits_ints {A : Around} {s : Shared} {H : Hp} {u : List (List Key × Int)} {ys : List (List Key × Addr × Value)} (ry : KT H (u.map fun p => (p.1, V.int p.2)) ys) :
    ∀ {t : List (List Key × Int)} {xs : List (List Key × Addr × Value)}, KT H (t.map fun p => (p.1, V.int p.2)) xs → HitsT A s ys xs (t.all fun p => decide (getI u p.1 = some p.2))
  | [], _, r => by cases r; exact .nil
  | p :: t, x :: xs, r => by
    cases r with
    | cons h r =>
    obtain ⟨h1, _, h3⟩ := h
    have h1 : p.1 = x.1 := h1
    obtain ⟨tk, h3⟩ := (show ∃ tk, x.2.2 = Value.int p.2 tk from h3)
    have z := ry.val x.1
    rw [valV_ints] at z
    rw [List.all_cons]
    cases e : atKey ys x.1 with
    | none =>
      rw [e] at z
      cases q : getI u x.1 with
      | some i => rw [q] at z; exact (show False from z).elim
      | none =>
        rw [h1, q, decide_eq_false (by simp), Bool.false_and]
        exact .miss e
    | some y =>
      rw [e] at z
      cases q : getI u x.1 with
      | none => rw [q] at z; exact (show False from z).elim
      | some i =>
        rw [q] at z
        obtain ⟨tk', z⟩ := (show ∃ tk', y.2 = Value.int i tk' from z)
        rw [h1, q]
        refine .hit e ?_ fun _ => hits_ints ry r
        rw [h3, z]
        have this := PySem.W.keq_flat (A := A) (s := s) (v := .int p.2 tk) (y := .int i tk') (d := .int p.2) (e := .int i) (.int _ _) (.int _ _)
        have e2 : PyData.eqv (.int p.2) (.int i) = decide (some i = some p.2) := by
          show (p.2 == i) = _
          by_cases q : p.2 = i
          · simp [q]
          · rw [decide_eq_false (by simpa using Ne.symm q)]
            simpa using q
        rw [← e2]
        exact this
  | _ :: _, [], r => by cases r
def rEqT : R2 := fun x y H Q => ∃ (a b : Addr) (t u : List (List Key × Int)), x = .ref a ∧ y = .ref b ∧ Rd H a (.dT (t.map fun p => (p.1, V.int p.2))) ∧ Rd H b (.dT (u.map fun p => (p.1, V.int p.2))) ∧ Q (.bl (eqTab t u)) H
theorem op_eqT {X : Cx} (hu : X.A.units + 1 < cLine) : OpR X (compareOp .Eq) rEqT := by
  intro pins s σ H x y v u Q I rx ry h
  obtain ⟨a, b, t, t', rfl, rfl, ea, eb, q⟩ := h
  obtain rfl : v = Value.ref a := rx
  obtain rfl : u = Value.ref b := ry
  obtain ⟨_, na, xs, ra, da⟩ := dt_rd I.hok ea
  obtain ⟨_, nb, ys, rb, db⟩ := dt_rd I.hok eb
  have la : t.length = xs.length := by have := Paired.length ra; simpa using this
  have lb : t'.length = ys.length := by have := Paired.length rb; simpa using this
  refine eq_dictsT (tupleKind_room_in1 hu) (by omega) na nb da db (fun _ => hits_ints rb ra) ⟨.bl (eqTab t t'), H, I.tok _, ?_, q⟩
  show Value.bool _ = Value.bool _
  unfold eqTab
  rw [la, lb]
section
variable {X : Cx} {CX : CXT} {k : Nat} {fe e : Expr} {es : List Expr} {tf : TE} {t : TA} {E : XK} {sp : Sp} {C f : Addr} {fd : FuncData} {ps ks : List Str} {pos : Pos} {kws : List Keyword}
/-- the call of an instance, keywords alone -/
theorem callWith_inst {M : Model} {A : Around} {E : Value → Shared → Prop} {s : Shared} {a : Addr} {args : List (Bool × Sem Value)} {kw : List (Option Str × Sem Value)} {Q : Value → Shared → Prop} (hp : (args.any (·.1) || kw.any (·.1.isNone)) = false)
    (h : wpAny M A (evalArgs (.ref a) true args kw) (fun z s1 => (∃ C ox od, PySem.W.InstAt s1.heap a ox C od ∧ ox.data = .plain) ∧ wpAny M A (call (.ref a) z.pos z.kw) Q E s1) E s) : wpAny M A (callWith pos (.ref a) [] args kw) Q E s := by
  unfold callWith
  refine wpAny_bind (wpAny_holding (thn h fun z s1 ⟨⟨C, ox, od, J, hd⟩, h1⟩ => wpAny_bind (wpAny_standAt ?_)))
  simp only [hp]
  refine wpAny_bind ((PySem.W.kco_keeper (M := M) J hd).here ?_)
  exact wpAny_bind (wpAny_mono (wpAny_operateT h1) (fun r s2 hr => wpAny_bind (wpAny_holding (wpAny_point (wpAny_pure hr)))) fun _ _ y => y)
/-- x(k=e), x an instance of a class with an own __call__ -/
theorem pe_callIK (hf : PE X fe tf) (c : StX.CallO X.K C f) (F : FnOk X.prog X.w X.K X.mg X.base CX k f fd ps sp) (hr : Room k X.A) (hb : KBinds X.K fd ps ks DL.kwM DL.kwM) (hx : Passes CX X E) (ha : PK X kws t)
    (hall : (backToKw pos (keywordEach kws X.env)).all (·.1.isSome) = true) (hks : (backToKw pos (keywordEach kws X.env)).filterMap (·.1) = ks)
    (hpl : ((backTo pos (starEach [] X.env)).any (·.1) || (backToKw pos (keywordEach kws X.env)).any (·.1.isNone)) = false)
    (ht : eval (.Call fe [] kws pos) X.env = (do callWith pos (← eval fe X.env) [] (backTo pos (starEach [] X.env)) (backToKw pos (keywordEach kws X.env)))) :
    PE X (.Call fe [] kws pos) (StX.tCallO X C sp E tf t) := by
  refine ⟨fun pins s σ H Q I h => ?_⟩
  rw [ht]
  refine wpAny_bind (thn (hf.run pins s σ H _ I h) fun u s1 ⟨y, H1, I1, ry, a, ey, q⟩ => ?_)
  subst ey
  obtain rfl : u = Value.ref a := ry
  refine callWith_inst hpl (evalArgs_kw2_nil hall (thn (ha.run pos pins s1 σ H1 _ I1 q) fun ws s2 ⟨zs, H2, I2, rz, hi, q2⟩ => ?_))
  obtain ⟨ox, od, J, hd⟩ := StX.insC_at I2 hi
  refine ⟨⟨C, ox, od, J, hd⟩, wpAny_call (PySem.W.kco_code I2.kIn J hd c.at_ c.fn c.fi ?_)⟩
  rw [hks]
  have r2 := hb.rel (us := [.ref a]) (vs := [.ref a]) (.cons rfl .nil) rz
  have hl : (DL.kwM [Value.ref a] ws).length = ps.length := by rw [← r2.length]; exact F.len _ _ _ _ q2
  refine codeAny_mono (F.run X.A X.stack s2 H2 ⟨[.ref a], ks.zip ws⟩ (DL.kwM [.ref a] ws) (DL.kwM [.ref a] zs) Q E hr I2.env0 (hb.to s2 [.ref a] ws I2.kIn hl) r2 q2) fun r s' hq => ?_
  cases r with
  | error e => exact hx pins σ H2 s2 e s' I2 hq
  | ok fl =>
    cases fl with
    | ret u => exact I2.after hq
    | next => exact False.elim hq
    | brk => exact False.elim hq
    | cont => exact False.elim hq
end
end L2

/-! ### dicts of data: ==, comprehensions; instances that are called: over data -/
namespace DL
open PySem PySem.Spec PyProof.Rows L2
/-- a table of ints as a dict -/
def tabD (t : List (List Key × Int)) : List (List Key × D) := t.map fun p => (p.1, .int p.2)
theorem RepF.intsK {κ : Type} {G : Hp} : ∀ {vs : List (κ × V)} {t : List (κ × Int)}, RepF G vs (t.map fun p => (p.1, D.int p.2)) → vs = t.map fun p => (p.1, V.int p.2)
  | [], [], _ => rfl
  | v :: vs, p :: t, h => by
    have e : v.1 = p.1 := RepF.hd (e := (p.1, D.int p.2)) h
    have r : Rep G v.2 (.int p.2) := h.2 0 v (p.1, D.int p.2) rfl rfl
    have rt : RepF G vs (t.map fun p => (p.1, D.int p.2)) := RepF.tl (e := (p.1, D.int p.2)) h
    obtain ⟨v1, v2⟩ := v
    dsimp only at e r
    subst e
    cases r
    rw [RepF.intsK rt]; rfl
  | [], _ :: _, h => by have := h.1; simp at this
  | _ :: _, [], h => by have := h.1; simp at this
def eqTR : D → D → (D → Prop) → Prop
  | .dT ks, .dT ls, Q => ∃ t u, ks = tabD t ∧ ls = tabD u ∧ Q (.bl (eqTab t u))
  | _, _, _ => False
theorem opd_eqT : OpD rEqT eqTR := by
  intro β G H x y a b Q R hgh hbg ra rb h k
  match a, b, h with
  | .dT ks, .dT ls, ⟨t, u, e1, e2, h⟩ =>
    subst e1 e2
    cases ra with
    | dT ea na qa =>
    cases rb with
    | dT eb nb qb =>
    have z1 := RepF.intsK (t := t) ⟨na, qa⟩
    have z2 := RepF.intsK (t := u) ⟨nb, qb⟩
    subst z1 z2
    exact ⟨_, _, t, u, rfl, rfl, .inr ⟨_, hgh _ _ ea⟩, .inr ⟨_, hgh _ _ eb⟩, opd_ret hgh hbg k (.bl _) h⟩
section
variable {c : Ctx} {X : Cx} {a b e o : Expr} {qa qb q : QE} {pos p : Pos}
theorem deqT (hu : X.A.units + 65 < cLine) (ha : PD c X a qa) (hb : PD c X b qb) : PD c X (.Compare a [.Eq] [b] pos) (qOp eqTR qa qb) := PD.cmp (op_eqT (by omega)) opd_eqT ha hb (nomark _)
theorem teqT (hu : X.A.units + 65 < cLine) (ha : PD c X a qa) (hb : PD c X b qb) : PDT c X (.Compare a [.Eq] [b] pos) (qTest (qOp eqTR qa qb)) := PDT.cmp (op_eqT (by omega)) opd_eqT ha hb (nomark _)
end
/-! a dict comprehension: a dict that is data -/
def dcB (items : List D) (g : QG) (qt : QT) (qk qv : QE) (vs : List Nat) (ρ : List Slot) (Q : List (List Key × D) → Prop) : Prop := items.length ≤ 90000 ∧ ∃ Pv : Nat → List (List Key × D) → Prop, Pv 0 [] ∧
  (∀ (k : Nat) (it : D) (acc : List (List Key × D)), items[k]? = some it → Pv k acc → g it (wipeS ρ vs) fun ρ2 => qt ρ2 fun b => if b = true then qk ρ2 fun kd => qv ρ2 fun d => keyR kd fun ky => Pv (k + 1) (putT acc ky d) else Pv (k + 1) acc) ∧ ∀ acc, Pv items.length acc → Q acc
def qDcT (qi : QI) (g : QG) (qt : QT) (qk qv : QE) (vs : List Nat) : QE := fun ρ Q => qi ρ fun items => dcB items g qt qk qv vs ρ fun kvs => Q (.dT kvs)
theorem putT_len {κ : Type} [DecidableEq κ] (kvs : List (κ × D)) (k : κ) (d : D) : (putT kvs k d).length ≤ kvs.length + 1 := by
  unfold putT
  split
  · rw [List.length_map]; omega
  · rw [List.length_append, List.length_cons, List.length_nil]; omega
theorem empty_dT : Empty0 (.dT []) := ⟨fun P w H h hb => dt_empty h hb⟩
theorem snd_dcT {c : Ctx} {wi : TI} {g' : TG} {tt : TT} {tk tv : TE} {qi : QI} {g : QG} {qt : QT} {qk qv : QE} {ws vs : List Nat} (hw : ∀ w ∈ ws, w ∈ vs) (si : SndI c wi qi) (sg : SndG c g' g ws) (st : SndT c tt qt) (sk : SndE c tk qk) (sv : SndE c tv qv) : SndE c (tStayE (tDcG (.dT []) wi g' tt tk tv vs)) (qDcT qi g qt qk qv vs) := by
  intro ρ σ G H Q R s h k
  refine si ρ σ G H _ _ s h fun J items G0 H0 g0 wk hq D' hD => ?_
  obtain ⟨hl, Pv, p0, turn, fin⟩ := hq
  have s0 := s.grow g0
  have hD0 : H D' = none := g0.fr hD
  have nb : some D' ≠ c.β := fun e => by
    obtain ⟨c', cells, x1, x2, x3, x4, hb, _⟩ := (s0.core.bg D' e.symm).is
    rw [hb] at hD; cases hD
  have gD := s0.core.gh.free hD
  have gf := Grow.fresh (β := c.β) (o := .dT []) s0.core.gh s0.core.bg hD
  refine ⟨fun i m H' => ∃ G' us acc, i + m = items.length ∧ Grow c.β G H G' H' ∧ Ex G0 G' ∧ G' D' = none ∧ H' D' = some (.dT us) ∧ RepF G' us acc ∧ acc.length ≤ i ∧ Pv i acc, ⟨items.length, G0, [], [], by omega, g0.trans gf s.hb, Same.refl _, gD, upd_same, RepF.nil, Nat.le_refl _, p0⟩, fun i m H' hW => ?_⟩
  obtain ⟨G', us, acc, hm, gg, ex, nD, hh, ra, hacc, pv⟩ := hW
  have s' := s.grow gg
  have w := wk G' H' ex s'.core.gh s'.core.bg s'.core.h0
  have keepD : ∀ {Ga Ha Gb Hb : Hp} {u : List (List Key × V)}, Grow c.β Ga Ha Gb Hb → Ga D' = none → Ha D' = some (.dT u) → Gb D' = none ∧ Hb D' = some (.dT u) := fun {Ga Ha Gb Hb u} gr h1 h2 =>
    ⟨gr.own h2 nt_dT (fun _ z => by cases z) nb h1, gr.hh _ _ h2 nb nt_dT⟩
  by_cases hi : i < items.length
  · obtain ⟨go, yl⟩ := w.1 i items[i] (List.getElem?_eq_getElem hi)
    refine .inr ⟨go, fun H2 => ∃ G2 us acc, Grow c.β G H G2 H2 ∧ Ex G0 G2 ∧ G2 D' = none ∧ H2 D' = some (.dT us) ∧ RepF G2 us acc ∧ acc.length ≤ i + 1 ∧ Pv (i + 1) acc, fun H2 ⟨G2, us, acc, x1, x2, x3, x4, x5, x6, x7⟩ => ⟨m - 1, by omega, G2, us, acc, by omega, x1, x2, x3, x4, x5, x6, x7⟩, fun x H2 y => ?_⟩
    obtain ⟨G2, g2, r2⟩ := yl x H2 y
    obtain ⟨nD2, hh2⟩ := keepD g2 nD hh
    have gg2 := gg.trans g2 s.hb
    have s2 := (s.grow gg2).wipe vs
    refine sg x _ (wipeS ρ vs) (L2.wipe σ vs) G2 H2 _ _ s2 r2 (turn i _ acc (List.getElem?_eq_getElem hi) pv) fun ρ3 σ3 s3 w3 _ h3 => ⟨?_, ?_⟩
    · rw [w3 vs hw]
      exact wipe_wipe σ vs
    · refine st ρ3 σ3 G2 H2 _ _ s3 h3 fun b G3 H3 g3 h4 => ?_
      obtain ⟨nD3, hh3⟩ := keepD g3 nD2 hh2
      have gg3 := gg2.trans g3 s.hb
      cases b with
      | true =>
        have s3' := s3.grow g3
        refine sk ρ3 σ3 G3 H3 _ _ s3' h4 fun v4 kd G4 H4 g4 r4 h5 => ?_
        obtain ⟨nD4, hh4⟩ := keepD g4 nD3 hh3
        refine sv ρ3 σ3 G4 H4 _ _ (s3'.grow g4) h5 fun v5 d G5 H5 g5 r5 h6 => ?_
        obtain ⟨nD5, hh5⟩ := keepD g5 nD4 hh4
        have gg5 := (gg3.trans g4 s.hb).trans g5 s.hb
        obtain ⟨ky, rfl, h7⟩ := keyR_inv h6
        obtain ⟨b, rfl, hb⟩ := rep_dkey (r4.mono g5.gg)
        have rr := (((ra.mono g2.gg).mono g3.gg).mono g4.gg).mono g5.gg
        refine ⟨_, DPut.t hh5 (g5.gh _ _ hb) (by rw [rr.len, sizeLine_eq]; omega), G5, _, _, gg5.put hD0 nD5 hh5 nt_dT nb, (((ex.trans g2.gg).trans g3.gg).trans g4.gg).trans g5.gg, nD5, upd_same, rr.putT r5, ?_, h7⟩
        have := putT_len acc ky d
        omega
      | false => exact ⟨G3, us, acc, gg3, (ex.trans g2.gg).trans g3.gg, nD3, hh3, (ra.mono g2.gg).mono g3.gg, by omega, h4⟩
  · have : i = items.length := by omega
    subst this
    refine .inl ⟨w.2, D', _, rfl, hh, trivial, fun od => ?_⟩
    have gp := gg.put (o := .frz od (.dT us)) hD0 nD hh nt_dT nb
    have ex2 : Ex G' (upd G' D' (.frz od (.dT us))) := Ex.new nD
    refine k _ _ (upd G' D' (.frz od (.dT us))) (upd H' D' (.frz od (.dT us))) ⟨gg.gg.trans ex2, gp.hh, gp.tn, gp.tb, s'.core.gh.upd2, fun x o h nt n => ?_, fun b e => ?_⟩ (.dT upd_same ra.1 (ra.mono ex2).2) (fin acc pv)
    · by_cases q : x = D'
      · rw [q]; exact hD0
      · rw [upd_ne q] at h; exact gg.nw x o h nt n
    · have ne : b ≠ D' := fun z => nb (by rw [← z, e])
      exact (gg.bg b e).mono ex2 (upd_ne ne) (by rw [upd_ne ne]; exact (gg.bg b e).out)
theorem ddcT {c : Ctx} {X : Cx} {pos : Pos} {kx vx tg iter : Expr} {ifs : List Expr} {scope : Scope} {qi : QI} {g : QG} {ws : List Nat} {qt : QT} {qk qv : QE} (own : List (Str × Nat)) (hu : X.A.units + 65 < cLine) (hc : X.calm = true) (hN : X.N.Nodup) (hi : PDI c X tg iter qi) (hg : Blk X scope fun Y => PDG c Y tg g ws) (ht : Blk X scope fun Y => PDTs c Y ifs qt) (hk : Blk X scope fun Y => PD c Y kx qk) (hv : Blk X scope fun Y => PD c Y vx qv)
    (ok : blkC X.N X.env.scope scope own = true := by kernel_rfl) (hw : ∀ w ∈ ws, w ∈ own.map (·.2) := by decide) (hs : ∀ x, foldedSetIterable iter X.env x = pure x := by intro _; rfl) :
    PD c X (.DictComp kx vx [⟨tg, iter, ifs, 0⟩] scope pos) (qDcT qi g qt qk qv (own.map (·.2))) := by
  obtain ⟨wi, pi, si⟩ := hi.ex
  exact ⟨_, pe_stay (pe_dcG empty_dT (by omega) hc hN pi (blkOk_by ok) (fun s H C cl fp => (hg s H C cl fp).can) (fun s H C cl fp => (ht s H C cl fp).can) (fun s H C cl fp => (hk s H C cl fp).can) (fun s H C cl fp => (hv s H C cl fp).can) hs), snd_dcT hw si snd_rdG snd_rdT snd_rdE snd_rdE⟩
/-! x(..), x an object -/
def CallF (K : PySem.W.Frag) (C : PySem.Addr) : Prop := ∃ f, StX.CallO K C f
theorem callF_mk {K : PySem.W.Frag} {C f : PySem.Addr} (a : PySem.W.findIn K (.ref C) "__call__" = some (some (.ref f))) (b : PySem.W.isFn K (.ref f) = true) (d : PySem.W.fnIn K f = true) : CallF K C := ⟨f, a, b, d⟩
section
variable {c : Ctx} {X : Cx} {fe e : Expr} {es : List Expr} {qr : QA} {q : QE} {p pos apos : Pos} {C : PySem.Addr} {kws : List Keyword}
def qCallO (C : PySem.Addr) (sp : SpD) (β : Option PySem.Addr) (q : QE) (qr : QA) : QE := fun ρ Q => q ρ fun d => (∃ fs, d = .obj C fs) ∧ qr ρ fun ds => sp β (d :: ds) Q
theorem snd_callO {sp : SpD} {ta : TE} {t : TA} (so : SndE c ta q) (sa : SndA c t qr) : SndE c (StX.tCallO X C (lf sp) E0 ta t) (qCallO C sp c.β q qr) := by
  intro ρ σ G H Q R s h k
  refine so ρ σ G H _ _ s h fun v d G1 H1 g1 r1 h1 => ?_
  have s1 := s.grow g1
  obtain ⟨⟨fs, rfl⟩, h1⟩ := h1
  have r1' := r1
  cases r1 with
  | obj e hd n q' =>
    refine ⟨_, rfl, sa ρ σ G1 H1 _ _ s1 h1 fun vs ds G2 H2 g2 r2 h2 => ?_⟩
    have s2 := s1.grow g2
    exact ⟨.inr ⟨_, _, g2.gh _ _ (g2.gg _ _ e)⟩, c.β, G2, _, Q, .cons (r1'.mono g2.gg) r2, s2.core.gh, s2.core.bg, h2, fun v d G' H' g r q => k v d G' H' ((g1.trans g2 s.hb).trans g s.hb) r q⟩
theorem callO_of {j : Nat} {P : Program} {w : World} {K : PySem.W.Frag} {mg : Str → Option Value} {base : Heap} {ps : List Str} {sp : SpD} (F : DnM P w K mg base j C "__call__" ps sp) (cf : CallF K C) : ∃ f fd, FnOk P w K mg base CX0 j f fd ps (lf sp) ∧ StX.CallO K C f ∧ Binds K fd ps [] ∧ KBinds K fd ps (ps.drop 1) kwM kwM := by
  obtain ⟨f, fd, F, M, _, b, kb⟩ := F
  obtain ⟨f', c'⟩ := cf
  have e : f' = f := by
    have z := c'.at_
    rw [M.at_] at z
    injection z with z
    injection z with z
    injection z with z
    exact z.symm
  subst e
  exact ⟨_, _, F, c', b, kb⟩
theorem dcallO {sp : SpD} {j k : Nat} {ps : List Str} (F : DnM X.prog X.w X.K X.mg X.base j C "__call__" ps sp) (cf : CallF X.K C) (hr : Room k X.A) (ho : PD c X fe q) (ha : PDA c X (e :: es) qr) (hj : j ≤ k := by decide)
    (ht : eval (.Call fe (e :: es) [] pos) X.env = (do callWith pos (← eval fe X.env) [] (backTo pos (starEach (e :: es) X.env)) (backToKw pos (keywordEach [] X.env))) := by rfl)
    (he : starEach (e :: es) X.env = (false, eval e X.env) :: starEach es X.env := by rfl) (hpl : (backTo pos (starEach es X.env)).any (·.1) = false := by rfl) : PD c X (.Call fe (e :: es) [] pos) (qCallO C sp c.β q qr) := by
  obtain ⟨f, fd, F, co, b, _⟩ := callO_of F cf
  obtain ⟨ta, po, so⟩ := ho.ex
  obtain ⟨t, pa, sa⟩ := ha.ex
  refine ⟨_, StX.pe_callO po co (FnR.imp (F.raw b .nil) fun vs H Q E z => ?_) (hr.mono hj) pass0 pa ht he hpl, snd_callO so sa⟩
  rw [List.append_nil]
  exact z
theorem dcallOK {sp : SpD} {j k : Nat} {ps : List Str} (F : DnM X.prog X.w X.K X.mg X.base j C "__call__" ps sp) (cf : CallF X.K C) (hr : Room k X.A) (ho : PD c X fe q) (ha : PDK c X kws qr) (hj : j ≤ k := by decide)
    (hall : (backToKw pos (keywordEach kws X.env)).all (·.1.isSome) = true := by rfl) (hks : (backToKw pos (keywordEach kws X.env)).filterMap (·.1) = ps.drop 1 := by rfl)
    (hpl : ((backTo pos (starEach [] X.env)).any (·.1) || (backToKw pos (keywordEach kws X.env)).any (·.1.isNone)) = false := by rfl)
    (ht : eval (.Call fe [] kws pos) X.env = (do callWith pos (← eval fe X.env) [] (backTo pos (starEach [] X.env)) (backToKw pos (keywordEach kws X.env))) := by rfl) : PD c X (.Call fe [] kws pos) (qCallO C sp c.β q qr) := by
  obtain ⟨f, fd, F, co, _, kb⟩ := callO_of F cf
  obtain ⟨ta, po, so⟩ := ho.ex
  obtain ⟨t, pa, sa⟩ := ha.ex
  exact ⟨_, pe_callIK po co F (hr.mono hj) kb pass0 pa hall hks hpl ht, snd_callO so sa⟩
end
end DL
namespace DL
open PySem L2
theorem dctR_t {kvs : List (List Key × D)} {Q : List (List Key × D) → Prop} : dctR (.dT kvs) Q = Q kvs := rfl
theorem slotT_o {a : PySem.Addr} {kvs : List (List Key × D)} {Q : List (List Key × D) → Prop} : slotT (some (.own a (.dT kvs))) Q = Q kvs := rfl
theorem slotT_d {kvs : List (List Key × D)} {Q : List (List Key × D) → Prop} : slotT (some (.d (.dT kvs))) Q = Q kvs := rfl
theorem slotOT_o {a : PySem.Addr} {kvs : List (List Key × D)} {Q : PySem.Addr → List (List Key × D) → Prop} : slotOT (some (.own a (.dT kvs))) Q = Q a kvs := rfl
theorem eqTR_t {ks ls : List (List Key × D)} {Q : D → Prop} : eqTR (.dT ks) (.dT ls) Q = ∃ t u, ks = tabD t ∧ ls = tabD u ∧ Q (.bl (eqTab t u)) := rfl
end DL

local macro_rules | `(tactic| walk_at "dl") => `(tactic| try simp only [DL.qGetT, DL.qInT, DL.qVarT, DL.qDct, DL.dctR_t, DL.slotT_o, DL.slotT_d, DL.slotOT_o, DL.qLenT, DL.qKeysT, DL.qSetDT, DL.qPutT, DL.qFrzT, DL.iSqT, DL.eqTR_t, DL.qDcT, DL.qCallO, DL.pick_0, DL.pick_3210, DL.iZpM, DL.zipM_ll, DL.zipM_tt, DL.zipM_tl, DL.zipM_lt, DL.revR_l, DL.isB_b, DL.eqM_ii, DL.eqM_ll, DL.qMulN, DL.mulN_li, DL.conR_o, DL.neO_ii, DL.neO_ss, DL.boolR_i, DL.boolR_b, DL.min2_i, DL.max2_i, DL.qParI, DL.qIO, DL.qExt, DL.anyIL_l, DL.qMake, DL.qCatN, DL.catN_ll, DL.lenC_l, DL.lenC_t, DL.eqN_ll, DL.qRaise0, DL.qClr, DL.qTmpA, DL.qTmpC, DL.qMethN, DL.qMakeK, DL.qMakeV, DL.qVarL, DL.qCBV, DL.flatQ, DL.mulZ_ti, DL.qCMX, DL.qCM, DL.qMakeLX, DL.mulT_ti, DL.iEnB, DL.enumB_l, DL.enumB_t, DL.qXf, DL.qHot, DL.qLamB, DL.qCallX, DL.qMethX, DL.qMakeX, DL.qRaise1, DL.qCallW, DL.qAdopt, DL.qCallP, DL.pick_10, DL.eqLO_l, DL.qJs, DL.sortR_l, DL.sortR_t, DL.inLR_l, DL.minR_l, DL.minR_t, DL.maxR_l, DL.maxR_t, DL.anyIR_t, DL.qVarO, DL.qCallV, DL.D.flat, DL.qC, DL.qVar, DL.qOp, DL.qUn, DL.qNil, DL.qCons, DL.qTup, DL.qLst, DL.qLstN, DL.qCB, DL.qTest, DL.qTru, DL.qAnd, DL.qOr, DL.qNot, DL.qAndV, DL.qOrV, DL.qNotV, DL.qIf, DL.qChain, DL.qNext, DL.qSet, DL.qSetN, DL.qDrop, DL.qRet, DL.qRetL, DL.qRetO, DL.qCallN, DL.qIfS, DL.qPar, DL.qPar3, DL.qFrz, DL.frzS, DL.Ob.frz, DL.qAug, DL.iSq, DL.iRg1, DL.iRg2, DL.iZp, DL.iEn, DL.gN, DL.gT, DL.g0, DL.gC, DL.qAsg, DL.qLst', DL.qYes, DL.qCall, DL.qO0, DL.qO1, DL.qSl, DL.qX, DL.qApp, DL.qPopX, DL.qLenO, DL.qIxO, DL.qSetI, DL.qLRg, DL.qListN, DL.qParN, DL.startS, DL.wipeS, DL.isNon, DL.slotD_d, DL.slotO_o, DL.blR_b, DL.inI_i, DL.tupR_t, DL.consR_c, DL.two_c, DL.three_c, DL.addR_ii, DL.addR_ss, DL.addR_ll, DL.addR_tt, DL.subR_ii, DL.mulR_ii, DL.mulR_li, DL.fdivR_ii, DL.modR_ii, DL.powR_ii, DL.cmR_ii, DL.cmR_ss, DL.iiR_ii, DL.eqR_ii, DL.neR_ii, DL.eqR_ss, DL.negR_i, DL.ixR_li, DL.ixR_ti, DL.ixR_si, DL.isR_n, DL.isnR_n, DL.lenR_l, DL.lenR_t, DL.lenR_s, DL.absR_i, DL.intR_i, DL.intR_b, DL.tupleR_l, DL.tupleR_t, DL.listR_l, DL.listR_t, DL.listN_l, DL.listN_t, DL.allR_l, DL.anyR_l, DL.sumR_l, DL.zipR_l, DL.zipR_t, DL.enumR_l, DL.seqR_l, DL.seqR_t, DL.rg1R_i, DL.rg2R_i, DL.truR_n, DL.truR_b, DL.truR_i, DL.truR_l, DL.truR_t, DL.slR_l, DL.slR_t, DL.isiR_1, DL.isiR_2, DL.isT_nint, DL.isT_nbool, DL.isT_nstr, DL.isT_nlist, DL.isT_ntuple, DL.tyS_n, DL.isT_bint, DL.isT_bbool, DL.isT_bstr, DL.isT_blist, DL.isT_btuple, DL.tyS_b, DL.isT_iint, DL.isT_ibool, DL.isT_istr, DL.isT_ilist, DL.isT_ituple, DL.tyS_i, DL.isT_sint, DL.isT_sbool, DL.isT_sstr, DL.isT_slist, DL.isT_stuple, DL.tyS_s, DL.isT_tint, DL.isT_tbool, DL.isT_tstr, DL.isT_tlist, DL.isT_ttuple, DL.tyS_t, DL.isT_lint, DL.isT_lbool, DL.isT_lstr, DL.isT_llist, DL.isT_ltuple, DL.tyS_l, DL.five_int, DL.five_bool, DL.five_str, DL.five_list, DL.five_tuple, DL.tys2, DL.five2, DL.eqR_bb, DL.neR_bb, DL.bff, DL.btt, DL.bft, DL.btf, List.any_cons, List.any_nil, Bool.or_false, Bool.or_true, Bool.false_or, Bool.true_or, DL.at0, DL.at1, DL.at2, DL.at3, DL.at4, DL.ix51, DL.ix52, DL.ix53, DL.ix54,
  List.set_cons_zero, List.set_cons_succ, List.getElem?_cons_zero, List.getElem?_cons_succ, Option.some.injEq, exists_eq_left', exists_eq_left, and_true, true_and,
  List.map_cons, List.map_nil, List.length_cons, List.length_nil, List.replicate_succ, List.replicate_zero, List.cons_append, List.nil_append, Nat.reduceAdd, Nat.reduceSub, if_true, if_false, Bool.false_eq_true, Bool.not_true, Bool.not_false, ite_true, ite_false])
local macro_rules | `(tactic| walk_at "dq") => `(tactic| try simp only [Nat.reduceLeDiff, Nat.reduceLT, ne_eq, reduceCtorEq, not_false_eq_true, DL.qGetT, DL.qInT, DL.qVarT, DL.qDct, DL.dctR_t, DL.slotT_o, DL.slotT_d, DL.slotOT_o, DL.qLenT, DL.qKeysT, DL.qSetDT, DL.qPutT, DL.qFrzT, DL.iSqT, DL.eqTR_t, DL.qDcT, DL.qCallO, DL.pick_0, DL.pick_3210, DL.iZpM, DL.zipM_ll, DL.zipM_tt, DL.zipM_tl, DL.zipM_lt, DL.revR_l, DL.isB_b, DL.eqM_ii, DL.eqM_ll, DL.qMulN, DL.mulN_li, DL.conR_o, DL.neO_ii, DL.neO_ss, DL.boolR_i, DL.boolR_b, DL.min2_i, DL.max2_i, DL.qParI, DL.qIO, DL.qExt, DL.anyIL_l, DL.qMake, DL.qCatN, DL.catN_ll, DL.lenC_l, DL.lenC_t, DL.eqN_ll, DL.qRaise0, DL.qClr, DL.qTmpA, DL.qTmpC, DL.qMethN, DL.qMakeK, DL.qMakeV, DL.qVarL, DL.qCBV, DL.flatQ, DL.mulZ_ti, DL.qCMX, DL.qCM, DL.qMakeLX, DL.mulT_ti, DL.iEnB, DL.enumB_l, DL.enumB_t, DL.qXf, DL.qHot, DL.qLamB, DL.qCallX, DL.qMethX, DL.qMakeX, DL.qRaise1, DL.qCallW, DL.qAdopt, DL.qCallP, DL.pick_10, DL.eqLO_l, DL.qJs, DL.sortR_l, DL.sortR_t, DL.inLR_l, DL.minR_l, DL.minR_t, DL.maxR_l, DL.maxR_t, DL.anyIR_t, DL.qVarO, DL.qCallV, DL.D.flat, DL.qC, DL.qVar, DL.qOp, DL.qUn, DL.qNil, DL.qCons, DL.qTup, DL.qLst, DL.qLstN, DL.qCB, DL.qTest, DL.qTru, DL.qAnd, DL.qOr, DL.qNot, DL.qAndV, DL.qOrV, DL.qNotV, DL.qIf, DL.qChain, DL.qNext, DL.qSet, DL.qSetN, DL.qDrop, DL.qRet, DL.qRetL, DL.qRetO, DL.qCallN, DL.qIfS, DL.qPar, DL.qPar3, DL.qFrz, DL.frzS, DL.Ob.frz, DL.qAug, DL.iSq, DL.iRg1, DL.iRg2, DL.iZp, DL.iEn, DL.gN, DL.gT, DL.g0, DL.gC, DL.qAsg, DL.qLst', DL.qYes, DL.qCall, DL.qO0, DL.qO1, DL.qSl, DL.qX, DL.qApp, DL.qPopX, DL.qLenO, DL.qIxO, DL.qSetI, DL.qLRg, DL.qListN, DL.qParN, DL.startS, DL.wipeS, DL.isNon, DL.slotD_d, DL.slotO_o, DL.blR_b, DL.inI_i, DL.tupR_t, DL.consR_c, DL.two_c, DL.three_c, DL.addR_ii, DL.addR_ss, DL.addR_ll, DL.addR_tt, DL.subR_ii, DL.mulR_ii, DL.mulR_li, DL.fdivR_ii, DL.modR_ii, DL.powR_ii, DL.cmR_ii, DL.cmR_ss, DL.iiR_ii, DL.eqR_ii, DL.neR_ii, DL.eqR_ss, DL.negR_i, DL.ixR_li, DL.ixR_ti, DL.ixR_si, DL.isR_n, DL.isnR_n, DL.lenR_l, DL.lenR_t, DL.lenR_s, DL.absR_i, DL.intR_i, DL.intR_b, DL.tupleR_l, DL.tupleR_t, DL.listR_l, DL.listR_t, DL.listN_l, DL.listN_t, DL.allR_l, DL.anyR_l, DL.sumR_l, DL.zipR_l, DL.zipR_t, DL.enumR_l, DL.seqR_l, DL.seqR_t, DL.rg1R_i, DL.rg2R_i, DL.truR_n, DL.truR_b, DL.truR_i, DL.truR_l, DL.truR_t, DL.slR_l, DL.slR_t, DL.isiR_1, DL.isiR_2, DL.isT_nint, DL.isT_nbool, DL.isT_nstr, DL.isT_nlist, DL.isT_ntuple, DL.tyS_n, DL.isT_bint, DL.isT_bbool, DL.isT_bstr, DL.isT_blist, DL.isT_btuple, DL.tyS_b, DL.isT_iint, DL.isT_ibool, DL.isT_istr, DL.isT_ilist, DL.isT_ituple, DL.tyS_i, DL.isT_sint, DL.isT_sbool, DL.isT_sstr, DL.isT_slist, DL.isT_stuple, DL.tyS_s, DL.isT_tint, DL.isT_tbool, DL.isT_tstr, DL.isT_tlist, DL.isT_ttuple, DL.tyS_t, DL.isT_lint, DL.isT_lbool, DL.isT_lstr, DL.isT_llist, DL.isT_ltuple, DL.tyS_l, DL.five_int, DL.five_bool, DL.five_str, DL.five_list, DL.five_tuple, DL.tys2, DL.five2, DL.eqR_bb, DL.neR_bb, DL.bff, DL.btt, DL.bft, DL.btf, List.any_cons, List.any_nil, Bool.or_false, Bool.or_true, Bool.false_or, Bool.true_or, DL.at0, DL.at1, DL.at2, DL.at3, DL.at4, DL.ix51, DL.ix52, DL.ix53, DL.ix54,
  List.set_cons_zero, List.set_cons_succ, List.getElem?_cons_zero, List.getElem?_cons_succ, Option.some.injEq, exists_eq_left', exists_eq_left, and_true, true_and,
  List.map_cons, List.map_nil, List.length_cons, List.length_nil, List.replicate_succ, List.replicate_zero, List.cons_append, List.nil_append, Nat.reduceAdd, Nat.reduceSub, if_true, if_false, Bool.false_eq_true, Bool.not_true, Bool.not_false, ite_true, ite_false])

/-! ranks of rows with at most three entries: elimination against minors. Plain Lean. -/
namespace Rk
abbrev Row := List Int
def e (r : Row) (j : Nat) : Int := r.getD j 0
def cr (i j : Nat) (a b : Row) : Int := e a i * e b j - e a j * e b i
def det3 (a b c : Row) : Int := e a 0 * cr 1 2 b c - e a 1 * cr 0 2 b c + e a 2 * cr 0 1 b c
def cl (s L : Row) (c : Nat) : Row := (s.zip L).map fun p => p.1 * e L c - e s c * p.2
theorem e_cl {s L : Row} (c j : Nat) (h : s.length = L.length) : e (cl s L c) j = e s j * e L c - e s c * e L j := by
  unfold cl
  show (List.map _ (s.zip L)).getD j 0 = s.getD j 0 * _ - _ * L.getD j 0
  rw [List.getD_eq_getElem?_getD, List.getD_eq_getElem?_getD, List.getD_eq_getElem?_getD, List.getElem?_map]
  by_cases hj : j < s.length
  · have hL : j < L.length := by omega
    have hz : j < (s.zip L).length := by rw [List.length_zip]; omega
    rw [List.getElem?_eq_getElem hz, List.getElem?_eq_getElem hj, List.getElem?_eq_getElem hL, List.getElem_zip]
    rfl
  · have hL : ¬ j < L.length := by omega
    have hz : ¬ j < (s.zip L).length := by rw [List.length_zip]; omega
    rw [List.getElem?_eq_none (by omega), List.getElem?_eq_none (by omega), List.getElem?_eq_none (by omega)]
    simp
theorem cl_len {s L : Row} (c : Nat) (h : s.length = L.length) : (cl s L c).length = L.length := by
  unfold cl; rw [List.length_map, List.length_zip, h, Nat.min_self]
def R1 (M : Row → Prop) : Prop := ∃ a, M a ∧ (e a 0 ≠ 0 ∨ e a 1 ≠ 0 ∨ e a 2 ≠ 0)
def R2 (M : Row → Prop) : Prop := ∃ a b, M a ∧ M b ∧ (cr 0 1 a b ≠ 0 ∨ cr 0 2 a b ≠ 0 ∨ cr 1 2 a b ≠ 0)
def R3 (M : Row → Prop) : Prop := ∃ a b c, M a ∧ M b ∧ M c ∧ det3 a b c ≠ 0
/-- one step of the elimination: M the rows, N the rows behind it -/
structure Step (c : Nat) (L : Row) (M N : Row → Prop) : Prop where
  hc : c = 0 ∨ c = 1 ∨ c = 2
  hL : M L
  hl : e L c ≠ 0
  /-- each new row comes of an old one, times 1 or the lead's entry -/
  from_ : ∀ n, N n → ∃ s, M s ∧ ((∀ j, e n j = e s j * e L c - e s c * e L j) ∨ (e s c = 0 ∧ n = s))
  to_ : ∀ s, M s → s = L ∨ (e s c = 0 ∧ N s) ∨ ∃ n, N n ∧ ∀ j, e n j = e s j * e L c - e s c * e L j
/-- every old row has a new one or zero that is its cleaned one, up to the lead's entry -/
theorem Step.get {c : Nat} {L : Row} {M N : Row → Prop} (h : Step c L M N) (s : Row) (hs : M s) : (∀ j, e s j * e L c - e s c * e L j = 0) ∨ ∃ n, N n ∧ ∃ k : Int, k ≠ 0 ∧ ∀ j, e s j * e L c - e s c * e L j = k * e n j := by
  rcases h.to_ s hs with rfl | ⟨h0, hn⟩ | ⟨n, hn, he⟩
  · exact .inl fun j => by grind
  · exact .inr ⟨s, hn, e L c, h.hl, fun j => by rw [h0]; grind⟩
  · exact .inr ⟨n, hn, 1, by decide, fun j => by rw [he]; grind⟩
theorem Step.src {c : Nat} {L : Row} {M N : Row → Prop} (h : Step c L M N) (n : Row) (hn : N n) : ∃ s, M s ∧ ∃ k : Int, k ≠ 0 ∧ ∀ j, k * e n j = e s j * e L c - e s c * e L j := by
  obtain ⟨s, hs, h1 | ⟨h0, rfl⟩⟩ := h.from_ n hn
  · exact ⟨s, hs, 1, by decide, fun j => by rw [h1]; grind⟩
  · exact ⟨n, hs, e L c, h.hl, fun j => by rw [h0]; grind⟩
theorem Step.zero {c : Nat} {L : Row} {M N : Row → Prop} (h : Step c L M N) (n : Row) (hn : N n) : e n c = 0 := by
  obtain ⟨s, hs, k, hk, he⟩ := h.src n hn
  have := he c
  have h0 : k * e n c = 0 := by grind
  exact (Int.mul_eq_zero.mp h0).resolve_left hk
theorem Step.r1 {c : Nat} {L : Row} {M N : Row → Prop} (h : Step c L M N) : R1 M := by
  refine ⟨L, h.hL, ?_⟩
  rcases h.hc with rfl | rfl | rfl
  · exact .inl h.hl
  · exact .inr (.inl h.hl)
  · exact .inr (.inr h.hl)
theorem ne_mul {a b : Int} (h : a * b ≠ 0) : a ≠ 0 ∧ b ≠ 0 := ⟨fun z => h (by rw [z, Int.zero_mul]), fun z => h (by rw [z, Int.mul_zero])⟩
theorem Step.r2 {c : Nat} {L : Row} {M N : Row → Prop} (h : Step c L M N) : R2 M ↔ R1 N := by
  have hl := h.hl
  constructor
  · rintro ⟨a, b, ha, hb, hab⟩
    rcases h.get a ha with za | ⟨n, hn, k, hk, ea⟩
    · rcases h.get b hb with zb | ⟨n, hn, k, hk, eb⟩
      · exfalso
        -- both parallel to L
        have key : ∀ i j, cr i j a b = 0 := by
          intro i j
          have a1 := za i; have a2 := za j; have b1 := zb i; have b2 := zb j
          have : e L c * e L c * cr i j a b = 0 := by unfold cr; grind
          rcases Int.mul_eq_zero.mp this with z | z
          · rcases Int.mul_eq_zero.mp z with z | z <;> exact absurd z hl
          · exact z
        rcases hab with z | z | z <;> exact z (key _ _)
      · refine ⟨n, hn, ?_⟩
        apply Classical.byContradiction
        intro hz
        have n0 : e n 0 = 0 := Classical.byContradiction fun z => hz (.inl z)
        have n1 : e n 1 = 0 := Classical.byContradiction fun z => hz (.inr (.inl z))
        have n2 : e n 2 = 0 := Classical.byContradiction fun z => hz (.inr (.inr z))
        have b0 := eb 0; have b1 := eb 1; have b2 := eb 2
        rw [n0, Int.mul_zero] at b0; rw [n1, Int.mul_zero] at b1; rw [n2, Int.mul_zero] at b2
        have a0 := za 0; have a1 := za 1; have a2 := za 2
        have k01 : e L c * e L c * cr 0 1 a b = 0 := by unfold cr; grind
        have k02 : e L c * e L c * cr 0 2 a b = 0 := by unfold cr; grind
        have k12 : e L c * e L c * cr 1 2 a b = 0 := by unfold cr; grind
        have ll : e L c * e L c ≠ 0 := fun z => (Int.mul_eq_zero.mp z).elim hl hl
        rcases hab with z | z | z
        · exact z ((Int.mul_eq_zero.mp k01).resolve_left ll)
        · exact z ((Int.mul_eq_zero.mp k02).resolve_left ll)
        · exact z ((Int.mul_eq_zero.mp k12).resolve_left ll)
    · apply Classical.byContradiction
      intro hz
      have all : ∀ m, N m → e m 0 = 0 ∧ e m 1 = 0 ∧ e m 2 = 0 := fun m hm =>
        ⟨Classical.byContradiction fun z => hz ⟨m, hm, .inl z⟩, Classical.byContradiction fun z => hz ⟨m, hm, .inr (.inl z)⟩, Classical.byContradiction fun z => hz ⟨m, hm, .inr (.inr z)⟩⟩
      have par : ∀ s, M s → ∀ j, j = 0 ∨ j = 1 ∨ j = 2 → e s j * e L c - e s c * e L j = 0 := by
        intro s hs j hj
        rcases h.get s hs with zs | ⟨m, hm, k', _, es⟩
        · exact zs j
        · obtain ⟨m0, m1, m2⟩ := all m hm
          rw [es j]
          rcases hj with rfl | rfl | rfl
          · rw [m0, Int.mul_zero]
          · rw [m1, Int.mul_zero]
          · rw [m2, Int.mul_zero]
      have a0 := par a ha 0 (.inl rfl); have a1 := par a ha 1 (.inr (.inl rfl)); have a2 := par a ha 2 (.inr (.inr rfl))
      have b0 := par b hb 0 (.inl rfl); have b1 := par b hb 1 (.inr (.inl rfl)); have b2 := par b hb 2 (.inr (.inr rfl))
      have k01 : e L c * e L c * cr 0 1 a b = 0 := by unfold cr; grind
      have k02 : e L c * e L c * cr 0 2 a b = 0 := by unfold cr; grind
      have k12 : e L c * e L c * cr 1 2 a b = 0 := by unfold cr; grind
      have ll : e L c * e L c ≠ 0 := fun z => (Int.mul_eq_zero.mp z).elim hl hl
      rcases hab with z | z | z
      · exact z ((Int.mul_eq_zero.mp k01).resolve_left ll)
      · exact z ((Int.mul_eq_zero.mp k02).resolve_left ll)
      · exact z ((Int.mul_eq_zero.mp k12).resolve_left ll)
  · rintro ⟨n, hn, hj⟩
    obtain ⟨s, hs, k, hk, he⟩ := h.src n hn
    refine ⟨L, s, h.hL, hs, ?_⟩
    have pick : ∀ j, e n j ≠ 0 → cr c j L s ≠ 0 := by
      intro j hj z
      have := he j
      have : k * e n j = 0 := by rw [this]; unfold cr at z; grind
      exact (Int.mul_eq_zero.mp this).elim hk hj
    have sw : ∀ i j, cr i j L s ≠ 0 → cr j i L s ≠ 0 := fun i j h z => h (by unfold cr at z ⊢; grind)
    have same : ∀ i, cr i i L s = 0 := fun i => by unfold cr; grind
    rcases h.hc with rfl | rfl | rfl <;> rcases hj with z | z | z <;> have p := pick _ z
    · exact absurd (same 0) p
    · exact .inl p
    · exact .inr (.inl p)
    · exact .inl (sw _ _ p)
    · exact absurd (same 1) p
    · exact .inr (.inr p)
    · exact .inr (.inl (sw _ _ p))
    · exact .inr (.inr (sw _ _ p))
    · exact absurd (same 2) p
def dt (a0 a1 a2 b0 b1 b2 c0 c1 c2 : Int) : Int := a0 * (b1 * c2 - b2 * c1) - a1 * (b0 * c2 - b2 * c0) + a2 * (b0 * c1 - b1 * c0)
theorem det3_dt (a b c : Row) : det3 a b c = dt (e a 0) (e a 1) (e a 2) (e b 0) (e b 1) (e b 2) (e c 0) (e c 1) (e c 2) := by unfold det3 cr dt; rfl
theorem dt_add (l a0 a1 a2 b0 b1 b2 c0 c1 c2 A0 A1 A2 B0 B1 B2 C0 C1 C2 x y z L0 L1 L2 : Int)
    (ha0 : l * a0 = A0 + x * L0) (ha1 : l * a1 = A1 + x * L1) (ha2 : l * a2 = A2 + x * L2)
    (hb0 : l * b0 = B0 + y * L0) (hb1 : l * b1 = B1 + y * L1) (hb2 : l * b2 = B2 + y * L2)
    (hc0 : l * c0 = C0 + z * L0) (hc1 : l * c1 = C1 + z * L1) (hc2 : l * c2 = C2 + z * L2)
    (ab01 : A0 * B1 - A1 * B0 = 0) (ab02 : A0 * B2 - A2 * B0 = 0) (ab12 : A1 * B2 - A2 * B1 = 0)
    (ac01 : A0 * C1 - A1 * C0 = 0) (ac02 : A0 * C2 - A2 * C0 = 0) (ac12 : A1 * C2 - A2 * C1 = 0)
    (bc01 : B0 * C1 - B1 * C0 = 0) (bc02 : B0 * C2 - B2 * C0 = 0) (bc12 : B1 * C2 - B2 * C1 = 0) : l * (l * (l * dt a0 a1 a2 b0 b1 b2 c0 c1 c2)) = 0 := by
  have h1 : l * (l * (l * dt a0 a1 a2 b0 b1 b2 c0 c1 c2)) = dt (l * a0) (l * a1) (l * a2) (l * b0) (l * b1) (l * b2) (l * c0) (l * c1) (l * c2) := by unfold dt; grind
  rw [h1, ha0, ha1, ha2, hb0, hb1, hb2, hc0, hc1, hc2]
  have h2 : dt (A0 + x * L0) (A1 + x * L1) (A2 + x * L2) (B0 + y * L0) (B1 + y * L1) (B2 + y * L2) (C0 + z * L0) (C1 + z * L1) (C2 + z * L2) =
      (A0 * (B1 * C2 - B2 * C1) - A1 * (B0 * C2 - B2 * C0) + A2 * (B0 * C1 - B1 * C0)) + x * (L0 * (B1 * C2 - B2 * C1) - L1 * (B0 * C2 - B2 * C0) + L2 * (B0 * C1 - B1 * C0))
      - y * (L0 * (A1 * C2 - A2 * C1) - L1 * (A0 * C2 - A2 * C0) + L2 * (A0 * C1 - A1 * C0)) + z * (L0 * (A1 * B2 - A2 * B1) - L1 * (A0 * B2 - A2 * B0) + L2 * (A0 * B1 - A1 * B0)) := by unfold dt; grind
  rw [h2, ab01, ab02, ab12, ac01, ac02, ac12, bc01, bc02, bc12]
  grind
theorem Step.r3 {c : Nat} {L : Row} {M N : Row → Prop} (h : Step c L M N) : R3 M ↔ R2 N := by
  have hl := h.hl
  constructor
  · rintro ⟨a, b, d, ha, hb, hd, hdet⟩
    apply Classical.byContradiction
    intro hz
    have all : ∀ m n, N m → N n → cr 0 1 m n = 0 ∧ cr 0 2 m n = 0 ∧ cr 1 2 m n = 0 := fun m n hm hn =>
      ⟨Classical.byContradiction fun z => hz ⟨m, n, hm, hn, .inl z⟩, Classical.byContradiction fun z => hz ⟨m, n, hm, hn, .inr (.inl z)⟩, Classical.byContradiction fun z => hz ⟨m, n, hm, hn, .inr (.inr z)⟩⟩
    have cross : ∀ s t, M s → M t → ∀ i j, (i = 0 ∧ j = 1) ∨ (i = 0 ∧ j = 2) ∨ (i = 1 ∧ j = 2) →
        (e s i * e L c - e s c * e L i) * (e t j * e L c - e t c * e L j) - (e s j * e L c - e s c * e L j) * (e t i * e L c - e t c * e L i) = 0 := by
      intro s t hs ht i j hij
      rcases h.get s hs with zs | ⟨m, hm, k, _, es⟩
      · rw [zs i, zs j]; grind
      · rcases h.get t ht with zt | ⟨n, hn, k', _, et⟩
        · rw [zt i, zt j]; grind
        · rw [es i, es j, et i, et j]
          obtain ⟨h1, h2, h3⟩ := all m n hm hn
          have : cr i j m n = 0 := by
            rcases hij with ⟨rfl, rfl⟩ | ⟨rfl, rfl⟩ | ⟨rfl, rfl⟩ <;> assumption
          unfold cr at this
          grind
    have z := dt_add (e L c) (e a 0) (e a 1) (e a 2) (e b 0) (e b 1) (e b 2) (e d 0) (e d 1) (e d 2)
      (e a 0 * e L c - e a c * e L 0) (e a 1 * e L c - e a c * e L 1) (e a 2 * e L c - e a c * e L 2)
      (e b 0 * e L c - e b c * e L 0) (e b 1 * e L c - e b c * e L 1) (e b 2 * e L c - e b c * e L 2)
      (e d 0 * e L c - e d c * e L 0) (e d 1 * e L c - e d c * e L 1) (e d 2 * e L c - e d c * e L 2)
      (e a c) (e b c) (e d c) (e L 0) (e L 1) (e L 2) (by grind) (by grind) (by grind) (by grind) (by grind) (by grind) (by grind) (by grind) (by grind)
      (cross a b ha hb 0 1 (.inl ⟨rfl, rfl⟩)) (cross a b ha hb 0 2 (.inr (.inl ⟨rfl, rfl⟩))) (cross a b ha hb 1 2 (.inr (.inr ⟨rfl, rfl⟩)))
      (cross a d ha hd 0 1 (.inl ⟨rfl, rfl⟩)) (cross a d ha hd 0 2 (.inr (.inl ⟨rfl, rfl⟩))) (cross a d ha hd 1 2 (.inr (.inr ⟨rfl, rfl⟩)))
      (cross b d hb hd 0 1 (.inl ⟨rfl, rfl⟩)) (cross b d hb hd 0 2 (.inr (.inl ⟨rfl, rfl⟩))) (cross b d hb hd 1 2 (.inr (.inr ⟨rfl, rfl⟩)))
    rw [← det3_dt] at z
    rcases Int.mul_eq_zero.mp z with z | z
    · exact hl z
    · rcases Int.mul_eq_zero.mp z with z | z
      · exact hl z
      · rcases Int.mul_eq_zero.mp z with z | z
        · exact hl z
        · exact hdet z
  · rintro ⟨m, n, hm, hn, hmn⟩
    obtain ⟨s, hs, k, hk, es⟩ := h.src m hm
    obtain ⟨t, ht, k', hk', et⟩ := h.src n hn
    refine ⟨L, s, t, h.hL, hs, ht, fun z => ?_⟩
    have m0 := h.zero m hm
    have n0 := h.zero n hn
    have id1 : k * (k' * det3 L m n) = e L c * (e L c * det3 L s t) := by
      have h1 : k * (k' * det3 L m n) = dt (e L 0) (e L 1) (e L 2) (k * e m 0) (k * e m 1) (k * e m 2) (k' * e n 0) (k' * e n 1) (k' * e n 2) := by rw [det3_dt]; unfold dt; grind
      rw [h1, es 0, es 1, es 2, et 0, et 1, et 2, det3_dt]
      unfold dt
      grind
    rw [z, Int.mul_zero, Int.mul_zero] at id1
    have dz : det3 L m n = 0 := by
      rcases Int.mul_eq_zero.mp id1 with z | z
      · exact absurd z hk
      · exact (Int.mul_eq_zero.mp z).resolve_left hk'
    have cz : ∀ i j, i = c ∨ j = c → cr i j m n = 0 := by
      intro i j hij
      unfold cr
      rcases hij with rfl | rfl
      · rw [m0, n0]; grind
      · rw [m0, n0]; grind
    rcases h.hc with rfl | rfl | rfl
    · have c1 := cz 0 1 (.inl rfl); have c2 := cz 0 2 (.inl rfl)
      have : e L 0 * cr 1 2 m n = 0 := by unfold det3 at dz; rw [c1, c2] at dz; grind
      have c3 := (Int.mul_eq_zero.mp this).resolve_left hl
      rcases hmn with z | z | z
      · exact z c1
      · exact z c2
      · exact z c3
    · have c1 := cz 0 1 (.inr rfl); have c2 := cz 1 2 (.inl rfl)
      have : e L 1 * cr 0 2 m n = 0 := by unfold det3 at dz; rw [c1, c2] at dz; grind
      have c3 := (Int.mul_eq_zero.mp this).resolve_left hl
      rcases hmn with z | z | z
      · exact z c1
      · exact z c3
      · exact z c2
    · have c1 := cz 0 2 (.inr rfl); have c2 := cz 1 2 (.inr rfl)
      have : e L 2 * cr 0 1 m n = 0 := by unfold det3 at dz; rw [c1, c2] at dz; grind
      have c3 := (Int.mul_eq_zero.mp this).resolve_left hl
      rcases hmn with z | z | z
      · exact z c3
      · exact z c1
      · exact z c2
theorem Step.n3 {c : Nat} {L : Row} {M N : Row → Prop} (h : Step c L M N) : ¬ R3 N := by
  rintro ⟨a, b, d, ha, hb, hd, hdet⟩
  have a0 := h.zero a ha; have b0 := h.zero b hb; have d0 := h.zero d hd
  apply hdet
  unfold det3 cr
  rcases h.hc with rfl | rfl | rfl <;> rw [a0, b0, d0] <;> grind
theorem r32 {M : Row → Prop} (h : R3 M) : R2 M := by
  obtain ⟨a, b, c, ha, hb, hc, hd⟩ := h
  refine ⟨b, c, hb, hc, Classical.byContradiction fun z => hd ?_⟩
  have h1 : cr 0 1 b c = 0 := Classical.byContradiction fun y => z (.inl y)
  have h2 : cr 0 2 b c = 0 := Classical.byContradiction fun y => z (.inr (.inl y))
  have h3 : cr 1 2 b c = 0 := Classical.byContradiction fun y => z (.inr (.inr y))
  unfold det3
  rw [h1, h2, h3]
  grind
theorem r21 {M : Row → Prop} (h : R2 M) : R1 M := by
  obtain ⟨a, b, ha, hb, hd⟩ := h
  refine ⟨a, ha, Classical.byContradiction fun z => ?_⟩
  have h1 : e a 0 = 0 := Classical.byContradiction fun y => z (.inl y)
  have h2 : e a 1 = 0 := Classical.byContradiction fun y => z (.inr (.inl y))
  have h3 : e a 2 = 0 := Classical.byContradiction fun y => z (.inr (.inr y))
  unfold cr at hd
  rw [h1, h2, h3] at hd
  rcases hd with z | z | z <;> exact z (by grind)
open Classical in
noncomputable def rk (M : Row → Prop) : Nat := if R3 M then 3 else if R2 M then 2 else if R1 M then 1 else 0
theorem rk3 {M : Row → Prop} (h : R3 M) : rk M = 3 := by unfold rk; rw [if_pos h]
theorem rk2 {M : Row → Prop} (h : ¬ R3 M) (h2 : R2 M) : rk M = 2 := by unfold rk; rw [if_neg h, if_pos h2]
theorem rk1 {M : Row → Prop} (h : ¬ R2 M) (h2 : R1 M) : rk M = 1 := by unfold rk; rw [if_neg (fun z => h (r32 z)), if_neg h, if_pos h2]
theorem rk0 {M : Row → Prop} (h : ¬ R1 M) : rk M = 0 := by unfold rk; rw [if_neg (fun z => h (r21 (r32 z))), if_neg (fun z => h (r21 z)), if_neg h]
theorem Step.rk {c : Nat} {L : Row} {M N : Row → Prop} (h : Step c L M N) : Rk.rk M = Rk.rk N + 1 := by
  by_cases h3 : R3 M
  · rw [rk3 h3, rk2 h.n3 (h.r3.mp h3)]
  · by_cases h2 : R2 M
    · rw [rk2 h3 h2, rk1 (fun z => h3 (h.r3.mpr z)) (h.r2.mp h2)]
    · rw [rk1 h2 h.r1, rk0 (fun z => h2 (h.r2.mpr z))]
theorem rk_congr {M N : Row → Prop} (h : ∀ r, M r ↔ N r) : rk M = rk N := by
  have : M = N := funext fun r => propext (h r)
  rw [this]
/-- the elimination -/
def nz (c : Nat) (r : Row) : Bool := e r c != 0
def elim : List Nat → List Row → Nat
  | [], _ => 0
  | c :: cs, rows => match rows.filter (nz c) with
    | [] => elim cs rows
    | L :: S => elim cs (rows.filter (fun r => !nz c r) ++ S.map (cl · L c)) + 1
theorem elim_rk (n : Nat) : ∀ (cs : List Nat) (rows : List Row), (∀ r ∈ rows, r.length = n) → (∀ c ∈ cs, c = 0 ∨ c = 1 ∨ c = 2) → (∀ r ∈ rows, ∀ j, j = 0 ∨ j = 1 ∨ j = 2 → j ∉ cs → e r j = 0) → elim cs rows = rk (· ∈ rows)
  | [], rows, _, _, hz => by
    symm
    apply rk0
    rintro ⟨a, ha, h⟩
    rcases h with h | h | h
    · exact h (hz a ha 0 (.inl rfl) (by simp))
    · exact h (hz a ha 1 (.inr (.inl rfl)) (by simp))
    · exact h (hz a ha 2 (.inr (.inr rfl)) (by simp))
  | c :: cs, rows, hn, hc, hz => by
    unfold elim
    split
    · rename_i hf
      refine elim_rk n cs rows hn (fun d hd => hc d (by simp [hd])) fun r hr j hj hjc => ?_
      by_cases q : j = c
      · subst q
        have : r ∉ rows.filter (nz j) := by rw [hf]; simp
        simp only [List.mem_filter, not_and, nz] at this
        simpa using this hr
      · exact hz r hr j hj (by simp [q, hjc])
    · rename_i L S hf
      have memf : ∀ r, r ∈ rows ∧ e r c ≠ 0 ↔ r = L ∨ r ∈ S := by
        intro r
        have : r ∈ rows.filter (nz c) ↔ r ∈ L :: S := by rw [hf]
        simp only [List.mem_filter, nz, bne_iff_ne, List.mem_cons] at this
        exact this
      have hL := (memf L).mpr (.inl rfl)
      have hlen : ∀ s ∈ S, s.length = L.length := fun s hs => by rw [hn s ((memf s).mpr (.inr hs)).1, hn L hL.1]
      have st : Step c L (· ∈ rows) (· ∈ rows.filter (fun r => !nz c r) ++ S.map (cl · L c)) := by
        refine ⟨hc c (by simp), hL.1, hL.2, fun m hm => ?_, fun s hs => ?_⟩
        · rcases List.mem_append.mp hm with hm | hm
          · simp only [List.mem_filter, nz] at hm
            exact ⟨m, hm.1, .inr ⟨by simpa using hm.2, rfl⟩⟩
          · obtain ⟨s, hs, rfl⟩ := List.mem_map.mp hm
            exact ⟨s, ((memf s).mpr (.inr hs)).1, .inl fun j => e_cl c j (hlen s hs)⟩
        · by_cases q : e s c = 0
          · exact .inr (.inl ⟨q, List.mem_append.mpr (.inl (List.mem_filter.mpr ⟨hs, by simp [nz, q]⟩))⟩)
          · rcases (memf s).mp ⟨hs, q⟩ with rfl | hS
            · exact .inl rfl
            · exact .inr (.inr ⟨cl s L c, List.mem_append.mpr (.inr (List.mem_map.mpr ⟨s, hS, rfl⟩)), fun j => e_cl c j (hlen s hS)⟩)
      rw [st.rk]
      congr 1
      refine elim_rk n cs _ (fun r hr => ?_) (fun d hd => hc d (by simp [hd])) fun r hr j hj hjc => ?_
      · rcases List.mem_append.mp hr with hr | hr
        · exact hn r (List.mem_filter.mp hr).1
        · obtain ⟨s, hs, rfl⟩ := List.mem_map.mp hr
          rw [cl_len c (hlen s hs), hn L hL.1]
      · by_cases q : j = c
        · subst q; exact st.zero r hr
        · have out : ∀ s, s ∈ rows → e s j = 0 := fun s hs => hz s hs j hj (by simp [q, hjc])
          obtain ⟨s, hs, k, hk, he⟩ := st.src r hr
          have := he j
          rw [out s hs, out L hL.1] at this
          have h0 : k * e r j = 0 := by rw [this]; grind
          exact (Int.mul_eq_zero.mp h0).resolve_left hk
/-- the rank of rows with n entries, n at most 3 -/
def rankOf (rows : List Row) : Nat := elim (List.range (match rows with | [] => 0 | r :: _ => r.length)) rows
theorem rankOf_rk {n : Nat} (rows : List Row) (hn : ∀ r ∈ rows, r.length = n) (h3 : n ≤ 3) : rankOf rows = rk (· ∈ rows) := by
  unfold rankOf
  cases rows with
  | nil =>
    show elim [] [] = _
    symm
    exact rk0 (by rintro ⟨a, ha, _⟩; cases ha)
  | cons r rows =>
    have hr := hn r (by simp)
    dsimp only
    rw [hr]
    refine elim_rk n (List.range n) (r :: rows) hn (fun c hc => ?_) fun s hs j hj hjc => ?_
    · have := List.mem_range.mp hc
      omega
    · have : ¬ j < n := fun z => hjc (List.mem_range.mpr z)
      unfold e
      rw [List.getD_eq_getElem?_getD, List.getElem?_eq_none (by rw [hn s hs]; omega)]
      rfl
end Rk

namespace Rk
def pstep {α : Type} (xs : List α) (found : List (List α × Nat)) : List (List α × Nat) := found.flatMap fun p => ((xs.drop p.2).zipIdx p.2).map fun q => (p.1 ++ [q.1], q.2 + 1)
def pit {α : Type} (xs : List α) : Nat → List (List α × Nat)
  | 0 => [([], 0)]
  | k + 1 => pstep xs (pit xs k)
/-- the lots of k things, in the order of their places -/
def parts {α : Type} (xs : List α) (k : Nat) : List (List α) := (pit xs k).map (·.1)
theorem mem_pstep {α : Type} {xs : List α} {found : List (List α × Nat)} {t : List α} {s : Nat} : (t, s) ∈ pstep xs found ↔ ∃ t' s' x i, (t', s') ∈ found ∧ s' ≤ i ∧ xs[i]? = some x ∧ t = t' ++ [x] ∧ s = i + 1 := by
  unfold pstep
  rw [List.mem_flatMap]
  constructor
  · rintro ⟨⟨t', s'⟩, hp, hq⟩
    obtain ⟨⟨x, i⟩, hx, he⟩ := List.mem_map.mp hq
    obtain ⟨hle, hx⟩ := List.mem_zipIdx_iff_le_and_getElem?_sub.mp hx
    dsimp only at hle hx
    rw [List.getElem?_drop, Nat.add_sub_cancel' hle] at hx
    injection he with e1 e2
    exact ⟨t', s', x, i, hp, hle, hx, e1.symm, e2.symm⟩
  · rintro ⟨t', s', x, i, hp, hle, hx, rfl, rfl⟩
    refine ⟨(t', s'), hp, List.mem_map.mpr ⟨(x, i), ?_, rfl⟩⟩
    refine List.mem_zipIdx_iff_le_and_getElem?_sub.mpr ⟨hle, ?_⟩
    dsimp only
    rw [List.getElem?_drop, Nat.add_sub_cancel' hle]
    exact hx
theorem pit_in {α : Type} {xs : List α} : ∀ {k : Nat} {t : List α} {s : Nat}, (t, s) ∈ pit xs k → t.length = k ∧ (∀ x ∈ t, x ∈ xs) ∧ s ≤ xs.length
  | 0, t, s, h => by
    have : (t, s) = ([], 0) := by simpa [pit] using h
    injection this with e1 e2
    subst e1; subst e2
    exact ⟨rfl, by simp, Nat.zero_le _⟩
  | k + 1, t, s, h => by
    obtain ⟨t', s', x, i, hp, hle, hx, rfl, rfl⟩ := mem_pstep.mp h
    obtain ⟨h1, h2, h3⟩ := pit_in hp
    refine ⟨by simp [h1], fun y hy => ?_, (List.getElem?_eq_some_iff.mp hx).1⟩
    rcases List.mem_append.mp hy with hy | hy
    · exact h2 y hy
    · cases List.mem_singleton.mp hy; exact List.mem_of_getElem? hx
theorem pit_ext {α : Type} {xs : List α} {k : Nat} {t : List α} {s i : Nat} {x : α} (h : (t, s) ∈ pit xs k) (hi : s ≤ i) (hx : xs[i]? = some x) : (t ++ [x], i + 1) ∈ pit xs (k + 1) := mem_pstep.mpr ⟨t, s, x, i, h, hi, hx, rfl, rfl⟩
theorem parts_in {α : Type} {xs : List α} {k : Nat} {t : List α} (h : t ∈ parts xs k) : t.length = k ∧ ∀ x ∈ t, x ∈ xs := by
  obtain ⟨⟨t', s⟩, hp, rfl⟩ := List.mem_map.mp h
  exact ⟨(pit_in hp).1, (pit_in hp).2.1⟩
theorem pit0 {α : Type} {xs : List α} : (([] : List α), 0) ∈ pit xs 0 := by simp [pit]
theorem parts1 {α : Type} {xs : List α} {a : α} (h : a ∈ xs) : [a] ∈ parts xs 1 := by
  obtain ⟨i, hi⟩ := List.getElem?_of_mem h
  exact List.mem_map.mpr ⟨_, pit_ext pit0 (Nat.zero_le i) hi, rfl⟩
theorem parts2 {α : Type} {xs : List α} {a b : α} {i j : Nat} (hij : i < j) (ha : xs[i]? = some a) (hb : xs[j]? = some b) : [a, b] ∈ parts xs 2 :=
  List.mem_map.mpr ⟨_, pit_ext (pit_ext pit0 (Nat.zero_le i) ha) hij hb, rfl⟩
theorem parts3 {α : Type} {xs : List α} {a b c : α} {i j k : Nat} (hij : i < j) (hjk : j < k) (ha : xs[i]? = some a) (hb : xs[j]? = some b) (hc : xs[k]? = some c) : [a, b, c] ∈ parts xs 3 :=
  List.mem_map.mpr ⟨_, pit_ext (pit_ext (pit_ext pit0 (Nat.zero_le i) ha) hij hb) hjk hc, rfl⟩
/-! minors -/
def detL : List Row → Int
  | [a] => e a 0
  | [a, b] => e a 0 * e b 1 - e a 1 * e b 0
  | [a, b, c] => e a 0 * (e b 1 * e c 2 - e b 2 * e c 1) - e a 1 * (e b 0 * e c 2 - e b 2 * e c 0) + e a 2 * (e b 0 * e c 1 - e b 1 * e c 0)
  | _ => 0
def minors (n : Nat) (lot : List Row) : List Int := (parts (List.range n) lot.length).map fun pl => detL (lot.map fun r => pl.map fun j => e r j)
def gcds (ms : List Int) : Int := ms.foldl (fun g m => (Int.gcd g m : Int)) 0
theorem gcds_ne (ms : List Int) : gcds ms ≠ 0 ↔ ∃ m ∈ ms, m ≠ 0 := by
  have key : ∀ (ms : List Int) (g : Int), ms.foldl (fun g m => (Int.gcd g m : Int)) g ≠ 0 ↔ g ≠ 0 ∨ ∃ m ∈ ms, m ≠ 0 := by
    intro ms
    induction ms with
    | nil => intro g; simp
    | cons m ms ih =>
      intro g
      rw [List.foldl_cons, ih]
      have : ((Int.gcd g m : Nat) : Int) ≠ 0 ↔ g ≠ 0 ∨ m ≠ 0 := by
        constructor
        · intro h
          apply Classical.byContradiction
          intro z
          have h1 : g = 0 := Classical.byContradiction fun y => z (.inl y)
          have h2 : m = 0 := Classical.byContradiction fun y => z (.inr y)
          subst h1; subst h2
          exact h rfl
        · rintro h z
          have z' : Int.gcd g m = 0 := by omega
          rw [Int.gcd_eq_zero_iff] at z'
          exact h.elim (fun y => y z'.1) (fun y => y z'.2)
      rw [this]
      simp only [List.mem_cons, exists_eq_or_imp]
      exact or_assoc
  rw [gcds, key]
  simp
theorem gcds_nn (ms : List Int) : 0 ≤ gcds ms := by
  have key : ∀ (ms : List Int) (g : Int), 0 ≤ g → 0 ≤ ms.foldl (fun g m => (Int.gcd g m : Int)) g := by
    intro ms
    induction ms with
    | nil => intro g h; exact h
    | cons m ms ih => intro g h; exact ih _ (Int.natCast_nonneg _)
  exact key ms 0 (by decide)
def divisor (n : Nat) (lot : List Row) : Int := gcds (minors n lot)
theorem e0 (x : Int) (r : Row) : e (x :: r) 0 = x := rfl
theorem e1 (x y : Int) (r : Row) : e (x :: y :: r) 1 = y := rfl
theorem e2 (x y z : Int) (r : Row) : e (x :: y :: z :: r) 2 = z := rfl
theorem p11 : parts (List.range 1) 1 = [[0]] := by decide
theorem p21 : parts (List.range 2) 1 = [[0], [1]] := by decide
theorem p31 : parts (List.range 3) 1 = [[0], [1], [2]] := by decide
theorem p22 : parts (List.range 2) 2 = [[0, 1]] := by decide
theorem p32 : parts (List.range 3) 2 = [[0, 1], [0, 2], [1, 2]] := by decide
theorem p33 : parts (List.range 3) 3 = [[0, 1, 2]] := by decide
theorem e_out {r : Row} {n j : Nat} (h : r.length = n) (hj : n ≤ j) : e r j = 0 := by
  unfold e
  rw [List.getD_eq_getElem?_getD, List.getElem?_eq_none (by omega)]
  rfl
theorem two_of_len {α : Type} {t : List α} (h : t.length = 2) : ∃ a b, t = [a, b] := by
  match t, h with
  | [a, b], _ => exact ⟨a, b, rfl⟩
theorem three_of_len {α : Type} {t : List α} (h : t.length = 3) : ∃ a b c, t = [a, b, c] := by
  match t, h with
  | [a, b, c], _ => exact ⟨a, b, c, rfl⟩
theorem one_of_len {α : Type} {t : List α} (h : t.length = 1) : ∃ a, t = [a] := by
  match t, h with
  | [a], _ => exact ⟨a, rfl⟩
theorem min1 {n : Nat} (a : Row) (hn : n = 1 ∨ n = 2 ∨ n = 3) (ha : a.length = n) : (∃ m ∈ minors n [a], m ≠ 0) ↔ (e a 0 ≠ 0 ∨ e a 1 ≠ 0 ∨ e a 2 ≠ 0) := by
  unfold minors
  rcases hn with rfl | rfl | rfl
  · have h1 := e_out (j := 1) ha (by decide); have h2 := e_out (j := 2) ha (by decide)
    rw [show [a].length = 1 from rfl, p11]
    simp [detL, e0, h1, h2]
  · have h2 := e_out (j := 2) ha (by decide)
    simp [p21, detL, e0, h2]
  · simp [p31, detL, e0]
theorem min2 {n : Nat} (a b : Row) (hn : n = 2 ∨ n = 3) (ha : a.length = n) (hb : b.length = n) : (∃ m ∈ minors n [a, b], m ≠ 0) ↔ (cr 0 1 a b ≠ 0 ∨ cr 0 2 a b ≠ 0 ∨ cr 1 2 a b ≠ 0) := by
  unfold minors cr
  rcases hn with rfl | rfl
  · have h2 := e_out (j := 2) ha (by decide); have h3 := e_out (j := 2) hb (by decide)
    simp [p22, detL, e0, e1, h2, h3]
  · simp [p32, detL, e0, e1]
theorem min3 (a b c : Row) : (∃ m ∈ minors 3 [a, b, c], m ≠ 0) ↔ det3 a b c ≠ 0 := by
  unfold minors det3 cr
  simp [p33, detL, e0, e1, e2]
theorem has1 {n : Nat} {rows : List Row} (hl : ∀ r ∈ rows, r.length = n) (hn : n = 1 ∨ n = 2 ∨ n = 3) : (∃ lot ∈ parts rows 1, divisor n lot ≠ 0) ↔ R1 (· ∈ rows) := by
  constructor
  · rintro ⟨lot, hlot, hd⟩
    obtain ⟨h1, h2⟩ := parts_in hlot
    obtain ⟨a, rfl⟩ := one_of_len h1
    have ha := h2 a (by simp)
    exact ⟨a, ha, (min1 a hn (hl a ha)).mp ((gcds_ne _).mp hd)⟩
  · rintro ⟨a, ha, h⟩
    exact ⟨[a], parts1 ha, (gcds_ne _).mpr ((min1 a hn (hl a ha)).mpr h)⟩
theorem has2 {n : Nat} {rows : List Row} (hl : ∀ r ∈ rows, r.length = n) (hn : n = 2 ∨ n = 3) : (∃ lot ∈ parts rows 2, divisor n lot ≠ 0) ↔ R2 (· ∈ rows) := by
  constructor
  · rintro ⟨lot, hlot, hd⟩
    obtain ⟨h1, h2⟩ := parts_in hlot
    obtain ⟨a, b, rfl⟩ := two_of_len h1
    have ha := h2 a (by simp); have hb := h2 b (by simp)
    exact ⟨a, b, ha, hb, (min2 a b hn (hl a ha) (hl b hb)).mp ((gcds_ne _).mp hd)⟩
  · rintro ⟨a, b, ha, hb, h⟩
    obtain ⟨i, hi⟩ := List.getElem?_of_mem ha
    obtain ⟨j, hj⟩ := List.getElem?_of_mem hb
    have sw : cr 0 1 b a ≠ 0 ∨ cr 0 2 b a ≠ 0 ∨ cr 1 2 b a ≠ 0 := by
      unfold cr at h ⊢
      rcases h with h | h | h
      · exact .inl (by grind)
      · exact .inr (.inl (by grind))
      · exact .inr (.inr (by grind))
    rcases Nat.lt_trichotomy i j with q | q | q
    · exact ⟨[a, b], parts2 q hi hj, (gcds_ne _).mpr ((min2 a b hn (hl a ha) (hl b hb)).mpr h)⟩
    · exfalso
      subst q
      rw [hi] at hj
      cases hj
      unfold cr at h
      rcases h with h | h | h <;> exact h (by grind)
    · exact ⟨[b, a], parts2 q hj hi, (gcds_ne _).mpr ((min2 b a hn (hl b hb) (hl a ha)).mpr sw)⟩
theorem has3 {rows : List Row} (hl : ∀ r ∈ rows, r.length = 3) : (∃ lot ∈ parts rows 3, divisor 3 lot ≠ 0) ↔ R3 (· ∈ rows) := by
  constructor
  · rintro ⟨lot, hlot, hd⟩
    obtain ⟨h1, h2⟩ := parts_in hlot
    obtain ⟨a, b, c, rfl⟩ := three_of_len h1
    exact ⟨a, b, c, h2 a (by simp), h2 b (by simp), h2 c (by simp), (min3 a b c).mp ((gcds_ne _).mp hd)⟩
  · rintro ⟨a, b, c, ha, hb, hc, h⟩
    obtain ⟨i, hi⟩ := List.getElem?_of_mem ha
    obtain ⟨j, hj⟩ := List.getElem?_of_mem hb
    obtain ⟨k, hk⟩ := List.getElem?_of_mem hc
    have fin : ∀ {x y z : Row} {i j k : Nat}, i < j → j < k → rows[i]? = some x → rows[j]? = some y → rows[k]? = some z → det3 x y z ≠ 0 → ∃ lot ∈ parts rows 3, divisor 3 lot ≠ 0 := fun {x y z i j k} h1 h2 hx hy hz hd =>
      ⟨[x, y, z], parts3 h1 h2 hx hy hz, (gcds_ne _).mpr ((min3 x y z).mpr hd)⟩
    have dbl : ∀ {x y : Row}, det3 x x y = 0 ∧ det3 x y x = 0 ∧ det3 y x x = 0 := fun {x y} => by unfold det3 cr; refine ⟨by grind, by grind, by grind⟩
    rcases Nat.lt_trichotomy i j with q | q | q
    · rcases Nat.lt_trichotomy j k with p | p | p
      · exact fin q p hi hj hk h
      · exfalso; subst p; rw [hj] at hk; cases hk; exact h dbl.2.2
      · rcases Nat.lt_trichotomy i k with r | r | r
        · exact fin r p hi hk hj (by unfold det3 cr at h ⊢; grind)
        · exfalso; subst r; rw [hi] at hk; cases hk; exact h dbl.2.1
        · exact fin r q hk hi hj (by unfold det3 cr at h ⊢; grind)
    · exfalso; subst q; rw [hi] at hj; cases hj; exact h dbl.1
    · rcases Nat.lt_trichotomy i k with p | p | p
      · exact fin q p hj hi hk (by unfold det3 cr at h ⊢; grind)
      · exfalso; subst p; rw [hi] at hk; cases hk; exact h dbl.2.1
      · rcases Nat.lt_trichotomy j k with r | r | r
        · exact fin r p hj hk hi (by unfold det3 cr at h ⊢; grind)
        · exfalso; subst r; rw [hj] at hk; cases hk; exact h dbl.2.2
        · exact fin r q hk hj hi (by unfold det3 cr at h ⊢; grind)
theorem no3 {n : Nat} {rows : List Row} (hl : ∀ r ∈ rows, r.length = n) (hn : n < 3) : ¬ R3 (· ∈ rows) := by
  rintro ⟨a, b, c, ha, hb, hc, h⟩
  have h1 := e_out (j := 2) (hl a ha) (by omega)
  have h2 := e_out (j := 2) (hl b hb) (by omega)
  have h3 := e_out (j := 2) (hl c hc) (by omega)
  apply h; unfold det3 cr; rw [h1, h2, h3]; grind
theorem no2 {n : Nat} {rows : List Row} (hl : ∀ r ∈ rows, r.length = n) (hn : n < 2) : ¬ R2 (· ∈ rows) := by
  rintro ⟨a, b, ha, hb, h⟩
  have h1 := e_out (j := 2) (hl a ha) (by omega)
  have h2 := e_out (j := 2) (hl b hb) (by omega)
  have h3 := e_out (j := 1) (hl a ha) (by omega)
  have h4 := e_out (j := 1) (hl b hb) (by omega)
  unfold cr at h
  rw [h1, h2, h3, h4] at h
  rcases h with h | h | h <;> exact h (by grind)
end Rk

namespace Rk
theorem gcds_abs (ms ns : List Int) (h : ms.map Int.natAbs = ns.map Int.natAbs) : gcds ms = gcds ns := by
  have key : ∀ (ms ns : List Int) (g : Int), ms.map Int.natAbs = ns.map Int.natAbs → ms.foldl (fun g m => (Int.gcd g m : Int)) g = ns.foldl (fun g m => (Int.gcd g m : Int)) g := by
    intro ms
    induction ms with
    | nil =>
      intro ns g h
      cases ns with
      | nil => rfl
      | cons => simp at h
    | cons m ms ih =>
      intro ns g h
      cases ns with
      | nil => simp at h
      | cons n ns =>
        simp only [List.map_cons, List.cons.injEq] at h
        rw [List.foldl_cons, List.foldl_cons]
        have : Int.gcd g m = Int.gcd g n := by unfold Int.gcd; rw [h.1]
        rw [this]
        exact ih ns _ h.2
  exact key ms ns 0 h
def pk (lot : List Row) (pl : List Nat) : List Row := lot.map fun r => pl.map fun j => e r j
theorem minors_eq (n : Nat) (lot lot' : List Row) (hl : lot.length = lot'.length) (h : ∀ pl : List Nat, pl.length = lot.length → (detL (pk lot pl)).natAbs = (detL (pk lot' pl)).natAbs) : divisor n lot = divisor n lot' := by
  apply gcds_abs
  unfold minors
  rw [List.map_map, List.map_map, ← hl]
  apply List.map_congr_left
  intro pl hpl
  exact h pl (parts_in hpl).1
theorem det2 (a b : Row) (i j : Nat) : detL (pk [a, b] [i, j]) = e a i * e b j - e a j * e b i := rfl
theorem det3' (a b c : Row) (i j k : Nat) : detL (pk [a, b, c] [i, j, k]) = e a i * (e b j * e c k - e b k * e c j) - e a j * (e b i * e c k - e b k * e c i) + e a k * (e b i * e c j - e b j * e c i) := rfl
theorem perm2 {α : Type} {x y a b : α} (h : [x, y].Perm [a, b]) : (x = a ∧ y = b) ∨ (x = b ∧ y = a) := by
  have hx : x ∈ [a, b] := h.mem_iff.mp (by simp)
  simp only [List.mem_cons, List.not_mem_nil, or_false] at hx
  rcases hx with rfl | rfl
  · have := List.Perm.cons_inv h
    exact .inl ⟨rfl, by simpa using this⟩
  · have := List.Perm.cons_inv (h.trans (List.Perm.swap x a []))
    exact .inr ⟨rfl, by simpa using this⟩
theorem divisor_perm (n : Nat) (zs lot : List Row) (hk : lot.length = 1 ∨ lot.length = 2 ∨ lot.length = 3) (h : zs.Perm lot) : divisor n zs = divisor n lot := by
  have hl := h.length_eq
  rcases hk with hk | hk | hk
  · obtain ⟨a, rfl⟩ := one_of_len hk
    obtain ⟨x, rfl⟩ := one_of_len (hl.trans hk)
    have : x = a := by simpa using h
    rw [this]
  · obtain ⟨a, b, rfl⟩ := two_of_len hk
    obtain ⟨x, y, rfl⟩ := two_of_len (hl.trans hk)
    refine minors_eq n _ _ rfl fun pl hpl => ?_
    obtain ⟨i, j, rfl⟩ := two_of_len hpl
    rw [det2, det2]
    rcases perm2 h with ⟨rfl, rfl⟩ | ⟨rfl, rfl⟩
    · rfl
    · rw [← Int.natAbs_neg]; congr 1; grind
  · obtain ⟨a, b, c, rfl⟩ := three_of_len hk
    obtain ⟨x, y, z, rfl⟩ := three_of_len (hl.trans hk)
    refine minors_eq n _ _ rfl fun pl hpl => ?_
    obtain ⟨i, j, k, rfl⟩ := three_of_len hpl
    rw [det3', det3']
    have hx : x ∈ [a, b, c] := h.mem_iff.mp (by simp)
    simp only [List.mem_cons, List.not_mem_nil, or_false] at hx
    have neg : ∀ {u v : Int}, u = -v → u.natAbs = v.natAbs := fun h => by rw [h, Int.natAbs_neg]
    rcases hx with rfl | rfl | rfl
    · rcases perm2 (List.Perm.cons_inv h) with ⟨rfl, rfl⟩ | ⟨rfl, rfl⟩
      · rfl
      · exact neg (by grind)
    · have h2 : [x, y, z].Perm [x, a, c] := h.trans (List.Perm.swap x a [c])
      rcases perm2 (List.Perm.cons_inv h2) with ⟨rfl, rfl⟩ | ⟨rfl, rfl⟩
      · exact neg (by grind)
      · congr 1; grind
    · have h2 : [x, y, z].Perm [x, a, b] := h.trans (((List.Perm.swap x b []).cons a).trans (List.Perm.swap x a [b]))
      rcases perm2 (List.Perm.cons_inv h2) with ⟨rfl, rfl⟩ | ⟨rfl, rfl⟩
      · congr 1; grind
      · exact neg (by grind)
/-- a multiple of the second row added to the first one -/
def addm (m : Int) (a b : Row) : Row := (a.zip b).map fun p => p.1 + m * p.2
theorem e_addm {m : Int} {a b : Row} (h : a.length = b.length) (j : Nat) : e (addm m a b) j = e a j + m * e b j := by
  unfold addm
  show (List.map _ (a.zip b)).getD j 0 = a.getD j 0 + m * b.getD j 0
  rw [List.getD_eq_getElem?_getD, List.getD_eq_getElem?_getD, List.getD_eq_getElem?_getD, List.getElem?_map]
  by_cases hj : j < a.length
  · have hz : j < (a.zip b).length := by rw [List.length_zip]; omega
    rw [List.getElem?_eq_getElem hz, List.getElem?_eq_getElem hj, List.getElem?_eq_getElem (by omega : j < b.length), List.getElem_zip]
    rfl
  · rw [List.getElem?_eq_none (by rw [List.length_zip]; omega), List.getElem?_eq_none (by omega), List.getElem?_eq_none (by omega)]
    simp
theorem divisor_addm (n : Nat) (m : Int) (a b : Row) (rest : List Row) (hr : rest.length ≤ 1) (hab : a.length = b.length) : divisor n (addm m a b :: b :: rest) = divisor n (a :: b :: rest) := by
  refine minors_eq n _ _ rfl fun pl hpl => ?_
  cases rest with
  | nil =>
    obtain ⟨i, j, rfl⟩ := two_of_len hpl
    rw [det2, det2, e_addm hab, e_addm hab]
    congr 1; grind
  | cons c rest =>
    obtain rfl : rest = [] := by
      cases rest with
      | nil => rfl
      | cons => simp at hr
    obtain ⟨i, j, k, rfl⟩ := three_of_len hpl
    rw [det3', det3', e_addm hab, e_addm hab, e_addm hab]
    congr 1; grind
theorem rk_lt1 {M : Row → Prop} : rk M < 1 ↔ ¬ R1 M := by
  constructor
  · intro h z
    by_cases h3 : R3 M
    · rw [rk3 h3] at h; omega
    · by_cases h2 : R2 M
      · rw [rk2 h3 h2] at h; omega
      · rw [rk1 h2 z] at h; omega
  · intro h; rw [rk0 h]; omega
theorem rk_lt2 {M : Row → Prop} : rk M < 2 ↔ ¬ R2 M := by
  constructor
  · intro h z
    by_cases h3 : R3 M
    · rw [rk3 h3] at h; omega
    · rw [rk2 h3 z] at h; omega
  · intro h
    by_cases h1 : R1 M
    · rw [rk1 h h1]; omega
    · rw [rk0 h1]; omega
theorem rk_lt3 {M : Row → Prop} : rk M < 3 ↔ ¬ R3 M := by
  constructor
  · intro h z
    rw [rk3 z] at h; omega
  · intro h
    by_cases h2 : R2 M
    · rw [rk2 h h2]; omega
    · by_cases h1 : R1 M
      · rw [rk1 h2 h1]; omega
      · rw [rk0 h1]; omega
/-- a lot's divisor is 0 exactly if its rank is less than its size -/
theorem div_rk {n : Nat} {lot : List Row} (hk : lot.length = 1 ∨ lot.length = 2 ∨ lot.length = 3) (hn : n = 1 ∨ n = 2 ∨ n = 3) (hl : ∀ r ∈ lot, r.length = n) :
    (if lot.length ≤ n then divisor n lot else 0) = 0 ↔ rk (· ∈ lot) < lot.length := by
  have one : ∀ k, parts lot k = [lot] → ((∃ l ∈ parts lot k, divisor n l ≠ 0) ↔ divisor n lot ≠ 0) := fun k e => by rw [e]; simp
  rcases hk with hk | hk | hk
  · obtain ⟨a, rfl⟩ := one_of_len hk
    rw [if_pos (by simp; omega)]
    show _ ↔ rk _ < 1
    rw [rk_lt1, ← has1 hl hn, one 1 rfl]
    simp
  · obtain ⟨a, b, rfl⟩ := two_of_len hk
    show _ ↔ rk _ < 2
    rw [rk_lt2]
    by_cases h : 2 ≤ n
    · rw [if_pos (by simpa using h), ← has2 hl (by omega), one 2 rfl]
      simp
    · rw [if_neg (by simpa using h)]
      exact ⟨fun _ => no2 hl (by omega), fun _ => rfl⟩
  · obtain ⟨a, b, c, rfl⟩ := three_of_len hk
    show _ ↔ rk _ < 3
    rw [rk_lt3]
    by_cases h : 3 ≤ n
    · obtain rfl : n = 3 := by omega
      rw [if_pos (by simp), ← has3 hl, one 3 rfl]
      simp
    · rw [if_neg (by simpa using h)]
      exact ⟨fun _ => no3 hl (by omega), fun _ => rfl⟩
/-- more rows than entries: no minors -/
theorem div_big : ∀ n k : Nat, n ≤ 3 → k ≤ 3 → n < k → parts (List.range n) k = [] := by
  intro n k hn hk h
  match n, k, hn, hk, h with
  | 0, 1, _, _, _ => rfl
  | 0, 2, _, _, _ => rfl
  | 0, 3, _, _, _ => rfl
  | 1, 2, _, _, _ => rfl
  | 1, 3, _, _, _ => rfl
  | 2, 3, _, _, _ => rfl
  | n + 3, k, hn, hk, h => exact absurd h (by omega)
theorem divisor_big {n : Nat} {lot : List Row} (hn : n ≤ 3) (hk : lot.length ≤ 3) (h : n < lot.length) : divisor n lot = 0 := by
  unfold divisor minors
  rw [div_big n _ hn hk h]
  rfl
end Rk

namespace Rk
/-! directions along rows -/
def gcdR (r : Row) : Int := r.foldl (fun g x => (Int.gcd g x : Int)) 0
def firstNZ (r : Row) : Int := r.foldl (fun f x => if f = 0 then x else f) 0
def scale (r : Row) : Int := if firstNZ r < 0 then -(gcdR r) else gcdR r
def along (r : Row) : Row := r.map fun x => x.fdiv (scale r)
theorem gcdR_eq (r : Row) : gcdR r = gcds r := rfl
theorem gcdR_nn (r : Row) : 0 ≤ gcdR r := gcds_nn r
theorem gcdR_ne (r : Row) : gcdR r ≠ 0 ↔ ∃ x ∈ r, x ≠ 0 := gcds_ne r
theorem gcdF_dvd : ∀ (r : Row) (g : Int), (r.foldl (fun g x => (Int.gcd g x : Int)) g ∣ g) ∧ ∀ x ∈ r, r.foldl (fun g x => (Int.gcd g x : Int)) g ∣ x
  | [], g => ⟨Int.dvd_refl g, fun x h => by simp at h⟩
  | y :: r, g => by
    obtain ⟨h1, h2⟩ := gcdF_dvd r (Int.gcd g y : Int)
    rw [List.foldl_cons]
    refine ⟨Int.dvd_trans h1 (Int.gcd_dvd_left g y), fun x hx => ?_⟩
    rcases List.mem_cons.mp hx with rfl | hx
    · exact Int.dvd_trans h1 (Int.gcd_dvd_right g x)
    · exact h2 x hx
theorem gcdR_dvd {r : Row} {x : Int} (h : x ∈ r) : gcdR r ∣ x := (gcdF_dvd r 0).2 x h
theorem gcdF_mul (s : Int) : ∀ (r : Row) (g : Int), (r.map (s * ·)).foldl (fun g x => (Int.gcd g x : Int)) (s.natAbs * g) = s.natAbs * r.foldl (fun g x => (Int.gcd g x : Int)) g
  | [], g => rfl
  | y :: r, g => by
    rw [List.map_cons, List.foldl_cons, List.foldl_cons, ← gcdF_mul s r]
    congr 1
    have : Int.gcd ((s.natAbs : Int) * g) (s * y) = s.natAbs * Int.gcd g y := by
      unfold Int.gcd
      rw [Int.natAbs_mul, Int.natAbs_mul, Int.natAbs_natCast, Nat.gcd_mul_left]
    rw [this]
    simp
theorem gcdR_mul (s : Int) (r : Row) : gcdR (r.map (s * ·)) = s.natAbs * gcdR r := by
  have := gcdF_mul s r 0
  rwa [Int.mul_zero] at this
theorem firstF_mul {s : Int} (hs : s ≠ 0) : ∀ (r : Row) (f : Int), (r.map (s * ·)).foldl (fun f x => if f = 0 then x else f) (s * f) = s * r.foldl (fun f x => if f = 0 then x else f) f
  | [], f => rfl
  | y :: r, f => by
    rw [List.map_cons, List.foldl_cons, List.foldl_cons, ← firstF_mul hs r]
    congr 1
    by_cases h : f = 0
    · rw [if_pos (by rw [h, Int.mul_zero]), if_pos h]
    · rw [if_neg (fun z => (Int.mul_eq_zero.mp z).elim hs h), if_neg h]
theorem firstNZ_mul {s : Int} (hs : s ≠ 0) (r : Row) : firstNZ (r.map (s * ·)) = s * firstNZ r := by
  have := firstF_mul hs r 0
  rwa [Int.mul_zero] at this
theorem firstF_ne : ∀ (r : Row) (f : Int), r.foldl (fun f x => if f = 0 then x else f) f ≠ 0 ↔ f ≠ 0 ∨ ∃ x ∈ r, x ≠ 0
  | [], f => by simp
  | y :: r, f => by
    rw [List.foldl_cons, firstF_ne r]
    by_cases h : f = 0
    · rw [if_pos h, h]
      simp
    · rw [if_neg h]
      simp [h]
theorem firstNZ_ne (r : Row) : firstNZ r ≠ 0 ↔ ∃ x ∈ r, x ≠ 0 := by
  unfold firstNZ
  rw [firstF_ne]
  simp
section
variable {r : Row} (h : ∃ x ∈ r, x ≠ 0)
include h
theorem scale_ne : scale r ≠ 0 := by
  have := (gcdR_ne r).mpr h
  unfold scale
  split <;> omega
theorem scale_abs : (scale r).natAbs = (gcdR r).natAbs := by
  unfold scale
  split
  · exact Int.natAbs_neg _
  · rfl
theorem scale_dvd {x : Int} (hx : x ∈ r) : scale r ∣ x := by
  have := gcdR_dvd hx
  unfold scale
  split
  · exact Int.neg_dvd.mpr this
  · exact this
theorem along_mul : (along r).map (scale r * ·) = r := by
  unfold along
  rw [List.map_map]
  have : ∀ x ∈ r, ((scale r * ·) ∘ fun x => x.fdiv (scale r)) x = x := fun x hx => by
    obtain ⟨y, hy⟩ := scale_dvd h hx
    show scale r * x.fdiv (scale r) = x
    rw [hy, Int.mul_fdiv_cancel_left _ (scale_ne h)]
  exact (List.map_congr_left this).trans (List.map_id r)
theorem along_gcd : gcdR (along r) = 1 := by
  have h1 := gcdR_mul (scale r) (along r)
  rw [along_mul h, scale_abs h] at h1
  have h2 := gcdR_nn r
  have h3 := (gcdR_ne r).mpr h
  have h4 : ((gcdR r).natAbs : Int) = gcdR r := by omega
  rw [h4] at h1
  have h5 : gcdR r * 1 = gcdR r * gcdR (along r) := by rw [Int.mul_one]; exact h1
  exact (Int.eq_of_mul_eq_mul_left h3 h5).symm
theorem along_first : 0 < firstNZ (along r) := by
  have h1 := firstNZ_mul (scale_ne h) (along r)
  rw [along_mul h] at h1
  have h2 := (gcdR_ne r).mpr h
  have h3 := gcdR_nn r
  have h4 := (firstNZ_ne r).mpr h
  by_cases q : firstNZ r < 0
  · have hs : scale r = -(gcdR r) := if_pos q
    rw [hs] at h1
    rcases Int.lt_trichotomy (firstNZ (along r)) 0 with z | z | z
    · exfalso
      have : 0 < -gcdR r * firstNZ (along r) := Int.mul_pos_of_neg_of_neg (by omega) z
      omega
    · rw [z, Int.mul_zero] at h1; exact absurd h1 h4
    · exact z
  · have hs : scale r = gcdR r := if_neg q
    rw [hs] at h1
    rcases Int.lt_trichotomy (firstNZ (along r)) 0 with z | z | z
    · exfalso
      have : gcdR r * firstNZ (along r) < 0 := Int.mul_neg_of_pos_of_neg (by omega) z
      omega
    · rw [z, Int.mul_zero] at h1; exact absurd h1 h4
    · exact z
theorem along_nz : ∃ x ∈ along r, x ≠ 0 := (firstNZ_ne _).mp (by have := along_first h; omega)
theorem along_le {m : Int} (hm : ∀ x ∈ r, -m ≤ x ∧ x ≤ m) : ∀ y ∈ along r, -m ≤ y ∧ y ≤ m := by
  intro y hy
  have hx : scale r * y ∈ r := by
    have : scale r * y ∈ (along r).map (scale r * ·) := List.mem_map.mpr ⟨y, hy, rfl⟩
    rwa [along_mul h] at this
  have b := hm _ hx
  have h1 : y.natAbs ≤ (scale r * y).natAbs := by
    rw [Int.natAbs_mul]
    have : 0 < (scale r).natAbs := Int.natAbs_pos.mpr (scale_ne h)
    exact Nat.le_mul_of_pos_left _ this
  omega
end
/-- a direction: not all 0, no common factor, the first entry above 0 -/
def isDir (r : Row) : Prop := (∃ x ∈ r, x ≠ 0) ∧ gcdR r = 1 ∧ 0 < firstNZ r
theorem along_dir {r : Row} (h : ∃ x ∈ r, x ≠ 0) : isDir (along r) := ⟨along_nz h, along_gcd h, along_first h⟩
theorem dir_along {r : Row} (h : isDir r) : along r = r := by
  have hs : scale r = 1 := by
    unfold scale
    rw [if_neg (by have := h.2.2; omega), h.2.1]
  unfold along
  rw [hs]
  have : ∀ x ∈ r, x.fdiv 1 = x := fun x _ => by rw [Int.fdiv_one]
  exact (List.map_congr_left this).trans (List.map_id r)
theorem along_idem {r : Row} (h : ∃ x ∈ r, x ≠ 0) : along (along r) = along r := dir_along (along_dir h)
theorem along_len (r : Row) : (along r).length = r.length := by unfold along; rw [List.length_map]
/-! rows once -/
def onceL {α : Type} [DecidableEq α] (xs : List α) : List α := xs.foldl (fun acc x => if x ∈ acc then acc else acc ++ [x]) []
theorem onceF_mem {α : Type} [DecidableEq α] : ∀ (xs acc : List α) (y : α), y ∈ xs.foldl (fun acc x => if x ∈ acc then acc else acc ++ [x]) acc ↔ y ∈ acc ∨ y ∈ xs
  | [], acc, y => by simp
  | x :: xs, acc, y => by
    rw [List.foldl_cons, onceF_mem xs]
    by_cases h : x ∈ acc
    · rw [if_pos h, List.mem_cons]
      constructor
      · rintro (z | z)
        · exact .inl z
        · exact .inr (.inr z)
      · rintro (z | z | z)
        · exact .inl z
        · rw [z]; exact .inl h
        · exact .inr z
    · rw [if_neg h]
      simp [or_assoc]
theorem onceF_nodup {α : Type} [DecidableEq α] : ∀ (xs acc : List α), acc.Nodup → (xs.foldl (fun acc x => if x ∈ acc then acc else acc ++ [x]) acc).Nodup
  | [], acc, h => h
  | x :: xs, acc, h => by
    rw [List.foldl_cons]
    refine onceF_nodup xs _ ?_
    by_cases q : x ∈ acc
    · rw [if_pos q]; exact h
    · rw [if_neg q]
      rw [List.nodup_append]
      exact ⟨h, by simp, fun a ha b hb => by simp at hb; rw [hb]; exact fun e => q (e ▸ ha)⟩
theorem onceF_len {α : Type} [DecidableEq α] : ∀ (xs acc : List α), (xs.foldl (fun acc x => if x ∈ acc then acc else acc ++ [x]) acc).length ≤ acc.length + xs.length
  | [], acc => by simp
  | x :: xs, acc => by
    rw [List.foldl_cons]
    refine Nat.le_trans (onceF_len xs _) ?_
    by_cases q : x ∈ acc
    · rw [if_pos q]; simp only [List.length_cons]; omega
    · rw [if_neg q]; simp only [List.length_cons, List.length_append, List.length_nil]; omega
theorem onceL_mem {α : Type} [DecidableEq α] {xs : List α} {y : α} : y ∈ onceL xs ↔ y ∈ xs := by unfold onceL; rw [onceF_mem]; simp
theorem onceL_nodup {α : Type} [DecidableEq α] (xs : List α) : (onceL xs).Nodup := onceF_nodup xs [] (by simp)
theorem onceL_len {α : Type} [DecidableEq α] (xs : List α) : (onceL xs).length ≤ xs.length := by have := onceF_len xs []; unfold onceL; simpa using this
theorem onceL_take {α : Type} [DecidableEq α] {xs : List α} {k : Nat} {x : α} (h : xs[k]? = some x) : onceL (xs.take (k + 1)) = if x ∈ onceL (xs.take k) then onceL (xs.take k) else onceL (xs.take k) ++ [x] := by
  unfold onceL
  rw [List.take_add_one, h, Option.toList_some, List.foldl_append]
  rfl
/-! sorted rows -/
theorem rows_le_total (a b : Row) : (decide (a ≤ b) || decide (b ≤ a)) = true := by
  rcases List.le_total a b with h | h <;> simp [h]
theorem rows_le_trans (a b c : Row) (h1 : decide (a ≤ b) = true) (h2 : decide (b ≤ c) = true) : decide (a ≤ c) = true := by
  have h1 := of_decide_eq_true h1
  have h2 := of_decide_eq_true h2
  exact decide_eq_true (List.le_trans h1 h2)
def sortRows (rows : List Row) : List Row := rows.mergeSort fun a b => decide (a ≤ b)
theorem sortRows_perm (rows : List Row) : (sortRows rows).Perm rows := List.mergeSort_perm _ _
theorem sortRows_pairwise (rows : List Row) : (sortRows rows).Pairwise (· ≤ ·) := (List.pairwise_mergeSort (le := fun a b : Row => decide (a ≤ b)) rows_le_trans rows_le_total rows).imp fun h => of_decide_eq_true h
theorem sortRows_eq {a b : List Row} (h : a.Perm b) : sortRows a = sortRows b := by
  have p : (sortRows a).Perm (sortRows b) := ((sortRows_perm a).trans h).trans (sortRows_perm b).symm
  exact List.Perm.eq_of_pairwise (le := (· ≤ ·)) (fun x y _ _ h1 h2 => List.le_antisymm h1 h2) (sortRows_pairwise a) (sortRows_pairwise b) p
theorem sortRows_of {a b : List Row} (h : a.Perm b) (hb : b.Pairwise (· ≤ ·)) : sortRows a = b :=
  List.Perm.eq_of_pairwise (le := (· ≤ ·)) (fun x y _ _ h1 h2 => List.le_antisymm h1 h2) (sortRows_pairwise a) hb ((sortRows_perm a).trans h)
theorem rk_len {lot : List Row} (hk : lot.length = 1 ∨ lot.length = 2 ∨ lot.length = 3) : rk (· ∈ lot) ≤ lot.length := by
  rcases hk with hk | hk | hk
  · obtain ⟨a, rfl⟩ := one_of_len hk
    have : ¬ R2 (· ∈ [a]) := by
      rintro ⟨x, y, hx, hy, h⟩
      have hx : x = a := by simpa using hx
      have hy : y = a := by simpa using hy
      subst hx; subst hy
      unfold cr at h
      rcases h with h | h | h <;> exact h (by grind)
    have := rk_lt2.mpr this
    show rk _ ≤ 1
    omega
  · obtain ⟨a, b, rfl⟩ := two_of_len hk
    have : ¬ R3 (· ∈ [a, b]) := by
      rintro ⟨x, y, z, hx, hy, hz, h⟩
      have hx : x = a ∨ x = b := by simpa using hx
      have hy : y = a ∨ y = b := by simpa using hy
      have hz : z = a ∨ z = b := by simpa using hz
      apply h
      unfold det3 cr
      rcases hx with rfl | rfl <;> rcases hy with rfl | rfl <;> rcases hz with rfl | rfl <;> grind
    have := rk_lt3.mpr this
    show rk _ ≤ 2
    omega
  · rw [hk]
    unfold rk
    split <;> (try split) <;> (try split) <;> omega
end Rk

namespace Rk
/-! fractions in lowest terms -/
def sgnG (t b : Int) : Int := if b < 0 then -(Int.gcd t b : Int) else (Int.gcd t b : Int)
def lowR (t b : Int) : Int × Int := (t.fdiv (sgnG t b), b.fdiv (sgnG t b))
def Red (p : Int × Int) : Prop := 0 < p.2 ∧ Int.gcd p.1 p.2 = 1
theorem gcd_pos' {t b : Int} (h : b ≠ 0) : 0 < Int.gcd t b := Nat.pos_of_ne_zero fun z => h (Int.gcd_eq_zero_iff.mp z).2
theorem sgnG_ne {t b : Int} (h : b ≠ 0) : sgnG t b ≠ 0 := by
  have := gcd_pos' (t := t) h
  unfold sgnG
  split <;> omega
theorem sgnG_abs (t b : Int) : (sgnG t b).natAbs = Int.gcd t b := by
  unfold sgnG
  split <;> omega
theorem sgnG_dl (t b : Int) : sgnG t b ∣ t := by
  unfold sgnG
  split
  · exact Int.neg_dvd.mpr (Int.gcd_dvd_left t b)
  · exact Int.gcd_dvd_left t b
theorem sgnG_dr (t b : Int) : sgnG t b ∣ b := by
  unfold sgnG
  split
  · exact Int.neg_dvd.mpr (Int.gcd_dvd_right t b)
  · exact Int.gcd_dvd_right t b
theorem lowR_mul {t b : Int} (h : b ≠ 0) : t = sgnG t b * (lowR t b).1 ∧ b = sgnG t b * (lowR t b).2 := by
  have hs := sgnG_ne (t := t) h
  obtain ⟨x, hx⟩ := sgnG_dl t b
  obtain ⟨y, hy⟩ := sgnG_dr t b
  have e1 : t.fdiv (sgnG t b) = x := by
    conv => lhs; arg 1; rw [hx]
    exact Int.mul_fdiv_cancel_left _ hs
  have e2 : b.fdiv (sgnG t b) = y := by
    conv => lhs; arg 1; rw [hy]
    exact Int.mul_fdiv_cancel_left _ hs
  unfold lowR
  rw [e1, e2]
  exact ⟨hx, hy⟩
theorem lowR_red {t b : Int} (h : b ≠ 0) : Red (lowR t b) := by
  obtain ⟨h1, h2⟩ := lowR_mul (t := t) h
  have hs := sgnG_ne (t := t) h
  have hg := gcd_pos' (t := t) h
  constructor
  · rcases Int.lt_trichotomy (lowR t b).2 0 with z | z | z
    · exfalso
      by_cases q : b < 0
      · have : sgnG t b < 0 := by unfold sgnG; rw [if_pos q]; omega
        have := Int.mul_pos_of_neg_of_neg this z
        omega
      · have : 0 < sgnG t b := by unfold sgnG; rw [if_neg q]; omega
        have := Int.mul_neg_of_pos_of_neg this z
        omega
    · rw [z, Int.mul_zero] at h2; exact absurd h2 h
    · exact z
  · have e : Int.gcd t b = (sgnG t b).natAbs * Int.gcd (lowR t b).1 (lowR t b).2 := by
      have k : ∀ s x y : Int, t = s * x → b = s * y → Int.gcd t b = s.natAbs * Int.gcd x y := by
        intro s x y e1 e2
        rw [e1, e2]
        exact Int.gcd_mul_left ..
      exact k _ _ _ h1 h2
    rw [sgnG_abs] at e
    have e2 : Int.gcd t b * 1 = Int.gcd t b * Int.gcd (lowR t b).1 (lowR t b).2 := by rw [Nat.mul_one]; exact e
    exact (Nat.eq_of_mul_eq_mul_left hg e2).symm
theorem lowR_val {t b : Int} (h : b ≠ 0) : (lowR t b).1 * b = t * (lowR t b).2 := by
  obtain ⟨h1, h2⟩ := lowR_mul (t := t) h
  have k : ∀ s x y : Int, t = s * x → b = s * y → x * b = t * y := by
    intro s x y e1 e2
    rw [e1, e2]
    grind
  exact k _ _ _ h1 h2
theorem red_unique {p q : Int × Int} (hp : Red p) (hq : Red q) (h : p.1 * q.2 = q.1 * p.2) : p = q := by
  have d1 : p.2.natAbs ∣ q.2.natAbs := by
    have c : Nat.Coprime p.2.natAbs p.1.natAbs := by
      have := hp.2
      unfold Int.gcd at this
      rw [Nat.gcd_comm] at this
      exact this
    refine Nat.Coprime.dvd_of_dvd_mul_left c ?_
    rw [← Int.natAbs_mul, h, Int.natAbs_mul]
    exact Nat.dvd_mul_left _ _
  have d2 : q.2.natAbs ∣ p.2.natAbs := by
    have c : Nat.Coprime q.2.natAbs q.1.natAbs := by
      have := hq.2
      unfold Int.gcd at this
      rw [Nat.gcd_comm] at this
      exact this
    refine Nat.Coprime.dvd_of_dvd_mul_left c ?_
    rw [← Int.natAbs_mul, ← h, Int.natAbs_mul]
    exact Nat.dvd_mul_left _ _
  have e : p.2.natAbs = q.2.natAbs := Nat.dvd_antisymm d1 d2
  have hp0 := hp.1
  have hq0 := hq.1
  have e2 : p.2 = q.2 := by omega
  have e1 : p.1 = q.1 := by
    rw [e2] at h
    exact Int.eq_of_mul_eq_mul_right (by omega) h
  exact Prod.ext e1 e2
theorem lowR_eq {t b t' b' : Int} (h : b ≠ 0) (h' : b' ≠ 0) (e : t * b' = t' * b) : lowR t b = lowR t' b' := by
  refine red_unique (lowR_red h) (lowR_red h') ?_
  have v1 := lowR_val (t := t) h
  have v2 := lowR_val (t := t') h'
  have hb : b * b' ≠ 0 := Int.mul_ne_zero h h'
  refine Int.eq_of_mul_eq_mul_right hb ?_
  generalize (lowR t b).1 = x at *
  generalize (lowR t b).2 = y at *
  generalize (lowR t' b').1 = x' at *
  generalize (lowR t' b').2 = y' at *
  have : x * y' * (b * b') = (x * b) * (y' * b') := by grind
  rw [this, v1]
  have : x' * y * (b * b') = (x' * b') * (y * b) := by grind
  rw [this, v2]
  grind
theorem lowR_of_red {p : Int × Int} (h : Red p) : lowR p.1 p.2 = p := by
  have h0 : p.2 ≠ 0 := by have := h.1; omega
  exact red_unique (lowR_red h0) h (lowR_val h0)
theorem lowR_idem {t b : Int} (h : b ≠ 0) : lowR (lowR t b).1 (lowR t b).2 = lowR t b := lowR_of_red (lowR_red h)
theorem lowR_le {t b : Int} (h : b ≠ 0) : (lowR t b).1.natAbs ≤ t.natAbs ∧ (lowR t b).2.natAbs ≤ b.natAbs := by
  obtain ⟨h1, h2⟩ := lowR_mul (t := t) h
  have hs : 0 < (sgnG t b).natAbs := Int.natAbs_pos.mpr (sgnG_ne h)
  constructor
  · have k : ∀ s x : Int, 0 < s.natAbs → t = s * x → x.natAbs ≤ t.natAbs := by
      intro s x p e
      rw [e, Int.natAbs_mul]
      exact Nat.le_mul_of_pos_left _ p
    exact k _ _ hs h1
  · have k : ∀ s x : Int, 0 < s.natAbs → b = s * x → x.natAbs ≤ b.natAbs := by
      intro s x p e
      rw [e, Int.natAbs_mul]
      exact Nat.le_mul_of_pos_left _ p
    exact k _ _ hs h2
theorem red_int (n : Int) : Red (n, 1) := ⟨by show (0:Int) < 1; decide, by show Int.gcd n 1 = 1; simp⟩
theorem red_neg {p : Int × Int} (h : Red p) : Red (-p.1, p.2) := ⟨h.1, by show Int.gcd (-p.1) p.2 = 1; rw [Int.neg_gcd]; exact h.2⟩
/-- the operations -/
def addP (p q : Int × Int) : Int × Int := lowR (p.1 * q.2 + q.1 * p.2) (p.2 * q.2)
def mulP (p q : Int × Int) : Int × Int := lowR (p.1 * q.1) (p.2 * q.2)
def negP (p : Int × Int) : Int × Int := (-p.1, p.2)
def subP (p q : Int × Int) : Int × Int := lowR (p.1 * q.2 - q.1 * p.2) (p.2 * q.2)
def geP (p q : Int × Int) : Prop := q.1 * p.2 ≤ p.1 * q.2
theorem Red.ne {p : Int × Int} (h : Red p) : p.2 ≠ 0 := by have := h.1; omega
theorem addP_red {p q : Int × Int} (hp : Red p) (hq : Red q) : Red (addP p q) := lowR_red (Int.mul_ne_zero hp.ne hq.ne)
theorem mulP_red {p q : Int × Int} (hp : Red p) (hq : Red q) : Red (mulP p q) := lowR_red (Int.mul_ne_zero hp.ne hq.ne)
theorem subP_red {p q : Int × Int} (hp : Red p) (hq : Red q) : Red (subP p q) := lowR_red (Int.mul_ne_zero hp.ne hq.ne)
theorem subP_eq (p q : Int × Int) : subP p q = addP p (negP q) := by unfold subP addP negP; congr 1; dsimp only; grind
theorem addP_val {p q : Int × Int} (hp : Red p) (hq : Red q) : (addP p q).1 * (p.2 * q.2) = (p.1 * q.2 + q.1 * p.2) * (addP p q).2 := lowR_val (Int.mul_ne_zero hp.ne hq.ne)
theorem mulP_val {p q : Int × Int} (hp : Red p) (hq : Red q) : (mulP p q).1 * (p.2 * q.2) = (p.1 * q.1) * (mulP p q).2 := lowR_val (Int.mul_ne_zero hp.ne hq.ne)
/-! values -/
def toQ (p : Int × Int) : Rat := Rat.divInt p.1 p.2
theorem toQ_inj {p q : Int × Int} (hp : Red p) (hq : Red q) (h : toQ p = toQ q) : p = q := red_unique hp hq ((Rat.divInt_eq_divInt_iff hp.ne hq.ne).mp h)
theorem toQ_low {t b : Int} (h : b ≠ 0) : toQ (lowR t b) = Rat.divInt t b := (Rat.divInt_eq_divInt_iff (lowR_red h).ne h).mpr (lowR_val h)
theorem toQ_add {p q : Int × Int} (hp : Red p) (hq : Red q) : toQ (addP p q) = toQ p + toQ q := by
  unfold addP
  rw [toQ_low (Int.mul_ne_zero hp.ne hq.ne)]
  unfold toQ
  rw [Rat.divInt_add_divInt _ _ hp.ne hq.ne]
theorem toQ_mul {p q : Int × Int} (hp : Red p) (hq : Red q) : toQ (mulP p q) = toQ p * toQ q := by
  unfold mulP
  rw [toQ_low (Int.mul_ne_zero hp.ne hq.ne)]
  unfold toQ
  rw [Rat.divInt_mul_divInt]
theorem negP_red {p : Int × Int} (h : Red p) : Red (negP p) := red_neg h
theorem toQ_neg (p : Int × Int) : toQ (negP p) = - toQ p := by
  unfold toQ negP
  rw [Rat.neg_divInt]
theorem toQ_sub {p q : Int × Int} (hp : Red p) (hq : Red q) : toQ (subP p q) = toQ p - toQ q := by
  rw [subP_eq, toQ_add hp (negP_red hq), toQ_neg, Rat.sub_eq_add_neg]
theorem toQ_int (n : Int) : toQ (n, 1) = (n : Rat) := by
  unfold toQ
  show Rat.divInt n 1 = _
  simp [Rat.divInt]
  exact Rat.mkRat_one n
theorem toQ_zero : toQ (0, 1) = 0 := toQ_int 0
/-- a reduced pair of n bits -/
def Bd (n : Nat) (p : Int × Int) : Prop := Red p ∧ p.1.natAbs < 2 ^ n ∧ p.2.natAbs < 2 ^ n
theorem Bd.mono {n m : Nat} {p : Int × Int} (h : Bd n p) (e : n ≤ m) : Bd m p := ⟨h.1, Nat.lt_of_lt_of_le h.2.1 (Nat.pow_le_pow_right (by decide) e), Nat.lt_of_lt_of_le h.2.2 (Nat.pow_le_pow_right (by decide) e)⟩
theorem Bd.low {n : Nat} {t b : Int} (h : b ≠ 0) (ht : t.natAbs < 2 ^ n) (hb : b.natAbs < 2 ^ n) : Bd n (lowR t b) := ⟨lowR_red h, Nat.lt_of_le_of_lt (lowR_le h).1 ht, Nat.lt_of_le_of_lt (lowR_le h).2 hb⟩
theorem mul_bits {a b : Int} {n m : Nat} (ha : a.natAbs < 2 ^ n) (hb : b.natAbs < 2 ^ m) : (a * b).natAbs < 2 ^ (n + m) := by
  rw [Int.natAbs_mul, Nat.pow_add]
  exact Nat.mul_lt_mul'' ha hb
theorem add_bits {a b : Int} {n : Nat} (ha : a.natAbs < 2 ^ n) (hb : b.natAbs < 2 ^ n) : (a + b).natAbs < 2 ^ (n + 1) := by
  have := Int.natAbs_add_le a b
  have e : 2 ^ (n + 1) = 2 ^ n + 2 ^ n := by rw [Nat.pow_succ]; omega
  omega
theorem bmono {a : Int} {n m : Nat} (h : a.natAbs < 2 ^ n) (e : n ≤ m) : a.natAbs < 2 ^ m := Nat.lt_of_lt_of_le h (Nat.pow_le_pow_right (by decide) e)
theorem Bd.add {n m : Nat} {p q : Int × Int} (hp : Bd n p) (hq : Bd m q) : Bd (n + m + 1) (addP p q) := by
  refine Bd.low (Int.mul_ne_zero hp.1.ne hq.1.ne) (add_bits (mul_bits hp.2.1 hq.2.2) ?_) (bmono (mul_bits hp.2.2 hq.2.2) (by omega))
  rw [Nat.add_comm]
  exact mul_bits hq.2.1 hp.2.2
theorem Bd.mul {n m : Nat} {p q : Int × Int} (hp : Bd n p) (hq : Bd m q) : Bd (n + m) (mulP p q) := Bd.low (Int.mul_ne_zero hp.1.ne hq.1.ne) (mul_bits hp.2.1 hq.2.1) (mul_bits hp.2.2 hq.2.2)
theorem Bd.neg {n : Nat} {p : Int × Int} (hp : Bd n p) : Bd n (negP p) := ⟨negP_red hp.1, by show (-p.1).natAbs < _; rw [Int.natAbs_neg]; exact hp.2.1, hp.2.2⟩
theorem Bd.sub {n m : Nat} {p q : Int × Int} (hp : Bd n p) (hq : Bd m q) : Bd (n + m + 1) (subP p q) := by
  rw [subP_eq]
  exact hp.add hq.neg
theorem Bd.int {n : Nat} {i : Int} (h : i.natAbs < 2 ^ n) (h0 : 0 < n) : Bd n (i, 1) := ⟨red_int i, h, by show 1 < 2 ^ n; exact Nat.one_lt_two_pow (by omega)⟩
theorem addP_zero {p : Int × Int} (h : Red p) : addP (0, 1) p = p := toQ_inj (addP_red (red_int 0) h) h (by rw [toQ_add (red_int 0) h, toQ_zero, Rat.zero_add])
theorem subP_zero {p : Int × Int} (h : Red p) : subP (0, 1) p = negP p := toQ_inj (subP_red (red_int 0) h) (negP_red h) (by rw [toQ_sub (red_int 0) h, toQ_zero, toQ_neg]; grind)
theorem addP_comm (p q : Int × Int) : addP p q = addP q p := by unfold addP; congr 1 <;> grind
theorem mulP_comm (p q : Int × Int) : mulP p q = mulP q p := by unfold mulP; congr 1 <;> grind
def sumP (ps : List (Int × Int)) : Int × Int := ps.foldl addP (0, 1)
theorem sumP_snoc (ps : List (Int × Int)) (p : Int × Int) : sumP (ps ++ [p]) = addP (sumP ps) p := by
  unfold sumP
  rw [List.foldl_append]
  rfl
theorem fold_bd {n : Nat} : ∀ (ps : List (Int × Int)) (a : Int × Int) (m : Nat), (∀ p ∈ ps, Bd n p) → Bd m a → Bd (m + ps.length * (n + 1)) (ps.foldl addP a)
  | [], a, m, _, ha => by simpa using ha
  | p :: ps, a, m, h, ha => by
    have := fold_bd ps (addP a p) (m + n + 1) (fun q hq => h q (List.mem_cons_of_mem _ hq)) (ha.add (h p (by simp)))
    refine this.mono (Nat.le_of_eq ?_)
    rw [List.length_cons, Nat.succ_mul]
    omega
theorem sum_bd {n : Nat} {ps : List (Int × Int)} (h : ∀ p ∈ ps, Bd n p) : Bd (1 + ps.length * (n + 1)) (sumP ps) := fold_bd ps _ 1 h (Bd.int (by decide) (by decide))
theorem low01 : lowR 0 1 = (0, 1) := lowR_of_red (red_int 0)
theorem sumP_1 {p : Int × Int} (h : Red p) : sumP [p] = p := addP_zero h
theorem sumP_2 {p q : Int × Int} (h : Red p) : sumP [p, q] = addP p q := by
  show addP (addP (0, 1) p) q = _
  rw [addP_zero h]
theorem sumP_5 {p q : Int × Int} (hp : Red p) (hq : Red q) : sumP [p, q, p, q, negP p] = sumP [p, q, q] := by
  show addP (addP (addP (addP (addP (0, 1) p) q) p) q) (negP p) = addP (addP (addP (0, 1) p) q) q
  rw [addP_zero hp]
  have r1 := addP_red hp hq
  have r2 := addP_red r1 hp
  have r3 := addP_red r2 hq
  have r4 := addP_red r3 (negP_red hp)
  refine toQ_inj r4 (addP_red r1 hq) ?_
  rw [toQ_add r3 (negP_red hp), toQ_add r2 hq, toQ_add r1 hp, toQ_add hp hq, toQ_add r1 hq, toQ_add hp hq, toQ_neg]
  grind
end Rk

namespace W
open PySem L2 DL Rk
def topS (i : Nat) : Stmt := PySem.Challenge.pw_wishwalls_k26_buyers_told.main.body.getD i (.Pass ⟨0, 0, 0, 0⟩)
section
variable {P : Program} {w : World} {K : PySem.W.Frag} {mg : Str → Option Value} {base : Heap}
abbrev s_law_pull : Stmt := topS 23
theorem sc_law_pull : FnScope ["_law_bag_here", "_law_many", "_law_cell", "_law_digit", "_law_state"] ["_law_bag_here", "_law_many"] (defScope s_law_pull) := ⟨rfl, rfl, rfl, by decide +kernel, rfl, by decide +kernel, by decide +kernel⟩
theorem mod_b {i : Int} : 0 ≤ i % 2147483399 ∧ i % 2147483399 < 2147483399 := ⟨Int.emod_nonneg _ (by decide), Int.emod_lt_of_pos _ (by decide)⟩
theorem mod_c {i : Int} : 0 ≤ i % 2147483423 ∧ i % 2147483423 < 2147483423 := ⟨Int.emod_nonneg _ (by decide), Int.emod_lt_of_pos _ (by decide)⟩
theorem mod_d {i : Int} : 0 ≤ i % 7919 ∧ i % 7919 < 7919 := ⟨Int.emod_nonneg _ (by decide), Int.emod_lt_of_pos _ (by decide)⟩
theorem ok_law_pull (F : Df K mg "_law_pull" s_law_pull ["_law_bag_here", "_law_many"]) (B : Bi mg) : Dn P w K mg base 1 "_law_pull" ["_law_bag_here", "_law_many"] sp_pull := by
  refine F.bag (k := 0) sc_law_pull (fun f cdv A outer s H E c hr => ⟨_, (bc (ssetI 0 (dadd (dixO 0 dint) dint) dint)
    (bc (sif (wand (teq (hu_ hr) (dixO 0 dint) dint) (wand1 (tlt (dixO 0 dint) (dlen B.len (pac (dixO 0 dint) pa0))))).pt
      (bc (sset 2 sc_law_pull.nd (dix (dixO 0 dint) (dixO 0 dint)))
      (bc (ssetI 0 (dadd (dixO 0 dint) dint) dint)
      (bc (sif (tge (dv 2) (dpow dint dint))
        (b1 (ssetI 0 (dv 2) dint))
        b0)
      (b1 (ssetI 0 (dmod (dintc B.int (pac (dadd (dadd (dmul (dixO 0 dint) dint) (dmul (dmod (dintc B.int (pac (dv 2) pa0)) dint) dint)) dint) pa0)) dint) dint)))))
      b0)
    (bc (sif (tgt (dixO 0 dint) dint)
      (bc (sset 3 sc_law_pull.nd (dmod (dintc B.int (pac (dixO 0 dint) pa0)) (dv 1)))
      (bc (ssetI 0 (dfdiv (dintc B.int (pac (dixO 0 dint) pa0)) (dv 1)) dint)
      (b1 (sret (dv 3)))))
      b0)
    (bc (sset 4 sc_law_pull.nd (dixO 0 dint))
    (bc (ssetI 0 (dmod (dintc B.int (pac (dadd (dadd (dadd (dpow (dv 4) dint) (dmul (dv 4) dint)) (dmul (dixO 0 dint) dint)) dint) pa0)) dint) dint)
    (b1 (sret (dmod (dintc B.int (pac (dadd (dfdiv (dixO 0 dint) dint) (dmul (dmod (dintc B.int (pac (dixO 0 dint) pa0)) dint) dint)) pa0)) (dv 1))))))))), fun b cells a l t m n hB hn hn2 => ?_⟩)
  obtain ⟨ha, hl, ht, ht2, hc⟩ := hB
  unfold bagL
  refine seq_ ?_
  walk_at "dl"
  refine cut_ (fun ρ => ∃ a l t x, BagI cells a l t ∧ ρ = [.own b (.lst (bagL cells a l t (m + 1))), .d (.int n), x, .un, .un]) ?_ ?_
  · walk_at "dl"
    refine if_ (fun _ => ?_) (fun _ => ⟨a, l, t, .un, ⟨ha, hl, ht, ht2, hc⟩, rfl⟩)
    rw [List.length_map]
    refine ifd_ (fun h => ?_) (fun _ => ⟨a, l, t, .un, ⟨ha, hl, ht, ht2, hc⟩, rfl⟩)
    refine seq_ ?_
    walk_at "dl"
    obtain ⟨x, hx, hx2⟩ := atI_lt ha h
    refine ⟨.int x, by rw [atI_map, hx2]; rfl, ?_⟩
    refine seq_ ?_
    walk_at "dl"
    have fin : ∀ l', 0 ≤ l' → ∃ a' l'' t' x', BagI cells a' l'' t' ∧ [Slot.own b (.lst [D.lst (cells.map D.int), .int (a + 1), .int l', .int ((t * 43691 + x % 2147483423 * 38917 + 91) % 2147483399), .int (m + 1)]), .d (.int n), .d (.int x), .un, .un] = [.own b (.lst (bagL cells a' l'' t' (m + 1))), .d (.int n), x', .un, .un] :=
      fun l' hl' => ⟨a + 1, l', _, _, ⟨by omega, hl', mod_b.1, mod_b.2, hc⟩, rfl⟩
    have m1 : IntMulOk t 43691 := mulRt (by decide) (by decide)
    have m2 : IntMulOk (x % 2147483423) 38917 := mulRt (by decide) (by decide)
    refine cut_ (fun ρ => ∃ l', 0 ≤ l' ∧ ρ = [.own b (.lst (bagL cells (a + 1) l' t (m + 1))), .d (.int n), .d (.int x), .un, .un]) ?_ ?_
    · walk_at "dl"
      refine ⟨⟨by decide, by decide, by decide⟩, ifd_ (fun h => ⟨x, ?_, rfl⟩) (fun _ => ⟨l, hl, rfl⟩)⟩
      have : (0 : Int) ≤ 10 ^ (18 : Int).toNat := by decide
      omega
    · rintro ρ' ⟨l', hl', rfl⟩
      unfold bagL
      walk_at "dl"
      exact ⟨m1, by decide, m2, by decide, fin l' hl'⟩
  · rintro ρ' ⟨a, l, t, x, ⟨ha, hl, ht, ht2, hc⟩, rfl⟩
    unfold bagL
    have nn : ∀ i : Int, 0 ≤ i % n ∧ i % n < n := fun i => ⟨Int.emod_nonneg _ (by omega), Int.emod_lt_of_pos _ hn⟩
    refine cut_ (fun ρ => ρ = [.own b (.lst (bagL cells a l t (m + 1))), .d (.int n), x, .un, .un]) ?_ ?_
    · walk_at "dl"
      refine ifd_ (fun h => ?_) (fun _ => rfl)
      refine seq_ ?_
      walk_at "dl"
      refine ⟨hn, seq_ ?_⟩
      walk_at "dl"
      refine ⟨⟨by omega, hn2⟩, ⟨_, rfl, (nn l).1, (nn l).2⟩, a, _, t, m + 1, ⟨ha, ?_, ht, ht2, hc⟩, rfl⟩
      rw [Int.fdiv_eq_ediv_of_nonneg l (by omega)]
      exact Int.ediv_nonneg hl (by omega)
    · rintro ρ' rfl
      unfold bagL
      refine seq_ ?_
      walk_at "dl"
      refine seq_ ?_
      walk_at "dl"
      refine ⟨⟨by decide, by decide, by omega⟩, mulRt (by decide) (by decide), mulRt (by decide) (by decide), by decide, ?_⟩
      refine ⟨CDivX.sm (by decide) (by decide) (by decide), by decide, mulRt (by decide) (by decide), hn, ⟨_, rfl, (nn _).1, (nn _).2⟩, a, l, _, m + 1, ⟨ha, hl, mod_b.1, mod_b.2, hc⟩, rfl⟩

abbrev s_law_bag : Stmt := topS 22
theorem sc_law_bag : FnScope ["_law_script", "_law_state", "_law_cell"] ["_law_script"] (defScope s_law_bag) := ⟨rfl, rfl, rfl, by decide +kernel, rfl, by decide +kernel, by decide +kernel⟩
theorem ok_law_bag (F : Df K mg "_law_bag" s_law_bag ["_law_script"]) (B : Bi mg) : DnS P w K mg base 1 "_law_bag" ["_law_script"] (spBag K) := by
  refine F.mkbag (k := 0) sc_law_bag (fun f cdv A outer s H E c a ns hS hβ hns hr => ⟨_, (bc (sset 1 sc_law_bag.nd dint)
    (bc (sfor PassesOwn.never rfl (isq (dscr 0 hS hβ o0 (o1 dint))) (gname 2 sc_law_bag.nd)
      (b1 (sset 1 sc_law_bag.nd (dmod (dintc B.int (pac (dadd (dadd (dmul (dv 1) dint) (dmod (dintc B.int (pac (dv 2) pa0)) dint)) dint) pa0)) dint))))
    (b1 (sret (dlst (pac (dlc [("_law_cell", 2)] rfl sc_law_bag.nd (isq (dscr 0 hS hβ o0 (o1 dint))) (fun _ _ _ _ _ => (gname 2 sc_law_bag.nd)) (fun _ _ _ _ _ => ts0) (fun _ _ _ _ _ => (dintc B.int (pac (dv 2) pa0)))).pd (pac dint (pac dint (pac (dv 1) (pac dint pa0)))))))))), ?_⟩)
  refine seq_ ?_
  walk_at "dl"
  refine cut_ (fun ρ => ∃ (t : Int) (x : Slot), 0 ≤ t ∧ t < 2147483399 ∧ ρ = [.raw (.ref a), .d (.int t), x]) ?_ ?_
  · refine for_ (ns.map D.int) (fun _ ρ => ∃ (t : Int) (x : Slot), 0 ≤ t ∧ t < 2147483399 ∧ ρ = [.raw (.ref a), .d (.int t), x]) ⟨10047, .un, by decide, by decide, rfl⟩ ?_ (fun ρ' h => h) ?_
    · rintro k it ρ' hk ⟨t, x, h0, h1, rfl⟩
      rw [List.getElem?_map] at hk
      cases q : ns[k]? with
      | none => rw [q] at hk; cases hk
      | some n =>
        rw [q] at hk
        cases hk
        walk_at "dl"
        exact ⟨mulRt (by decide) (by decide), by decide, by decide, _, _, mod_b.1, mod_b.2, rfl⟩
    · intro S h
      unfold qScr
      walk_at "dl"
      rw [cut63 ns hns]
      exact h
  · rintro ρ' ⟨t, x, h0, h1, rfl⟩
    walk_at "dl"
    refine lc_map Int ns D.int D.int ?_ (by omega) ⟨by decide, t, h0, h1, rfl⟩ ?_
    · intro k n hn R hR
      walk_at "dl"
      exact hR
    · intro S h
      unfold qScr
      walk_at "dl"
      rw [cut63 ns hns]
      exact h

abbrev s_law_any : Stmt := topS 24
theorem sc_law_any : FnScope ["_law_bag_here", "_law_things"] ["_law_bag_here", "_law_things"] (defScope s_law_any) := ⟨rfl, rfl, rfl, by decide +kernel, rfl, by decide +kernel, by decide +kernel⟩
/-- an item of a list at a drawn place -/
def sp_any : SpD := fun β ds Q => ∃ b xs, β = some b ∧ ds = [.adr b, .lst xs] ∧ xs ≠ [] ∧ xs.length ≤ 100000 ∧ ∀ x, x ∈ xs → Q x
theorem ok_law_any (F : Df K mg "_law_any" s_law_any ["_law_bag_here", "_law_things"]) (B : Bi mg) (D_law_pull : Dn P w K mg base 1 "_law_pull" ["_law_bag_here", "_law_many"] sp_pull) : Dn P w K mg base 2 "_law_any" ["_law_bag_here", "_law_things"] sp_any := by
  refine F.ok sc_law_any (fun β ds Q h => ?_) (fun f cdv A outer s H E c hr => ⟨_, (b1 (sret (dix (dv 1) (dc D_law_pull hr (pac (dv 0) (pac (dlen B.len (pac (dv 1) pa0)) pa0)))))), fun ds Q h => ?_⟩)
  · obtain ⟨b, xs, _, rfl, _⟩ := h; rfl
  · obtain ⟨b, xs, hβ, rfl, hne, hl, hQ⟩ := h
    walk_at "dl"
    have hpos : 0 < xs.length := List.length_pos_iff.mpr hne
    refine ⟨b, _, hβ, rfl, by omega, ?_, fun d h0 h1 => ?_⟩
    · exact log9 (n := 17) (by omega) (by decide) (by decide)
    · walk_at "dl"
      obtain ⟨x, hx, hx2⟩ := atI_lt h0 h1
      exact ⟨x, hx2, hQ x (List.mem_of_getElem? hx)⟩

def bits (b : Nat) (r : Row) : Prop := ∀ x ∈ r, x.natAbs < 2 ^ b
theorem bits_e {b : Nat} {r : Row} (h : bits b r) (j : Nat) : (e r j).natAbs < 2 ^ b := by
  unfold e
  rw [List.getD_eq_getElem?_getD]
  cases q : r[j]? with
  | none => exact Nat.pos_of_ne_zero (by simp)
  | some x => exact h x (List.mem_of_getElem? q)
theorem bits_mul {b : Nat} {x y : Int} (hx : x.natAbs < 2 ^ b) (hy : y.natAbs < 2 ^ b) (h0 : 0 < b) (hb : b ≤ 1000000) : IntMulOk x y := (Wd.of hx h0 (by omega)).mul (Wd.of hy h0 (by omega))
theorem bits_cl {b c : Nat} {s L : Row} (hs : bits b s) (hL : bits b L) : bits (2 * b + 1) (cl s L c) := by
  intro x hx
  unfold cl at hx
  obtain ⟨p, hp, rfl⟩ := List.mem_map.mp hx
  have h1 : p.1.natAbs < 2 ^ b := hs _ (List.of_mem_zip hp).1
  have h2 : p.2.natAbs < 2 ^ b := hL _ (List.of_mem_zip hp).2
  have h3 := bits_e hs c
  have h4 := bits_e hL c
  have m1 : (p.1 * e L c).natAbs < 2 ^ b * 2 ^ b := by rw [Int.natAbs_mul]; exact Nat.mul_lt_mul'' h1 h4
  have m2 : (e s c * p.2).natAbs < 2 ^ b * 2 ^ b := by rw [Int.natAbs_mul]; exact Nat.mul_lt_mul'' h3 h2
  have : 2 ^ (2 * b + 1) = 2 ^ b * 2 ^ b + 2 ^ b * 2 ^ b := by rw [Nat.pow_succ, Nat.two_mul, Nat.pow_add]; omega
  rw [this]
  have := Int.natAbs_sub_le (p.1 * e L c) (e s c * p.2)
  omega
theorem bits_mono {a b : Nat} {r : Row} (h : bits a r) (hab : a ≤ b) : bits b r := fun x hx => Nat.lt_of_lt_of_le (h x hx) (Nat.pow_le_pow_right (by decide) hab)
def rowD (r : Row) : D := .tup (r.map D.int)
theorem at_row {r : Row} {c : Nat} (h : c < r.length) : atI (r.map D.int) (c : Int) = some (.int (e r c)) := by
  refine atI_nat ?_
  rw [List.getElem?_map, List.getElem?_eq_getElem h]
  unfold e
  rw [List.getD_eq_getElem?_getD, List.getElem?_eq_getElem h]
  rfl
theorem zip_rows (s L : Row) : ((s.map D.int).zip (L.map D.int)).map pairD = (s.zip L).map fun p => .tup [.int p.1, .int p.2] := by
  rw [List.zip_map, List.map_map]
  rfl

abbrev s_law_once : Stmt := topS 26
theorem sc_law_once : FnScope ["_law_things", "_law_found", "_law_thing"] ["_law_things"] (defScope s_law_once) := ⟨rfl, rfl, rfl, by decide +kernel, rfl, by decide +kernel, by decide +kernel⟩
theorem eq_row (r s : Row) : eqD (rowD r) (rowD s) = (r == s) := by
  have key : ∀ r s : Row, PyData.eqvAll (D.pyL (r.map D.int)) (D.pyL (s.map D.int)) = (r == s) := by
    intro r
    induction r with
    | nil => intro s; cases s <;> rfl
    | cons x r ih =>
      intro s
      cases s with
      | nil => rfl
      | cons y s =>
        show (PyData.eqv (.int x) (.int y) && PyData.eqvAll (D.pyL (r.map D.int)) (D.pyL (s.map D.int))) = _
        rw [ih s]
        rfl
  show PyData.eqv (.tuple (D.pyL (r.map D.int))) (.tuple (D.pyL (s.map D.int))) = _
  have := key r s
  simpa [PyData.eqv] using this
theorem any_row (r : Row) (rows : List Row) : (rows.map rowD).any (fun y => eqD y (rowD r)) = decide (r ∈ rows) := by
  rw [List.any_map, Bool.eq_iff_iff, List.any_eq_true, decide_eq_true_iff]
  constructor
  · rintro ⟨s, hs, h⟩
    have h : eqD (rowD s) (rowD r) = true := h
    rw [eq_row, beq_iff_eq] at h
    exact h ▸ hs
  · intro h
    exact ⟨r, h, by show eqD (rowD r) (rowD r) = true; rw [eq_row, beq_self_eq_true]⟩
theorem plain_rw (n : Nat) (r : Row) : (rowD r).plain (n + 1) = true := by
  unfold rowD
  simp [D.plain, plainL_all]
theorem plainL_rows (n : Nat) (rows : List Row) : D.plainL (n + 1) (rows.map rowD) = true := by
  rw [plainL_all, List.all_map, List.all_eq_true]
  intro r _
  exact plain_rw n r
def sp_once : SpD := fun _ ds Q => ∃ rows : List Row, ds = [.lst (rows.map rowD)] ∧ rows.length ≤ 1000 ∧ Q (.lst ((onceL rows).map rowD))
theorem ok_law_once (F : Df K mg "_law_once" s_law_once ["_law_things"]) (B : Bi mg) : Dn P w K mg base 1 "_law_once" ["_law_things"] sp_once := by
  refine F.ok sc_law_once (fun β ds Q h => ?_) (fun f cdv A outer s H E c hr => ⟨_, (bc (ssetN 1 sc_law_once.nd (dlstN pa0))
    (bc (sfor PassesOwn.never rfl (isq (dv 0)) (gname 2 sc_law_once.nd)
      (b1 (sif (tninV (hu_ hr) (dv 2).v (vo 1))
        (b1 (sapp 1 (dv 2).x))
        b0)))
    (b1 (sfrz 1 (sret (dv 1)))))), fun ds Q h => ?_⟩)
  · obtain ⟨rows, rfl, _⟩ := h; rfl
  · obtain ⟨rows, rfl, hl, hQ⟩ := h
    refine seq_ ?_
    walk_at "dq"
    intro af
    refine cut_ (fun ρ => ∃ x, ρ = [.d (.lst (rows.map rowD)), .own af (.lst ((onceL rows).map rowD)), x]) ?_ ?_
    · refine for_ (rows.map rowD) (fun k ρ => ∃ x, ρ = [.d (.lst (rows.map rowD)), .own af (.lst ((onceL (rows.take k)).map rowD)), x]) ⟨_, rfl⟩ ?_ ?_ ?_
      · rintro k it ρ' hk0 ⟨x, rfl⟩
        rw [List.getElem?_map] at hk0
        cases hk : rows[k]? with
        | none => rw [hk] at hk0; cases hk0
        | some r =>
          rw [hk] at hk0
          cases hk0
          walk_at "dq"
          refine ⟨⟨plain_rw 49 r, plainL_rows 49 _⟩, ?_⟩
          rw [any_row, onceL_take hk]
          refine ifnd_ (fun h => ?_) (fun h => ?_)
          · rw [if_neg h, List.map_append]
            refine ⟨?_, _, rfl⟩
            have := onceL_len (rows.take k)
            rw [List.length_take] at this
            rw [List.length_map]; omega
          · rw [if_pos h]
            exact ⟨_, rfl⟩
      · rintro ρ' ⟨x, rfl⟩
        rw [List.length_map, List.take_length]
        exact ⟨_, rfl⟩
      · intro S h
        walk_at "dq"
        exact h
    · rintro ρ' ⟨x, rfl⟩
      walk_at "dq"
      exact hQ

theorem py_row (r : Row) : (rowD r).py = .tuple (r.map PyData.int) := by
  show PyData.tuple (D.pyL (r.map D.int)) = _
  rw [pyL_map, List.map_map]
  rfl
theorem leD_row (a b : Row) : leD (rowD a) (rowD b) = decide (a ≤ b) := by
  show (!PySem.W.dataLt (rowD b).py (rowD a).py) = _
  rw [py_row, py_row, PySem.W.dataLt_tuple]
  show (!PySem.W.rowLt (b.map .int) (a.map .int)) = _
  rw [PySem.W.dataLt_ints]
  by_cases h : b < a
  · have h' : ¬ a ≤ b := fun r => List.not_lt.mpr r h
    simp [h, h']
  · have h' : a ≤ b := List.not_lt.mp h
    simp [h, h']
theorem sortD_rows (rows : List Row) : sortD (rows.map rowD) = (sortRows rows).map rowD := by
  unfold sortD sortRows
  exact (List.map_mergeSort (f := rowD) (r := fun a b : Row => decide (a ≤ b)) (s := leD) (l := rows) fun a _ b _ => (leD_row a b).symm).symm
theorem alike_rows (rows : List Row) : PySem.W.AllAlike ((rows.map rowD).map D.py) := by
  rw [List.map_map]
  refine PySem.W.AllAlike.of (enc := D.py ∘ rowD) fun a b => ?_
  show PySem.W.alike (rowD a).py (rowD b).py = true
  rw [py_row, py_row]
  show PySem.W.alike (.tuple (a.map .int)) (.tuple (b.map .int)) = true
  have := PySem.W.alike_ints a b
  simpa [PySem.W.alike] using this
theorem sortable_rows (rows : List Row) (h : ∀ r ∈ rows, r ≠ []) : PySem.W.Sortable ((rows.map rowD).map D.py) := by
  refine .inl fun d hd => ?_
  rw [List.map_map] at hd
  obtain ⟨r, hr, rfl⟩ := List.mem_map.mp hd
  show ∃ x s, (rowD r).py = .tuple (x :: s)
  rw [py_row]
  cases r with
  | nil => exact absurd rfl (h [] hr)
  | cons x r => exact ⟨_, _, rfl⟩
theorem sort_ok {n : Nat} {rows : List Row} (hn : 0 < n) (hl : ∀ r ∈ rows, r.length = n) : D.plainL 50 (rows.map rowD) = true ∧ PySem.W.AllAlike ((rows.map rowD).map D.py) ∧ PySem.W.Sortable ((rows.map rowD).map D.py) :=
  ⟨plainL_rows 49 rows, alike_rows rows, sortable_rows rows fun r hr z => by have := hl r hr; rw [z] at this; simp at this; omega⟩
theorem sort_mem {rows : List Row} {r : Row} : r ∈ sortRows rows ↔ r ∈ rows := (sortRows_perm rows).mem_iff

/-! tables: rows with numbers -/
abbrev Tab := List (Row × Int)
def rowK (r : Row) : List Key := r.map Sum.inl
theorem rowK_inj {a b : Row} (h : rowK a = rowK b) : a = b := (List.map_inj_right (fun x y e => by cases e; rfl)).mp h
theorem rowD_key (r : Row) : rowD r = .tup ((rowK r).map keyD) := by
  unfold rowD rowK
  rw [List.map_map]
  rfl
theorem keyR_row {r : Row} {Q : List Key → Prop} (h : Q (rowK r)) : keyR (rowD r) Q := by
  rw [rowD_key]
  exact ⟨rowK r, rfl, h⟩
def tblK (t : Tab) : List (List Key × Int) := t.map fun p => (rowK p.1, p.2)
def tblD (t : Tab) : List (List Key × D) := t.map fun p => (rowK p.1, .int p.2)
theorem tbl_tab (t : Tab) : tblD t = tabD (tblK t) := by
  unfold tblD tabD tblK
  rw [List.map_map]
  rfl
theorem getI_nil {r : Row} : getI ([] : Tab) r = none := rfl
theorem getI_cons {p : Row × Int} {t : Tab} {r : Row} : getI (p :: t) r = if p.1 = r then some p.2 else getI t r := by
  unfold getI
  rw [List.find?_cons]
  by_cases q : p.1 = r
  · rw [decide_eq_true q, if_pos q]; rfl
  · rw [decide_eq_false q, if_neg q]
theorem getI_mem {t : Tab} {r : Row} {w : Int} (nd : (t.map (·.1)).Nodup) (h : (r, w) ∈ t) : getI t r = some w := by
  induction t with
  | nil => cases h
  | cons p t ih =>
    rw [List.map_cons, List.nodup_cons] at nd
    rw [getI_cons]
    rcases List.mem_cons.mp h with rfl | h
    · rw [if_pos rfl]
    · have : r ∈ t.map (·.1) := List.mem_map.mpr ⟨_, h, rfl⟩
      rw [if_neg (fun e => nd.1 (by rw [e]; exact this))]
      exact ih nd.2 h
theorem getI_none {t : Tab} {r : Row} : getI t r = none ↔ r ∉ t.map (·.1) := by
  induction t with
  | nil => simp [getI_nil]
  | cons p t ih =>
    rw [getI_cons, List.map_cons, List.mem_cons]
    by_cases q : p.1 = r
    · simp [q]
    · rw [if_neg q, ih]
      exact ⟨fun h z => z.elim (fun e => q e.symm) h, fun h z => h (.inr z)⟩
theorem getI_some {t : Tab} {r : Row} {w : Int} (h : getI t r = some w) : (r, w) ∈ t := by
  induction t with
  | nil => cases h
  | cons p t ih =>
    rw [getI_cons] at h
    by_cases q : p.1 = r
    · rw [if_pos q] at h
      cases h
      subst q
      exact List.mem_cons_self
    · rw [if_neg q] at h
      exact List.mem_cons_of_mem _ (ih h)
theorem val_tbl (t : Tab) (r : Row) : valD (tblD t) (rowK r) = (getI t r).map D.int := by
  induction t with
  | nil => rfl
  | cons p t ih =>
    show valD ((rowK p.1, D.int p.2) :: tblD t) (rowK r) = _
    rw [valD_cons, getI_cons]
    by_cases q : p.1 = r
    · rw [if_pos (by rw [q]), if_pos q]; rfl
    · rw [if_neg (fun e => q (rowK_inj e)), if_neg q]
      exact ih
theorem any_tbl (t : Tab) (r : Row) : ((tblD t).any fun p => decide (p.1 = rowK r)) = (getI t r).isSome := by
  induction t with
  | nil => rfl
  | cons p t ih =>
    show (decide (rowK p.1 = rowK r) || (tblD t).any fun p => decide (p.1 = rowK r)) = _
    rw [ih, getI_cons]
    by_cases q : p.1 = r
    · rw [if_pos q, decide_eq_true (by rw [q])]; rfl
    · rw [if_neg q, decide_eq_false (fun e => q (rowK_inj e)), Bool.false_or]
theorem put_tbl {t : Tab} {r : Row} {w : Int} (h : r ∉ t.map (·.1)) : putT (tblD t) (rowK r) (.int w) = tblD (t ++ [(r, w)]) := by
  unfold putT
  rw [any_tbl, getI_none.mpr h, if_neg (by decide)]
  unfold tblD
  rw [List.map_append]
  rfl
theorem keys_tbl (t : Tab) : keysT (tblD t) = (t.map (·.1)).map rowD := by
  unfold keysT tblD
  rw [List.map_map, List.map_map]
  refine List.map_congr_left fun p _ => ?_
  exact (rowD_key p.1).symm
theorem tblD_len (t : Tab) : (tblD t).length = t.length := by simp [tblD]
theorem getI_tblK (u : Tab) (r : Row) : getI (tblK u) (rowK r) = getI u r := by
  induction u with
  | nil => rfl
  | cons p u ih =>
    show getI ((rowK p.1, p.2) :: tblK u) (rowK r) = _
    rw [getI_cons]
    unfold getI
    rw [List.find?_cons]
    by_cases q : p.1 = r
    · rw [if_pos q, decide_eq_true (by rw [q])]; rfl
    · rw [if_neg q, decide_eq_false (fun e => q (rowK_inj e))]
      exact ih
theorem eqTab_tblK (t u : Tab) : eqTab (tblK t) (tblK u) = eqTab t u := by
  unfold eqTab
  rw [show (tblK t).length = t.length by simp [tblK], show (tblK u).length = u.length by simp [tblK]]
  congr 1
  rw [tblK, List.all_map]
  congr 1
  funext p
  show decide (getI (tblK u) (rowK p.1) = some p.2) = _
  rw [getI_tblK]
theorem eqTab_refl {t : Tab} (nd : (t.map (·.1)).Nodup) : eqTab t t = true := by
  unfold eqTab
  rw [decide_eq_true rfl, Bool.true_and, List.all_eq_true]
  intro p hp
  rw [decide_eq_true_eq]
  exact getI_mem nd hp
theorem eqTab_of {t u : Tab} {r : Row} {w : Int} (h : (r, w) ∈ t) (n : getI u r ≠ some w) : eqTab t u = false := by
  unfold eqTab
  rw [Bool.and_eq_false_iff]
  right
  rw [List.all_eq_false]
  exact ⟨(r, w), h, by simpa using n⟩
/-- the table that a buyer makes of its pairs -/
def byrT (ps : Tab) : Tab := (sortRows (ps.map (·.1))).map fun r => (r, (getI ps r).getD 0)
theorem byrT_fst (ps : Tab) : (byrT ps).map (·.1) = sortRows (ps.map (·.1)) := by
  unfold byrT
  rw [List.map_map]
  exact List.map_id _
theorem byrT_len (ps : Tab) : (byrT ps).length = ps.length := by
  have := congrArg List.length (byrT_fst ps)
  rw [List.length_map, (sortRows_perm _).length_eq, List.length_map] at this
  exact this
theorem byrT_of {ps t : Tab} (hp : ps.Perm t) (nd : (t.map (·.1)).Nodup) (hs : (t.map (·.1)).Pairwise (· ≤ ·)) : byrT ps = t := by
  have e : sortRows (ps.map (·.1)) = t.map (·.1) := sortRows_of (hp.map _) hs
  have nd2 : (ps.map (·.1)).Nodup := (List.Perm.nodup_iff (hp.map (·.1))).mpr nd
  unfold byrT
  rw [e, List.map_map]
  conv => rhs; rw [← List.map_id t]
  refine List.map_congr_left fun p hm => ?_
  show (p.1, (getI ps p.1).getD 0) = p
  rw [getI_mem nd2 (hp.mem_iff.mpr (show (p.1, p.2) ∈ t from hm))]
  rfl
theorem byrT_nd {ps : Tab} (nd : (ps.map (·.1)).Nodup) : ((byrT ps).map (·.1)).Nodup := by
  rw [byrT_fst]
  exact (List.Perm.nodup_iff (sortRows_perm _)).mpr nd
theorem byrT_get {ps : Tab} {r : Row} : getI (byrT ps) r = getI ps r := by
  have key : ∀ rs : List Row, (∀ x ∈ rs, x ∈ ps.map (·.1)) → getI (rs.map fun r => (r, (getI ps r).getD 0)) r = if r ∈ rs then getI ps r else none := by
    intro rs
    induction rs with
    | nil => intro _; rfl
    | cons x rs ih =>
      intro h
      rw [List.map_cons, getI_cons, ih fun y hy => h y (List.mem_cons_of_mem _ hy)]
      by_cases q : x = r
      · subst q
        rw [if_pos rfl, if_pos List.mem_cons_self]
        cases e : getI ps x with
        | none => exact absurd (h x List.mem_cons_self) (getI_none.mp e)
        | some w => rfl
      · have e : (r ∈ x :: rs) ↔ r ∈ rs := by
          rw [List.mem_cons]
          exact ⟨fun z => z.elim (fun e => absurd e.symm q) id, .inr⟩
        simp only [if_neg q, e]
  have := key (sortRows (ps.map (·.1))) fun x hx => (sortRows_perm _).mem_iff.mp hx
  unfold byrT
  rw [this]
  by_cases q : r ∈ ps.map (·.1)
  · rw [if_pos ((sortRows_perm _).mem_iff.mpr q)]
  · rw [if_neg (fun z => q ((sortRows_perm _).mem_iff.mp z)), getI_none.mpr q]
def prD (p : Row × Int) : D := .tup [rowD p.1, .int p.2]

mutual
theorem eqD_refl : ∀ (n : Nat) (d : D), d.plain n = true → eqD d d = true
  | _, .non, _ => rfl
  | _, .bl b, _ => by simp [eqD_bl]
  | _, .int b, _ => by simp [eqD_int]
  | _, .str b, _ => by simp [eqD_str]
  | 0, .tup _, h => by simp [D.plain] at h
  | 0, .lst _, h => by simp [D.plain] at h
  | n + 1, .tup xs, h => by
    have := eqD_reflL n xs (by simpa [D.plain] using h)
    simpa [eqD, D.py, PyData.eqv] using this
  | n + 1, .lst xs, h => by
    have := eqD_reflL n xs (by simpa [D.plain] using h)
    simpa [eqD, D.py, PyData.eqv] using this
  | n, .adr _, h => by cases n <;> simp [D.plain] at h
  | n, .ty _, h => by cases n <;> simp [D.plain] at h
  | n, .obj _ _, h => by cases n <;> simp [D.plain] at h
  | n, .dK _, h => by cases n <;> simp [D.plain] at h
  | n, .dT _, h => by cases n <;> simp [D.plain] at h
theorem eqD_reflL : ∀ (n : Nat) (xs : List D), D.plainL n xs = true → PyData.eqvAll (D.pyL xs) (D.pyL xs) = true
  | _, [], _ => rfl
  | n, x :: xs, h => by
    rw [D.plainL, Bool.and_eq_true] at h
    have h1 := eqD_refl n x h.1
    have h2 := eqD_reflL n xs h.2
    simp only [D.pyL, PyData.eqvAll, Bool.and_eq_true]
    exact ⟨h1, h2⟩
end

abbrev s_law_same : Stmt := topS 27
theorem sc_law_same : FnScope ["_law_found", "_law_due", "_law_one_y", "_law_two_y"] ["_law_found", "_law_due"] (defScope s_law_same) := ⟨rfl, rfl, rfl, by decide +kernel, rfl, by decide +kernel, by decide +kernel⟩
/-- the same data: True -/
def sp_same : Nat → SpD
  | 0 => fun _ _ _ => False
  | n + 1 => fun _ ds Q => ∃ d : D, ds = [d, d] ∧ d.plain n = true ∧ d.lens = true ∧ Q (.bl true)
theorem zip_self (xs : List D) : (xs.zip xs).map pairD = xs.map fun x => .tup [x, x] := by
  induction xs with
  | nil => rfl
  | cons x xs ih => rw [List.zip_cons_cons, List.map_cons, ih]; rfl
theorem same_step {k : Nat} {n : Nat} (hn : n ≤ 50) (F : Df K mg "_law_same" s_law_same ["_law_found", "_law_due"]) (B : Bi mg) (D_law_same : Dn P w K mg base k "_law_same" ["_law_found", "_law_due"] (sp_same n)) : Dn P w K mg base (k + 1) "_law_same" ["_law_found", "_law_due"] (sp_same (n + 1)) := by
  refine F.ok sc_law_same (fun β ds Q h => ?_) (fun f cdv A outer s H E c hr => ⟨_, (bc (sif (ttru (disi B.isinstance (pac (dv 1) (pac (dtup (pac (ty_list B.list) (pac (ty_tuple B.tuple) pa0))) pa0))))
      (bc (sif (wor (tne (hu_ hr) (disi B.isinstance (pac (dv 0) (pac (ty_list B.list) pa0))) (disi B.isinstance (pac (dv 1) (pac (ty_list B.list) pa0)))) (wor1 (tne (hu_ hr) (disi B.isinstance (pac (dv 0) (pac (ty_tuple B.tuple) pa0))) (disi B.isinstance (pac (dv 1) (pac (ty_tuple B.tuple) pa0)))))).pt
        (b1 (sret dbl))
        b0)
      (b1 (sret (dand (deq (hu_ hr) (dlen B.len (pac (dv 0) pa0)) (dlen B.len (pac (dv 1) pa0))) (done1 (dall rfl B.all (pac (dlc [("_law_one_y", 2), ("_law_two_y", 3)] rfl sc_law_same.nd (izp B.zip (pac (dv 0) (pac (dv 1) pa0))) (fun _ _ _ _ _ => (gtup (n := 2) rfl (gsc (gname 2 sc_law_same.nd) (gsc (gname 3 sc_law_same.nd) gs0)))) (fun _ _ _ _ _ => ts0) (fun _ _ _ _ _ => (dc (hj := Nat.le_refl _) D_law_same hr (pac (dv 2) (pac (dv 3) pa0))))).pd pa0)))))))
      b0)
    (bc (sif (wor (tis (dv 1) dnon) (wor1 (tis (dv 0) dnon))).pt
      (b1 (sret (dand (dis (dv 1) dnon) (done1 (dis (dv 0) dnon)))))
      b0)
    (bc (sif (wor (tne (hu_ hr) (disi B.isinstance (pac (dv 1) (pac (ty_bool B.bool) pa0))) (disi B.isinstance (pac (dv 0) (pac (ty_bool B.bool) pa0)))) (wor1 (tne (hu_ hr) (disi B.isinstance (pac (dv 1) (pac (ty_int B.int) pa0))) (disi B.isinstance (pac (dv 0) (pac (ty_int B.int) pa0)))))).pt
      (b1 (sret dbl))
      b0)
    (b1 (sret (dand (deq (hu_ hr) (disi B.isinstance (pac (dv 1) (pac (ty_str B.str) pa0))) (disi B.isinstance (pac (dv 0) (pac (ty_str B.str) pa0)))) (done1 (deq (hu_ hr) (dv 0) (dv 1))))))))), fun ds Q h => ?_⟩)
  · obtain ⟨d, rfl, _⟩ := h; rfl
  · obtain ⟨d, rfl, hp, hz, hQ⟩ := h
    have hQ' : eqD d d = true → Q (.bl (eqD d d)) := fun e => by rw [e]; exact hQ
    have hrefl := eqD_refl n d hp
    have hp60 := plain_mono n 60 (by omega) d hp
    cases d with
    | adr a => cases n <;> simp [D.plain] at hp
    | ty a => cases n <;> simp [D.plain] at hp
    | obj a fs => cases n <;> simp [D.plain] at hp
    | dK fs => cases n <;> simp [D.plain] at hp
    | dT fs => cases n <;> simp [D.plain] at hp
    | exc a fs => cases n <;> simp [D.plain] at hp
    | lmu a fs => cases n <;> simp [D.plain] at hp
    | lst xs =>
      cases n with
      | zero => simp [D.plain] at hp
      | succ n =>
        have hx : ∀ x ∈ xs, x.plain n = true := by
          simp only [D.plain, plainL_all, List.all_eq_true] at hp
          exact hp
        simp only [D.lens, lensL_all, Bool.and_eq_true, decide_eq_true_eq, List.all_eq_true] at hz
        refine seq_ ?_
        walk_at "dl"
        refine ⟨by decide, seq_ ?_⟩
        walk_at "dl"
        rw [beq_self_eq_true, if_pos rfl]
        refine lc_map D xs (fun x => .tup [x, x]) (fun _ => .bl true) ?_ ?_ ?_ ?_
        · intro j x hj R hR
          walk_at "dl"
          have hm := List.mem_of_getElem? hj
          exact ⟨x, rfl, hx x hm, hz.2 x hm, hR⟩
        · omega
        · refine ⟨xs.map fun _ => true, by rw [← blsOf_map, List.map_map]; rfl, ?_⟩
          have : (xs.map fun _ => true).all id = true := by simp
          rw [this]
          exact hQ
        · intro S h
          walk_at "dl"
          rw [zip_self]
          exact h
    | tup xs =>
      cases n with
      | zero => simp [D.plain] at hp
      | succ n =>
        have hx : ∀ x ∈ xs, x.plain n = true := by
          simp only [D.plain, plainL_all, List.all_eq_true] at hp
          exact hp
        simp only [D.lens, lensL_all, Bool.and_eq_true, decide_eq_true_eq, List.all_eq_true] at hz
        refine seq_ ?_
        walk_at "dl"
        refine ⟨by decide, seq_ ?_⟩
        walk_at "dl"
        rw [beq_self_eq_true, if_pos rfl]
        refine lc_map D xs (fun x => .tup [x, x]) (fun _ => .bl true) ?_ ?_ ?_ ?_
        · intro j x hj R hR
          walk_at "dl"
          have hm := List.mem_of_getElem? hj
          exact ⟨x, rfl, hx x hm, hz.2 x hm, hR⟩
        · omega
        · refine ⟨xs.map fun _ => true, by rw [← blsOf_map, List.map_map]; rfl, ?_⟩
          have : (xs.map fun _ => true).all id = true := by simp
          rw [this]
          exact hQ
        · intro S h
          walk_at "dl"
          rw [zip_self]
          exact h
    | non =>
      refine seq_ ?_
      walk_at "dl"
      refine ⟨by decide, seq_ ?_⟩
      walk_at "dl"
      exact hQ
    | _ =>
      refine seq_ ?_
      walk_at "dl"
      refine ⟨by decide, seq_ ?_⟩
      walk_at "dl"
      refine seq_ ?_
      walk_at "dl"
      first | exact hQ' hrefl | exact ⟨⟨hp60, hp60⟩, hQ' hrefl⟩
theorem ok_law_same (F : Df K mg "_law_same" s_law_same ["_law_found", "_law_due"]) (B : Bi mg) : ∀ n, n ≤ 40 → Dn P w K mg base n "_law_same" ["_law_found", "_law_due"] (sp_same n)
  | 0, _ => F.nil_
  | n + 1, h => same_step (by omega) F B (ok_law_same F B n (by omega))

/-! is_number, where there is no Ratio -/
def sp_isnum (cs : List Addr) : SpD := fun _ ds Q => ∃ d, okT cs d ∧ ds = [d] ∧ Q (.bl (isT d "int" && !isT d "bool"))
theorem isnum_i {β : Option Addr} {cs : List Addr} {i : Int} {Q : D → Prop} : sp_isnum cs β [.int i] Q = Q (.bl true) := by
  refine propext ⟨?_, fun h => ⟨.int i, rfl, rfl, h⟩⟩
  rintro ⟨d, _, e, q⟩
  cases e
  exact q
abbrev s_is_number : Stmt := topS 9
theorem sc_is_number : FnScope ["value"] ["value"] (defScope s_is_number) := ⟨rfl, rfl, rfl, by decide +kernel, rfl, by decide +kernel, by decide +kernel⟩
theorem ok_is_number {cs : List Addr} (F : Df K mg "is_number" s_is_number ["value"]) (B : Bi mg) (T : ClsT K cs) : Dn P w K mg base 1 "is_number" ["value"] (sp_isnum cs) := by
  refine F.ok sc_is_number (fun β ds Q h => ?_) (fun f cdv A outer s H E c hr => ⟨_, (b1 (sret (dand (diso T B.isinstance (pac (dv 0) (pac (ty_int B.int) pa0))) (done1 (dnot (diso T B.isinstance (pac (dv 0) (pac (ty_bool B.bool) pa0)))))))), fun ds Q h => ?_⟩)
  · obtain ⟨d, _, rfl, _⟩ := h; rfl
  · obtain ⟨d, hd, rfl, hQ⟩ := h
    walk_at "dq"
    show (okT cs d ∧ _) ∧ _
    refine ⟨⟨hd, by decide⟩, ?_⟩
    cases h1 : isT d "int" with
    | false =>
      rw [h1] at hQ
      walk_at "dq"
      exact hQ
    | true =>
      rw [h1] at hQ
      walk_at "dq"
      exact ⟨⟨hd, by decide⟩, hQ⟩

/-! directions: are_numbers, is_goods, is_direction, on whatever value -/
def nmIn (lo hi : Int) : D → Bool
  | .int i => decide (lo ≤ i) && decide (i ≤ hi)
  | _ => false
theorem isnum_nt {d : D} (h : ∀ i, d ≠ .int i) : (isT d "int" && !isT d "bool") = false := by
  cases d with
  | int i => exact absurd rfl (h i)
  | _ => rfl
theorem not_tup {d : D} (h : ∀ xs, d ≠ .tup xs) : isT d "tuple" = false := by
  cases d with
  | tup xs => exact absurd rfl (h xs)
  | _ => rfl
theorem iso_ty {cs : List Addr} {d : D} {n : String} {Q : D → Prop} (h : okT cs d) (hn : n ∈ fiveT) (q : Q (.bl (isT d n))) : isoR cs [d, .ty n] Q := ⟨⟨h, hn⟩, q⟩
def spNums (cs : List Addr) : SpD := fun _ ds Q => ∃ (d : D) (g lo hi : Int), ds = [d, .int g, .int lo, .int hi] ∧ okT cs d ∧
  ((∃ xs, d = .tup xs ∧ (∀ x ∈ xs, okT cs x) ∧ xs.length ≤ 1000 ∧ Q (.bl (((xs.length : Int) == g) && xs.all (nmIn lo hi)))) ∨ ((∀ xs, d ≠ .tup xs) ∧ Q (.bl false)))
abbrev s_are_numbers : Stmt := topS 15
theorem sc_are_numbers : FnScope ["value", "goods", "low", "high", "entry"] ["value", "goods", "low", "high"] (defScope s_are_numbers) := ⟨rfl, rfl, rfl, by decide +kernel, rfl, by decide +kernel, by decide +kernel⟩
theorem ok_are_numbers {cs : List Addr} (F : Df K mg "are_numbers" s_are_numbers ["value", "goods", "low", "high"]) (B : Bi mg) (T : ClsT K cs) (D_is_number : Dn P w K mg base 1 "is_number" ["value"] (sp_isnum cs)) : Dn P w K mg base 2 "are_numbers" ["value", "goods", "low", "high"] (spNums cs) := by
  refine F.ok sc_are_numbers (fun β ds Q h => ?_) (fun f cdv A outer s H E c hr => ⟨_, (bc (sif (wor (tnot (ttru (diso T B.isinstance (pac (dv 0) (pac (ty_tuple B.tuple) pa0))))) (wor1 (tne (hu_ hr) (dlen B.len (pac (dv 0) pa0)) (dv 1)))).pt
      (b1 (sret dbl))
      b0)
    (b1 (sret (dall rfl B.all (pac (dlc [("entry", 4)] rfl sc_are_numbers.nd (isq (dv 0)) (fun _ _ _ _ _ => (gname 4 sc_are_numbers.nd)) (fun _ _ _ _ _ => ts0) (fun _ _ _ _ _ => (dand (dc D_is_number hr (pac (dv 4) pa0)) (done1 (dchain (rd := leR) (rd' := leR) o_le o_le opd_cm opd_cm (dv 2) (dv 4) (dv 3)))))).pd pa0))))), fun ds Q h => ?_⟩)
  · obtain ⟨d, g, lo, hi, rfl, _⟩ := h; rfl
  · obtain ⟨d, g, lo, hi, rfl, hd, ⟨xs, rfl, hok, hl, hQ⟩ | ⟨hn, hQ⟩⟩ := h
    · refine seq_ ?_
      walk_at "dq"
      refine iso_ty hd (by decide) ?_
      walk_at "dq"
      cases e : ((xs.length : Int) == g) with
      | false =>
        rw [e] at hQ
        walk_at "dq"
        exact hQ
      | true =>
        rw [e] at hQ
        walk_at "dq"
        refine lc_ ?_
        walk_at "dq"
        refine lcb_map D xs id (fun d => .bl (nmIn lo hi d)) (List.map_id _).symm ?_ (by omega) ?_
        · intro j d hd R hR
          have hdo := hok d (List.mem_of_getElem? hd)
          simp only [id]
          walk_at "dq"
          refine ⟨d, hdo, rfl, ?_⟩
          by_cases hi' : ∃ i, d = .int i
          · obtain ⟨i, rfl⟩ := hi'
            show blR (.bl true) _
            walk_at "dq"
            show if decide (lo ≤ i) = true then _ else _
            refine ifd_ (fun h => ?_) (fun h => ?_)
            · simp only [nmIn, h, decide_true, Bool.true_and] at hR
              exact hR
            · simp only [nmIn, h, decide_false, Bool.false_and] at hR
              exact hR
          · have e1 := isnum_nt (d := d) fun i h => hi' ⟨i, h⟩
            rw [e1]
            walk_at "dq"
            have e2 : nmIn lo hi d = false := by cases d <;> first | rfl | exact absurd ⟨_, rfl⟩ hi'
            rw [e2] at hR
            exact hR
        · walk_at "dq"
          refine ⟨xs.map (nmIn lo hi), ?_, ?_⟩
          · rw [← blsOf_map (xs.map (nmIn lo hi)), List.map_map]; rfl
          · rw [List.all_map]
            simpa using hQ
    · refine seq_ ?_
      walk_at "dq"
      refine iso_ty hd (by decide) ?_
      rw [not_tup hn]
      walk_at "dq"
      exact hQ
abbrev s_is_goods : Stmt := topS 14
theorem sc_is_goods : FnScope ["value"] ["value"] (defScope s_is_goods) := ⟨rfl, rfl, rfl, by decide +kernel, rfl, by decide +kernel, by decide +kernel⟩
/-- how many goods -/
def okG : D → Bool
  | .int i => decide (1 ≤ i) && decide (i ≤ 3)
  | _ => false
def spGoods (cs : List Addr) : SpD := fun _ ds Q => ∃ d : D, ds = [d] ∧ okT cs d ∧ Q (.bl (okG d))
theorem ok_is_goods {cs : List Addr} {t : Tok} (F : Df K mg "is_goods" s_is_goods ["value"]) (G_MOST_GOODS : mg "MOST_GOODS" = some (.int 3 t)) (D_is_number : Dn P w K mg base 1 "is_number" ["value"] (sp_isnum cs)) : Dn P w K mg base 2 "is_goods" ["value"] (spGoods cs) := by
  refine F.ok sc_is_goods (fun β ds Q h => ?_) (fun f cdv A outer s H E c hr => ⟨_, (b1 (sret (dand (dc D_is_number hr (pac (dv 0) pa0)) (done1 (dchain (rd := leR) (rd' := leR) o_le o_le opd_cm opd_cm dint (dv 0) (dgint G_MOST_GOODS)))))), fun ds Q h => ?_⟩)
  · obtain ⟨d, rfl, _⟩ := h; rfl
  · obtain ⟨d, rfl, hd, hQ⟩ := h
    walk_at "dq"
    refine ⟨d, hd, rfl, ?_⟩
    by_cases hi' : ∃ i, d = .int i
    · obtain ⟨i, rfl⟩ := hi'
      show blR (.bl true) _
      walk_at "dq"
      show if decide (1 ≤ i) = true then _ else _
      refine ifd_ (fun h => ?_) (fun h => ?_)
      · simp only [okG, h, decide_true, Bool.true_and] at hQ
        exact hQ
      · simp only [okG, h, decide_false, Bool.false_and] at hQ
        exact hQ
    · have e1 := isnum_nt (d := d) fun i h => hi' ⟨i, h⟩
      rw [e1]
      walk_at "dq"
      have e2 : okG d = false := by cases d <;> first | rfl | exact absurd ⟨_, rfl⟩ hi'
      rw [e2] at hQ
      exact hQ

/-! bundles: is_bundle on whatever value -/
def okBun (g : Nat) (r : Row) : Prop := r.length = g ∧ ∀ x ∈ r, 0 ≤ x ∧ x ≤ 6
theorem all_bun {g : Nat} {r : Row} (h : okBun g r) : (r.map D.int).all (nmIn 0 6) = true := by
  rw [List.all_map, List.all_eq_true]
  intro x hx
  have := h.2 x hx
  show (decide (0 ≤ x) && decide (x ≤ 6)) = true
  simp [this]
/-- d as a bundle of g goods: which row it is, or none -/
def VwB (cs : List Addr) (g : Nat) (d : D) : Option Row → Prop
  | some r => d = rowD r ∧ okBun g r
  | none => okT cs d ∧ ((∀ xs, d ≠ .tup xs) ∨ ∃ xs, d = .tup xs ∧ (∀ x ∈ xs, okT cs x) ∧ xs.length ≤ 1000 ∧ (((xs.length : Int) == g) && xs.all (nmIn 0 6)) = false)
theorem vwB_row {cs : List Addr} {g : Nat} (r : Row) (hl : r.length ≤ 1000) : ∃ v : Option Row, VwB cs g (rowD r) v ∧ (v = none ∨ v = some r) ∧ (v.isSome = true ↔ okBun g r) := by
  by_cases h : okBun g r
  · exact ⟨some r, ⟨rfl, h⟩, .inr rfl, fun _ => h, fun _ => rfl⟩
  · refine ⟨none, ⟨rfl, .inr ⟨r.map D.int, rfl, fun x hx => ?_, by rw [List.length_map]; exact hl, ?_⟩⟩, .inl rfl, fun z => (by cases z), fun z => absurd z h⟩
    · obtain ⟨i, _, rfl⟩ := List.mem_map.mp hx
      rfl
    · rw [Bool.and_eq_false_iff, List.length_map]
      by_cases hg : r.length = g
      · right
        rw [List.all_map, List.all_eq_false]
        have : ¬ ∀ x ∈ r, 0 ≤ x ∧ x ≤ 6 := fun z => h ⟨hg, z⟩
        obtain ⟨x, hx⟩ := Classical.not_forall.mp this
        obtain ⟨hx, hn⟩ := Classical.not_imp.mp hx
        refine ⟨x, hx, ?_⟩
        show ¬ (decide (0 ≤ x) && decide (x ≤ 6)) = true
        simpa using fun z => Int.not_le.mp fun w => hn ⟨z, w⟩
      · left
        simp; omega
def spBun (cs : List Addr) : SpD := fun _ ds Q => ∃ (d : D) (g : Nat) (v : Option Row), ds = [d, .int g] ∧ g ≤ 1000 ∧ VwB cs g d v ∧ Q (.bl v.isSome)
abbrev s_is_bundle : Stmt := topS 16
theorem sc_is_bundle : FnScope ["value", "goods"] ["value", "goods"] (defScope s_is_bundle) := ⟨rfl, rfl, rfl, by decide +kernel, rfl, by decide +kernel, by decide +kernel⟩
theorem ok_is_bundle {cs : List Addr} {t : Tok} (F : Df K mg "is_bundle" s_is_bundle ["value", "goods"]) (G_MOST_AMOUNT : mg "MOST_AMOUNT" = some (.int 6 t)) (D_are_numbers : Dn P w K mg base 2 "are_numbers" ["value", "goods", "low", "high"] (spNums cs)) : Dn P w K mg base 3 "is_bundle" ["value", "goods"] (spBun cs) := by
  refine F.ok sc_is_bundle (fun β ds Q h => ?_) (fun f cdv A outer s H E c hr => ⟨_, (b1 (sret (dc D_are_numbers hr (pac (dv 0) (pac (dv 1) (pac dint (pac (dgint G_MOST_AMOUNT) pa0))))))), fun ds Q h => ?_⟩)
  · obtain ⟨d, g, v, rfl, _⟩ := h; rfl
  · obtain ⟨d, g, v, rfl, hg, hv, hQ⟩ := h
    walk_at "dq"
    cases v with
    | some r =>
      obtain ⟨rfl, hb⟩ := hv
      refine ⟨rowD r, (g : Int), 0, 6, rfl, rfl, .inl ⟨_, rfl, fun x hx => ?_, ?_, ?_⟩⟩
      · obtain ⟨i, _, rfl⟩ := List.mem_map.mp hx
        rfl
      · rw [List.length_map, hb.1]; exact hg
      · rw [all_bun hb, List.length_map, hb.1, beq_self_eq_true]
        exact hQ
    | none =>
      obtain ⟨hd, hn | ⟨xs, rfl, hok, hl, hf⟩⟩ := hv
      · exact ⟨d, (g : Int), 0, 6, rfl, hd, .inr ⟨hn, hQ⟩⟩
      · refine ⟨.tup xs, (g : Int), 0, 6, rfl, hd, .inl ⟨xs, rfl, hok, hl, ?_⟩⟩
        rw [hf]
        exact hQ

/-! pairs of a bundle and a worth -/
/-- d as a pair -/
def VwP (cs : List Addr) (g : Nat) (d : D) : Option (Row × Int) → Prop
  | some p => d = prD p ∧ okBun g p.1
  | none => okT cs d ∧ ((∀ xs, d ≠ .tup xs) ∨ ∃ xs, d = .tup xs ∧ (xs.length ≠ 2 ∨ ∃ b n v, xs = [b, n] ∧ VwB cs g b v ∧ okT cs n ∧ (v = none ∨ (isT n "int" && !isT n "bool") = false)))
def spPair (cs : List Addr) : SpD := fun _ ds Q => ∃ (d : D) (g : Nat) (v : Option (Row × Int)), ds = [d, .int g] ∧ g ≤ 1000 ∧ VwP cs g d v ∧ Q (.bl v.isSome)
theorem at0_2 {a b : D} : atI [a, b] 0 = some a := rfl
theorem at1_2 {a b : D} : atI [a, b] 1 = some b := rfl
abbrev s_is_pair : Stmt := topS 18
theorem sc_is_pair : FnScope ["value", "goods"] ["value", "goods"] (defScope s_is_pair) := ⟨rfl, rfl, rfl, by decide +kernel, rfl, by decide +kernel, by decide +kernel⟩
theorem ok_is_pair {cs : List Addr} (F : Df K mg "is_pair" s_is_pair ["value", "goods"]) (B : Bi mg) (T : ClsT K cs) (D_is_number : Dn P w K mg base 1 "is_number" ["value"] (sp_isnum cs)) (D_is_bundle : Dn P w K mg base 3 "is_bundle" ["value", "goods"] (spBun cs)) : Dn P w K mg base 4 "is_pair" ["value", "goods"] (spPair cs) := by
  refine F.ok sc_is_pair (fun β ds Q h => ?_) (fun f cdv A outer s H E c hr => ⟨_, (b1 (sret (dand (diso T B.isinstance (pac (dv 0) (pac (ty_tuple B.tuple) pa0))) (dand (deq (hu_ hr) (dlen B.len (pac (dv 0) pa0)) dint) (dand (dc D_is_bundle hr (pac (dix (dv 0) dint) (pac (dv 1) pa0))) (done1 (dc D_is_number hr (pac (dix (dv 0) dint) pa0)))))))), fun ds Q h => ?_⟩)
  · obtain ⟨d, g, v, rfl, _⟩ := h; rfl
  · obtain ⟨d, g, v, rfl, hg, hv, hQ⟩ := h
    cases v with
    | some p =>
      obtain ⟨rfl, hb⟩ := hv
      unfold prD
      walk_at "dq"
      refine iso_ty rfl (by decide) ?_
      walk_at "dq"
      rw [if_pos (by rfl)]
      refine ⟨rowD p.1, g, some p.1, rfl, hg, ⟨rfl, hb⟩, ?_⟩
      show blR (.bl true) _
      walk_at "dq"
      exact ⟨.int p.2, rfl, rfl, hQ⟩
    | none =>
      obtain ⟨hd, hn | ⟨xs, rfl, hx⟩⟩ := hv
      · walk_at "dq"
        refine iso_ty hd (by decide) ?_
        rw [not_tup hn]
        walk_at "dq"
        exact hQ
      · walk_at "dq"
        refine iso_ty hd (by decide) ?_
        walk_at "dq"
        rcases hx with hx | ⟨b, n, v, rfl, hv, hn, hor⟩
        · rw [show ((xs.length : Int) == 2) = false by simp; omega]
          walk_at "dq"
          exact hQ
        · walk_at "dq"
          rw [if_pos (by rfl)]
          refine ⟨b, g, v, rfl, hg, hv, ?_⟩
          cases v with
          | none => exact hQ
          | some r =>
            show blR (.bl true) _
            walk_at "dq"
            refine ⟨n, hn, rfl, ?_⟩
            rcases hor with hor | hor
            · cases hor
            · rw [hor]; exact hQ

structure F_Buyer (K : PySem.W.Frag) (mg : Str → Option Value) (C : Addr) : Prop where
  cf : ClF K C
  at_ : mg "Buyer" = some (.ref C)
  n_goods : NoAttr K C "goods"
  n_own_table : NoAttr K C "own_table"
def byrF (g : Nat) (t : Tab) : List (Str × D) := [("goods", .int g), ("own_table", .dT (tblD t))]
def byrD (C : Addr) (g : Nat) (t : Tab) : D := .obj C (byrF g t)
theorem fld_ygoods {C : Addr} {g : Nat} {t : Tab} {Q : D → Prop} : fldR C "goods" (byrD C g t) Q = Q (.int g) := by
  refine propext ⟨?_, fun h => ⟨rfl, _, rfl, h⟩⟩
  rintro ⟨_, v, h, q⟩
  cases h
  exact q
theorem fld_ytab {C : Addr} {g : Nat} {t : Tab} {Q : D → Prop} : fldR C "own_table" (byrD C g t) Q = Q (.dT (tblD t)) := by
  refine propext ⟨?_, fun h => ⟨rfl, _, rfl, h⟩⟩
  rintro ⟨_, v, h, q⟩
  cases h
  exact q

local macro_rules | `(tactic| walk_at "dby") => `(tactic| try simp only [W.fld_ygoods, W.fld_ytab, DL.qMeth, DL.qFldO, DL.qSetF, DL.slotI, DL.qMethX, DL.qMakeX, List.append_nil, Nat.reduceLeDiff, Nat.reduceLT, ne_eq, reduceCtorEq, not_false_eq_true, DL.qGetT, DL.qInT, DL.qVarT, DL.qDct, DL.dctR_t, DL.slotT_o, DL.slotT_d, DL.slotOT_o, DL.qLenT, DL.qKeysT, DL.qSetDT, DL.qPutT, DL.qFrzT, DL.iSqT, DL.eqTR_t, DL.qDcT, DL.qCallO, DL.pick_0, DL.pick_3210, DL.iZpM, DL.zipM_ll, DL.zipM_tt, DL.zipM_tl, DL.zipM_lt, DL.revR_l, DL.isB_b, DL.eqM_ii, DL.eqM_ll, DL.qMulN, DL.mulN_li, DL.conR_o, DL.neO_ii, DL.neO_ss, DL.boolR_i, DL.boolR_b, DL.min2_i, DL.max2_i, DL.qParI, DL.qIO, DL.qExt, DL.anyIL_l, DL.qMake, DL.qCatN, DL.catN_ll, DL.lenC_l, DL.lenC_t, DL.eqN_ll, DL.qRaise0, DL.qClr, DL.qTmpA, DL.qTmpC, DL.qMethN, DL.qMakeK, DL.qMakeV, DL.qVarL, DL.qCBV, DL.flatQ, DL.mulZ_ti, DL.qCMX, DL.qCM, DL.qMakeLX, DL.mulT_ti, DL.iEnB, DL.enumB_l, DL.enumB_t, DL.qXf, DL.qHot, DL.qLamB, DL.qCallX, DL.qMethX, DL.qMakeX, DL.qRaise1, DL.qCallW, DL.qAdopt, DL.qCallP, DL.pick_10, DL.eqLO_l, DL.qJs, DL.sortR_l, DL.sortR_t, DL.inLR_l, DL.minR_l, DL.minR_t, DL.maxR_l, DL.maxR_t, DL.anyIR_t, DL.qVarO, DL.qCallV, DL.D.flat, DL.qC, DL.qVar, DL.qOp, DL.qUn, DL.qNil, DL.qCons, DL.qTup, DL.qLst, DL.qLstN, DL.qCB, DL.qTest, DL.qTru, DL.qAnd, DL.qOr, DL.qNot, DL.qAndV, DL.qOrV, DL.qNotV, DL.qIf, DL.qChain, DL.qNext, DL.qSet, DL.qSetN, DL.qDrop, DL.qRet, DL.qRetL, DL.qRetO, DL.qCallN, DL.qIfS, DL.qPar, DL.qPar3, DL.qFrz, DL.frzS, DL.Ob.frz, DL.qAug, DL.iSq, DL.iRg1, DL.iRg2, DL.iZp, DL.iEn, DL.gN, DL.gT, DL.g0, DL.gC, DL.qAsg, DL.qLst', DL.qYes, DL.qCall, DL.qO0, DL.qO1, DL.qSl, DL.qX, DL.qApp, DL.qPopX, DL.qLenO, DL.qIxO, DL.qSetI, DL.qLRg, DL.qListN, DL.qParN, DL.startS, DL.wipeS, DL.isNon, DL.slotD_d, DL.slotO_o, DL.blR_b, DL.inI_i, DL.tupR_t, DL.consR_c, DL.two_c, DL.three_c, DL.addR_ii, DL.addR_ss, DL.addR_ll, DL.addR_tt, DL.subR_ii, DL.mulR_ii, DL.mulR_li, DL.fdivR_ii, DL.modR_ii, DL.powR_ii, DL.cmR_ii, DL.cmR_ss, DL.iiR_ii, DL.eqR_ii, DL.neR_ii, DL.eqR_ss, DL.negR_i, DL.ixR_li, DL.ixR_ti, DL.ixR_si, DL.isR_n, DL.isnR_n, DL.lenR_l, DL.lenR_t, DL.lenR_s, DL.absR_i, DL.intR_i, DL.intR_b, DL.tupleR_l, DL.tupleR_t, DL.listR_l, DL.listR_t, DL.listN_l, DL.listN_t, DL.allR_l, DL.anyR_l, DL.sumR_l, DL.zipR_l, DL.zipR_t, DL.enumR_l, DL.seqR_l, DL.seqR_t, DL.rg1R_i, DL.rg2R_i, DL.truR_n, DL.truR_b, DL.truR_i, DL.truR_l, DL.truR_t, DL.slR_l, DL.slR_t, DL.isiR_1, DL.isiR_2, DL.isT_nint, DL.isT_nbool, DL.isT_nstr, DL.isT_nlist, DL.isT_ntuple, DL.tyS_n, DL.isT_bint, DL.isT_bbool, DL.isT_bstr, DL.isT_blist, DL.isT_btuple, DL.tyS_b, DL.isT_iint, DL.isT_ibool, DL.isT_istr, DL.isT_ilist, DL.isT_ituple, DL.tyS_i, DL.isT_sint, DL.isT_sbool, DL.isT_sstr, DL.isT_slist, DL.isT_stuple, DL.tyS_s, DL.isT_tint, DL.isT_tbool, DL.isT_tstr, DL.isT_tlist, DL.isT_ttuple, DL.tyS_t, DL.isT_lint, DL.isT_lbool, DL.isT_lstr, DL.isT_llist, DL.isT_ltuple, DL.tyS_l, DL.five_int, DL.five_bool, DL.five_str, DL.five_list, DL.five_tuple, DL.tys2, DL.five2, DL.eqR_bb, DL.neR_bb, DL.bff, DL.btt, DL.bft, DL.btf, List.any_cons, List.any_nil, Bool.or_false, Bool.or_true, Bool.false_or, Bool.true_or, DL.at0, DL.at1, DL.at2, DL.at3, DL.at4, DL.ix51, DL.ix52, DL.ix53, DL.ix54,
  List.set_cons_zero, List.set_cons_succ, List.getElem?_cons_zero, List.getElem?_cons_succ, Option.some.injEq, exists_eq_left', exists_eq_left, and_true, true_and,
  List.map_cons, List.map_nil, List.length_cons, List.length_nil, List.replicate_succ, List.replicate_zero, List.cons_append, List.nil_append, Nat.reduceAdd, Nat.reduceSub, if_true, if_false, Bool.false_eq_true, Bool.not_true, Bool.not_false, ite_true, ite_false])

/-! Buyer's constructor with good pairs; the list may be the caller's own -/
def spByrV (cs : List Addr) : SpI := fun _ ds Q => ∃ (g : Nat) (ps : Tab) (e : D), ds = [.int g, e] ∧ (e = .lst (ps.map prD) ∨ e = .tup (ps.map prD)) ∧ 1 ≤ g ∧ g ≤ 3 ∧ ps ≠ [] ∧ ps.length ≤ 16 ∧ (∀ p ∈ ps, okBun g p.1) ∧ (ps.map (·.1)).Nodup ∧ Q (byrF g (byrT ps))
theorem take_fst {ps : Tab} {k : Nat} {p : Row × Int} (hk : ps[k]? = some p) (nd : (ps.map (·.1)).Nodup) : p.1 ∉ (ps.take k).map (·.1) := by
  intro h
  obtain ⟨q, hq, e⟩ := List.mem_map.mp h
  obtain ⟨i, hi⟩ := List.mem_iff_getElem?.mp hq
  rw [List.getElem?_take] at hi
  split at hi
  · rename_i hlt
    obtain ⟨l1, e1⟩ := List.getElem?_eq_some_iff.mp hi
    obtain ⟨l2, e2⟩ := List.getElem?_eq_some_iff.mp hk
    exact List.pairwise_iff_getElem.mp nd i k (by simpa using l1) (by simpa using l2) hlt (by simp [e1, e2, e])
  · cases hi
theorem take_snoc {α : Type} {ps : List α} {k : Nat} {p : α} (hk : ps[k]? = some p) : ps.take (k + 1) = ps.take k ++ [p] := by
  rw [List.take_add_one, hk]; rfl
abbrev s_Buyer___init__ : Stmt := inClass (topS 19) 1
theorem sc_Buyer___init__ : FnScope ["self", "goods", "pairs", "found", "at", "pair", "bundle"] ["self", "goods", "pairs"] (defScope s_Buyer___init__) := ⟨rfl, rfl, rfl, by decide +kernel, rfl, by decide +kernel, by decide +kernel⟩
theorem ok_Buyer_initV {C : Addr} {cs : List Addr} (F : HdI K C "Buyer.__init__" s_Buyer___init__ []) (R_Buyer : F_Buyer K mg C) (B : Bi mg) (K_Buyer_MOST : CInt K C "MOST" 16) (T : ClsT K cs) (D_is_goods : Dn P w K mg base 2 "is_goods" ["value"] (spGoods cs)) (D_is_pair : Dn P w K mg base 4 "is_pair" ["value", "goods"] (spPair cs)) :
    DnV P w K mg base 5 "Buyer" C ["self", "goods", "pairs"] (spByrV cs) 1 := by
  refine F.okV (k := 4) R_Buyer.cf R_Buyer.at_ sc_Buyer___init__ (fun β ds Q h => ?_) (by decide) (fun _ _ _ _ _ _ us hl => ?_) (fun f cdv A outer s H E c sj e hr L => ⟨_, (bc (sif (tnot (ttru (dc D_is_goods hr (pac (dv 1) pa0))))
      (b1 snever)
      b0)
    (bc (sif (wor (tnot (ttru (disoV T B.isinstance (pvc (vL L 2) (pvc (dtup (pac (ty_list B.list) (pac (ty_tuple B.tuple) pa0))).v pv0))))) (wor1 (teq (hu_ hr) (dlenV B.len (pvc (vL L 2) pv0)) dint))).pt
      (b1 snever)
      b0)
    (bc (ssetDT 3 sc_Buyer___init__.nd)
    (bc (sfor PassesOwn.never rfl (ienL L 2 B.enumerate) (gtup (n := 2) rfl (gsc (gname 4 sc_Buyer___init__.nd) (gsc (gname 5 sc_Buyer___init__.nd) gs0)))
      (bc (sif (wor (tnot (ttru (dc D_is_pair hr (pac (dv 5) (pac (dv 1) pa0))))) (wor (tinT (hu_ hr) (dix (dv 5) dint) (vd 3)) (wor1 (teq (hu_ hr) (dlenT B.len (vd 3)) (dcint R_Buyer.at_ K_Buyer_MOST))))).pt
        (b1 snever)
        b0)
      (b1 (sputT 3 (hu_ hr) (dix (dv 5) dint) (dix (dv 5) dint)))))
    (bc (ssetF 0 R_Buyer.cf R_Buyer.n_goods (dv 1))
    (b1 (ssetF 0 R_Buyer.cf R_Buyer.n_own_table (ddcT [("bundle", 6)] (hu_ hr) rfl sc_Buyer___init__.nd (isq (dsorted (hu_ hr) B.sorted (pac (dlistT rfl B.list (vd 3)).pd pa0))) (fun _ _ _ _ _ => (gname 6 sc_Buyer___init__.nd)) (fun _ _ _ _ _ => ts0) (fun _ _ _ _ _ => (dv 6)) (fun _ _ _ _ _ => (dgetT (hu_ hr) (vd 3) (dv 6))))))))))), fun x dx ds Q hj h => ?_⟩)
  · obtain ⟨g, ps, e, rfl, _⟩ := h; rfl
  · match us, hl with
    | [_, _, _], _ => rfl
  · obtain ⟨g, ps, e', rfl, he, hg1, hg3, hne, hlen, hok, nd, hq⟩ := h
    obtain rfl : e' = e := by
      have : some e' = some e := hj
      cases this; rfl
    have hg : okG (.int g) = true := by
      show (decide ((1 : Int) ≤ g) && decide ((g : Int) ≤ 3)) = true
      simp; omega
    obtain ⟨ht, hty, hlr, her⟩ : okT cs e' ∧ (isT e' "list" || isT e' "tuple") = true ∧ (∀ S : D → Prop, S (.int ps.length) → lenR [e'] S) ∧ ∀ S : List D → Prop, S (enumD (ps.map prD)) → enumB [e'] S := by
      rcases he with rfl | rfl
      · exact ⟨rfl, rfl, fun S h => by show S (.int (ps.map prD).length); rw [List.length_map]; exact h, fun S h => h⟩
      · exact ⟨rfl, rfl, fun S h => by show S (.int (ps.map prD).length); rw [List.length_map]; exact h, fun S h => h⟩
    refine seq_ ?_
    walk_at "dq"
    refine ⟨.int g, rfl, rfl, ?_⟩
    rw [hg]
    walk_at "dq"
    refine seq_ ?_
    walk_at "dq"
    refine ⟨["list", "tuple"], rfl, ⟨ht, by decide⟩, ?_⟩
    rw [show (["list", "tuple"] : List String).any (isT e') = true by rw [List.any_cons, List.any_cons, List.any_nil, Bool.or_false]; exact hty]
    walk_at "dq"
    refine hlr _ ?_
    have hne' : ((ps.length : Int) == 0) = false := by
      cases ps with
      | nil => exact absurd rfl hne
      | cons y ys => simp; omega
    walk_at "dq"
    rw [hne']
    walk_at "dq"
    refine seq_ ?_
    walk_at "dq"
    intro af
    refine cut_ (fun ρ => ∃ x4 x5 x6, ρ = [.own x (.ins C dx []), .d (.int g), sj, .own af (.dT (tblD ps)), x4, x5, x6]) ?_ ?_
    · refine for_ (enumD (ps.map prD)) (fun k ρ => ∃ x4 x5 x6, ρ = [.own x (.ins C dx []), .d (.int g), sj, .own af (.dT (tblD (ps.take k))), x4, x5, x6]) ⟨_, _, _, rfl⟩ ?_ ?_ ?_
      · rintro k it ρ' hk ⟨x4, x5, x6, rfl⟩
        obtain ⟨y, hy, rfl⟩ := enum_get hk
        rw [List.getElem?_map] at hy
        cases hr0 : ps[k]? with
        | none => rw [hr0] at hy; cases hy
        | some p =>
          rw [hr0] at hy
          cases hy
          have hmem := List.mem_of_getElem? hr0
          have hnot := take_fst hr0 nd
          have hkl : k < ps.length := (List.getElem?_eq_some_iff.mp hr0).1
          walk_at "dq"
          refine seq_ ?_
          walk_at "dq"
          refine ⟨_, g, some p, rfl, by omega, ⟨rfl, hok p hmem⟩, ?_⟩
          walk_at "dq"
          rw [if_neg (by simp)]
          refine ⟨_, at0_2, keyR_row ?_⟩
          rw [val_tbl, getI_none.mpr hnot]
          show if false = true then _ else _
          rw [if_neg (by simp)]
          walk_at "dq"
          rw [if_neg (by rw [tblD_len, List.length_take]; simp; omega)]
          refine ⟨_, at1_2, _, at0_2, keyR_row ⟨by rw [tblD_len, List.length_take]; omega, ?_⟩⟩
          rw [put_tbl hnot, ← take_snoc hr0]
          exact ⟨_, _, _, rfl⟩
      · rintro ρ' ⟨x4, x5, x6, rfl⟩
        rw [show (enumD (ps.map prD)).length = ps.length by simp [enumD], List.take_length]
        exact ⟨_, _, _, rfl⟩
      · intro S h
        walk_at "dq"
        exact her S h
    · rintro ρ' ⟨x4, x5, x6, rfl⟩
      walk_at "dq"
      refine seq_ ?_
      walk_at "dby"
      rw [keys_tbl, sortD_rows]
      have hks : ∀ r ∈ ps.map (·.1), r.length = g := fun r hr => by
        obtain ⟨p, hp, rfl⟩ := List.mem_map.mp hr
        exact (hok p hp).1
      refine ⟨sort_ok (n := g) (by omega) hks, ?_⟩
      have hsl : (sortRows (ps.map (·.1))).length = ps.length := by rw [(sortRows_perm _).length_eq, List.length_map]
      have hsnd : (sortRows (ps.map (·.1))).Nodup := (List.Perm.nodup_iff (sortRows_perm _)).mpr nd
      refine ⟨by rw [List.length_map, hsl]; omega, fun k acc => acc = tblD ((byrT ps).take k), rfl, fun k it acc hk hacc => ?_, fun acc hacc => ?_⟩
      · subst hacc
        rw [List.getElem?_map] at hk
        cases hr : (sortRows (ps.map (·.1)))[k]? with
        | none => rw [hr] at hk; cases hk
        | some r =>
          rw [hr] at hk
          cases hk
          have hm : r ∈ ps.map (·.1) := (sortRows_perm _).mem_iff.mp (List.mem_of_getElem? hr)
          obtain ⟨wv, hw⟩ : ∃ wv, getI ps r = some wv := by
            cases e : getI ps r with
            | none => exact absurd hm (getI_none.mp e)
            | some wv => exact ⟨wv, rfl⟩
          have hbt : (byrT ps)[k]? = some (r, wv) := by
            unfold byrT
            rw [List.getElem?_map, hr]
            show some (r, (getI ps r).getD 0) = _
            rw [hw]; rfl
          have hnk : r ∉ ((byrT ps).take k).map (·.1) := take_fst (p := (r, wv)) hbt (byrT_nd nd)
          walk_at "dby"
          refine keyR_row ⟨.int wv, by rw [val_tbl, hw]; rfl, ?_⟩
          refine keyR_row ?_
          show putT _ _ _ = _
          rw [put_tbl hnk, take_snoc hbt]
      · rw [List.length_map, hsl, ← byrT_len ps, List.take_length] at hacc
        subst hacc
        exact ⟨by show 1 < 900; decide, _, rfl, hq⟩

/-! Buyer: what it tells -/
def optD : Option Int → D
  | some w => .int w
  | none => .non
def getB (t : Tab) : Option Row → Option Int
  | some r => getI t r
  | none => none
def spYPairs (C : Addr) : SpN := fun _ ds Q => ∃ (g : Nat) (t : Tab), ds = [byrD C g t] ∧ t.length ≤ 90000 ∧ (t.map (·.1)).Nodup ∧ Q (t.map prD)
abbrev s_Buyer_pairs : Stmt := inClass (topS 19) 3
theorem sc_Buyer_pairs : FnScope ["self", "bundle"] ["self"] (defScope s_Buyer_pairs) := ⟨rfl, rfl, rfl, by decide +kernel, rfl, by decide +kernel, by decide +kernel⟩
theorem ok_Buyer_pairs {C : Addr} (F : DfM K C "pairs" "Buyer.pairs" s_Buyer_pairs ["self"]) (R_Buyer : F_Buyer K mg C) (B : Bi mg) : DnMN P w K mg base 1 C "pairs" ["self"] (spYPairs C) := by
  refine F.okN R_Buyer.cf sc_Buyer_pairs (fun β ds Q h => ?_) (fun f cdv A outer s H E c hr => ⟨_, (b1 (sretL (dlc [("bundle", 1)] rfl sc_Buyer_pairs.nd (isqT (dfld R_Buyer.cf R_Buyer.n_own_table (dv 0))) (fun _ _ _ _ _ => (gname 1 sc_Buyer_pairs.nd)) (fun _ _ _ _ _ => ts0) (fun _ _ _ _ _ => (dtup (pac (dv 1) (pac (dgetT (hu_ hr) (dfld R_Buyer.cf R_Buyer.n_own_table (dv 0)).dd (dv 1)) pa0))))))), fun ds Q h => ?_⟩)
  · obtain ⟨g, t, rfl, _⟩ := h; rfl
  · obtain ⟨g, t, rfl, ht, nd, hQ⟩ := h
    walk_at "dby"
    show qLc _ _ _ _ _ _ _
    refine lc_ ?_
    walk_at "dby"
    refine lcb_map (Row × Int) t (fun p => rowD p.1) prD ?_ ?_ ht ?_
    · rw [keys_tbl, List.map_map]; rfl
    · intro j p hp R hR
      walk_at "dby"
      refine keyR_row ⟨.int p.2, ?_, hR⟩
      rw [val_tbl, getI_mem nd (show (p.1, p.2) ∈ t from List.mem_of_getElem? hp)]
      rfl
    · exact hQ
def spYBuns (C : Addr) : SpN := fun _ ds Q => ∃ (g : Nat) (t : Tab), ds = [byrD C g t] ∧ Q ((t.map (·.1)).map rowD)
abbrev s_Buyer_bundles : Stmt := inClass (topS 19) 4
theorem sc_Buyer_bundles : FnScope ["self"] ["self"] (defScope s_Buyer_bundles) := ⟨rfl, rfl, rfl, by decide +kernel, rfl, by decide +kernel, by decide +kernel⟩
theorem ok_Buyer_bundles {C : Addr} (F : DfM K C "bundles" "Buyer.bundles" s_Buyer_bundles ["self"]) (R_Buyer : F_Buyer K mg C) (B : Bi mg) : DnMN P w K mg base 1 C "bundles" ["self"] (spYBuns C) := by
  refine F.okN R_Buyer.cf sc_Buyer_bundles (fun β ds Q h => ?_) (fun f cdv A outer s H E c hr => ⟨_, (b1 (sretL (dlistT rfl B.list (dfld R_Buyer.cf R_Buyer.n_own_table (dv 0)).dd))), fun ds Q h => ?_⟩)
  · obtain ⟨g, t, rfl, _⟩ := h; rfl
  · obtain ⟨g, t, rfl, hQ⟩ := h
    walk_at "dby"
    rw [keys_tbl]
    exact hQ
def spYIn (cs : List Addr) (C : Addr) : SpD := fun _ ds Q => ∃ (g : Nat) (t : Tab) (d : D) (v : Option Row), ds = [byrD C g t, d] ∧ g ≤ 3 ∧ VwB cs g d v ∧ Q (.bl (getB t v).isSome)
abbrev s_Buyer___contains__ : Stmt := inClass (topS 19) 13
theorem sc_Buyer___contains__ : FnScope ["self", "bundle"] ["self", "bundle"] (defScope s_Buyer___contains__) := ⟨rfl, rfl, rfl, by decide +kernel, rfl, by decide +kernel, by decide +kernel⟩
theorem ok_Buyer_in {C : Addr} {cs : List Addr} (F : DfM K C "__contains__" "Buyer.__contains__" s_Buyer___contains__ ["self", "bundle"]) (R_Buyer : F_Buyer K mg C) (B : Bi mg) (D_is_bundle : Dn P w K mg base 3 "is_bundle" ["value", "goods"] (spBun cs)) : DnM P w K mg base 4 C "__contains__" ["self", "bundle"] (spYIn cs C) := by
  refine F.ok (k := 3) R_Buyer.cf sc_Buyer___contains__ (fun β ds Q h => ?_) (fun f cdv A outer s H E c hr => ⟨_, (b1 (sret (dand (dc D_is_bundle hr (pac (dv 1) (pac (dfld R_Buyer.cf R_Buyer.n_goods (dv 0)) pa0))) (done1 (dinT (hu_ hr) (dv 1) (dfld R_Buyer.cf R_Buyer.n_own_table (dv 0)).dd))))), fun ds Q h => ?_⟩)
  · obtain ⟨g, t, d, v, rfl, _⟩ := h; rfl
  · obtain ⟨g, t, d, v, rfl, hg, hv, hQ⟩ := h
    walk_at "dby"
    refine ⟨d, g, v, rfl, by omega, hv, ?_⟩
    cases v with
    | none =>
      walk_at "dby"
      exact hQ
    | some r =>
      obtain ⟨rfl, _⟩ := hv
      walk_at "dby"
      rw [if_pos (by rfl)]
      refine keyR_row ?_
      rw [val_tbl, Option.isSome_map, Bool.bne_false]
      exact hQ
def spYWorth (cs : List Addr) (C : Addr) : SpD := fun _ ds Q => ∃ (g : Nat) (t : Tab) (d : D) (v : Option Row), ds = [byrD C g t, d] ∧ g ≤ 3 ∧ VwB cs g d v ∧ Q (optD (getB t v))
abbrev s_Buyer_worth : Stmt := inClass (topS 19) 5
theorem sc_Buyer_worth : FnScope ["self", "bundle"] ["self", "bundle"] (defScope s_Buyer_worth) := ⟨rfl, rfl, rfl, by decide +kernel, rfl, by decide +kernel, by decide +kernel⟩
theorem ok_Buyer_worth {C : Addr} {cs : List Addr} (F : DfM K C "worth" "Buyer.worth" s_Buyer_worth ["self", "bundle"]) (R_Buyer : F_Buyer K mg C) (B : Bi mg) (M_Buyer___contains__ : DnM P w K mg base 4 C "__contains__" ["self", "bundle"] (spYIn cs C)) : DnM P w K mg base 5 C "worth" ["self", "bundle"] (spYWorth cs C) := by
  refine F.ok (k := 4) R_Buyer.cf sc_Buyer_worth (fun β ds Q h => ?_) (fun f cdv A outer s H E c hr => ⟨_, (b1 (sret (difx (tinO M_Buyer___contains__ hr (dv 1) (dv 0)) (dgetT (hu_ hr) (dfld R_Buyer.cf R_Buyer.n_own_table (dv 0)).dd (dv 1)) dnon))), fun ds Q h => ?_⟩)
  · obtain ⟨g, t, d, v, rfl, _⟩ := h; rfl
  · obtain ⟨g, t, d, v, rfl, hg, hv, hQ⟩ := h
    walk_at "dby"
    refine ⟨rfl, g, t, d, v, rfl, hg, hv, _, rfl, ?_⟩
    cases v with
    | none => exact hQ
    | some r =>
      obtain ⟨rfl, _⟩ := hv
      cases e : getI t r with
      | none =>
        have hQ : Q (optD (getI t r)) := hQ
        rw [e] at hQ
        show if (getI t r).isSome = true then _ else _
        rw [e, if_neg (by simp)]
        exact hQ
      | some wv =>
        have hQ : Q (optD (getI t r)) := hQ
        rw [e] at hQ
        show if (getI t r).isSome = true then _ else _
        rw [e, if_pos (by rfl)]
        refine keyR_row ⟨.int wv, ?_, hQ⟩
        rw [val_tbl, e]
        rfl
abbrev s_Buyer___call__ : Stmt := inClass (topS 19) 12
theorem sc_Buyer___call__ : FnScope ["self", "bundle"] ["self", "bundle"] (defScope s_Buyer___call__) := ⟨rfl, rfl, rfl, by decide +kernel, rfl, by decide +kernel, by decide +kernel⟩
theorem ok_Buyer_call {C : Addr} {cs : List Addr} (F : DfM K C "__call__" "Buyer.__call__" s_Buyer___call__ ["self", "bundle"]) (R_Buyer : F_Buyer K mg C) (B : Bi mg) (M_Buyer_worth : DnM P w K mg base 5 C "worth" ["self", "bundle"] (spYWorth cs C)) : DnM P w K mg base 6 C "__call__" ["self", "bundle"] (spYWorth cs C) := by
  refine F.ok (k := 5) R_Buyer.cf sc_Buyer___call__ (fun β ds Q h => ?_) (fun f cdv A outer s H E c hr => ⟨_, (b1 (sret (dmeth M_Buyer_worth hr (dv 0) (pac (dv 1) pa0)))), fun ds Q h => ?_⟩)
  · obtain ⟨g, t, d, v, rfl, _⟩ := h; rfl
  · obtain ⟨g, t, d, v, rfl, hg, hv, hQ⟩ := h
    walk_at "dby"
    exact ⟨⟨rfl, rfl⟩, g, t, d, v, rfl, hg, hv, hQ⟩
def spYEq (C : Addr) : SpD := fun _ ds Q => ∃ (g g' : Nat) (t t' : Tab), ds = [byrD C g t, byrD C g' t'] ∧ Q (.bl (decide (g = g') && eqTab t t'))
theorem okT_byr {cs : List Addr} {C : Addr} (h : C ∈ cs) (g : Nat) (t : Tab) : okT cs (byrD C g t) := h
abbrev s_Buyer___eq__ : Stmt := inClass (topS 19) 14
theorem sc_Buyer___eq__ : FnScope ["self", "other"] ["self", "other"] (defScope s_Buyer___eq__) := ⟨rfl, rfl, rfl, by decide +kernel, rfl, by decide +kernel, by decide +kernel⟩
theorem ok_Buyer_eq {C : Addr} {cs : List Addr} (F : DfM K C "__eq__" "Buyer.__eq__" s_Buyer___eq__ ["self", "other"]) (R_Buyer : F_Buyer K mg C) (B : Bi mg) (T : ClsT K cs) (hC : C ∈ cs) : DnM P w K mg base 1 C "__eq__" ["self", "other"] (spYEq C) := by
  refine F.ok R_Buyer.cf sc_Buyer___eq__ (fun β ds Q h => ?_) (fun f cdv A outer s H E c hr => ⟨_, (bc (sif (tnot (ttru (diso T B.isinstance (pac (dv 1) (pac (dcls R_Buyer.at_) pa0)))))
      (b1 snever)
      b0)
    (b1 (sret (dand (deq (hu_ hr) (dfld R_Buyer.cf R_Buyer.n_goods (dv 0)) (dfld R_Buyer.cf R_Buyer.n_goods (dv 1))) (done1 (deqT (hu_ hr) (dfld R_Buyer.cf R_Buyer.n_own_table (dv 0)) (dfld R_Buyer.cf R_Buyer.n_own_table (dv 1)))))))), fun ds Q h => ?_⟩)
  · obtain ⟨g, g', t, t', rfl, _⟩ := h; rfl
  · obtain ⟨g, g', t, t', rfl, hQ⟩ := h
    refine seq_ ?_
    walk_at "dby"
    refine ⟨⟨okT_byr hC g' t', hC⟩, ?_⟩
    rw [show isA (byrD C g' t') C = true from beq_self_eq_true C]
    walk_at "dby"
    by_cases hg : g = g'
    · rw [show ((g : Int) == (g' : Int)) = true by simp [hg]]
      walk_at "dby"
      refine ⟨tblK t, tblK t', tbl_tab t, tbl_tab t', ?_⟩
      rw [eqTab_tblK]
      simpa [hg] using hQ
    · rw [show ((g : Int) == (g' : Int)) = false by simp; omega]
      walk_at "dby"
      simpa [hg] using hQ
theorem ok_Buyer_eqNI {C : Addr} {cs : List Addr} (F : DfM K C "__eq__" "Buyer.__eq__" s_Buyer___eq__ ["self", "other"]) (R_Buyer : F_Buyer K mg C) (B : Bi mg) (T : ClsT K cs) (hC : C ∈ cs) (hNI : mg "NotImplemented" = none) : DnNI P w K mg base 1 C "__eq__" (fun d => okT cs d ∧ isA d C = false) := by
  refine F.okNI R_Buyer.cf sc_Buyer___eq__ rfl rfl hNI (fun f cdv A outer s H c hr => ⟨rfl, _, (tnot (ttru (diso T B.isinstance (pac (dv 1) (pac (dcls R_Buyer.at_) pa0))))), fun fs d hd => ?_⟩)
  walk_at "dq"
  refine ⟨⟨hd.1, hC⟩, ?_⟩
  rw [hd.2]
  rfl
def spYLen (C : Addr) : SpD := fun _ ds Q => ∃ (g : Nat) (t : Tab), ds = [byrD C g t] ∧ Q (.int t.length)
abbrev s_Buyer___len__ : Stmt := inClass (topS 19) 15
theorem sc_Buyer___len__ : FnScope ["self"] ["self"] (defScope s_Buyer___len__) := ⟨rfl, rfl, rfl, by decide +kernel, rfl, by decide +kernel, by decide +kernel⟩
theorem ok_Buyer_len {C : Addr} (F : DfM K C "__len__" "Buyer.__len__" s_Buyer___len__ ["self"]) (R_Buyer : F_Buyer K mg C) (B : Bi mg) : DnM P w K mg base 1 C "__len__" ["self"] (spYLen C) := by
  refine F.ok R_Buyer.cf sc_Buyer___len__ (fun β ds Q h => ?_) (fun f cdv A outer s H E c hr => ⟨_, (b1 (sret (dlenT B.len (dfld R_Buyer.cf R_Buyer.n_own_table (dv 0)).dd))), fun ds Q h => ?_⟩)
  · obtain ⟨g, t, rfl, _⟩ := h; rfl
  · obtain ⟨g, t, rfl, hQ⟩ := h
    walk_at "dby"
    rw [tblD_len]
    exact hQ
theorem log19 {j : Int} (h1 : -(2 ^ 64) < j) (h2 : j < 2 ^ 64) : j.natAbs.log2 < 1920 := Nat.lt_of_lt_of_le (PySem.Flt.log2_lt_of (show 0 < 64 by decide) (show j.natAbs < 2 ^ 64 by omega)) (by decide)
def byTxt (g n : Nat) : Str := Str.ofString "Buyer(" ++ Str.ofString (toString (g : Int)) ++ Str.ofString " goods, " ++ Str.ofString (toString (n : Int)) ++ Str.ofString " bundles)"
theorem txt_ok : ∀ g : Fin 4, ∀ n : Fin 17, (Str.empty ++ Str.ofString "Buyer(").length ≤ 100000 ∧ (Str.empty ++ Str.ofString "Buyer(" ++ Str.ofString (toString ((g.val : Nat) : Int))).length ≤ 100000 ∧ (Str.empty ++ Str.ofString "Buyer(" ++ Str.ofString (toString ((g.val : Nat) : Int)) ++ Str.ofString " goods, ").length ≤ 100000 ∧ (Str.empty ++ Str.ofString "Buyer(" ++ Str.ofString (toString ((g.val : Nat) : Int)) ++ Str.ofString " goods, " ++ Str.ofString (toString ((n.val : Nat) : Int))).length ≤ 100000 ∧ (Str.empty ++ Str.ofString "Buyer(" ++ Str.ofString (toString ((g.val : Nat) : Int)) ++ Str.ofString " goods, " ++ Str.ofString (toString ((n.val : Nat) : Int)) ++ Str.ofString " bundles)").length ≤ 100000 ∧
    Str.empty ++ Str.ofString "Buyer(" ++ Str.ofString (toString ((g.val : Nat) : Int)) ++ Str.ofString " goods, " ++ Str.ofString (toString ((n.val : Nat) : Int)) ++ Str.ofString " bundles)" = byTxt g.val n.val ∧ PyData.strOk (byTxt g.val n.val) = true ∧ (byTxt g.val n.val).length ≤ 100 := by decide +kernel
def spYRepr (C : Addr) : SpD := fun _ ds Q => ∃ (g : Nat) (t : Tab), ds = [byrD C g t] ∧ g ≤ 3 ∧ t.length ≤ 16 ∧ Q (.str (byTxt g t.length))
abbrev s_Buyer___repr__ : Stmt := inClass (topS 19) 16
theorem sc_Buyer___repr__ : FnScope ["self"] ["self"] (defScope s_Buyer___repr__) := ⟨rfl, rfl, rfl, by decide +kernel, rfl, by decide +kernel, by decide +kernel⟩
theorem ok_Buyer_repr {C : Addr} (F : DfM K C "__repr__" "Buyer.__repr__" s_Buyer___repr__ ["self"]) (R_Buyer : F_Buyer K mg C) (B : Bi mg) : DnM P w K mg base 1 C "__repr__" ["self"] (spYRepr C) := by
  refine F.ok R_Buyer.cf sc_Buyer___repr__ (fun β ds Q h => ?_) (fun f cdv A outer s H E c hr => ⟨_, (b1 (sret (dfs (pjc dstr (pjc (dfmt (dfld R_Buyer.cf R_Buyer.n_goods (dv 0))) (pjc dstr (pjc (dfmt (dlenT B.len (dfld R_Buyer.cf R_Buyer.n_own_table (dv 0)).dd)) (pjc dstr pj0)))))))), fun ds Q h => ?_⟩)
  · obtain ⟨g, t, rfl, _⟩ := h; rfl
  · obtain ⟨g, t, rfl, hg, hn, hQ⟩ := h
    obtain ⟨t1, t2, t3, t4, t5, t6, t7, t8⟩ := txt_ok ⟨g, by omega⟩ ⟨t.length, by omega⟩
    have l1 : (g : Int).natAbs.log2 < 1920 := log19 (by omega) (by omega)
    have l2 : (t.length : Int).natAbs.log2 < 1920 := log19 (by omega) (by omega)
    walk_at "dby"
    rw [tblD_len]
    walk_at "dby"
    rw [← t6] at hQ
    exact ⟨_, rfl, t1, l1, _, rfl, t2, _, rfl, t3, l2, _, rfl, t4, _, rfl, t5, hQ⟩

/-! drawn bundles and tables -/
/-- a comprehension that draws something for each item -/
theorem lcb_ch {α β : Type} {items : List D} {g : QG} {qe : QE} {vs : List Nat} {ρ : List DL.Slot} {Q : List D → Prop} (xs : List α) (enc : α → D) (f : α × β → D) (P : α → β → Prop) (he : items = xs.map enc)
    (hb : ∀ (k : Nat) (x : α), xs[k]? = some x → ∀ R : D → Prop, (∀ y, P x y → R (f (x, y))) → g (enc x) (wipeS ρ vs) fun ρ2 => qe ρ2 R) (hl : xs.length ≤ 90000)
    (hQ : ∀ ps : List (α × β), ps.map (·.1) = xs → (∀ p ∈ ps, P p.1 p.2) → Q (ps.map f)) : lcB items g qYes qe vs ρ Q := by
  subst he
  refine ⟨by rw [List.length_map]; exact hl, fun k acc => ∃ ps : List (α × β), ps.map (·.1) = xs.take k ∧ (∀ p ∈ ps, P p.1 p.2) ∧ acc = ps.map f, ⟨[], by simp, by simp, rfl⟩, fun k it acc e pv => ?_, fun acc e => ?_⟩
  · obtain ⟨ps, h1, h2, rfl⟩ := pv
    rw [List.getElem?_map] at e
    cases q : xs[k]? with
    | none => rw [q] at e; cases e
    | some x =>
      rw [q] at e
      cases e
      refine hb k x q _ fun y hy => ⟨ps ++ [(x, y)], ?_, ?_, by simp⟩
      · rw [List.map_append, h1, List.take_add_one, q]; rfl
      · intro z hz
        rcases List.mem_append.mp hz with hz | hz
        · exact h2 z hz
        · cases List.mem_singleton.mp hz; exact hy
  · obtain ⟨ps, h1, h2, rfl⟩ := e
    rw [List.length_map, List.take_length] at h1
    exact hQ ps h1 h2
theorem log_pl {j : Int} (h1 : -(2 ^ 64) < j) (h2 : j < 2 ^ 64) : j.natAbs.log2 < 9000 := log9 (n := 64) (by omega) (by decide) (by decide)
abbrev s_law_bundle : Stmt := topS 28
theorem sc_law_bundle : FnScope ["_law_bag_here", "_law_goods_y", "_law_most_y", "_law_k"] ["_law_bag_here", "_law_goods_y", "_law_most_y"] (defScope s_law_bundle) := ⟨rfl, rfl, rfl, by decide +kernel, rfl, by decide +kernel, by decide +kernel⟩
def sp_bnd : SpD := fun β ds Q => ∃ (b : Addr) (n : Nat) (m : Int), β = some b ∧ ds = [.adr b, .int n, .int m] ∧ n ≤ 1000 ∧ 0 ≤ m ∧ m ≤ 1000000 ∧ ∀ r : Row, r.length = n → (∀ x ∈ r, 0 ≤ x ∧ x ≤ m) → Q (rowD r)
theorem ok_law_bundle (F : Df K mg "_law_bundle" s_law_bundle ["_law_bag_here", "_law_goods_y", "_law_most_y"]) (B : Bi mg) (D_law_pull : Dn P w K mg base 1 "_law_pull" ["_law_bag_here", "_law_many"] sp_pull) :
    Dn P w K mg base 2 "_law_bundle" ["_law_bag_here", "_law_goods_y", "_law_most_y"] sp_bnd := by
  refine F.ok sc_law_bundle (fun β ds Q h => ?_) (fun f cdv A outer s H E c hr => ⟨_, (b1 (sret (dtuple B.tuple (pac (dlc [("_law_k", 3)] rfl sc_law_bundle.nd (irg1 B.range (pac (dv 1) pa0)) (fun _ _ _ _ _ => (gname 3 sc_law_bundle.nd)) (fun _ _ _ _ _ => ts0) (fun _ _ _ _ _ => (dc D_law_pull hr (pac (dv 0) (pac (dadd (dv 2) dint) pa0))))).pd pa0)))), fun ds Q h => ?_⟩)
  · obtain ⟨b, n, m, _, rfl, _⟩ := h; rfl
  · obtain ⟨b, n, m, hβ, rfl, hn, hm0, hm1, hQ⟩ := h
    walk_at "dq"
    refine lc_ ?_
    walk_at "dq"
    refine ⟨⟨by omega, by omega⟩, lcb_all Int D.int (fun i => 0 ≤ i ∧ i ≤ m) ?_ (by rw [rangeD_len]; omega) ?_⟩
    · intro k x hx R hR
      walk_at "dq"
      refine ⟨b, _, hβ, rfl, by omega, log_pl (by omega) (by omega), fun d hd hd' => ?_⟩
      exact hR _ ⟨by omega, by omega⟩
    · intro r hr1 hr2
      rw [rangeD_len, Int.toNat_natCast] at hr1
      walk_at "dq"
      exact hQ r hr1 hr2
abbrev s_law_table : Stmt := topS 29
theorem sc_law_table : FnScope ["_law_bag_here", "_law_goods_y", "_law_many", "_law_most_y", "_law_bundles_y", "_law_k", "_law_bundle_y"] ["_law_bag_here", "_law_goods_y", "_law_many", "_law_most_y"] (defScope s_law_table) := ⟨rfl, rfl, rfl, by decide +kernel, rfl, by decide +kernel, by decide +kernel⟩
/-- what a drawn table is -/
structure IsTab (n : Nat) (k m : Int) (t : Tab) : Prop where
  ne : t ≠ []
  len : t.length ≤ k.toNat
  nd : (t.map (·.1)).Nodup
  so : (t.map (·.1)).Pairwise (· ≤ ·)
  rl : ∀ p ∈ t, p.1.length = n
  rb : ∀ p ∈ t, ∀ x ∈ p.1, 0 ≤ x ∧ x ≤ m
  wb : ∀ p ∈ t, -5 ≤ p.2 ∧ p.2 ≤ 12
theorem IsTab.bun {n : Nat} {k m : Int} {t : Tab} (h : IsTab n k m t) (hm : m ≤ 6) : ∀ p ∈ t, okBun n p.1 := fun p hp => ⟨h.rl p hp, fun x hx => by have := h.rb p hp x hx; omega⟩
theorem sortRows_so (rows : List Row) : (sortRows rows).Pairwise (· ≤ ·) := by
  have := List.pairwise_mergeSort (le := fun a b : Row => decide (a ≤ b)) (fun a b c h1 h2 => by simpa using List.le_trans (by simpa using h1) (by simpa using h2)) (fun a b => by simpa using List.le_total a b) rows
  exact this.imp (by simp)
def sp_table : SpD := fun β ds Q => ∃ (b : Addr) (n : Nat) (k m : Int), β = some b ∧ ds = [.adr b, .int n, .int k, .int m] ∧ 0 < n ∧ n ≤ 1000 ∧ 0 < k ∧ k ≤ 900 ∧ 0 ≤ m ∧ m ≤ 1000000 ∧ ∀ t : Tab, IsTab n k m t → Q (.lst (t.map prD))
theorem ok_law_table (F : Df K mg "_law_table" s_law_table ["_law_bag_here", "_law_goods_y", "_law_many", "_law_most_y"]) (B : Bi mg) (D_law_pull : Dn P w K mg base 1 "_law_pull" ["_law_bag_here", "_law_many"] sp_pull) (D_law_once : Dn P w K mg base 1 "_law_once" ["_law_things"] sp_once) (D_law_bundle : Dn P w K mg base 2 "_law_bundle" ["_law_bag_here", "_law_goods_y", "_law_most_y"] sp_bnd) :
    Dn P w K mg base 3 "_law_table" ["_law_bag_here", "_law_goods_y", "_law_many", "_law_most_y"] sp_table := by
  refine F.ok sc_law_table (fun β ds Q h => ?_) (fun f cdv A outer s H E c hr => ⟨_, (bc (sset 4 sc_law_table.nd (dc D_law_once hr (pac (dlc [("_law_k", 5)] rfl sc_law_table.nd (irg1 B.range (pac (dadd dint (dc D_law_pull hr (pac (dv 0) (pac (dv 2) pa0)))) pa0)) (fun _ _ _ _ _ => (gname 5 sc_law_table.nd)) (fun _ _ _ _ _ => ts0) (fun _ _ _ _ _ => (dc D_law_bundle hr (pac (dv 0) (pac (dv 1) (pac (dv 3) pa0)))))).pd pa0)))
    (b1 (sret (dlc [("_law_bundle_y", 6)] rfl sc_law_table.nd (isq (dsorted (hu_ hr) B.sorted (pac (dv 4) pa0))) (fun _ _ _ _ _ => (gname 6 sc_law_table.nd)) (fun _ _ _ _ _ => ts0) (fun _ _ _ _ _ => (dtup (pac (dv 6) (pac (dsub (dc D_law_pull hr (pac (dv 0) (pac dint pa0))) dint) pa0))))).pd))), fun ds Q h => ?_⟩)
  · obtain ⟨b, n, k, m, _, rfl, _⟩ := h; rfl
  · obtain ⟨b, n, k, m, hβ, rfl, hn0, hn, hk0, hk, hm0, hm1, hQ⟩ := h
    refine seq_ ?_
    walk_at "dq"
    refine lc_ ?_
    walk_at "dq"
    refine ⟨b, k, hβ, rfl, hk0, log_pl (by omega) (by omega), fun d hd hd' => ?_⟩
    walk_at "dq"
    refine ⟨⟨by omega, by omega⟩, lcb_all Row rowD (fun r => r.length = n ∧ ∀ x ∈ r, 0 ≤ x ∧ x ≤ m) ?_ (by rw [rangeD_len]; omega) ?_⟩
    · intro j x hx R hR
      walk_at "dq"
      exact ⟨b, n, m, hβ, rfl, hn, hm0, hm1, fun r h1 h2 => hR r ⟨h1, h2⟩⟩
    · intro rows hl1 hl2
      rw [rangeD_len] at hl1
      refine ⟨rows, rfl, by omega, ?_⟩
      have hol := onceL_len rows
      have hon : ∀ r ∈ onceL rows, r.length = n ∧ ∀ x ∈ r, 0 ≤ x ∧ x ≤ m := fun r hr => hl2 r (onceL_mem.mp hr)
      have hne : onceL rows ≠ [] := fun z => by
        cases rows with
        | nil => simp at hl1; omega
        | cons r rows =>
          have : r ∈ onceL (r :: rows) := onceL_mem.mpr (by simp)
          rw [z] at this
          simp at this
      have hnd := onceL_nodup rows
      walk_at "dq"
      refine lc_ ?_
      walk_at "dq"
      refine ⟨sort_ok (n := n) hn0 fun r hr => (hon r hr).1, ?_⟩
      rw [sortD_rows]
      have hsl : (sortRows (onceL rows)).length = (onceL rows).length := (sortRows_perm _).length_eq
      refine lcb_ch (sortRows (onceL rows)) rowD prD (fun _ (w : Int) => -5 ≤ w ∧ w ≤ 12) rfl ?_ (by omega) ?_
      · intro j x hx R hR
        walk_at "dq"
        refine ⟨b, 18, hβ, rfl, by decide, log_pl (by decide) (by decide), fun d hd hd' => ?_⟩
        walk_at "dq"
        exact hR (d - 5) ⟨by omega, by omega⟩
      · intro ps h1 h2
        have hpl : ps.length = (onceL rows).length := by have := congrArg List.length h1; rw [List.length_map, hsl] at this; exact this
        have hm : ∀ p ∈ ps, p.1 ∈ onceL rows := fun p hp => (sortRows_perm _).mem_iff.mp (h1 ▸ List.mem_map.mpr ⟨p, hp, rfl⟩)
        refine hQ ps ⟨fun z => ?_, by omega, ?_, ?_, fun p hp => (hon _ (hm p hp)).1, fun p hp => (hon _ (hm p hp)).2, h2⟩
        · rw [z] at hpl
          exact hne (List.length_eq_zero_iff.mp hpl.symm)
        · rw [h1]; exact (List.Perm.nodup_iff (sortRows_perm _)).mpr hnd
        · rw [h1]; exact sortRows_so _
abbrev s_law_worth : Stmt := topS 30
theorem sc_law_worth : FnScope ["_law_pairs_y", "_law_bundle_y", "_law_late_y", "_law_worth_y"] ["_law_pairs_y", "_law_bundle_y"] (defScope s_law_worth) := ⟨rfl, rfl, rfl, by decide +kernel, rfl, by decide +kernel, by decide +kernel⟩
def sp_worth : SpD := fun _ ds Q => ∃ (t : Tab) (r : Row), ds = [.lst (t.map prD), rowD r] ∧ Q (optD (getI t r))
theorem ok_law_worth (F : Df K mg "_law_worth" s_law_worth ["_law_pairs_y", "_law_bundle_y"]) (B : Bi mg) : Dn P w K mg base 1 "_law_worth" ["_law_pairs_y", "_law_bundle_y"] sp_worth := by
  refine F.ok sc_law_worth (fun β ds Q h => ?_) (fun f cdv A outer s H E c hr => ⟨_, (bc (sfor PassesOwn.never rfl (isq (dv 0)) (gtup (n := 2) rfl (gsc (gname 2 sc_law_worth.nd) (gsc (gname 3 sc_law_worth.nd) gs0)))
      (b1 (sif (teq (hu_ hr) (dv 2) (dv 1))
        (b1 (sret (dv 3)))
        b0)))
    (b1 (sret dnon))), fun ds Q h => ?_⟩)
  · obtain ⟨t, r, rfl, _⟩ := h; rfl
  · obtain ⟨t, r, rfl, hQ⟩ := h
    refine cut_ (fun ρ => getI t r = none) ?_ ?_
    · refine for_ (t.map prD) (fun k ρ => ∃ x2 x3, ρ = [.d (.lst (t.map prD)), .d (rowD r), x2, x3] ∧ getI (t.drop k) r = getI t r) ⟨_, _, rfl, rfl⟩ ?_ ?_ ?_
      · rintro k it ρ' hk ⟨x2, x3, rfl, hd⟩
        rw [List.getElem?_map] at hk
        cases hp : t[k]? with
        | none => rw [hp] at hk; cases hk
        | some p =>
          rw [hp] at hk
          cases hk
          have hlt : k < t.length := (List.getElem?_eq_some_iff.mp hp).1
          have e : t[k] = p := (List.getElem?_eq_some_iff.mp hp).2
          rw [List.drop_eq_getElem_cons hlt, e, getI_cons] at hd
          unfold prD
          walk_at "dq"
          refine ⟨⟨plain_rw 59 _, plain_rw 59 _⟩, ?_⟩
          rw [eq_row]
          by_cases q : p.1 = r
          · rw [if_pos q] at hd
            rw [show (p.1 == r) = true by simpa using q]
            walk_at "dq"
            rw [← hd] at hQ
            exact hQ
          · rw [if_neg q] at hd
            rw [show (p.1 == r) = false by simpa using q]
            walk_at "dq"
            exact ⟨_, _, rfl, hd⟩
      · rintro ρ' ⟨x2, x3, rfl, hd⟩
        rw [List.length_map, List.drop_length] at hd
        exact hd.symm
      · intro S h
        walk_at "dq"
        exact h
    · intro ρ hn
      rw [hn] at hQ
      walk_at "dq"
      exact hQ

abbrev s_law_mixed : Stmt := topS 25
theorem sc_law_mixed : FnScope ["_law_bag_here", "_law_things", "_law_left", "_law_found", "_law_k"] ["_law_bag_here", "_law_things"] (defScope s_law_mixed) := ⟨rfl, rfl, rfl, by decide +kernel, rfl, by decide +kernel, by decide +kernel⟩
/-- the items of a list in a drawn order -/
def sp_mixedN : SpN := fun β ds Q => ∃ b xs, β = some b ∧ ds = [.adr b, .lst xs] ∧ xs.length ≤ 1000 ∧ ∀ ys : List D, ys.Perm xs → Q ys
theorem perm_pop {α : Type} {xs l f : List α} {k : Nat} {y : α} (h : (f ++ l).Perm xs) (e : l[k]? = some y) : ((f ++ [y]) ++ l.eraseIdx k).Perm xs := by
  refine List.Perm.trans ?_ h
  rw [List.append_assoc]
  refine List.Perm.append_left f ?_
  have key : ∀ (l : List α) (k : Nat), l[k]? = some y → (y :: l.eraseIdx k).Perm l := by
    intro l
    induction l with
    | nil => intro k e; simp at e
    | cons x l ih =>
      intro k e
      cases k with
      | zero => simp at e; subst e; exact List.Perm.refl _
      | succ k =>
        simp at e
        rw [List.eraseIdx_cons_succ]
        exact (List.Perm.swap x y _).trans ((ih k e).cons x)
  exact key l k e
theorem ok_law_mixedN (F : Df K mg "_law_mixed" s_law_mixed ["_law_bag_here", "_law_things"]) (B : Bi mg) (D_law_pull : Dn P w K mg base 1 "_law_pull" ["_law_bag_here", "_law_many"] sp_pull) : DnN P w K mg base 2 "_law_mixed" ["_law_bag_here", "_law_things"] sp_mixedN := by
  refine F.okN sc_law_mixed (fun β ds Q h => ?_) (fun f cdv A outer s H E c hr => ⟨_, (bc (sparN 2 3 rfl sc_law_mixed.nd (dlistN B.list (pac (dv 1) pa0)) (dlstN pa0))
    (bc (sfor PassesOwn.never rfl (irg1 B.range (pac (dlen B.len (pac (dv 1) pa0)) pa0)) (gname 4 sc_law_mixed.nd)
      (b1 (sapp 3 (xpop 2 (dc D_law_pull hr (pac (dv 0) (pac (dlenO 2 B.len) pa0)))))))
    (b1 (sretO 3)))), fun ds Q h => ?_⟩)
  · obtain ⟨b, xs, _, rfl, _⟩ := h; rfl
  · obtain ⟨b, xs, hβ, rfl, hl, hQ⟩ := h
    refine seq_ ?_
    walk_at "dl"
    refine ⟨by decide, fun al af => ?_⟩
    refine cut_ (fun ρ => ∃ (x : Slot) (ys : List D), ys.Perm xs ∧ ρ = [.d (.adr b), .d (.lst xs), .own al (.lst []), .own af (.lst ys), x]) ?_ ?_
    · refine for_ (rangeD 0 xs.length) (fun k ρ => ∃ (x : Slot) (l f : List D), (f ++ l).Perm xs ∧ l.length + k = xs.length ∧ ρ = [.d (.adr b), .d (.lst xs), .own al (.lst l), .own af (.lst f), x]) ⟨.un, xs, [], List.Perm.refl _, by omega, rfl⟩ ?_ ?_ ?_
      · rintro k it ρ' hk ⟨x, l, f, hp, hlen, rfl⟩
        obtain ⟨hk, rfl⟩ := rangeD_get hk
        walk_at "dl"
        refine ⟨b, _, hβ, rfl, by omega, log9 (n := 17) (by omega) (by decide) (by decide), fun d h0 h1 => ?_⟩
        walk_at "dl"
        obtain ⟨y, hy, _⟩ := atI_lt h0 h1
        refine ⟨d.toNat, y, by omega, by omega, hy, ?_⟩
        have hlf : f.length + l.length = xs.length := by rw [← hp.length_eq, List.length_append]
        refine ⟨by omega, _, _, _, perm_pop hp hy, ?_, rfl⟩
        have : d.toNat < l.length := (List.getElem?_eq_some_iff.mp hy).1
        rw [List.length_eraseIdx, if_pos this]
        omega
      · rintro ρ' ⟨x, l, f, hp, hlen, rfl⟩
        rw [rangeD_len] at hlen
        have : l = [] := List.length_eq_zero_iff.mp (by omega)
        subst this
        rw [List.append_nil] at hp
        exact ⟨x, f, hp, rfl⟩
      · intro S h
        walk_at "dl"
        exact ⟨⟨by omega, by omega⟩, h⟩
    · rintro ρ' ⟨x, ys, hp, rfl⟩
      walk_at "dl"
      exact hQ ys hp

theorem perm_map {α β : Type} (f : α → β) {xs : List α} {ys : List β} (h : ys.Perm (xs.map f)) : ∃ zs : List α, zs.Perm xs ∧ ys = zs.map f := by
  have key : ∀ {us vs : List β}, us.Perm vs → ∀ xs : List α, vs = xs.map f → ∃ zs : List α, zs.Perm xs ∧ us = zs.map f := by
    intro us vs h
    induction h with
    | nil =>
      intro xs e
      cases xs with
      | nil => exact ⟨[], List.Perm.refl _, rfl⟩
      | cons _ _ => cases e
    | cons x _ ih =>
      intro xs e
      cases xs with
      | nil => cases e
      | cons y ys =>
        injection e with e1 e2
        obtain ⟨zs, hp, rfl⟩ := ih ys e2
        exact ⟨y :: zs, hp.cons y, by rw [e1]; rfl⟩
    | swap x y l =>
      intro xs e
      match xs, e with
      | a :: b :: xs, e =>
        injection e with e1 e2
        injection e2 with e2 e3
        exact ⟨b :: a :: xs, List.Perm.swap a b xs, by rw [e1, e2, e3]; rfl⟩
    | trans _ _ ih1 ih2 =>
      intro xs e
      obtain ⟨zs, hp, rfl⟩ := ih2 xs e
      obtain ⟨ws, hp', rfl⟩ := ih1 zs rfl
      exact ⟨ws, hp'.trans hp, rfl⟩
  exact key h xs rfl
theorem log_sm {j : Int} (h1 : -(2 ^ 64) < j) (h2 : j < 2 ^ 64) : j.natAbs.log2 < 9000 := log9 (n := 64) (by omega) (by decide) (by decide)

abbrev s_law : Stmt := topS 31
theorem sc_law : FnScope ["_law_script", "_law_bag_here", "_law_turn", "_law_size_y", "_law_pairs_y", "_law_passed", "_law_kept", "_law_made", "_law_bundles_y", "_law_pair_y", "_law_again", "_law_words", "_law_found", "_law_other", "_law_due", "_law_odd", "_law_one_y", "_law_late"] ["_law_script"] (defScope s_law) := ⟨rfl, rfl, rfl, by decide +kernel, rfl, by decide +kernel, by decide +kernel⟩
theorem words_sum : ∀ g : Fin 4, ∀ n : Fin 17, (Str.ofString "Buyer(").length + (Str.ofString (toString ((g.val : Nat) : Int))).length ≤ 100000 ∧ (Str.ofString "Buyer(" ++ Str.ofString (toString ((g.val : Nat) : Int))).length + (Str.ofString " goods, ").length ≤ 100000 ∧ (Str.ofString "Buyer(" ++ Str.ofString (toString ((g.val : Nat) : Int)) ++ Str.ofString " goods, ").length + (Str.ofString (toString ((n.val : Nat) : Int))).length ≤ 100000 ∧ (Str.ofString "Buyer(" ++ Str.ofString (toString ((g.val : Nat) : Int)) ++ Str.ofString " goods, " ++ Str.ofString (toString ((n.val : Nat) : Int))).length + (Str.ofString " bundles)").length ≤ 100000 := by decide +kernel
theorem words_ {n m : Nat} {Q : D → Prop} (hn : n ≤ 3) (hm : m ≤ 16) (h : Q (.str (byTxt n m))) : strR [.int n] fun y => addR (.str "Buyer(") y fun x => addR x (.str " goods, ") fun x => strR [.int m] fun y => addR x y fun x => addR x (.str " bundles)") Q := by
  obtain ⟨h1, h2, h3, h4⟩ := words_sum ⟨n, by omega⟩ ⟨m, by omega⟩
  exact ⟨log19 (by omega) (by omega), h1, h2, log19 (by omega) (by omega), h3, h4, h⟩
theorem plain_pr (n : Nat) (p : Row × Int) : (prD p).plain (n + 2) = true := by
  unfold prD
  simp only [D.plain, D.plainL, plain_rw, Bool.and_true]
theorem plain_prs (t : Tab) : (D.lst (t.map prD)).plain 60 = true := by
  show D.plainL 59 (t.map prD) = true
  rw [plainL_all, List.all_map, List.all_eq_true]
  intro p _
  exact plain_pr 57 p
theorem lens_row {r : Row} (h : r.length ≤ 1000) : (rowD r).lens = true := by
  unfold rowD
  simp only [D.lens, lensL_all, List.length_map, Bool.and_eq_true, decide_eq_true_eq, List.all_eq_true]
  exact ⟨h, fun x hx => by obtain ⟨i, _, rfl⟩ := List.mem_map.mp hx; rfl⟩
theorem lens_pr {p : Row × Int} (h : p.1.length ≤ 1000) : (prD p).lens = true := by
  unfold prD
  simp only [D.lens, D.lensL, lens_row h, Bool.and_true, decide_eq_true_eq]
  show 2 ≤ 1000
  decide
theorem odd26 {cs : List Addr} {n : Nat} {r0 : Row} (hr0 : r0.length = n) (hn : n = 1 ∨ n = 2 ∨ n = 3) {y : D} (hy : y ∈ [D.non, .int 3, .str (Str.ofString "a"), .lst (r0.map D.int), .tup (r0.map D.int ++ [.int 0]), .tup (List.replicate (n : Int).toNat [D.bl true]).flatten, .tup (List.replicate (n : Int).toNat [D.int 7]).flatten, .tup [], .tup (List.replicate (n : Int).toNat [D.lst [D.int 0]]).flatten]) : VwB cs n y none := by
  have nt : ∀ d : D, okT cs d → isT d "tuple" = false → VwB cs n d none := fun d h1 h2 => ⟨h1, .inl fun xs h => by subst h; cases h2⟩
  have ft : ∀ xs : List D, (∀ x ∈ xs, okT cs x) → xs.length ≤ 1000 → (((xs.length : Int) == n) && xs.all (nmIn 0 6)) = false → VwB cs n (.tup xs) none := fun xs h1 h2 h3 => ⟨rfl, .inr ⟨xs, rfl, h1, h2, h3⟩⟩
  have rep : ∀ d : D, okT cs d → nmIn 0 6 d = false → VwB cs n (.tup (List.replicate (n : Int).toNat [d]).flatten) none := fun d h1 h2 => by
    rw [Int.toNat_natCast]
    rcases hn with rfl | rfl | rfl
    · exact ft [d] (by simpa using h1) (by show 1 ≤ 1000; decide) (by simp [h2])
    · exact ft [d, d] (by simpa using h1) (by show 2 ≤ 1000; decide) (by simp [h2])
    · exact ft [d, d, d] (by simpa using h1) (by show 3 ≤ 1000; decide) (by simp [h2])
  simp only [List.mem_cons, List.not_mem_nil, or_false] at hy
  rcases hy with rfl | rfl | rfl | rfl | rfl | rfl | rfl | rfl | rfl
  · exact nt _ rfl rfl
  · exact nt _ rfl rfl
  · exact nt _ rfl rfl
  · exact nt _ rfl rfl
  · refine ft _ (fun x hx => ?_) (by simp; omega) ?_
    · rcases List.mem_append.mp hx with h | h
      · obtain ⟨i, _, rfl⟩ := List.mem_map.mp h; rfl
      · rw [List.mem_singleton.mp h]; rfl
    · rw [Bool.and_eq_false_iff]
      left
      simp
      omega
  · exact rep _ rfl rfl
  · exact rep _ rfl rfl
  · refine ft [] (by simp) (by decide) ?_
    rw [Bool.and_eq_false_iff]
    left
    simp
    omega
  · exact rep _ rfl rfl
theorem at_last {xs : List D} {x : D} {m : Nat} (hm : m = xs.length) : atI (xs ++ [x]) (m : Int) = some x := by
  unfold atI ixN
  rw [if_pos (by omega), if_pos (by rw [List.length_append, List.length_singleton]; omega), Option.bind_some, Int.toNat_natCast, hm]
  simp
theorem ok_law {C : Addr} (F : Df K mg "law" s_law ["_law_script"]) (B : Bi mg) (DB : DnS P w K mg base 1 "_law_bag" ["_law_script"] (spBag K))
    (D_law_pull : Dn P w K mg base 1 "_law_pull" ["_law_bag_here", "_law_many"] sp_pull) (D_law_any : Dn P w K mg base 2 "_law_any" ["_law_bag_here", "_law_things"] sp_any)
    (N_law_mixed : DnN P w K mg base 2 "_law_mixed" ["_law_bag_here", "_law_things"] sp_mixedN) (D_law_same : Dn P w K mg base 5 "_law_same" ["_law_found", "_law_due"] (sp_same 5))
    (D_law_bundle : Dn P w K mg base 2 "_law_bundle" ["_law_bag_here", "_law_goods_y", "_law_most_y"] sp_bnd) (D_law_table : Dn P w K mg base 3 "_law_table" ["_law_bag_here", "_law_goods_y", "_law_many", "_law_most_y"] sp_table) (D_law_worth : Dn P w K mg base 1 "_law_worth" ["_law_pairs_y", "_law_bundle_y"] sp_worth)
    (R_Buyer : F_Buyer K mg C) (K_Buyer_MOST : CInt K C "MOST" 16) (V_Buyer : DnV P w K mg base 5 "Buyer" C ["self", "goods", "pairs"] (spByrV [C]) 1) (KW_Buyer : KwI K C ["self", "goods", "pairs"] ["pairs", "goods"] [1, 0]) (CF_Buyer : CallF K C)
    (MN_Buyer_pairs : DnMN P w K mg base 1 C "pairs" ["self"] (spYPairs C)) (MN_Buyer_bundles : DnMN P w K mg base 1 C "bundles" ["self"] (spYBuns C)) (M_Buyer___len__ : DnM P w K mg base 1 C "__len__" ["self"] (spYLen C)) (M_Buyer___repr__ : DnM P w K mg base 1 C "__repr__" ["self"] (spYRepr C)) (M_Buyer___contains__ : DnM P w K mg base 4 C "__contains__" ["self", "bundle"] (spYIn [C] C))
    (M_Buyer_worth : DnM P w K mg base 5 C "worth" ["self", "bundle"] (spYWorth [C] C)) (M_Buyer___call__ : DnM P w K mg base 6 C "__call__" ["self", "bundle"] (spYWorth [C] C))
    (M_Buyer___eq__ : DnM P w K mg base 1 C "__eq__" ["self", "other"] (spYEq C)) (N_Buyer___eq__ : DnNI P w K mg base 1 C "__eq__" (fun d => okT [C] d ∧ isA d C = false)) (NL_Buyer : NoList K C) :
    ∃ f fd, Fun K "law" "law" s_law f fd ∧ mg "law" = some (.ref f) ∧ FnOk P w K mg base CX0 8 f fd ["_law_script"] (spLaw K) := by
  have DK_Buyer := V_Buyer.dk
  have I_Buyer := DK_Buyer.dn
  have M_Buyer_pairs := MN_Buyer_pairs.dn
  have M_Buyer_bundles := MN_Buyer_bundles.dn
  refine F.law (i := 1) (k := 7) sc_law DB (by decide) rfl (fun f cdv A outer s H E hr hr1 f2 fd2 F2 m2 k2 b2 => ps_set (i := 1) sc_law.nd rfl (by first | exact .inl rfl | exact .inr rfl) (pe_call F2 hr1 rfl m2 k2 b2 .nil pass0 (pa_cons (pv 0) pa_nil)))
    (fun f cdv A outer s H E c hr => ⟨_, (bc (sfor PassesOwn.never rfl (irg1 B.range (pac dint pa0)) (gname 2 sc_law.nd)
      (bc (sset 3 sc_law.nd (dadd dint (dc D_law_pull hr (pac (dv 1) (pac dint pa0)))))
      (bc (sset 4 sc_law.nd (dc D_law_table hr (pac (dv 1) (pac (dv 3) (pac dint (pac dint pa0))))))
      (bc (ssetN 5 sc_law.nd (dcN N_law_mixed hr (pac (dv 1) (pac (dv 4) pa0))))
      (bc (sset 6 sc_law.nd (dlistV B.list (vo 5)))
      (bc (sasg (dtup (pac (dmkV V_Buyer hr (pvc (dv 3).v (pvc (vo 5) pv0))) (pac (dlc [("_law_pair_y", 9)] rfl sc_law.nd (isq (dv 4)) (fun _ _ _ _ _ => (gname 9 sc_law.nd)) (fun _ _ _ _ _ => ts0) (fun _ _ _ _ _ => (dix (dv 9) dint))).pd pa0))) (gtup (n := 2) rfl (gsc (gname 7 sc_law.nd) (gsc (gname 8 sc_law.nd) gs0))))
      (bc (sif (tneV (hu_ hr) (vo 5) (dv 6).v)
        (b1 (sret dbl))
        b0)
      (bc (sclr 5)
      (bc (sfor PassesOwn.never rfl (irg1 B.range (pac dint pa0)) (gname 10 sc_law.nd)
        (bc (sset 11 sc_law.nd (dadd (dadd (dadd (dadd dstr (dstrc B.str (pac (dv 3) pa0))) dstr) (dstrc B.str (pac (dlenC M_Buyer___len__ hr B.len (pac (dv 4) pa0)) pa0))) dstr))
        (bc (sset 12 sc_law.nd (dlst (pac (dfld R_Buyer.cf R_Buyer.n_goods (dv 7)) (pac (dmeth0 M_Buyer_pairs hr (dv 7)) (pac (dmeth0 M_Buyer_bundles hr (dv 7)) (pac (dlenC M_Buyer___len__ hr B.len (pac (dv 7) pa0)) (pac (dreprO M_Buyer___repr__ hr B.repr (pac (dv 7) pa0)) pa0)))))))
        (bc (sif (tnot (ttru (dc D_law_same hr (pac (dv 12) (pac (dlst (pac (dv 3) (pac (dv 4) (pac (dv 8) (pac (dlenC M_Buyer___len__ hr B.len (pac (dv 4) pa0)) (pac (dv 11) pa0)))))) pa0)))))
          (b1 (sret dbl))
          b0)
        (bc (sappT (dmethN0 MN_Buyer_pairs hr (dv 7)) dnon)
        (b1 (sclrT (dmethN0 MN_Buyer_bundles hr (dv 7)))))))))
      (bc (sset 13 sc_law.nd (dc D_law_bundle hr (pac (dv 1) (pac (dv 3) (pac dint pa0)))))
      (bc (sset 14 sc_law.nd (dc D_law_worth hr (pac (dv 4) (pac (dv 13) pa0))))
      (bc (sif (tnot (ttru (dc D_law_same hr (pac (dlst (pac (dmeth M_Buyer_worth hr (dv 7) (pac (dv 13) pa0)) (pac (dcallOK M_Buyer___call__ CF_Buyer hr (dv 7) (kc (dv 13) k0)) (pac (dmethK M_Buyer_worth hr (dv 7) (kc (dv 13) k0)) (pac (dinO M_Buyer___contains__ hr (dv 13) (dv 7)) pa0))))) (pac (dlst (pac (dv 14) (pac (dv 14) (pac (dv 14) (pac (disn (dv 14) dnon) pa0))))) pa0)))))
        (b1 (sret dbl))
        b0)
      (bc (sset 15 sc_law.nd (dc D_law_any hr (pac (dv 1) (pac (dlst (pac dnon (pac dint (pac dstr (pac (dlist B.list (pac (dix (dv 8) dint) pa0)) (pac (dadd (dix (dv 8) dint) (dtup (pac dint pa0))) (pac (dmulT (dtup (pac dbl pa0)) (dv 3)) (pac (dmulT (dtup (pac dint pa0)) (dv 3)) (pac (dtup pa0) (pac (dmulT (dtup (pac (dlst (pac dint pa0)) pa0)) (dv 3)) pa0)))))))))) pa0))))
      (bc (sif (tnot (ttru (dc D_law_same hr (pac (dlst (pac (dmeth M_Buyer_worth hr (dv 7) (pac (dv 15) pa0)) (pac (dinO M_Buyer___contains__ hr (dv 15) (dv 7)) (pac (dlc [("_law_one_y", 16)] rfl sc_law.nd (isq (dv 8)) (fun _ _ _ _ _ => (gname 16 sc_law.nd)) (fun _ _ _ _ _ => ts0) (fun _ _ _ _ _ => (dcallO M_Buyer___call__ CF_Buyer hr (dv 7) (pac (dv 16) pa0)))).pd pa0)))) (pac (dlst (pac dnon (pac dbl (pac (dlc [("_law_pair_y", 9)] rfl sc_law.nd (isq (dv 4)) (fun _ _ _ _ _ => (gname 9 sc_law.nd)) (fun _ _ _ _ _ => ts0) (fun _ _ _ _ _ => (dix (dv 9) dint))).pd pa0)))) pa0)))))
        (b1 (sret dbl))
        b0)
      (bc (sset 17 sc_law.nd (dadd (dsl (dv 4) o0 (o1 (dsub (dlenC M_Buyer___len__ hr B.len (pac (dv 4) pa0)) dint))) (dlst (pac (dtup (pac (dix (dv 8) (dsub (dlenC M_Buyer___len__ hr B.len (pac (dv 4) pa0)) dint)) (pac (dadd (dix (dix (dv 4) (dsub (dlenC M_Buyer___len__ hr B.len (pac (dv 4) pa0)) dint)) dint) dint) pa0))) pa0))))
      (bc (sset 12 sc_law.nd (dlst (pac (deqN M_Buyer___eq__ N_Buyer___eq__ NL_Buyer hr (dv 7) (dmkK DK_Buyer KW_Buyer hr (kc (dtuple B.tuple (pac (dv 4) pa0)) (kc (dv 3) k0)))) (pac (deqN M_Buyer___eq__ N_Buyer___eq__ NL_Buyer hr (dv 7) (dmk I_Buyer 0 [] (fun _ => .nil) hr (pac (dv 3) (pac (dv 17) pa0)))) (pac (deqN M_Buyer___eq__ N_Buyer___eq__ NL_Buyer hr (dv 7) (dv 4)) pa0)))))
      (b1 (sif (tnot (ttru (dc D_law_same hr (pac (dv 12) (pac (dlst (pac dbl (pac dbl (pac dbl pa0)))) pa0)))))
        (b1 (sret dbl))
        b0))))))))))))))))))
    (b1 (sret (dc D_law_same hr (pac (dlst (pac (dcint R_Buyer.at_ K_Buyer_MOST) (pac (deqN M_Buyer___eq__ N_Buyer___eq__ NL_Buyer hr (dmk I_Buyer 0 [] (fun _ => .nil) hr (pac dint (pac (dlst (pac (dtup (pac (dtup (pac dint pa0)) (pac dint pa0))) pa0)) pa0))) (dmk I_Buyer 0 [] (fun _ => .nil) hr (pac dint (pac (dlst (pac (dtup (pac (dtup (pac dint (pac dint pa0))) (pac dint pa0))) pa0)) pa0)))) pa0))) (pac (dlst (pac dint (pac dbl pa0))) pa0)))))), fun b hβ => ?_⟩)
  walk_at "dq"
  refine cut_ (fun _ => True) ?_ ?_
  · refine for_ (rangeD 0 4) (fun _ ρ => ∃ x0 x2 x3 x4 x5 x6 x7 x8 x9 x10 x11 x12 x13 x14 x15 x16 x17, ρ = [x0, .d (.adr b), x2, x3, x4, x5, x6, x7, x8, x9, x10, x11, x12, x13, x14, x15, x16, x17]) ⟨_, _, _, _, _, _, _, _, _, _, _, _, _, _, _, _, _, rfl⟩ ?_ (fun _ _ => trivial) ?_
    · rintro k it ρ' hk0 ⟨x0, x2, x3, x4, x5, x6, x7, x8, x9, x10, x11, x12, x13, x14, x15, x16, x17, rfl⟩
      walk_at "dq"
      refine seq_ ?_
      walk_at "dq"
      refine ⟨b, 3, hβ, rfl, by decide, log_pl (by decide) (by decide), fun d0 hd0 hd1 => ?_⟩
      walk_at "dq"
      obtain ⟨n, hn, hnd⟩ : ∃ n : Nat, (n = 1 ∨ n = 2 ∨ n = 3) ∧ 1 + d0 = (n : Int) := ⟨(1 + d0).toNat, by omega, by omega⟩
      rw [hnd]
      refine seq_ ?_
      walk_at "dq"
      refine ⟨b, n, 16, 6, hβ, rfl, by omega, by omega, by decide, by decide, by decide, by decide, fun t ht => ?_⟩
      have hlen : t.length ≤ 16 := ht.len
      have hn3 : 1 ≤ n ∧ n ≤ 3 := by omega
      walk_at "dq"
      refine seq_ ?_
      walk_at "dq"
      refine ⟨b, _, hβ, rfl, by simp; omega, fun ys hys a5 => ?_⟩
      obtain ⟨ps, hp, rfl⟩ := perm_map prD hys
      have hpl : ps.length = t.length := hp.length_eq
      walk_at "dq"
      refine seq_ ?_
      walk_at "dq"
      refine seq_ ?_
      walk_at "dq"
      have hbt : byrT ps = t := byrT_of hp ht.nd ht.so
      have hbun := ht.bun (by decide)
      have hbn : ∀ p ∈ ps, okBun n p.1 := fun p hm => hbun p (hp.mem_iff.mp hm)
      have hpn : (ps.map (·.1)).Nodup := (List.Perm.nodup_iff (hp.map (·.1))).mpr ht.nd
      have hpne : ps ≠ [] := fun z => ht.ne (List.length_eq_zero_iff.mp (by rw [← hpl, z]; rfl))
      refine ⟨fun i d hi hne1 => ?_, n, ps, _, rfl, .inl rfl, hn3.1, hn3.2, hpne, by omega, hbn, hpn, ?_⟩
      · match i, hi with
        | 0, hi => cases hi; exact fun xs h => nomatch h
        | 1, _ => exact absurd rfl hne1
      rw [hbt]
      refine lc_map (Row × Int) t prD (fun p => rowD p.1) (fun j p hj R hR => ?_) (by omega) ?_ ?_
      · unfold prD
        walk_at "dq"
        exact hR
      rotate_left
      · intro S h
        walk_at "dq"
        exact h
      rw [show (t.map fun p => rowD p.1) = (t.map (·.1)).map rowD by rw [List.map_map]; rfl]
      have hpp : (D.lst (ps.map prD)).plain 60 = true := plain_prs _
      refine seq_ ?_
      walk_at "dq"
      refine ⟨⟨hpp, hpp⟩, ?_⟩
      rw [eqD_refl 60 _ hpp]
      walk_at "dq"
      refine seq_ ?_
      walk_at "dq"
      refine cut_ (fun ρ => ∃ x0 x2 x9 x10 x11 x12 x13 x14 x15 x16 x17, ρ = [x0, .d (.adr b), x2, .d (.int n), .d (.lst (t.map prD)), .own a5 (.lst []), .d (.lst (ps.map prD)), .d (byrD C n t), .d (.lst ((t.map (·.1)).map rowD)), x9, x10, x11, x12, x13, x14, x15, x16, x17]) ?_ ?_
      · refine for_ (rangeD 0 2) (fun _ ρ => ∃ x0 x2 x9 x10 x11 x12 x13 x14 x15 x16 x17, ρ = [x0, .d (.adr b), x2, .d (.int n), .d (.lst (t.map prD)), .own a5 (.lst []), .d (.lst (ps.map prD)), .d (byrD C n t), .d (.lst ((t.map (·.1)).map rowD)), x9, x10, x11, x12, x13, x14, x15, x16, x17]) ⟨_, _, _, _, _, _, _, _, _, _, _, rfl⟩ ?_ ?_ ?_
        · rintro k2 it2 ρ2 hk2 ⟨x0, x2, x9, x10, x11, x12, x13, x14, x15, x16, x17, rfl⟩
          walk_at "dby"
          refine seq_ ?_
          walk_at "dby"
          rw [List.length_map]
          refine words_ hn3.2 hlen ?_
          obtain ⟨t1, t2, t3, t4, t5, t6, t7, t8⟩ := txt_ok ⟨n, by omega⟩ ⟨t.length, by omega⟩
          refine seq_ ?_
          walk_at "dby"
          refine ⟨⟨rfl, rfl⟩, n, t, rfl, by omega, ht.nd, ?_⟩
          refine ⟨⟨rfl, rfl⟩, n, t, rfl, ?_⟩
          refine ⟨rfl, n, t, rfl, _, rfl, ⟨by omega, by omega⟩, ?_⟩
          refine ⟨rfl, n, t, rfl, hn3.2, hlen, _, rfl, ?_⟩
          refine seq_ ?_
          walk_at "dq"
          rw [List.length_map]
          refine ⟨_, rfl, ?_, ?_, ?_⟩
          · simp only [D.plain, D.plainL, plainL_all, Bool.and_true, Bool.true_and, Bool.and_eq_true, List.all_eq_true]
            refine ⟨fun x hx => ?_, fun x hx => ?_, t7⟩
            · obtain ⟨p, _, rfl⟩ := List.mem_map.mp hx; exact plain_pr 0 p
            · obtain ⟨r, _, rfl⟩ := List.mem_map.mp hx; exact plain_rw 1 r
          · simp only [D.lens, D.lensL, lensL_all, Bool.and_true, Bool.true_and, Bool.and_eq_true, List.all_eq_true, decide_eq_true_eq]
            refine ⟨by show 5 ≤ 1000; decide, ⟨by rw [List.length_map]; omega, fun x hx => ?_⟩, by rw [List.length_map, List.length_map]; omega, fun x hx => ?_⟩
            · obtain ⟨p, hm, rfl⟩ := List.mem_map.mp hx
              exact lens_pr (by have := ht.rl p hm; omega)
            · obtain ⟨r, hm, rfl⟩ := List.mem_map.mp hx
              obtain ⟨p, hm2, rfl⟩ := List.mem_map.mp hm
              exact lens_row (by have := ht.rl p hm2; omega)
          walk_at "dq"
          refine seq_ ?_
          walk_at "dq"
          refine ⟨⟨rfl, rfl⟩, n, t, rfl, by omega, ht.nd, ?_⟩
          refine ⟨by rw [List.length_map]; omega, ?_⟩
          walk_at "dq"
          refine ⟨⟨rfl, rfl⟩, n, t, rfl, ?_⟩
          exact ⟨_, _, _, _, _, _, _, _, _, _, _, rfl⟩
        · rintro ρ2 ⟨x0, x2, x9, x10, x11, x12, x13, x14, x15, x16, x17, rfl⟩
          exact ⟨_, _, _, _, _, _, _, _, _, _, _, rfl⟩
        · intro S h
          walk_at "dq"
          exact ⟨by decide, h⟩
      · rintro ρ2 ⟨x0, x2, x9, x10, x11, x12, x13, x14, x15, x16, x17, rfl⟩
        refine seq_ ?_
        walk_at "dq"
        refine ⟨b, n, 6, hβ, rfl, by omega, by decide, by decide, fun r hrl hrb => ?_⟩
        have hbr : okBun n r := ⟨hrl, hrb⟩
        refine seq_ ?_
        walk_at "dq"
        refine ⟨t, r, rfl, ?_⟩
        refine seq_ ?_
        walk_at "dq"
        refine ⟨⟨rfl, rfl⟩, n, t, rowD r, some r, rfl, hn3.2, ⟨rfl, hbr⟩, ?_⟩
        refine ⟨⟨_, rfl⟩, n, t, rowD r, some r, rfl, hn3.2, ⟨rfl, hbr⟩, ?_⟩
        refine ⟨⟨rfl, rfl⟩, n, t, rowD r, some r, rfl, hn3.2, ⟨rfl, hbr⟩, ?_⟩
        refine ⟨rfl, n, t, rowD r, some r, rfl, hn3.2, ⟨rfl, hbr⟩, _, rfl, ?_⟩
        have e14 : (getB t (some r)).isSome = !isNon (optD (getI t r)) := by
          show (getI t r).isSome = _
          cases getI t r <;> rfl
        show sp_same 5 c.β [.lst [optD (getI t r), optD (getI t r), optD (getI t r), .bl (getB t (some r)).isSome], .lst [optD (getI t r), optD (getI t r), optD (getI t r), .bl (!isNon (optD (getI t r)))]] _
        rw [← e14]
        refine ⟨_, rfl, ?_, ?_, ?_⟩
        · show D.plain 4 (.lst [optD (getI t r), optD (getI t r), optD (getI t r), .bl _]) = true
          cases getI t r <;> rfl
        · show D.lens (.lst [optD (getI t r), optD (getI t r), optD (getI t r), .bl _]) = true
          cases getI t r <;> rfl
        walk_at "dq"
        obtain ⟨p0, ts, hp0⟩ : ∃ p0 ts, t = p0 :: ts := by
          cases t with
          | nil => exact absurd rfl ht.ne
          | cons p0 ts => exact ⟨p0, ts, rfl⟩
        refine seq_ ?_
        simp only [DL.qSet, DL.qCall, DL.qCons, DL.qVar, DL.qLst, DL.qC, DL.qNil, DL.slotD_d, List.getElem?_cons_zero, List.getElem?_cons_succ]
        simp only [↓DL.qOp, ↓DL.qVar, ↓DL.qC, ↓DL.qCons, ↓DL.qTup, ↓DL.qNil, ↓DL.qLst, ↓DL.qCB, List.getElem?_cons_zero, List.getElem?_cons_succ, ↓DL.slotD_d, ↓DL.mulT_ti]
        have hr0 : p0.1.length = n := ht.rl p0 (by rw [hp0]; exact List.mem_cons_self)
        have a0 : atI ((t.map (·.1)).map rowD) 0 = some (rowD p0.1) := by rw [hp0]; exact at0
        refine ⟨rowD p0.1, a0, rowD p0.1, a0, by decide, ?_⟩
        have hn1 : 1 ≤ (n : Int) := by omega
        have hn2 : (n : Int) ≤ 1000 := by omega
        refine ⟨by rw [List.length_map]; show _ + 1 ≤ _; omega, ?_⟩
        refine ⟨by decide, ⟨by simp, hn1, hn2, by decide⟩, by decide, ⟨by simp, hn1, hn2, by decide⟩, by decide, by decide, by decide, ⟨by simp, hn1, hn2, by decide⟩, by show (9 : Nat) ≤ 100000; decide, b, _, hβ, rfl, by simp, by show (9 : Nat) ≤ 100000; decide, fun odd hodd => ?_⟩
        have ho : VwB [C] n odd none := odd26 hr0 hn hodd
        clear hodd
        refine seq_ ?_
        walk_at "dq"
        refine ⟨⟨rfl, rfl⟩, n, t, odd, none, rfl, hn3.2, ho, ?_⟩
        refine ⟨rfl, n, t, odd, none, rfl, hn3.2, ho, _, rfl, ?_⟩
        walk_at "dq"
        refine lc_map (Row × Int) t (fun p => rowD p.1) (fun p => .int p.2) (fun j p hj R hR => ?_) (by omega) ?_ ?_
        · have hpm := List.mem_of_getElem? hj
          walk_at "dq"
          refine ⟨⟨_, rfl⟩, n, t, rowD p.1, some p.1, rfl, hn3.2, ⟨rfl, hbun p hpm⟩, ?_⟩
          show R (optD (getI t p.1))
          rw [getI_mem ht.nd (show (p.1, p.2) ∈ t from hpm)]
          exact hR
        rotate_left
        · intro S h
          walk_at "dq"
          rw [List.map_map]
          exact h
        refine lc_map (Row × Int) t prD (fun p => .int p.2) (fun j p hj R hR => ?_) (by omega) ?_ ?_
        · unfold prD
          walk_at "dq"
          exact hR
        rotate_left
        · intro S h
          walk_at "dq"
          exact h
        refine ⟨_, rfl, ?_, ?_, ?_⟩
        · show D.plain 4 (.lst [.non, .bl false, .lst (t.map fun p => .int p.2)]) = true
          simp [D.plain, D.plainL, plainL_all]
        · show D.lens (.lst [.non, .bl false, .lst (t.map fun p => .int p.2)]) = true
          simp only [D.lens, D.lensL, lensL_all, List.length_map, Bool.and_true, Bool.true_and, Bool.and_eq_true, List.all_eq_true, decide_eq_true_eq]
          exact ⟨by show 3 ≤ 1000; decide, by omega, fun x hx => by obtain ⟨p, _, rfl⟩ := List.mem_map.mp hx; rfl⟩
        walk_at "dq"
        refine seq_ ?_
        walk_at "dq"
        obtain ⟨ti, q, htq⟩ : ∃ ti q, t = ti ++ [q] := ⟨t.dropLast, t.getLast ht.ne, (List.dropLast_concat_getLast ht.ne).symm⟩
        have hti : t.length = ti.length + 1 := by rw [htq]; simp
        rw [show ((t.map prD).length : Int) - 1 = (ti.length : Int) by rw [List.length_map]; omega]
        have hq : q ∈ t := by rw [htq]; simp
        refine ⟨rowD q.1, ?_, prD q, ?_, ?_⟩
        · rw [htq, List.map_append, List.map_append]
          exact at_last (by simp)
        · rw [htq, List.map_append]
          exact at_last (by simp)
        refine ⟨_, at1_2, ?_⟩
        rw [cutD_to]
        have e17 : (t.map prD).take ti.length = ti.map prD := by rw [htq, List.map_append, List.take_left' (by simp)]
        rw [e17]
        show (ti.map prD).length ≤ 99999 ∧ _
        refine ⟨by rw [List.length_map]; omega, ?_⟩
        obtain ⟨lt, hlt⟩ : ∃ lt : Tab, lt = ti ++ [(q.1, q.2 + 1)] := ⟨_, rfl⟩
        have hlf : lt.map (·.1) = t.map (·.1) := by rw [hlt, htq]; simp
        have hll : lt.length = t.length := by rw [hlt, hti]; simp
        rw [show ti.map prD ++ [D.tup [rowD q.1, D.int (q.2 + 1)]] = lt.map prD by rw [hlt, List.map_append]; rfl]
        have hbl : byrT lt = lt := byrT_of (List.Perm.refl _) (by rw [hlf]; exact ht.nd) (by rw [hlf]; exact ht.so)
        have hbt2 : byrT t = t := byrT_of (List.Perm.refl _) ht.nd ht.so
        have hlb : ∀ p ∈ lt, okBun n p.1 := fun p hp => by
          have : p.1 ∈ t.map (·.1) := hlf ▸ List.mem_map.mpr ⟨p, hp, rfl⟩
          obtain ⟨p2, h2, e2⟩ := List.mem_map.mp this
          exact e2 ▸ hbun p2 h2
        have hef : eqTab t lt = false := by
          refine eqTab_of (r := q.1) (w := q.2) hq ?_
          rw [getI_mem (by rw [hlf]; exact ht.nd) (show (q.1, q.2 + 1) ∈ lt by rw [hlt]; simp)]
          intro z
          injection z with z
          omega
        refine seq_ ?_
        walk_at "dq"
        refine ⟨n, t, _, rfl, .inr rfl, hn3.1, hn3.2, ht.ne, by omega, hbun, ht.nd, ?_⟩
        rw [hbt2]
        refine ⟨⟨rfl, rfl⟩, n, n, t, t, rfl, ?_⟩
        rw [eqTab_refl ht.nd]
        refine ⟨n, lt, _, rfl, .inl rfl, hn3.1, hn3.2, fun z => (by rw [z] at hll; exact absurd hll.symm (by rw [hti]; simp)), by omega, hlb, by rw [hlf]; exact ht.nd, ?_⟩
        rw [hbl]
        refine ⟨⟨rfl, rfl⟩, n, n, t, lt, rfl, ?_⟩
        rw [hef]
        refine ⟨⟨rfl, rfl, rfl⟩, ?_⟩
        walk_at "dq"
        refine ⟨_, by simp; rfl, ?_, ?_, ?_⟩
        · rfl
        · rfl
        walk_at "dq"
        exact ⟨_, _, _, _, _, _, _, _, _, _, _, _, _, _, _, _, _, rfl⟩
    · intro S h
      walk_at "dq"
      exact ⟨by decide, h⟩
  · intro ρ' _
    walk_at "dq"
    refine ⟨1, [([0], 0)], _, rfl, .inl rfl, by decide, by decide, by decide, by decide, fun p hp => by rw [List.mem_singleton.mp hp]; exact ⟨rfl, by decide⟩, by decide, ?_⟩
    refine ⟨2, [([0, 0], 0)], _, rfl, .inl rfl, by decide, by decide, by decide, by decide, fun p hp => by rw [List.mem_singleton.mp hp]; exact ⟨rfl, by decide⟩, by decide, ?_⟩
    refine ⟨⟨rfl, rfl⟩, 1, 2, _, _, rfl, ?_⟩
    exact ⟨_, rfl, by decide, by decide, rfl⟩

end
theorem all_mk {l : PySem.W.OpenLaw} {w : World} {K : PySem.W.Frag} {h : Heap} {mg : Str → Option Value} {fa : Addr} (X : K.In h) (G : h.Ns mainGlobals mg) (hfa : mg "law" = some (.ref fa)) (hbi : BiH K) {C_Buyer : Addr} (hc_Buyer : HdC K "Buyer" C_Buyer) (kt_Buyer : KitF K C_Buyer) (K_Buyer_MOST : CInt K C_Buyer "MOST" 16) (hn_Buyer_goods : NoAttr K C_Buyer "goods") (hn_Buyer_own_table : NoAttr K C_Buyer "own_table") (NL_Buyer : NoList K C_Buyer) (hNI : PySem.W.nsIn K mainGlobals "NotImplemented" = some none) (hi_Buyer : HdI K C_Buyer "Buyer.__init__" s_Buyer___init__ []) (hm_Buyer_pairs : HdM K C_Buyer "pairs" "Buyer.pairs" s_Buyer_pairs) (hm_Buyer_bundles : HdM K C_Buyer "bundles" "Buyer.bundles" s_Buyer_bundles) (hm_Buyer_worth : HdM K C_Buyer "worth" "Buyer.worth" s_Buyer_worth) (hm_Buyer___call__ : HdM K C_Buyer "__call__" "Buyer.__call__" s_Buyer___call__) (hm_Buyer___len__ : HdM K C_Buyer "__len__" "Buyer.__len__" s_Buyer___len__) (hm_Buyer___repr__ : HdM K C_Buyer "__repr__" "Buyer.__repr__" s_Buyer___repr__) (hm_Buyer___contains__ : HdM K C_Buyer "__contains__" "Buyer.__contains__" s_Buyer___contains__) (hm_Buyer___eq__ : HdM K C_Buyer "__eq__" "Buyer.__eq__" s_Buyer___eq__) (CF_Buyer : CallF K C_Buyer) (hg_MOST_AMOUNT : GInt K "MOST_AMOUNT" 6) (hg_MOST_GOODS : GInt K "MOST_GOODS" 3) (h_law_bag : Hd K "_law_bag" s_law_bag) (h_law_pull : Hd K "_law_pull" s_law_pull) (h_law_any : Hd K "_law_any" s_law_any) (h_law_mixed : Hd K "_law_mixed" s_law_mixed) (h_law_once : Hd K "_law_once" s_law_once) (h_law_same : Hd K "_law_same" s_law_same) (h_law_bundle : Hd K "_law_bundle" s_law_bundle) (h_law_table : Hd K "_law_table" s_law_table) (h_law_worth : Hd K "_law_worth" s_law_worth) (h_is_number : Hd K "is_number" s_is_number) (h_is_goods : Hd K "is_goods" s_is_goods) (h_are_numbers : Hd K "are_numbers" s_are_numbers) (h_is_bundle : Hd K "is_bundle" s_is_bundle) (h_is_pair : Hd K "is_pair" s_is_pair) (h_law : Hd K "law" s_law) :
    ∃ fd : FuncData, (∀ (s : Shared) (u : Value), BindsTo s fd ⟨[u], []⟩ [("_law_script", u)]) ∧ ∀ base : Heap, K.In base → base.Ns mainGlobals mg → FnOk l.prog w K mg base CX0 8 fa fd ["_law_script"] (spLaw K) := by
  have B := hbi.bi X G
  have R_Buyer : F_Buyer K mg C_Buyer := ⟨hc_Buyer.cf, PySem.W.mg_of X G hc_Buyer.ns, hn_Buyer_goods, hn_Buyer_own_table⟩
  have mNI := PySem.W.mg_none_of X G hNI
  have KW_Buyer : KwI K C_Buyer ["self", "goods", "pairs"] ["pairs", "goods"] [1, 0] := hi_Buyer.kwi (fun _ _ _ _ _ _ _ ws hl => match ws, hl with | [_, _], _ => rfl)
  have FM_Buyer_pairs : DfM K C_Buyer "pairs" "Buyer.pairs" s_Buyer_pairs ["self"] := hm_Buyer_pairs.df (by simp) (fun _ _ _ _ _ _ us hl => match us, hl with | [_], _ => rfl) (fun _ _ _ _ _ _ _ ws hl => match ws, hl with | [], _ => rfl)
  have FM_Buyer_bundles : DfM K C_Buyer "bundles" "Buyer.bundles" s_Buyer_bundles ["self"] := hm_Buyer_bundles.df (by simp) (fun _ _ _ _ _ _ us hl => match us, hl with | [_], _ => rfl) (fun _ _ _ _ _ _ _ ws hl => match ws, hl with | [], _ => rfl)
  have FM_Buyer_worth : DfM K C_Buyer "worth" "Buyer.worth" s_Buyer_worth ["self", "bundle"] := hm_Buyer_worth.df (by simp) (fun _ _ _ _ _ _ us hl => match us, hl with | [_, _], _ => rfl) (fun _ _ _ _ _ _ _ ws hl => match ws, hl with | [_], _ => rfl)
  have FM_Buyer___call__ : DfM K C_Buyer "__call__" "Buyer.__call__" s_Buyer___call__ ["self", "bundle"] := hm_Buyer___call__.df (by simp) (fun _ _ _ _ _ _ us hl => match us, hl with | [_, _], _ => rfl) (fun _ _ _ _ _ _ _ ws hl => match ws, hl with | [_], _ => rfl)
  have FM_Buyer___len__ : DfM K C_Buyer "__len__" "Buyer.__len__" s_Buyer___len__ ["self"] := hm_Buyer___len__.df (by simp) (fun _ _ _ _ _ _ us hl => match us, hl with | [_], _ => rfl) (fun _ _ _ _ _ _ _ ws hl => match ws, hl with | [], _ => rfl)
  have FM_Buyer___repr__ : DfM K C_Buyer "__repr__" "Buyer.__repr__" s_Buyer___repr__ ["self"] := hm_Buyer___repr__.df (by simp) (fun _ _ _ _ _ _ us hl => match us, hl with | [_], _ => rfl) (fun _ _ _ _ _ _ _ ws hl => match ws, hl with | [], _ => rfl)
  have FM_Buyer___contains__ : DfM K C_Buyer "__contains__" "Buyer.__contains__" s_Buyer___contains__ ["self", "bundle"] := hm_Buyer___contains__.df (by simp) (fun _ _ _ _ _ _ us hl => match us, hl with | [_, _], _ => rfl) (fun _ _ _ _ _ _ _ ws hl => match ws, hl with | [_], _ => rfl)
  have FM_Buyer___eq__ : DfM K C_Buyer "__eq__" "Buyer.__eq__" s_Buyer___eq__ ["self", "other"] := hm_Buyer___eq__.df (by simp) (fun _ _ _ _ _ _ us hl => match us, hl with | [_, _], _ => rfl) (fun _ _ _ _ _ _ _ ws hl => match ws, hl with | [_], _ => rfl)
  have T : ClsT K [C_Buyer] := (ClsT.cons ClsT.nil hc_Buyer.cf kt_Buyer (fun _ h => by simp at h))
  obtain ⟨t_MOST_AMOUNT, hg_MOST_AMOUNT⟩ := hg_MOST_AMOUNT
  have G_MOST_AMOUNT := PySem.W.mg_of X G hg_MOST_AMOUNT
  obtain ⟨t_MOST_GOODS, hg_MOST_GOODS⟩ := hg_MOST_GOODS
  have G_MOST_GOODS := PySem.W.mg_of X G hg_MOST_GOODS
  have F_law_bag : Df K mg "_law_bag" s_law_bag ["_law_script"] := h_law_bag.df X G (by simp) (fun _ _ _ _ _ _ us hl => match us, hl with | [_], _ => rfl) (fun _ _ _ _ _ _ us hl => match us, hl with | [_], _ => rfl)
  have F_law_pull : Df K mg "_law_pull" s_law_pull ["_law_bag_here", "_law_many"] := h_law_pull.df X G (by simp) (fun _ _ _ _ _ _ us hl => match us, hl with | [_, _], _ => rfl) (fun _ _ _ _ _ _ us hl => match us, hl with | [_, _], _ => rfl)
  have F_law_any : Df K mg "_law_any" s_law_any ["_law_bag_here", "_law_things"] := h_law_any.df X G (by simp) (fun _ _ _ _ _ _ us hl => match us, hl with | [_, _], _ => rfl) (fun _ _ _ _ _ _ us hl => match us, hl with | [_, _], _ => rfl)
  have F_law_mixed : Df K mg "_law_mixed" s_law_mixed ["_law_bag_here", "_law_things"] := h_law_mixed.df X G (by simp) (fun _ _ _ _ _ _ us hl => match us, hl with | [_, _], _ => rfl) (fun _ _ _ _ _ _ us hl => match us, hl with | [_, _], _ => rfl)
  have F_law_once : Df K mg "_law_once" s_law_once ["_law_things"] := h_law_once.df X G (by simp) (fun _ _ _ _ _ _ us hl => match us, hl with | [_], _ => rfl) (fun _ _ _ _ _ _ us hl => match us, hl with | [_], _ => rfl)
  have F_law_same : Df K mg "_law_same" s_law_same ["_law_found", "_law_due"] := h_law_same.df X G (by simp) (fun _ _ _ _ _ _ us hl => match us, hl with | [_, _], _ => rfl) (fun _ _ _ _ _ _ us hl => match us, hl with | [_, _], _ => rfl)
  have F_law_bundle : Df K mg "_law_bundle" s_law_bundle ["_law_bag_here", "_law_goods_y", "_law_most_y"] := h_law_bundle.df X G (by simp) (fun _ _ _ _ _ _ us hl => match us, hl with | [_, _, _], _ => rfl) (fun _ _ _ _ _ _ us hl => match us, hl with | [_, _, _], _ => rfl)
  have F_law_table : Df K mg "_law_table" s_law_table ["_law_bag_here", "_law_goods_y", "_law_many", "_law_most_y"] := h_law_table.df X G (by simp) (fun _ _ _ _ _ _ us hl => match us, hl with | [_, _, _, _], _ => rfl) (fun _ _ _ _ _ _ us hl => match us, hl with | [_, _, _, _], _ => rfl)
  have F_law_worth : Df K mg "_law_worth" s_law_worth ["_law_pairs_y", "_law_bundle_y"] := h_law_worth.df X G (by simp) (fun _ _ _ _ _ _ us hl => match us, hl with | [_, _], _ => rfl) (fun _ _ _ _ _ _ us hl => match us, hl with | [_, _], _ => rfl)
  have F_is_number : Df K mg "is_number" s_is_number ["value"] := h_is_number.df X G (by simp) (fun _ _ _ _ _ _ us hl => match us, hl with | [_], _ => rfl) (fun _ _ _ _ _ _ us hl => match us, hl with | [_], _ => rfl)
  have F_is_goods : Df K mg "is_goods" s_is_goods ["value"] := h_is_goods.df X G (by simp) (fun _ _ _ _ _ _ us hl => match us, hl with | [_], _ => rfl) (fun _ _ _ _ _ _ us hl => match us, hl with | [_], _ => rfl)
  have F_are_numbers : Df K mg "are_numbers" s_are_numbers ["value", "goods", "low", "high"] := h_are_numbers.df X G (by simp) (fun _ _ _ _ _ _ us hl => match us, hl with | [_, _, _, _], _ => rfl) (fun _ _ _ _ _ _ us hl => match us, hl with | [_, _, _, _], _ => rfl)
  have F_is_bundle : Df K mg "is_bundle" s_is_bundle ["value", "goods"] := h_is_bundle.df X G (by simp) (fun _ _ _ _ _ _ us hl => match us, hl with | [_, _], _ => rfl) (fun _ _ _ _ _ _ us hl => match us, hl with | [_, _], _ => rfl)
  have F_is_pair : Df K mg "is_pair" s_is_pair ["value", "goods"] := h_is_pair.df X G (by simp) (fun _ _ _ _ _ _ us hl => match us, hl with | [_, _], _ => rfl) (fun _ _ _ _ _ _ us hl => match us, hl with | [_, _], _ => rfl)
  have F_law : Df K mg "law" s_law ["_law_script"] := h_law.df X G (by simp) (fun _ _ _ _ _ _ us hl => match us, hl with | [_], _ => rfl) (fun _ _ _ _ _ _ us hl => match us, hl with | [_], _ => rfl)
  refine law_end X G h_law hfa (fun _ _ _ _ _ _ _ _ => .of_eq rfl) fun base X1 G1 => ?_
  have D_is := ok_is_number (P := l.prog) (w := w) (base := base) F_is_number B T
  have D_are := ok_are_numbers F_are_numbers B T D_is
  have D_goods := ok_is_goods F_is_goods G_MOST_GOODS D_is
  have D_bun := ok_is_bundle F_is_bundle G_MOST_AMOUNT D_are
  have D_pair := ok_is_pair F_is_pair B T D_is D_bun
  have V_Buyer := ok_Buyer_initV hi_Buyer R_Buyer B K_Buyer_MOST T D_goods D_pair
  have D_pull := ok_law_pull (P := l.prog) (w := w) (base := base) F_law_pull B
  have D_bnd := ok_law_bundle F_law_bundle B D_pull
  have D_table := ok_law_table F_law_table B D_pull (ok_law_once F_law_once B) D_bnd
  have hC : C_Buyer ∈ [C_Buyer] := List.mem_singleton_self _
  have M_in := ok_Buyer_in FM_Buyer___contains__ R_Buyer B D_bun
  have M_w := ok_Buyer_worth FM_Buyer_worth R_Buyer B M_in
  exact ok_law F_law B (ok_law_bag F_law_bag B) D_pull (ok_law_any F_law_any B D_pull) (ok_law_mixedN F_law_mixed B D_pull) (ok_law_same F_law_same B 5 (by decide)) D_bnd D_table (ok_law_worth F_law_worth B) R_Buyer K_Buyer_MOST V_Buyer KW_Buyer CF_Buyer (ok_Buyer_pairs FM_Buyer_pairs R_Buyer B) (ok_Buyer_bundles FM_Buyer_bundles R_Buyer B) (ok_Buyer_len FM_Buyer___len__ R_Buyer B) (ok_Buyer_repr FM_Buyer___repr__ R_Buyer B) M_in M_w (ok_Buyer_call FM_Buyer___call__ R_Buyer B M_w) (ok_Buyer_eq FM_Buyer___eq__ R_Buyer B T hC) (ok_Buyer_eqNI FM_Buyer___eq__ R_Buyer B T hC mNI) NL_Buyer
end W
open PySem PySem.W PyProof.Rows
set_option maxHeartbeats 0 in
theorem PySem.Challenge.cw_wishwalls_k26_buyers_told_holds : PySem.Challenge.rw_wishwalls_k26_buyers_told.Holds := by
  w_on; o_law; k_head; (case hw => w_witness2)
  k_fill
  refine L2.walk_of (l := PySem.Challenge.rw_wishwalls_k26_buyers_told) (n := 63) (k := 8) (x := "_law_script") (CX := fun _ => L2.CX0) (sp := fun w => DL.spLaw _) rfl (by decide) rfl ⟨rfl, by decide, by decide⟩ (fun w h Y => PySem.W.kIn_of Y) ?F (fun _ _ a ns hl _ hS => ⟨a, ns, rfl, hS, hl, fun _ => rfl⟩) (fun _ _ _ _ _ h => h)
  case F =>
    intro w mg fa h KX G hmg
    refine' W.all_mk KX G hmg ?bi ?hc_Buyer ?kt_Buyer ?K_Buyer_MOST ?hn_Buyer_goods ?hn_Buyer_own_table ?NL_Buyer ?hNI ?hi_Buyer ?hm_Buyer_pairs ?hm_Buyer_bundles ?hm_Buyer_worth ?hm_Buyer___call__ ?hm_Buyer___len__ ?hm_Buyer___repr__ ?hm_Buyer___contains__ ?hm_Buyer___eq__ ?CF_Buyer ?hg_MOST_AMOUNT ?hg_MOST_GOODS ?h_law_bag ?h_law_pull ?h_law_any ?h_law_mixed ?h_law_once ?h_law_same ?h_law_bundle ?h_law_table ?h_law_worth ?h_is_number ?h_is_goods ?h_are_numbers ?h_is_bundle ?h_is_pair ?h_law
    case bi => refine ⟨?z0, ?z1, ?z2, ?z3, ?z4, ?z5, ?z6, ?z7, ?z8, ?z9, ?z10, ?z11, ?z12, ?z13, ?z14, ?z15, ?z16, ?z17, ?z18⟩ <;> k_is
    case hc_Buyer =>
      refine' DL.HdC.mk ?ns ?pg ?hd ?po ?sa ?ha ?hn ?htk ?hm ?kp
      (case ns => k_is); (case pg => k_is); (case hd => k_is); (case po => k_is); (case sa => k_is); (case ha => k_is); (case hn => k_is); (case htk => k_is); (case hm => k_is); (case kp => k_is)
    case kt_Buyer =>
      refine' DL.KitF.mk ?b1 ?b2 ?b3 ?b4 ?b5 ?b6 ?t1 ?t2 ?t3 ?t4 ?t5 ?self
      (case b1 => kit_is); (case b2 => kit_is); (case b3 => kit_is); (case b4 => kit_is); (case b5 => kit_is); (case b6 => kit_is); (case t1 => kit_is); (case t2 => kit_is); (case t3 => kit_is); (case t4 => kit_is); (case t5 => kit_is); (case self => kit_is)
    case K_Buyer_MOST =>
      refine' DL.cint_mk ?rd ?ga ?at1
      (case rd => k_is); (case ga => k_is); (case at1 => k_is)
    case hn_Buyer_goods => (show PySem.W.findIn _ _ _ = _); k_is
    case hn_Buyer_own_table => (show PySem.W.findIn _ _ _ = _); k_is
    case NL_Buyer => (show PySem.W.subIn _ _ _ = _); k_is
    case hNI => k_is
    case hi_Buyer =>
      refine' DL.hdi_mk ?a ?i ?k ?l ?c ?m
      (case a => k_is); (case i => k_is); (case k => k_is); (case l => k_is); (case c => k_is); (case m => k_is)
    case hm_Buyer_pairs =>
      refine' DL.hdm_mk ?a ?i ?k ?l ?c
      (case a => k_is); (case i => k_is); (case k => k_is); (case l => k_is); (case c => k_is)
    case hm_Buyer_bundles =>
      refine' DL.hdm_mk ?a ?i ?k ?l ?c
      (case a => k_is); (case i => k_is); (case k => k_is); (case l => k_is); (case c => k_is)
    case hm_Buyer_worth =>
      refine' DL.hdm_mk ?a ?i ?k ?l ?c
      (case a => k_is); (case i => k_is); (case k => k_is); (case l => k_is); (case c => k_is)
    case hm_Buyer___call__ =>
      refine' DL.hdm_mk ?a ?i ?k ?l ?c
      (case a => k_is); (case i => k_is); (case k => k_is); (case l => k_is); (case c => k_is)
    case hm_Buyer___len__ =>
      refine' DL.hdm_mk ?a ?i ?k ?l ?c
      (case a => k_is); (case i => k_is); (case k => k_is); (case l => k_is); (case c => k_is)
    case hm_Buyer___repr__ =>
      refine' DL.hdm_mk ?a ?i ?k ?l ?c
      (case a => k_is); (case i => k_is); (case k => k_is); (case l => k_is); (case c => k_is)
    case hm_Buyer___contains__ =>
      refine' DL.hdm_mk ?a ?i ?k ?l ?c
      (case a => k_is); (case i => k_is); (case k => k_is); (case l => k_is); (case c => k_is)
    case hm_Buyer___eq__ =>
      refine' DL.hdm_mk ?a ?i ?k ?l ?c
      (case a => k_is); (case i => k_is); (case k => k_is); (case l => k_is); (case c => k_is)
    case CF_Buyer =>
      refine' DL.callF_mk ?a ?b ?d
      (case a => k_is); (case b => k_is); (case d => k_is)
    case hg_MOST_AMOUNT => refine' DL.gint_mk ?a; (case a => k_is)
    case hg_MOST_GOODS => refine' DL.gint_mk ?a; (case a => k_is)
    case h_law_bag =>
      refine' DL.hd_mk ?a ?l ?c ?k
      (case a => k_is); (case l => k_is); (case c => k_is); (case k => k_is)
    case h_law_pull =>
      refine' DL.hd_mk ?a ?l ?c ?k
      (case a => k_is); (case l => k_is); (case c => k_is); (case k => k_is)
    case h_law_any =>
      refine' DL.hd_mk ?a ?l ?c ?k
      (case a => k_is); (case l => k_is); (case c => k_is); (case k => k_is)
    case h_law_mixed =>
      refine' DL.hd_mk ?a ?l ?c ?k
      (case a => k_is); (case l => k_is); (case c => k_is); (case k => k_is)
    case h_law_once =>
      refine' DL.hd_mk ?a ?l ?c ?k
      (case a => k_is); (case l => k_is); (case c => k_is); (case k => k_is)
    case h_law_same =>
      refine' DL.hd_mk ?a ?l ?c ?k
      (case a => k_is); (case l => k_is); (case c => k_is); (case k => k_is)
    case h_law_bundle =>
      refine' DL.hd_mk ?a ?l ?c ?k
      (case a => k_is); (case l => k_is); (case c => k_is); (case k => k_is)
    case h_law_table =>
      refine' DL.hd_mk ?a ?l ?c ?k
      (case a => k_is); (case l => k_is); (case c => k_is); (case k => k_is)
    case h_law_worth =>
      refine' DL.hd_mk ?a ?l ?c ?k
      (case a => k_is); (case l => k_is); (case c => k_is); (case k => k_is)
    case h_is_number =>
      refine' DL.hd_mk ?a ?l ?c ?k
      (case a => k_is); (case l => k_is); (case c => k_is); (case k => k_is)
    case h_is_goods =>
      refine' DL.hd_mk ?a ?l ?c ?k
      (case a => k_is); (case l => k_is); (case c => k_is); (case k => k_is)
    case h_are_numbers =>
      refine' DL.hd_mk ?a ?l ?c ?k
      (case a => k_is); (case l => k_is); (case c => k_is); (case k => k_is)
    case h_is_bundle =>
      refine' DL.hd_mk ?a ?l ?c ?k
      (case a => k_is); (case l => k_is); (case c => k_is); (case k => k_is)
    case h_is_pair =>
      refine' DL.hd_mk ?a ?l ?c ?k
      (case a => k_is); (case l => k_is); (case c => k_is); (case k => k_is)
    case h_law =>
      refine' DL.hd_mk ?a ?l ?c ?k
      (case a => k_is); (case l => k_is); (case c => k_is); (case k => k_is)
