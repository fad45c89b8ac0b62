import PyProof.Rows.All
import Wide.All
import OpenK.AllK
import Wide.FinOn
import HandS.Base
import HandS.Call
import HandS.List
import HandS.Dict
import HandS.Comp
import HandS.Iter
import HandS.Text
import HandS.Exc
import HandS.ExcOwn
import HandS.Words
import HandS.WordsExc
import HandS.Defaults
import HandS.HeadHook1
import HandS.HeadHook2
import HandS.Lambda
import HandS.HeadHook4
import HandS.TupAny
import HandS.Conv
import HandS.IsInst
import KE.DataEq
import KE.KEqDict
import HandS.WordsDict
import KE.DataCmp
import KE.SortCalls
import KE.DataMinKey
import KE.DataMinMax
import HandS.SortKw
import HandS.More
import KE.SortData
import HandS.DictComp
import HandS.ExcInit
import HandS.ExcField
import HandS.TryMany
import PyProof.WalksMore
import PyProof.CollectIter
import HandS.ExcValue
import HandS.HeadHook3
import KE.SortKeyHeap
import HandS.HeadWalk
import HandS.HeadNt
import HandS.NestedK
import HandS.Style
import KE.GoesEnumKw
import HandS.SetBool
import HandS.Finally
import HandS.TupSets
import HandS.FStr
import PyProof.EqKinds
import PyProof.FactsAll.dict
import HandS.DeepEq
import KE.KCallOwn
import HandS.SlotsOwn
import PyProof.TableCode
import KE.KStateDown
import Lean
import HandS.Ends
import HandS.Head0
import HandS.Head1
import HandS.Head2
import HandS.HeadEnd
import PySem.Challenge.RW_lodepath_k18_papers_by_themselves
set_option Elab.async false
set_option linter.all false
set_option maxRecDepth 100000
set_option maxHeartbeats 0
/-! the T-layer, 0: trees, slots, the ghost state, what stands for what -/
namespace TL
open PySem PySem.Spec L2
/-- data as a tree; cel k: the k-th shared object; glo x: what the module's name x stands for -/
inductive T where
  | non | bl (b : Bool) | int (i : Int) | str (x : Str)
  | lst (xs : List T) | tup (xs : List T) | dct (kvs : List (Key × T))
  | cel (k : Nat) | glo (x : Str) | ty (n : String) | scr (ns : List Int)
  /-- an instance that stands still: its class, its fields (in views) -/
  | obj (C : Str) (fs : List (Str × T))
deriving Inhabited
/-- a shared object's content -/
inductive SO where
  | lst (xs : List T) | dct (kvs : List (Key × T)) | ins (C : Str) (fs : List (Str × T)) | tab (d : Str × Option Str) (q : Str)
deriving Inhabited
abbrev Sh := List SO
/-- an exception: its class by name, its fields -/
structure Ex where
  cls : Str
  fs : List (Str × T)
inductive Res (α : Type) where
  | ok (a : α) (s : Sh)
  | exc (e : Ex) (s : Sh)
  | bad
/-- a local name: without a value; a value; a list or dict that this frame alone has -/
inductive Slot where
  | no | t (x : T) | own (x : T)
deriving Inhabited
abbrev Loc := List Slot
abbrev Ev := Loc → Sh → Res T
abbrev EvL := Loc → Sh → Res (List T)
def Res.bind {α β : Type} (r : Res α) (k : α → Sh → Res β) : Res β := match r with
  | .ok a s => k a s
  | .exc e s => .exc e s
  | .bad => .bad
@[simp] theorem Res.bind_ok {α β : Type} (a : α) (s : Sh) (k : α → Sh → Res β) : (Res.ok a s).bind k = k a s := rfl
@[simp] theorem Res.bind_exc {α β : Type} (e : Ex) (s : Sh) (k : α → Sh → Res β) : (Res.exc e s : Res α).bind k = .exc e s := rfl
@[simp] theorem Res.bind_bad {α β : Type} (k : α → Sh → Res β) : (Res.bad : Res α).bind k = .bad := rfl
/-- a statement's end -/
inductive Fl where
  | nx (l : Loc) (s : Sh) | rt (t : T) (s : Sh) | bk (l : Loc) (s : Sh) | ct (l : Loc) (s : Sh) | exc (e : Ex) (l : Loc) (s : Sh) | bad
abbrev Sv := Loc → Sh → Fl
/-- a def: arguments, shared objects -/
abbrev Fn := List T → Sh → Res T
/-! ### the ghost -/
/-- F: what stands for trees; al: where the shared objects stand; B: what is not this frame's to change -/
structure Gh where
  F : Hp
  al : List Addr
  B : Hp
/-- a key that can stand as a value -/
def KOk : Key → Prop
  | .inl _ => True
  | .inr x => x.length ≤ sizeLine
/-- few entries, keys of a fit size -/
def DOk (kvs : List (Key × T)) : Prop := kvs.length ≤ sizeLine ∧ ∀ p ∈ kvs, KOk p.1
section
variable (K : PySem.W.Frag) (F : Hp) (al : List Addr)
mutual
def Rep : T → V → Prop
  | .non, v => v = .non
  | .bl b, v => v = .bl b
  | .int i, v => v = .int i
  | .str x, v => v = .str x ∧ x.length ≤ sizeLine
  | .lst xs, v => ∃ a vs, v = .ref a ∧ F a = some (.lst vs) ∧ RepL xs vs ∧ xs.length ≤ sizeLine
  | .tup xs, v => ∃ a vs, v = .ref a ∧ SqT K F a vs ∧ RepL xs vs ∧ xs.length ≤ sizeLine
  | .dct kvs, v => ∃ a kv, v = .ref a ∧ Rd F a (.dK kv) ∧ RepD kvs kv ∧ DOk kvs
  | .cel k, v => ∃ a, v = .ref a ∧ al[k]? = some a
  | .glo x, v => v = .ref (He.ga K x)
  | .ty n, v => v = .ty n
  | .scr ns, v => ∃ a, v = .ref a ∧ SqL K F a (ns.map V.int) ∧ ns.length ≤ sizeLine
  | .obj C fs, v => ∃ a dx fv, v = .ref a ∧ F a = some (.ins (He.ga K C) dx fv) ∧ RepFs fs fv
def RepL : List T → List V → Prop
  | [], vs => vs = []
  | x :: xs, vs => ∃ v r, vs = v :: r ∧ Rep x v ∧ RepL xs r
def RepD : List (Key × T) → List (Key × V) → Prop
  | [], vs => vs = []
  | (k, x) :: xs, vs => ∃ v r, vs = (k, v) :: r ∧ Rep x v ∧ RepD xs r
def RepFs : List (Str × T) → List (Str × V) → Prop
  | [], vs => vs = []
  | (k, x) :: xs, vs => ∃ v r, vs = (k, v) :: r ∧ Rep x v ∧ RepFs xs r
end
end
/-- what stood for something stands for it -/
def FLe (F F' : Hp) : Prop := ∀ a o, F a = some o → F' a = some o
def ALe (al al' : List Addr) : Prop := ∀ (k : Nat) (a : Addr), al[k]? = some a → al'[k]? = some a
theorem FLe.refl (F : Hp) : FLe F F := fun _ _ h => h
theorem FLe.trans {F G H : Hp} (a : FLe F G) (b : FLe G H) : FLe F H := fun x u h => b x u (a x u h)
theorem FLe.rd {F F' : Hp} (h : FLe F F') {a : Addr} {u : HO} (q : Rd F a u) : Rd F' a u := by
  rcases q with q | ⟨o, q⟩
  · exact .inl (h _ _ q)
  · exact .inr ⟨o, h _ _ q⟩
theorem ALe.refl (l : List Addr) : ALe l l := fun _ _ h => h
theorem ALe.trans {a b c : List Addr} (x : ALe a b) (y : ALe b c) : ALe a c := fun k v h => y k v (x k v h)
/-- what stood for something stands for it, a dict locked or not -/
structure FSim (F F' : Hp) : Prop where
  l : ∀ a vs, F a = some (.lst vs) → F' a = some (.lst vs)
  r : ∀ a u, (∀ o v, u ≠ .frz o v) → Rd F a u → Rd F' a u
  e : ∀ a P, F a = some (.ext P) → F' a = some (.ext P)
  i : ∀ a C dx fv, F a = some (.ins C dx fv) → F' a = some (.ins C dx fv)
theorem FLe.sim {F F' : Hp} (h : FLe F F') : FSim F F' := ⟨fun a vs q => h _ _ q, fun a u _ q => h.rd q, fun a P q => h _ _ q, fun a C dx fv q => h _ _ q⟩
theorem SqL.sim {K : PySem.W.Frag} {F F' : Hp} (h : FSim F F') {a : Addr} {xs : List V} (q : SqL K F a xs) : SqL K F' a xs := by
  rcases q with q | q
  · exact .inl (h.r _ _ (fun _ _ z => nomatch z) q)
  · exact .inr q
theorem SqT.sim {K : PySem.W.Frag} {F F' : Hp} (h : FSim F F') {a : Addr} {xs : List V} (q : SqT K F a xs) : SqT K F' a xs := by
  rcases q with q | q
  · exact .inl (h.r _ _ (fun _ _ z => nomatch z) q)
  · exact .inr q
theorem SqL.fle {K : PySem.W.Frag} {F F' : Hp} (h : FLe F F') {a : Addr} {xs : List V} (q : SqL K F a xs) : SqL K F' a xs := SqL.sim h.sim q
theorem SqT.fle {K : PySem.W.Frag} {F F' : Hp} (h : FLe F F') {a : Addr} {xs : List V} (q : SqT K F a xs) : SqT K F' a xs := SqT.sim h.sim q
section
variable {K : PySem.W.Frag} {F F' : Hp} {al al' : List Addr} (hF : FSim F F') (hA : ALe al al')
include hF hA
mutual
theorem Rep.sim : ∀ (t : T) (v : V), Rep K F al t v → Rep K F' al' t v
  | .non, _, h => h
  | .bl _, _, h => h
  | .int _, _, h => h
  | .str _, _, h => h
  | .lst xs, v, h => by
    obtain ⟨a, vs, e, q, r, l⟩ := h
    exact ⟨a, vs, e, hF.l _ _ q, RepL.sim xs vs r, l⟩
  | .tup xs, v, h => by
    obtain ⟨a, vs, e, q, r, l⟩ := h
    exact ⟨a, vs, e, SqT.sim hF q, RepL.sim xs vs r, l⟩
  | .dct kvs, v, h => by
    obtain ⟨a, kv, e, q, r, l⟩ := h
    exact ⟨a, kv, e, hF.r _ _ (fun _ _ z => nomatch z) q, RepD.sim kvs kv r, l⟩
  | .cel k, v, h => by
    obtain ⟨a, e, q⟩ := h
    exact ⟨a, e, hA _ _ q⟩
  | .glo _, _, h => h
  | .ty _, _, h => h
  | .scr _, _, h => by
    obtain ⟨a, e, q, l⟩ := h
    exact ⟨a, e, SqL.sim hF q, l⟩
  | .obj C fs, v, h => by
    obtain ⟨a, dx, fv, e, q, r⟩ := h
    exact ⟨a, dx, fv, e, hF.i _ _ _ _ q, RepFs.sim0 fs fv r⟩
theorem RepL.sim : ∀ (xs : List T) (vs : List V), RepL K F al xs vs → RepL K F' al' xs vs
  | [], _, h => h
  | x :: xs, _, h => by
    obtain ⟨v, r, e, h1, h2⟩ := h
    exact ⟨v, r, e, Rep.sim x v h1, RepL.sim xs r h2⟩
theorem RepD.sim : ∀ (xs : List (Key × T)) (vs : List (Key × V)), RepD K F al xs vs → RepD K F' al' xs vs
  | [], _, h => h
  | (k, x) :: xs, _, h => by
    obtain ⟨v, r, e, h1, h2⟩ := h
    exact ⟨v, r, e, Rep.sim x v h1, RepD.sim xs r h2⟩
theorem RepFs.sim0 : ∀ (xs : List (Str × T)) (vs : List (Str × V)), RepFs K F al xs vs → RepFs K F' al' xs vs
  | [], _, h => h
  | (k, x) :: xs, _, h => by
    obtain ⟨v, r, e, h1, h2⟩ := h
    exact ⟨v, r, e, Rep.sim x v h1, RepFs.sim0 xs r h2⟩
end
end
section
variable {K : PySem.W.Frag} {F F' : Hp} {al al' : List Addr} (hF : FLe F F') (hA : ALe al al')
include hF hA
theorem Rep.mono (t : T) (v : V) (h : Rep K F al t v) : Rep K F' al' t v := Rep.sim hF.sim hA t v h
theorem RepL.mono (t : List T) (v : List V) (h : RepL K F al t v) : RepL K F' al' t v := RepL.sim hF.sim hA t v h
theorem RepD.mono (t : List (Key × T)) (v : List (Key × V)) (h : RepD K F al t v) : RepD K F' al' t v := RepD.sim hF.sim hA t v h
end
/-! ### lists of trees -/
section
variable {K : PySem.W.Frag} {F : Hp} {al : List Addr}
theorem RepL.nil : RepL K F al [] [] := rfl
theorem RepL.cons {t : T} {v : V} {ts : List T} {vs : List V} (h : Rep K F al t v) (r : RepL K F al ts vs) : RepL K F al (t :: ts) (v :: vs) := ⟨v, vs, rfl, h, r⟩
theorem RepL.length : ∀ {ts : List T} {vs : List V}, RepL K F al ts vs → vs.length = ts.length
  | [], _, h => by cases h; rfl
  | _ :: ts, _, h => by
    obtain ⟨v, r, rfl, _, h2⟩ := h
    rw [List.length_cons, List.length_cons, RepL.length h2]
theorem RepL.get : ∀ {ts : List T} {vs : List V} {i : Nat} {t : T}, RepL K F al ts vs → ts[i]? = some t → ∃ v, vs[i]? = some v ∧ Rep K F al t v
  | [], _, _, _, _, e => by simp at e
  | _ :: ts, _, 0, _, h, e => by
    obtain ⟨v, r, rfl, h1, _⟩ := h
    simp at e
    subst e
    exact ⟨v, rfl, h1⟩
  | _ :: ts, _, i + 1, t, h, e => by
    obtain ⟨v, r, rfl, _, h2⟩ := h
    obtain ⟨u, q1, q2⟩ := RepL.get (i := i) h2 (by simpa using e)
    exact ⟨u, by simpa using q1, q2⟩
theorem RepL.get' : ∀ {ts : List T} {vs : List V} {i : Nat} {v : V}, RepL K F al ts vs → vs[i]? = some v → ∃ t, ts[i]? = some t ∧ Rep K F al t v
  | [], _, _, _, h, e => by cases h; simp at e
  | _ :: ts, _, 0, _, h, e => by
    obtain ⟨v, r, rfl, h1, _⟩ := h
    simp at e
    subst e
    exact ⟨_, rfl, h1⟩
  | _ :: ts, _, i + 1, t, h, e => by
    obtain ⟨v, r, rfl, _, h2⟩ := h
    obtain ⟨u, q1, q2⟩ := RepL.get' (i := i) h2 (by simpa using e)
    exact ⟨u, by simpa using q1, q2⟩
theorem RepL.append : ∀ {ts us : List T} {vs ws : List V}, RepL K F al ts vs → RepL K F al us ws → RepL K F al (ts ++ us) (vs ++ ws)
  | [], _, _, _, h, r => by cases h; exact r
  | _ :: ts, _, _, _, h, r => by
    obtain ⟨v, q, rfl, h1, h2⟩ := h
    exact ⟨v, _, rfl, h1, RepL.append h2 r⟩
theorem RepL.take : ∀ {ts : List T} {vs : List V} (n : Nat), RepL K F al ts vs → RepL K F al (ts.take n) (vs.take n)
  | _, _, 0, _ => rfl
  | [], _, _ + 1, h => by cases h; rfl
  | _ :: ts, _, n + 1, h => by
    obtain ⟨v, q, rfl, h1, h2⟩ := h
    exact ⟨v, _, rfl, h1, RepL.take n h2⟩
theorem RepL.drop : ∀ {ts : List T} {vs : List V} (n : Nat), RepL K F al ts vs → RepL K F al (ts.drop n) (vs.drop n)
  | _, _, 0, h => h
  | [], _, _ + 1, h => by cases h; rfl
  | _ :: ts, _, n + 1, h => by
    obtain ⟨v, q, rfl, h1, h2⟩ := h
    exact RepL.drop n h2
theorem RepL.set : ∀ {ts : List T} {vs : List V} (i : Nat) {t : T} {v : V}, RepL K F al ts vs → Rep K F al t v → RepL K F al (ts.set i t) (vs.set i v)
  | [], _, _, _, _, h, _ => by cases h; rfl
  | _ :: ts, _, 0, _, _, h, q => by
    obtain ⟨v, r, rfl, h1, h2⟩ := h
    exact ⟨_, r, rfl, q, h2⟩
  | _ :: ts, _, i + 1, _, _, h, q => by
    obtain ⟨v, r, rfl, h1, h2⟩ := h
    exact ⟨v, _, rfl, h1, RepL.set i h2 q⟩
theorem RepL.reverse : ∀ {ts : List T} {vs : List V}, RepL K F al ts vs → RepL K F al ts.reverse vs.reverse
  | [], _, h => by cases h; rfl
  | t :: ts, _, h => by
    obtain ⟨v, r, rfl, h1, h2⟩ := h
    rw [List.reverse_cons, List.reverse_cons]
    exact RepL.append (RepL.reverse h2) (RepL.cons h1 RepL.nil)
theorem RepL.replicate (n : Nat) {ts : List T} {vs : List V} (h : RepL K F al ts vs) : RepL K F al (List.replicate n ts).flatten (List.replicate n vs).flatten := by
  induction n with
  | zero => exact rfl
  | succ n ih =>
    rw [List.replicate_succ, List.replicate_succ, List.flatten_cons, List.flatten_cons]
    exact RepL.append h ih
theorem RepL.ints : ∀ ns : List Int, RepL K F al (ns.map T.int) (ns.map V.int)
  | [] => rfl
  | n :: ns => ⟨_, _, rfl, rfl, RepL.ints ns⟩
end
/-! ### dicts of trees -/
def dgetT {α : Type} (kvs : List (Key × α)) (k : Key) : Option α := (kvs.find? fun kv => decide (kv.1 = k)).map (·.2)
def dputT {α : Type} (kvs : List (Key × α)) (k : Key) (v : α) : List (Key × α) :=
  if (kvs.any fun kv => decide (kv.1 = k)) = true then kvs.map (fun kv => if kv.1 = k then (kv.1, v) else kv) else kvs ++ [(k, v)]
def ddropT {α : Type} (kvs : List (Key × α)) (k : Key) : List (Key × α) := kvs.filter fun kv => decide (kv.1 ≠ k)
section
variable {K : PySem.W.Frag} {F : Hp} {al : List Addr}
theorem RepD.length : ∀ {ts : List (Key × T)} {vs : List (Key × V)}, RepD K F al ts vs → vs.length = ts.length
  | [], _, h => by cases h; rfl
  | (_, _) :: ts, _, h => by
    obtain ⟨v, r, rfl, _, h2⟩ := h
    rw [List.length_cons, List.length_cons, RepD.length h2]
theorem RepD.keys : ∀ {ts : List (Key × T)} {vs : List (Key × V)}, RepD K F al ts vs → vs.map (·.1) = ts.map (·.1)
  | [], _, h => by cases h; rfl
  | (_, _) :: ts, _, h => by
    obtain ⟨v, r, rfl, _, h2⟩ := h
    rw [List.map_cons, List.map_cons, RepD.keys h2]
theorem RepD.any {k : Key} : ∀ {ts : List (Key × T)} {vs : List (Key × V)}, RepD K F al ts vs → (vs.any fun kv => decide (kv.1 = k)) = (ts.any fun kv => decide (kv.1 = k))
  | [], _, h => by cases h; rfl
  | (_, _) :: ts, _, h => by
    obtain ⟨v, r, rfl, _, h2⟩ := h
    rw [List.any_cons, List.any_cons, RepD.any h2]
theorem RepD.get {k : Key} : ∀ {ts : List (Key × T)} {vs : List (Key × V)}, RepD K F al ts vs →
    (dgetT ts k = none ∧ valV vs k = none) ∨ ∃ t v, dgetT ts k = some t ∧ valV vs k = some v ∧ Rep K F al t v
  | [], _, h => by cases h; exact .inl ⟨rfl, rfl⟩
  | (j, t) :: ts, _, h => by
    obtain ⟨v, r, rfl, h1, h2⟩ := h
    by_cases e : j = k
    · refine .inr ⟨t, v, ?_, ?_, h1⟩
      · simp [dgetT, e]
      · simp [valV, e]
    · have e1 : dgetT ((j, t) :: ts) k = dgetT ts k := by simp [dgetT, e]
      have e2 : valV ((j, v) :: r) k = valV r k := by simp [valV, e]
      rw [e1, e2]
      exact RepD.get h2
theorem RepD.append : ∀ {ts us : List (Key × T)} {vs ws : List (Key × V)}, RepD K F al ts vs → RepD K F al us ws → RepD K F al (ts ++ us) (vs ++ ws)
  | [], _, _, _, h, r => by cases h; exact r
  | (_, _) :: ts, _, _, _, h, r => by
    obtain ⟨v, q, rfl, h1, h2⟩ := h
    exact ⟨v, _, rfl, h1, RepD.append h2 r⟩
theorem RepD.repl {k : Key} {t : T} {v : V} (q : Rep K F al t v) : ∀ {ts : List (Key × T)} {vs : List (Key × V)}, RepD K F al ts vs →
    RepD K F al (ts.map fun kv => if kv.1 = k then (kv.1, t) else kv) (vs.map fun kv => if kv.1 = k then (kv.1, v) else kv)
  | [], _, h => by cases h; rfl
  | (j, u) :: ts, _, h => by
    obtain ⟨w, r, rfl, h1, h2⟩ := h
    rw [List.map_cons, List.map_cons]
    by_cases e : j = k
    · simp only [if_pos e]
      exact ⟨v, _, rfl, q, RepD.repl q h2⟩
    · simp only [if_neg e]
      exact ⟨w, _, rfl, h1, RepD.repl q h2⟩
theorem RepD.put {k : Key} {t : T} {v : V} {ts : List (Key × T)} {vs : List (Key × V)} (h : RepD K F al ts vs) (q : Rep K F al t v) : RepD K F al (dputT ts k t) (putK vs k v) := by
  unfold dputT putK
  rw [RepD.any h]
  split
  · exact RepD.repl q h
  · exact RepD.append h ⟨v, [], rfl, q, rfl⟩
theorem RepD.drop {k : Key} : ∀ {ts : List (Key × T)} {vs : List (Key × V)}, RepD K F al ts vs → RepD K F al (ddropT ts k) (dropK vs k)
  | [], _, h => by cases h; rfl
  | (j, u) :: ts, _, h => by
    obtain ⟨w, r, rfl, h1, h2⟩ := h
    unfold ddropT dropK
    by_cases e : j = k
    · rw [List.filter_cons_of_neg (by simp [e]), List.filter_cons_of_neg (by simp [e])]
      exact RepD.drop h2
    · rw [List.filter_cons_of_pos (by simp [e]), List.filter_cons_of_pos (by simp [e])]
      exact ⟨w, _, rfl, h1, RepD.drop h2⟩
theorem dputT_length {α : Type} (kvs : List (Key × α)) (k : Key) (v : α) : (dputT kvs k v).length ≤ kvs.length + 1 := by
  unfold dputT
  split
  · rw [List.length_map]; omega
  · rw [List.length_append]; simp
end
theorem DOk.nil : DOk [] := ⟨Nat.zero_le _, fun _ h => (by cases h)⟩
theorem DOk.put {kvs : List (Key × T)} {k : Key} {t : T} (h : DOk kvs) (hl : kvs.length < sizeLine) (hk : KOk k) : DOk (dputT kvs k t) := by
  refine ⟨Nat.le_trans (dputT_length kvs k t) hl, fun p hp => ?_⟩
  unfold dputT at hp
  split at hp
  · obtain ⟨q, hq, e⟩ := List.mem_map.mp hp
    have := h.2 q hq
    by_cases c : q.1 = k
    · rw [if_pos c] at e; rw [← e]; exact this
    · rw [if_neg c] at e; rw [← e]; exact this
  · rcases List.mem_append.mp hp with hp | hp
    · exact h.2 p hp
    · cases List.mem_singleton.mp hp; exact hk
theorem DOk.drop {kvs : List (Key × T)} {k : Key} (h : DOk kvs) : DOk (ddropT kvs k) := ⟨Nat.le_trans (List.length_filter_le _ _) h.1, fun p hp => h.2 p (List.mem_filter.mp hp).1⟩
/-! ### the state -/
/-- a list or dict that stands at a, its items trees -/
def Sha (K : PySem.W.Frag) (G : Gh) (H : Hp) (a : Addr) : T → Prop
  | .lst xs => ∃ vs, H a = some (.lst vs) ∧ RepL K G.F G.al xs vs ∧ xs.length ≤ sizeLine
  | .dct kvs => ∃ kv, H a = some (.dK kv) ∧ RepD K G.F G.al kvs kv ∧ DOk kvs
  | _ => False
def ShRep (K : PySem.W.Frag) (G : Gh) (H : Hp) (a : Addr) : SO → Prop
  | .lst xs => Sha K G H a (.lst xs)
  | .dct kvs => Sha K G H a (.dct kvs)
  | .ins C fs => ∃ dx fv, H a = some (.ins (He.ga K C) dx fv) ∧ RepFs K G.F G.al fs fv ∧ H dx = some (.own a) ∧ G.F dx = none ∧ G.B dx = none ∧ ∀ k : Nat, G.al[k]? ≠ some dx
  | .tab d q => a = (He.cT K d).2 ∧ ∃ ps : Array Value, H a = some (.tbl ps) ∧ TriplesOk ps.toList ∧ ∀ (pos : Pos) (cv : Value), codeAmong pos ps.toList = some cv → ∃ c, cv = .ref c ∧ G.F c = some (LamX.CodeO c q)
theorem RepFs.mono {K : PySem.W.Frag} {F F' : Hp} {al al' : List Addr} (hF : FLe F F') (hA : ALe al al') : ∀ {fs : List (Str × T)} {vs : List (Str × V)}, RepFs K F al fs vs → RepFs K F' al' fs vs
  | [], _, h => h
  | (_, _) :: _, _, h => by
    obtain ⟨v, r, e, h1, h2⟩ := h
    exact ⟨v, r, e, Rep.mono hF hA _ _ h1, RepFs.mono hF hA h2⟩
def slotOk (K : PySem.W.Frag) (G : Gh) (H : Hp) (s : Slot) (o : Option (Option V)) : Prop := match s with
  | .no => True
  | .t x => ∃ v, o = some (some v) ∧ Rep K G.F G.al x v
  | .own x => ∃ a, o = some (some (.ref a)) ∧ G.F a = none ∧ G.B a = none ∧ (∀ k : Nat, G.al[k]? ≠ some a) ∧ Sha K G H a x
def Loc.at (l : Loc) (i : Nat) : Slot := l[i]?.getD .no
/-- the shared part -/
structure Gok (K : PySem.W.Frag) (G : Gh) (sh : Sh) (H : Hp) : Prop where
  fh : ∀ a o, G.F a = some o → H a = some o
  bh : ∀ a o, G.B a = some o → H a = some o
  dis : ∀ a, G.F a = none ∨ G.B a = none
  alf : ∀ (k : Nat) (a : Addr), G.al[k]? = some a → G.F a = none ∧ G.B a = none
  ali : ∀ (i j : Nat) (a : Addr), G.al[i]? = some a → G.al[j]? = some a → i = j
  all : G.al.length = sh.length
  shr : ∀ (k : Nat) (o : SO), sh[k]? = some o → ∃ a, G.al[k]? = some a ∧ ShRep K G H a o
structure Ok (K : PySem.W.Frag) (G : Gh) (loc : Loc) (sh : Sh) (σ : St) (H : Hp) : Prop extends Gok K G sh H where
  len : loc.length = σ.length
  sl : ∀ i : Nat, slotOk K G H (loc.at i) σ[i]?
  sep : ∀ (i j : Nat) (x y : T) (a : Addr), i ≠ j → loc.at i = .own x → loc.at j = .own y → σ[i]? = some (some (V.ref a)) → σ[j]? ≠ some (some (V.ref a))
/-- the ghost grows -/
structure GLe (G G' : Gh) : Prop where
  f : FLe G.F G'.F
  a : ALe G.al G'.al
  b : G'.B = G.B
theorem GLe.refl (G : Gh) : GLe G G := ⟨FLe.refl _, ALe.refl _, rfl⟩
theorem GLe.trans {G H I : Gh} (x : GLe G H) (y : GLe H I) : GLe G I := ⟨x.f.trans y.f, x.a.trans y.a, y.b.trans x.b⟩
abbrev rep (K : PySem.W.Frag) (G : Gh) (t : T) (v : V) : Prop := Rep K G.F G.al t v
abbrev repL (K : PySem.W.Frag) (G : Gh) (t : List T) (v : List V) : Prop := RepL K G.F G.al t v
theorem rep_le {K : PySem.W.Frag} {G G' : Gh} (l : GLe G G') {t : T} {v : V} (h : rep K G t v) : rep K G' t v := Rep.mono l.f l.a _ _ h
theorem repL_le {K : PySem.W.Frag} {G G' : Gh} (l : GLe G G') {t : List T} {v : List V} (h : repL K G t v) : repL K G' t v := RepL.mono l.f l.a _ _ h
theorem Sha.le {K : PySem.W.Frag} {G G' : Gh} {H H' : Hp} {a : Addr} {t : T} (l : GLe G G') (e : H' a = H a) (h : Sha K G H a t) : Sha K G' H' a t := by
  cases t with
  | lst xs => obtain ⟨vs, h1, h2, h3⟩ := h; exact ⟨vs, e.trans h1, RepL.mono l.f l.a _ _ h2, h3⟩
  | dct kvs => obtain ⟨vs, h1, h2, h3⟩ := h; exact ⟨vs, e.trans h1, RepD.mono l.f l.a _ _ h2, h3⟩
  | _ => exact h.elim
theorem Sha.is {K : PySem.W.Frag} {G : Gh} {H : Hp} {a : Addr} {t : T} (h : Sha K G H a t) : (∃ vs, H a = some (.lst vs)) ∨ ∃ kv, H a = some (.dK kv) := by
  cases t with
  | lst xs => obtain ⟨vs, h1, _⟩ := h; exact .inl ⟨_, h1⟩
  | dct kvs => obtain ⟨vs, h1, _⟩ := h; exact .inr ⟨_, h1⟩
  | _ => exact h.elim
theorem Sha.there {K : PySem.W.Frag} {G : Gh} {H : Hp} {a : Addr} {t : T} (h : Sha K G H a t) : ∃ o, H a = some o := by
  rcases h.is with ⟨_, e⟩ | ⟨_, e⟩ <;> exact ⟨_, e⟩
theorem ShRep.there {K : PySem.W.Frag} {G : Gh} {H : Hp} {a : Addr} {t : SO} (h : ShRep K G H a t) : ∃ o, H a = some o := by
  cases t with
  | lst xs => exact Sha.there (show Sha K G H a (.lst xs) from h)
  | dct kvs => exact Sha.there (show Sha K G H a (.dct kvs) from h)
  | ins C fs => obtain ⟨dx, fv, h1, _⟩ := h; exact ⟨_, h1⟩
  | tab d q => obtain ⟨_, ps, h1, _⟩ := h; exact ⟨_, h1⟩
/-! ### growing -/
def Gh.add (G : Gh) (a : Addr) (o : HO) : Gh := { G with F := upd G.F a o }
section
variable {K : PySem.W.Frag} {G : Gh} {loc : Loc} {sh : Sh} {σ : St} {H : Hp}
theorem Gok.al_there (ok : Gok K G sh H) {k : Nat} {a : Addr} (h : G.al[k]? = some a) : ∃ o, H a = some o := by
  have hk : k < sh.length := by
    rw [← ok.all]
    exact (List.getElem?_eq_some_iff.mp h).1
  obtain ⟨b, hb, r⟩ := ok.shr k sh[k] (List.getElem?_eq_getElem hk)
  rw [h] at hb
  cases hb
  exact r.there
theorem Gok.freeF (ok : Gok K G sh H) {p : Addr} (hp : H p = none) : G.F p = none := by
  cases e : G.F p with
  | none => rfl
  | some o => rw [ok.fh p o e] at hp; cases hp
theorem Gok.freeB (ok : Gok K G sh H) {p : Addr} (hp : H p = none) : G.B p = none := by
  cases e : G.B p with
  | none => rfl
  | some o => rw [ok.bh p o e] at hp; cases hp
theorem Gok.freeA (ok : Gok K G sh H) {p : Addr} (hp : H p = none) : ∀ k : Nat, G.al[k]? ≠ some p := fun k h => by
  obtain ⟨o, e⟩ := ok.al_there h
  rw [hp] at e
  cases e
/-- a list or dict of this frame's own, in no slot -/
def OwnR (K : PySem.W.Frag) (G : Gh) (loc : Loc) (σ : St) (H : Hp) (t : T) (v : V) : Prop :=
  ∃ a, v = .ref a ∧ G.F a = none ∧ G.B a = none ∧ (∀ k : Nat, G.al[k]? ≠ some a) ∧ (∀ (i : Nat) (x : T), loc.at i = .own x → σ[i]? ≠ some (some (.ref a))) ∧ Sha K G H a t
theorem add_le {p : Addr} {o : HO} (hp : G.F p = none) : GLe G (G.add p o) := by
  refine ⟨fun a u h => ?_, ALe.refl _, rfl⟩
  show upd G.F p o a = some u
  rw [upd_ne (ne_of_none h hp)]
  exact h
theorem ShRep.le {G' : Gh} {H' : Hp} {a : Addr} {o : SO} (l : GLe G G') (e : H' a = H a) (hd : ∀ dx, H dx = some (.own a) → H' dx = some (.own a) ∧ (G.F dx = none → G'.F dx = none) ∧ ((∀ k : Nat, G.al[k]? ≠ some dx) → ∀ k : Nat, G'.al[k]? ≠ some dx)) (h : ShRep K G H a o) : ShRep K G' H' a o := by
  cases o with
  | lst xs => exact Sha.le (t := .lst xs) l e h
  | dct kvs => exact Sha.le (t := .dct kvs) l e h
  | ins C fs =>
    obtain ⟨dx, fv, h1, h2, h3, h4, h5, h6⟩ := h
    obtain ⟨q1, q2, q3⟩ := hd dx h3
    exact ⟨dx, fv, e.trans h1, RepFs.mono l.f l.a h2, q1, q2 h4, by rw [l.b]; exact h5, q3 h6⟩
  | tab d q =>
    obtain ⟨h0, ps, h1, h2, h3⟩ := h
    exact ⟨h0, ps, e.trans h1, h2, fun p cv hc => by
      obtain ⟨c, e1, e2⟩ := h3 p cv hc
      exact ⟨c, e1, l.f _ _ e2⟩⟩
theorem slotOk.le {G' : Gh} {H' : Hp} {s : Slot} {o : Option (Option V)} (l : GLe G G') (hw : ∀ a x, s = .own x → o = some (some (.ref a)) → G.F a = none → G.B a = none → (∀ k : Nat, G.al[k]? ≠ some a) → Sha K G H a x → H' a = H a ∧ G'.F a = none ∧ ∀ k : Nat, G'.al[k]? ≠ some a) (h : slotOk K G H s o) : slotOk K G' H' s o := by
  cases s with
  | no => trivial
  | t x => obtain ⟨v, e, r⟩ := h; exact ⟨v, e, rep_le l r⟩
  | own x =>
    obtain ⟨a, e, h1, h2, h3, h4⟩ := h
    obtain ⟨q1, q2, q3⟩ := hw a x rfl e h1 h2 h3 h4
    exact ⟨a, e, q2, by rw [l.b]; exact h2, q3, h4.le l q1⟩
/-- a new object: tracked, nobody's yet -/
theorem Ok.grow (ok : Ok K G loc sh σ H) {p : Addr} {o : HO} (hp : H p = none) : Ok K G loc sh σ (upd H p o) := by
  have keep : ∀ {a u}, H a = some u → upd H p o a = H a := fun h => upd_ne (ne_of_none h hp)
  refine ⟨⟨fun a u h => (keep (ok.fh a u h)).trans (ok.fh a u h), fun a u h => (keep (ok.bh a u h)).trans (ok.bh a u h), ok.dis, ok.alf, ok.ali, ok.all, fun k u h => ?_⟩, ok.len, fun i => ?_, ok.sep⟩
  · obtain ⟨a, h1, h2⟩ := ok.shr k u h
    obtain ⟨u', e⟩ := h2.there
    exact ⟨a, h1, h2.le (GLe.refl _) (keep e) fun dx hd => ⟨(keep hd).trans hd, id, id⟩⟩
  · refine (ok.sl i).le (GLe.refl _) fun a x _ _ h1 _ h3 h4 => ?_
    obtain ⟨u', e⟩ := h4.there
    exact ⟨keep e, h1, h3⟩
/-- what stands at p, nobody's, becomes a tree's -/
theorem Ok.freeze (ok : Ok K G loc sh σ H) {p : Addr} {o : HO} (hp : H p = some o) (nF : G.F p = none) (nB : G.B p = none) (nA : ∀ k : Nat, G.al[k]? ≠ some p) (nS : ∀ (i : Nat) (x : T), loc.at i = .own x → σ[i]? ≠ some (some (.ref p))) (nO : ∀ x, o ≠ .own x) : Ok K (G.add p o) loc sh σ H := by
  refine ⟨⟨fun a u h => ?_, ok.bh, fun a => ?_, fun k a h => ?_, ok.ali, ok.all, fun k u h => ?_⟩, ok.len, fun i => ?_, ok.sep⟩
  · have h' : upd G.F p o a = some u := h
    by_cases e : a = p
    · subst e
      rw [upd_same] at h'
      cases h'
      exact hp
    · rw [upd_ne e] at h'
      exact ok.fh a u h'
  · by_cases e : a = p
    · subst e; exact .inr nB
    · rcases ok.dis a with h | h
      · exact .inl ((upd_ne e).trans h)
      · exact .inr h
  · have e : a ≠ p := fun z => nA k (z ▸ h)
    obtain ⟨h1, h2⟩ := ok.alf k a h
    exact ⟨(upd_ne e).trans h1, h2⟩
  · obtain ⟨a, h1, h2⟩ := ok.shr k u h
    refine ⟨a, h1, h2.le (add_le nF) rfl fun dx hd => ⟨hd, fun z => (upd_ne fun q => ?_).trans z, id⟩⟩
    subst q
    rw [hp] at hd
    exact nO _ (Option.some.inj hd)
  · refine (ok.sl i).le (add_le nF) fun a x es eo h1 _ h3 h4 => ⟨rfl, (upd_ne fun q => ?_).trans h1, h3⟩
    subst q
    exact nS i x es eo
theorem OwnR.freeze (ok : Ok K G loc sh σ H) {t : T} {v : V} (h : OwnR K G loc σ H t v) : ∃ G', GLe G G' ∧ Ok K G' loc sh σ H ∧ rep K G' t v := by
  obtain ⟨a, rfl, nF, nB, nA, nS, hs⟩ := h
  cases t with
  | lst xs =>
    obtain ⟨vs, h1, h2, h3⟩ := hs
    exact ⟨_, add_le nF, ok.freeze h1 nF nB nA nS (fun _ z => nomatch z), a, vs, rfl, upd_same, repL_le (add_le nF) h2, h3⟩
  | dct kvs =>
    obtain ⟨vs, h1, h2, h3⟩ := hs
    exact ⟨_, add_le nF, ok.freeze h1 nF nB nA nS (fun _ z => nomatch z), a, vs, rfl, .inl upd_same, RepD.mono (add_le nF).f (ALe.refl _) _ _ h2, h3⟩
  | _ => exact hs.elim
/-- a new list or dict -/
theorem Ok.newOwn (ok : Ok K G loc sh σ H) {p : Addr} {o : HO} {t : T} (hp : H p = none) (hs : Sha K G (upd H p o) p t) : Ok K G loc sh σ (upd H p o) ∧ OwnR K G loc σ (upd H p o) t (.ref p) := by
  refine ⟨ok.grow hp, p, rfl, ok.freeF hp, ok.freeB hp, ok.freeA hp, fun i x es eo => ?_, hs⟩
  have h := ok.sl i
  rw [es] at h
  obtain ⟨a, e, _, _, _, h4⟩ := h
  rw [eo] at e
  cases e
  obtain ⟨u, e⟩ := h4.there
  rw [hp] at e
  cases e
/-- a new tuple -/
theorem Ok.newTup (ok : Ok K G loc sh σ H) {p : Addr} {vs : List V} {xs : List T} (hp : H p = none) (r : repL K G xs vs) (l : xs.length ≤ sizeLine) : ∃ G', GLe G G' ∧ Ok K G' loc sh σ (upd H p (.tup vs)) ∧ rep K G' (.tup xs) (.ref p) := by
  have nF := ok.freeF hp
  refine ⟨G.add p (.tup vs), add_le nF, (ok.grow hp).freeze upd_same nF (ok.freeB hp) (ok.freeA hp) (fun i x es eo => ?_) (fun _ z => nomatch z), p, vs, rfl, .inl (.inl upd_same), repL_le (add_le nF) r, l⟩
  have h := ok.sl i
  rw [es] at h
  obtain ⟨a, e, _, _, _, h4⟩ := h
  rw [eo] at e
  cases e
  obtain ⟨u, e⟩ := h4.there
  rw [hp] at e
  cases e
end
end TL
/-! the T-layer, 1: judgements, expressions -/
namespace TL
open PySem PySem.Spec L2
theorem PE.weak {X : Cx} {e : Expr} {t t' : TE} (h : PE X e t) (w : ∀ σ H Q, t' σ H Q → t σ H Q) : PE X e t' := ⟨fun pins s σ H Q I q => h.run pins s σ H Q I (w σ H Q q)⟩
theorem PT.weak {X : Cx} {e : Expr} {t t' : TT} (h : PT X e t) (w : ∀ σ H Q, t' σ H Q → t σ H Q) : PT X e t' := ⟨fun pins s σ H Q I q => h.run pins s σ H Q I (w σ H Q q)⟩
theorem PW.weak {X : Cx} {e : Expr} {t t' : TT} (h : PW X e t) (w : ∀ σ H Q, t' σ H Q → t σ H Q) : PW X e t' := ⟨fun wh pins s σ H Q I q => h.run wh pins s σ H Q I (w σ H Q q)⟩
theorem PA.weak {X : Cx} {e : List Expr} {t t' : TA} (h : PA X e t) (w : ∀ σ H Q, t' σ H Q → t σ H Q) : PA X e t' := ⟨fun pos pins s σ H Q I q => h.run pos pins s σ H Q I (w σ H Q q)⟩
theorem PS.weak {X : Cx} {e : Stmt} {t t' : TS} (h : PS X e t) (w : ∀ D σ H, t' D σ H → t D σ H) : PS X e t' := ⟨fun pins s σ H D I q => h.run pins s σ H D I (w D σ H q)⟩
theorem PSs.weak {X : Cx} {e : List Stmt} {t t' : TS} (h : PSs X e t) (w : ∀ D σ H, t' D σ H → t D σ H) : PSs X e t' := ⟨fun pins s σ H D I q => h.run pins s σ H D I (w D σ H q)⟩
theorem PI.weak {X : Cx} {tg e : Expr} {t t' : TI} (h : PI X tg e t) (w : ∀ σ H Q, t' σ H Q → t σ H Q) : PI X tg e t' := ⟨fun pins s σ H Q I q => h.run pins s σ H Q I (w σ H Q q)⟩
theorem PE.or {X : Cx} {e : Expr} {t t' : TE} (h : PE X e t) (h' : PE X e t') : PE X e (fun σ H Q => t σ H Q ∨ t' σ H Q) := ⟨fun pins s σ H Q I q => q.elim (h.run pins s σ H Q I) (h'.run pins s σ H Q I)⟩
theorem PI.or {X : Cx} {tg e : Expr} {t t' : TI} (h : PI X tg e t) (h' : PI X tg e t') : PI X tg e (fun σ H Q => t σ H Q ∨ t' σ H Q) := ⟨fun pins s σ H Q I q => q.elim (h.run pins s σ H Q I) (h'.run pins s σ H Q I)⟩
theorem TruR.or {X : Cx} {r r' : V → Hp → (Bool → Hp → Prop) → Prop} (h : TruR X r) (h' : TruR X r') : TruR X (fun x H Q => r x H Q ∨ r' x H Q) := fun pins s σ H x v Q I rv q => q.elim (h pins s σ H x v Q I rv) (h' pins s σ H x v Q I rv)
/-- an exception's object -/
def ExOk (K : PySem.W.Frag) (G : Gh) (H : Hp) (e : Ex) (d : Option Addr) : Prop := ∃ dd fv, d = some dd ∧ H dd = some (.xd fv) ∧ RepFs K G.F G.al e.fs fv
/-- what an evaluation leaves -/
def post {α β : Type} (Rp : Gh → Hp → α → β → Prop) (K : PySem.W.Frag) (W : WX) (G : Gh) (loc : Loc) (σ : St) (r : Res α) (Q : β → Hp → Prop) : Prop := match r with
  | .ok t sh => ∀ v H' G', GLe G G' → Ok K G' loc sh σ H' → Rp G' H' t v → Q v H'
  | .exc e sh => ∀ d H' G', GLe G G' → Ok K G' loc sh σ H' → ExOk K G' H' e d → W (.ref (He.ga K e.cls)) d σ H'
  | .bad => False
section
variable {α β γ δ : Type} {Rp Rp1 : Gh → Hp → α → β → Prop} {Rq : Gh → Hp → γ → δ → Prop} {K : PySem.W.Frag} {W : WX} {G G' : Gh} {loc : Loc} {σ : St} {r : Res α}
theorem post.le (l : GLe G G') {Q : β → Hp → Prop} (h : post Rp K W G loc σ r Q) : post Rp K W G' loc σ r Q := by
  cases r with
  | ok t sh => exact fun v H' G2 l2 => h v H' G2 (l.trans l2)
  | exc e sh => exact fun v H' G2 l2 => h v H' G2 (l.trans l2)
  | bad => exact h
theorem post.imp {Q Q' : β → Hp → Prop} (h : post Rp K W G loc σ r Q) (i : ∀ v H, Q v H → Q' v H) : post Rp K W G loc σ r Q' := by
  cases r with
  | ok t sh => exact fun v H' G2 l2 o p => i _ _ (h v H' G2 l2 o p)
  | exc e sh => exact h
  | bad => exact h
theorem post.bind {k : α → Sh → Res γ} {Q : δ → Hp → Prop} (h : post Rq K W G loc σ (r.bind k) Q) :
    post Rp K W G loc σ r (fun v H' => ∃ G' a sh', GLe G G' ∧ Ok K G' loc sh' σ H' ∧ Rp G' H' a v ∧ post Rq K W G' loc σ (k a sh') Q) := by
  cases r with
  | ok t sh => exact fun v H' G2 l2 o p => ⟨G2, t, sh, l2, o, p, post.le l2 h⟩
  | exc e sh => exact h
  | bad => exact h
end
abbrev rpV (K : PySem.W.Frag) : Gh → Hp → T → V → Prop := fun G _ t v => rep K G t v
abbrev rpL (K : PySem.W.Frag) : Gh → Hp → List T → List V → Prop := fun G _ t v => repL K G t v
abbrev rpB : Gh → Hp → Bool → Bool → Prop := fun _ _ a b => b = a
def lift (K : PySem.W.Frag) (W : WX) (ev : Ev) : TE := fun σ H Q => ∃ G loc sh, Ok K G loc sh σ H ∧ post (rpV K) K W G loc σ (ev loc sh) Q
/-- a new list or dict comes -/
def liftO (K : PySem.W.Frag) (W : WX) (ev : Ev) : TE := fun σ H Q => ∃ G loc sh, Ok K G loc sh σ H ∧ post (fun G H t v => OwnR K G loc σ H t v) K W G loc σ (ev loc sh) Q
def liftT (K : PySem.W.Frag) (W : WX) (ev : Loc → Sh → Res Bool) : TT := fun σ H Q => ∃ G loc sh, Ok K G loc sh σ H ∧ post rpB K W G loc σ (ev loc sh) Q
def liftA (K : PySem.W.Frag) (W : WX) (ev : EvL) : TA := fun σ H Q => ∃ G loc sh, Ok K G loc sh σ H ∧ post (rpL K) K W G loc σ (ev loc sh) Q
abbrev TPE (X : Cx) (W : WX) (e : Expr) (ev : Ev) : Prop := PE X e (lift X.K W ev)
abbrev TPO (X : Cx) (W : WX) (e : Expr) (ev : Ev) : Prop := PE X e (liftO X.K W ev)
abbrev TPT (X : Cx) (W : WX) (e : Expr) (ev : Loc → Sh → Res Bool) : Prop := PT X e (liftT X.K W ev)
abbrev TPW (X : Cx) (W : WX) (e : Expr) (ev : Loc → Sh → Res Bool) : Prop := PW X e (liftT X.K W ev)
abbrev TPA (X : Cx) (W : WX) (es : List Expr) (ev : EvL) : Prop := PA X es (liftA X.K W ev)
section
variable {X : Cx} {W : WX} {a b c : Expr} {ea eb ec : Ev} {pos : Pos}
/-- a new list or dict, never changed again -/
theorem fz (h : TPO X W a ea) : TPE X W a ea := PE.weak h fun σ H Q ⟨G, loc, sh, ok, p⟩ => ⟨G, loc, sh, ok, by
  cases e : ea loc sh with
  | ok t s =>
    rw [e] at p
    intro v H' G' le ok' o
    obtain ⟨G2, l2, ok2, r⟩ := OwnR.freeze ok' o
    exact p v H' G2 (le.trans l2) ok2 r
  | exc x s => rw [e] at p; exact p
  | bad => rw [e] at p; exact p⟩
/-! ### names, constants -/
def eVar (i : Nat) : Ev := fun l s => match l.at i with
  | .t x => .ok x s
  | _ => .bad
def eC (t : T) : Ev := fun _ s => .ok t s
theorem t_var {i : Nat} {x : Str} (h : PE X (.Name x pos) (tVar i)) : TPE X W (.Name x pos) (eVar i) := PE.weak h fun σ H Q ⟨G, loc, sh, ok, p⟩ => by
  have q := ok.sl i
  unfold eVar at p
  revert p q
  cases loc.at i with
  | no => exact fun p _ => p.elim
  | own x => exact fun p _ => p.elim
  | t x => exact fun p ⟨v, e, r⟩ => ⟨v, e, p v H G (GLe.refl G) ok r⟩
theorem t_c {e : Expr} {v : V} {t : T} (h : PE X e (tC v)) (r : ∀ F al, Rep X.K F al t v) : TPE X W e (eC t) := PE.weak h fun σ H Q ⟨G, loc, sh, ok, p⟩ => p v H G (GLe.refl G) ok (r _ _)
theorem t_int {i j} : TPE X W (.Constant (.int i) j pos) (eC (.int i)) := t_c pe_int fun _ _ => rfl
theorem t_bl {b j} : TPE X W (.Constant (.bool b) j pos) (eC (.bl b)) := t_c pe_bl fun _ _ => rfl
theorem t_non {j} : TPE X W (.Constant .none j pos) (eC .non) := t_c pe_non fun _ _ => rfl
theorem t_str {x j} (h : x.length ≤ sizeLine := by decide +kernel) : TPE X W (.Constant (.str x) j pos) (eC (.str x)) := t_c pe_str fun _ _ => ⟨rfl, h⟩
/-! ### operations on two values -/
def e1 (f : T → Sh → Res T) (a : Ev) : Ev := fun l s => (a l s).bind fun x s1 => f x s1
def e2 (f : T → T → Sh → Res T) (a b : Ev) : Ev := fun l s => (a l s).bind fun x s1 => (b l s1).bind fun y s2 => f x y s2
/-- the rule r serves the function f -/
def Sv2 (K : PySem.W.Frag) (r : R2) (f : T → T → Sh → Res T) : Prop :=
  ∀ (W : WX) (G : Gh) (loc : Loc) (sh : Sh) (σ : St) (H : Hp) (x y : V) (tx ty : T) (Q : VK), Ok K G loc sh σ H → rep K G tx x → rep K G ty y → post (rpV K) K W G loc σ (f tx ty sh) Q → r x y H Q
theorem lift2 {r : R2} {f : T → T → Sh → Res T} (hf : Sv2 X.K r f) {σ : St} {H : Hp} {Q : VK} (h : lift X.K W (e2 f ea eb) σ H Q) : tOp r (lift X.K W ea) (lift X.K W eb) σ H Q := by
  obtain ⟨G, loc, sh, ok, p⟩ := h
  refine ⟨G, loc, sh, ok, (post.bind (Rp := rpV X.K) p).imp ?_⟩
  rintro x H1 ⟨G1, tx, s1, l1, ok1, r1, p1⟩
  refine ⟨G1, loc, s1, ok1, (post.bind (Rp := rpV X.K) p1).imp ?_⟩
  rintro y H2 ⟨G2, ty, s2, l2, ok2, r2, p2⟩
  exact hf W G2 loc s2 σ H2 x y tx ty Q ok2 (rep_le l2 r1) r2 p2
theorem t_op {op : Operator} {r : R2} {f : T → T → Sh → Res T} (ho : OpR X (binaryOp op) r) (hf : Sv2 X.K r f) (ha : TPE X W a ea) (hb : TPE X W b eb) : TPE X W (.BinOp a op b pos) (e2 f ea eb) := PE.weak (pe_op ho ha hb) fun _ _ _ h => lift2 hf h
theorem t_cmp {op : CmpOp} {r : R2} {f : T → T → Sh → Res T} (ho : OpR X (compareOp op) r) (hf : Sv2 X.K r f) (ha : TPE X W a ea) (hb : TPE X W b eb) (hm : behindInMarks op b = false) : TPE X W (.Compare a [op] [b] pos) (e2 f ea eb) := PE.weak (pe_cmpR ho ha hb hm) fun _ _ _ h => lift2 hf h
/-- a value that is a bool, as a test -/
def truB : T → Sh → Res Bool
  | .bl b, s => .ok b s
  | _, _ => .bad
def eT (a : Ev) : Loc → Sh → Res Bool := fun l s => (a l s).bind truB
theorem liftTB {te : TE} {σ : St} {H : Hp} {Q : Bool → Hp → Prop} (hw : ∀ Q, lift X.K W ea σ H Q → te σ H Q) (h : liftT X.K W (eT ea) σ H Q) : te σ H fun x H1 => ∃ k, x = V.bl k ∧ Q k H1 := by
  obtain ⟨G, loc, sh, ok, p⟩ := h
  refine hw _ ⟨G, loc, sh, ok, (post.bind (Rp := rpV X.K) p).imp ?_⟩
  rintro x H1 ⟨G1, tx, s1, l1, ok1, r1, p1⟩
  cases tx with
  | bl b => exact ⟨b, r1, p1 b H1 G1 (GLe.refl _) ok1 rfl⟩
  | _ => exact p1.elim
theorem tt_cmp {op : CmpOp} {r : R2} {f : T → T → Sh → Res T} (ho : OpR X (compareOp op) r) (hf : Sv2 X.K r f) (ha : TPE X W a ea) (hb : TPE X W b eb) (hm : behindInMarks op b = false) : TPT X W (.Compare a [op] [b] pos) (eT (e2 f ea eb)) :=
  PT.weak (pt_cmpR ho ha hb hm) fun _ _ _ h => liftTB (te := tOp r (lift X.K W ea) (lift X.K W eb)) (fun _ => lift2 hf) h
/-- any value whose truth is a bool -/
theorem tt_val (h : TPE X W a ea) (he : ∀ whole, isTrue a X.env whole = (do let v ← whole; standAt a.pos; holding [v] (truthy v)) := by intro _; rfl) : TPT X W a (eT ea) :=
  PT.weak (pt_val h he) fun _ _ _ h => liftTB (te := lift X.K W ea) (fun _ => id) h
/-! ### a if c else b, and, or, not -/
def eIf (c : Loc → Sh → Res Bool) (a b : Ev) : Ev := fun l s => (c l s).bind fun k s1 => if k then a l s1 else b l s1
theorem t_if {tc : Loc → Sh → Res Bool} (hc : TPT X W c tc) (ha : TPE X W a ea) (hb : TPE X W b eb) : TPE X W (.IfExp c a b pos) (eIf tc ea eb) := PE.weak (pe_ifExp hc ha hb) fun σ H Q ⟨G, loc, sh, ok, p⟩ => by
  refine ⟨G, loc, sh, ok, (post.bind (Rp := rpB) p).imp ?_⟩
  rintro k H1 ⟨G1, k', s1, l1, ok1, rfl, p1⟩
  cases k with
  | true => exact iteT ⟨G1, loc, s1, ok1, p1⟩
  | false => exact iteF ⟨G1, loc, s1, ok1, p1⟩
def eAnd (a b : Ev) : Ev := fun l s => (a l s).bind fun x s1 => match x with
  | .bl true => b l s1
  | .bl false => .ok (.bl false) s1
  | _ => .bad
def eOr (a b : Ev) : Ev := fun l s => (a l s).bind fun x s1 => match x with
  | .bl true => .ok (.bl true) s1
  | .bl false => b l s1
  | _ => .bad
def eNot (a : Ev) : Ev := fun l s => (a l s).bind fun x s1 => match x with
  | .bl k => .ok (.bl (!k)) s1
  | _ => .bad
variable {rest : List Expr}
theorem t_one {op} (h : TPE X W a ea) : TPE X W (.BoolOp op [a] pos) ea := pe_one h
theorem t_and (ha : TPE X W a ea) (hb : TPE X W (.BoolOp .And (b :: rest) pos) eb) : TPE X W (.BoolOp .And (a :: b :: rest) pos) (eAnd ea eb) := PE.weak (pe_and ha hb) fun σ H Q ⟨G, loc, sh, ok, p⟩ => by
  refine ⟨G, loc, sh, ok, (post.bind (Rp := rpV X.K) p).imp ?_⟩
  rintro x H1 ⟨G1, tx, s1, l1, ok1, r1, p1⟩
  cases tx with
  | bl k =>
    cases k with
    | true => exact ⟨true, r1, iteT ⟨G1, loc, s1, ok1, p1⟩⟩
    | false => exact ⟨false, r1, iteF (p1 (.bl false) H1 G1 (GLe.refl _) ok1 rfl)⟩
  | _ => exact p1.elim
theorem t_not (ha : TPE X W a ea) : TPE X W (.UnaryOp .Not a pos) (eNot ea) := PE.weak (pe_not ha) fun σ H Q ⟨G, loc, sh, ok, p⟩ => by
  refine ⟨G, loc, sh, ok, (post.bind (Rp := rpV X.K) p).imp ?_⟩
  rintro x H1 ⟨G1, tx, s1, l1, ok1, r1, p1⟩
  cases tx with
  | bl k => exact ⟨k, r1, p1 (.bl (!k)) H1 G1 (GLe.refl _) ok1 rfl⟩
  | _ => exact p1.elim
abbrev Et := Loc → Sh → Res Bool
variable {ta tb : Et}
def cAnd (a b : Et) : Et := fun l s => (a l s).bind fun k s1 => if k then b l s1 else .ok false s1
def cOr (a b : Et) : Et := fun l s => (a l s).bind fun k s1 => if k then .ok true s1 else b l s1
def cNot (a : Et) : Et := fun l s => (a l s).bind fun k s1 => .ok (!k) s1
theorem tw_and1 (ha : TPT X W a ta) : TPW X W (.BoolOp .And [a] pos) ta := pw_and1 ha
theorem tw_or1 (ha : TPT X W a ta) : TPW X W (.BoolOp .Or [a] pos) ta := pw_or1 ha
theorem tw_and (ha : TPT X W a ta) (hb : TPW X W (.BoolOp .And (b :: rest) pos) tb) : TPW X W (.BoolOp .And (a :: b :: rest) pos) (cAnd ta tb) := PW.weak (pw_and ha hb) fun σ H Q ⟨G, loc, sh, ok, p⟩ => by
  refine ⟨G, loc, sh, ok, (post.bind (Rp := rpB) p).imp ?_⟩
  rintro k H1 ⟨G1, k', s1, l1, ok1, rfl, p1⟩
  cases k with
  | true => exact iteT ⟨G1, loc, s1, ok1, p1⟩
  | false => exact iteF (p1 false H1 G1 (GLe.refl _) ok1 rfl)
theorem tw_or (ha : TPT X W a ta) (hb : TPW X W (.BoolOp .Or (b :: rest) pos) tb) : TPW X W (.BoolOp .Or (a :: b :: rest) pos) (cOr ta tb) := PW.weak (pw_or ha hb) fun σ H Q ⟨G, loc, sh, ok, p⟩ => by
  refine ⟨G, loc, sh, ok, (post.bind (Rp := rpB) p).imp ?_⟩
  rintro k H1 ⟨G1, k', s1, l1, ok1, rfl, p1⟩
  cases k with
  | false => exact iteF ⟨G1, loc, s1, ok1, p1⟩
  | true => exact iteT (p1 true H1 G1 (GLe.refl _) ok1 rfl)
theorem tt_w (h : TPW X W a ta) : TPT X W a ta := PW.pt h
theorem tt_not (ha : TPT X W a ta) : TPT X W (.UnaryOp .Not a pos) (cNot ta) := PT.weak (pt_not ha) fun σ H Q ⟨G, loc, sh, ok, p⟩ => by
  refine ⟨G, loc, sh, ok, (post.bind (Rp := rpB) p).imp ?_⟩
  rintro k H1 ⟨G1, k', s1, l1, ok1, rfl, p1⟩
  exact p1 (!k) H1 G1 (GLe.refl _) ok1 rfl
/-! ### argument lists -/
variable {e : Expr} {es : List Expr} {eL : EvL}
def aNil : EvL := fun _ s => .ok [] s
def aCons (a : Ev) (r : EvL) : EvL := fun l s => (a l s).bind fun x s1 => (r l s1).bind fun xs s2 => .ok (x :: xs) s2
theorem ta_nil : TPA X W [] aNil := PA.weak pa_nil fun σ H Q ⟨G, loc, sh, ok, p⟩ => p [] H G (GLe.refl _) ok rfl
theorem ta_cons (ha : TPE X W e ea) (hr : TPA X W es eL) (hs : starEach (e :: es) X.env = (false, eval e X.env) :: starEach es X.env := by rfl) : TPA X W (e :: es) (aCons ea eL) := PA.weak (pa_cons ha hr hs) fun σ H Q ⟨G, loc, sh, ok, p⟩ => by
  refine ⟨G, loc, sh, ok, (post.bind (Rp := rpV X.K) p).imp ?_⟩
  rintro x H1 ⟨G1, tx, s1, l1, ok1, r1, p1⟩
  refine ⟨G1, loc, s1, ok1, (post.bind (Rp := rpL X.K) p1).imp ?_⟩
  rintro xs H2 ⟨G2, txs, s2, l2, ok2, r2, p2⟩
  exact p2 (x :: xs) H2 G2 (GLe.refl _) ok2 ⟨x, xs, rfl, rep_le l2 r1, r2⟩
/-! ### displays -/
def dLst : List T → Sh → Res T := fun xs s => if xs.length ≤ sizeLine then .ok (.lst xs) s else .bad
def dTup : List T → Sh → Res T := fun xs s => if xs.length ≤ sizeLine then .ok (.tup xs) s else .bad
def eA (f : List T → Sh → Res T) (a : EvL) : Ev := fun l s => (a l s).bind fun xs s1 => f xs s1
theorem t_lst (h : TPA X W es eL) : TPO X W (.List es pos) (eA dLst eL) := PE.weak (pe_lst h) fun σ H Q ⟨G, loc, sh, ok, p⟩ => by
  refine ⟨G, loc, sh, ok, (post.bind (Rp := rpL X.K) p).imp ?_⟩
  rintro xs H1 ⟨G1, txs, s1, l1, ok1, r1, p1⟩
  by_cases hz : txs.length ≤ sizeLine
  · have e : dLst txs s1 = .ok (.lst txs) s1 := if_pos hz
    rw [e] at p1
    refine ⟨by rw [RepL.length r1]; exact hz, fun q hq => ?_⟩
    obtain ⟨ok2, o⟩ := ok1.newOwn (o := .lst xs) (t := .lst txs) hq ⟨xs, upd_same, r1, hz⟩
    exact p1 _ _ G1 (GLe.refl _) ok2 o
  · have e : dLst txs s1 = .bad := if_neg hz
    rw [e] at p1
    exact p1.elim
theorem t_tup {k} (h : TPA X W es eL) : TPE X W (.Tuple es k pos) (eA dTup eL) := PE.weak (pe_tup h) fun σ H Q ⟨G, loc, sh, ok, p⟩ => by
  refine ⟨G, loc, sh, ok, (post.bind (Rp := rpL X.K) p).imp ?_⟩
  rintro xs H1 ⟨G1, txs, s1, l1, ok1, r1, p1⟩
  by_cases hz : txs.length ≤ sizeLine
  · have e : dTup txs s1 = .ok (.tup txs) s1 := if_pos hz
    rw [e] at p1
    refine ⟨by rw [RepL.length r1]; exact hz, fun q hq => ?_⟩
    obtain ⟨G2, l2, ok2, r2⟩ := ok1.newTup hq r1 hz
    exact p1 _ _ G2 l2 ok2 r2
  · have e : dTup txs s1 = .bad := if_neg hz
    rw [e] at p1
    exact p1.elim
/-- {} -/
theorem t_dnew : TPO X W (.Dict [] [] pos) (eC (.dct [])) := PE.weak pe_dnewK fun σ H Q ⟨G, loc, sh, ok, p⟩ => fun q hq => by
  obtain ⟨ok2, o⟩ := ok.newOwn (o := .dK []) (t := .dct []) hq ⟨[], upd_same, rfl, DOk.nil⟩
  exact p _ _ G (GLe.refl _) ok2 o
end
end TL
/-! the T-layer, 2: statements, targets, loops -/
namespace TL
open PySem PySem.Spec L2
/-! ### slots -/
theorem Loc.at_set {l : Loc} {i j : Nat} {s : Slot} : Loc.at (l.set i s) j = if i = j ∧ j < l.length then s else l.at j := by
  unfold Loc.at
  rw [List.getElem?_set]
  by_cases e : i = j
  · subst e
    by_cases h : i < l.length
    · simp [h]
    · simp [h, List.getElem?_eq_none (Nat.le_of_not_lt h)]
  · simp [e]
section
variable {K : PySem.W.Frag} {G G' : Gh} {loc loc' : Loc} {sh sh' : Sh} {σ σ' : St} {H H' : Hp} {i : Nat}
theorem Ok.setT (ok : Ok K G loc sh σ H) {t : T} {v : V} (r : rep K G t v) : Ok K G (loc.set i (.t t)) sh (σ.set i (some v)) H := by
  refine ⟨ok.toGok, by rw [List.length_set, List.length_set]; exact ok.len, fun j => ?_, fun a b x y p h1 h2 h3 h4 => ?_⟩
  · rw [Loc.at_set]
    by_cases e : i = j ∧ j < loc.length
    · rw [if_pos e]
      obtain ⟨rfl, hj⟩ := e
      refine ⟨v, ?_, r⟩
      rw [List.getElem?_set_self (by rw [← ok.len]; exact hj)]
    · rw [if_neg e]
      by_cases e1 : i = j
      · subst e1
        have hj : loc.length ≤ i := Nat.le_of_not_lt fun z => e ⟨rfl, z⟩
        rw [List.set_eq_of_length_le (by rw [← ok.len]; exact hj)]
        exact ok.sl i
      · rw [List.getElem?_set_ne e1]
        exact ok.sl j
  · rw [Loc.at_set] at h2 h3
    by_cases ea : i = a ∧ a < loc.length
    · rw [if_pos ea] at h2; cases h2
    · by_cases eb : i = b ∧ b < loc.length
      · rw [if_pos eb] at h3; cases h3
      · rw [if_neg ea] at h2
        rw [if_neg eb] at h3
        have st : ∀ {c : Nat}, ¬ (i = c ∧ c < loc.length) → (σ.set i (some v))[c]? = σ[c]? := fun {c} q => by
          by_cases e1 : i = c
          · subst e1
            have hj : loc.length ≤ i := Nat.le_of_not_lt fun z => q ⟨rfl, z⟩
            rw [List.set_eq_of_length_le (by rw [← ok.len]; exact hj)]
          · exact List.getElem?_set_ne e1
        rw [st ea] at h4
        rw [st eb]
        exact ok.sep a b x y p h1 h2 h3 h4
theorem Ok.setO (ok : Ok K G loc sh σ H) {t : T} {v : V} (r : OwnR K G loc σ H t v) : Ok K G (loc.set i (.own t)) sh (σ.set i (some v)) H := by
  obtain ⟨p, rfl, nF, nB, nA, nS, hs⟩ := r
  have st : ∀ {c : Nat}, ¬ (i = c ∧ c < loc.length) → (σ.set i (some (.ref p)))[c]? = σ[c]? := fun {c} q => by
    by_cases e1 : i = c
    · subst e1
      have hj : loc.length ≤ i := Nat.le_of_not_lt fun z => q ⟨rfl, z⟩
      rw [List.set_eq_of_length_le (by rw [← ok.len]; exact hj)]
    · exact List.getElem?_set_ne e1
  have se : ∀ {c : Nat}, (i = c ∧ c < loc.length) → (σ.set i (some (V.ref p)))[c]? = some (some (.ref p)) := fun {c} q => by
    obtain ⟨rfl, q⟩ := q
    exact List.getElem?_set_self (by rw [← ok.len]; exact q)
  refine ⟨ok.toGok, by rw [List.length_set, List.length_set]; exact ok.len, fun j => ?_, fun a b x y q h1 h2 h3 h4 => ?_⟩
  · rw [Loc.at_set]
    by_cases e : i = j ∧ j < loc.length
    · rw [if_pos e, se e]
      exact ⟨p, rfl, nF, nB, nA, hs⟩
    · rw [if_neg e, st e]
      exact ok.sl j
  · rw [Loc.at_set] at h2 h3
    by_cases ea : i = a ∧ a < loc.length
    · by_cases eb : i = b ∧ b < loc.length
      · exact absurd (ea.1.symm.trans eb.1) h1
      · rw [if_neg eb] at h3
        rw [se ea] at h4
        cases h4
        rw [st eb]
        exact nS b y h3
    · rw [if_neg ea] at h2
      rw [st ea] at h4
      by_cases eb : i = b ∧ b < loc.length
      · rw [se eb]
        intro z
        cases z
        exact nS a x h2 h4
      · rw [if_neg eb] at h3
        rw [st eb]
        exact ok.sep a b x y q h1 h2 h3 h4
/-- a slot's own thing, handed on: no slot has it any more -/
theorem Ok.takeO (ok : Ok K G loc sh σ H) {t : T} (e : loc.at i = .own t) : ∃ v, σ[i]? = some (some v) ∧ Ok K G (loc.set i .no) sh σ H ∧ OwnR K G (loc.set i .no) σ H t v := by
  have h := ok.sl i
  rw [e] at h
  obtain ⟨a, es, nF, nB, nA, hs⟩ := h
  refine ⟨_, es, ⟨ok.toGok, by rw [List.length_set]; exact ok.len, fun j => ?_, fun p q x y b h1 h2 h3 => ?_⟩, a, rfl, nF, nB, nA, fun j x ej eo => ?_, hs⟩
  · rw [Loc.at_set]
    by_cases c : i = j ∧ j < loc.length
    · rw [if_pos c]; trivial
    · rw [if_neg c]; exact ok.sl j
  · rw [Loc.at_set] at h2 h3
    by_cases c : i = p ∧ p < loc.length
    · rw [if_pos c] at h2; cases h2
    · by_cases d : i = q ∧ q < loc.length
      · rw [if_pos d] at h3; cases h3
      · rw [if_neg c] at h2
        rw [if_neg d] at h3
        exact ok.sep p q x y b h1 h2 h3
  · rw [Loc.at_set] at ej
    by_cases c : i = j ∧ j < loc.length
    · rw [if_pos c] at ej; cases ej
    · rw [if_neg c] at ej
      by_cases d : i = j
      · subst d
        have hi : i < loc.length := by
          rw [ok.len]
          exact (List.getElem?_eq_some_iff.mp es).1
        exact c ⟨rfl, hi⟩
      · exact ok.sep i j t x a d e ej es eo
/-- a slot's own thing is changed -/
theorem Ok.mutO (ok : Ok K G loc sh σ H) {x y : T} {a : Addr} {o : HO} (e : loc.at i = .own x) (es : σ[i]? = some (some (.ref a))) (hs : Sha K G (upd H a o) a y) : Ok K G (loc.set i (.own y)) sh σ (upd H a o) := by
  have h := ok.sl i
  rw [e] at h
  obtain ⟨a', es', nF, nB, nA, hx⟩ := h
  rw [es] at es'
  cases es'
  have hi : i < loc.length := by
    rw [ok.len]
    exact (List.getElem?_eq_some_iff.mp es).1
  refine ⟨⟨fun b u hb => ?_, fun b u hb => ?_, ok.dis, ok.alf, ok.ali, ok.all, fun k u hk => ?_⟩, by rw [List.length_set]; exact ok.len, fun j => ?_, fun p q z y' b h1 h2 h3 h4 => ?_⟩
  · rw [upd_ne (ne_of_none hb nF)]; exact ok.fh b u hb
  · rw [upd_ne (ne_of_none hb nB)]; exact ok.bh b u hb
  · obtain ⟨b, h1, h2⟩ := ok.shr k u hk
    refine ⟨b, h1, h2.le (GLe.refl _) (upd_ne fun z => nA k (z ▸ h1)) fun dx hd => ⟨(upd_ne fun z => ?_).trans hd, id, id⟩⟩
    subst z
    rcases hx.is with ⟨_, q⟩ | ⟨_, q⟩ <;> rw [q] at hd <;> cases hd
  · rw [Loc.at_set]
    by_cases c : i = j ∧ j < loc.length
    · rw [if_pos c, ← c.1, es]
      exact ⟨a, rfl, nF, nB, nA, hs⟩
    · rw [if_neg c]
      have d : i ≠ j := fun z => c ⟨z, z ▸ hi⟩
      refine (ok.sl j).le (GLe.refl _) fun b z ez eb n1 n2 n3 n4 => ⟨upd_ne fun w => ?_, n1, n3⟩
      subst w
      exact ok.sep i j x z b d e ez es eb
  · rw [Loc.at_set] at h2 h3
    have f : ∀ {c : Nat} {z : T}, (if i = c ∧ c < loc.length then Slot.own y else loc.at c) = .own z → ∃ z', loc.at c = .own z' := fun {c z} q => by
      by_cases w : i = c ∧ c < loc.length
      · exact ⟨x, w.1 ▸ e⟩
      · rw [if_neg w] at q; exact ⟨z, q⟩
    obtain ⟨z1, f1⟩ := f h2
    obtain ⟨z2, f2⟩ := f h3
    exact ok.sep p q z1 z2 b h1 f1 f2 h4
/-- the object of a slot that is a shared one is changed -/
theorem Ok.mutC (ok : Ok K G loc sh σ H) {k : Nat} {a : Addr} {so so' : SO} {o : HO} (ek : G.al[k]? = some a) (es : sh[k]? = some so) (hno : ∀ x, H a ≠ some (.own x)) (hs : ShRep K G (upd H a o) a so') : Ok K G loc (sh.set k so') σ (upd H a o) := by
  obtain ⟨nF, nB⟩ := ok.alf k a ek
  have hk : k < sh.length := (List.getElem?_eq_some_iff.mp es).1
  refine ⟨⟨fun b u hb => ?_, fun b u hb => ?_, ok.dis, ok.alf, ok.ali, by rw [List.length_set]; exact ok.all, fun j u hj => ?_⟩, ok.len, fun j => ?_, ok.sep⟩
  · rw [upd_ne (ne_of_none hb nF)]; exact ok.fh b u hb
  · rw [upd_ne (ne_of_none hb nB)]; exact ok.bh b u hb
  · by_cases e : k = j
    · subst e
      rw [List.getElem?_set_self hk] at hj
      cases hj
      exact ⟨a, ek, hs⟩
    · rw [List.getElem?_set_ne e] at hj
      obtain ⟨b, h1, h2⟩ := ok.shr j u hj
      refine ⟨b, h1, h2.le (GLe.refl _) (upd_ne fun z => e (ok.ali k j a ek (z ▸ h1))) fun dx hd => ⟨(upd_ne fun z => ?_).trans hd, id, id⟩⟩
      subst z
      exact hno _ hd
  · refine (ok.sl j).le (GLe.refl _) fun b z ez eb n1 n2 n3 n4 => ⟨upd_ne fun w => ?_, n1, n3⟩
    subst w
    exact n3 k ek
/-- slots forgotten -/
def wipeL (l : Loc) : List Nat → Loc
  | [] => l
  | v :: vs => (wipeL l vs).set v .no
theorem wipeL_length (l : Loc) : ∀ vs, (wipeL l vs).length = l.length
  | [] => rfl
  | v :: vs => by
    show ((wipeL l vs).set v .no).length = _
    rw [List.length_set]; exact wipeL_length l vs
theorem wipeL_at (l : Loc) : ∀ (vs : List Nat) (j : Nat), (wipeL l vs).at j = if j ∈ vs then .no else l.at j
  | [], j => by simp [wipeL]
  | v :: vs, j => by
    show Loc.at ((wipeL l vs).set v .no) j = _
    rw [Loc.at_set, wipeL_length]
    by_cases e : v = j
    · subst e
      by_cases h : v < l.length
      · simp [h]
      · have : l.at v = .no := by unfold Loc.at; rw [List.getElem?_eq_none (Nat.le_of_not_lt h)]; rfl
        rw [if_neg (fun z => h z.2), wipeL_at l vs v, this]
        simp
    · rw [if_neg (fun z => e z.1), wipeL_at l vs j]
      have : j ∈ v :: vs ↔ j ∈ vs := by simp [Ne.symm e]
      simp only [this]
theorem wipe_at (σ : St) : ∀ (vs : List Nat) (j : Nat), j ∉ vs → (wipe σ vs)[j]? = σ[j]?
  | [], _, _ => rfl
  | v :: vs, j, h => by
    show ((wipe σ vs).set v none)[j]? = _
    rw [List.getElem?_set_ne (fun z => h (by simp [z]))]
    exact wipe_at σ vs j fun z => h (by simp [z])
theorem Ok.wiped (ok : Ok K G loc sh σ H) (vs : List Nat) : Ok K G (wipeL loc vs) sh (wipe σ vs) H := by
  refine ⟨ok.toGok, by rw [wipeL_length, wipe_length]; exact ok.len, fun j => ?_, fun a b x y p h1 h2 h3 h4 => ?_⟩
  · rw [wipeL_at]
    by_cases e : j ∈ vs
    · rw [if_pos e]; trivial
    · rw [if_neg e, wipe_at σ vs j e]; exact ok.sl j
  · rw [wipeL_at] at h2 h3
    by_cases ea : a ∈ vs
    · rw [if_pos ea] at h2; cases h2
    · by_cases eb : b ∈ vs
      · rw [if_pos eb] at h3; cases h3
      · rw [if_neg ea] at h2
        rw [if_neg eb] at h3
        rw [wipe_at σ vs a ea] at h4
        rw [wipe_at σ vs b eb]
        exact ok.sep a b x y p h1 h2 h3 h4
def noOwn (l : Loc) (vs : List Nat) : Bool := vs.all fun i => match l.at i with
  | .own _ => false
  | _ => true
/-- back from a block whose own slots are vs -/
theorem Ok.unwiped (ok : Ok K G loc sh σ H) {vs : List Nat} (hn : noOwn loc vs = true) (l : GLe G G') (ok' : Ok K G' loc' sh' σ' H') (hl : ∀ j, j ∉ vs → loc'.at j = loc.at j) (hs : ∀ j, j ∉ vs → σ'[j]? = σ[j]?) : Ok K G' loc sh' σ H' := by
  have no : ∀ j, j ∈ vs → ∀ x, loc.at j ≠ .own x := fun j hj x e => by
    have := List.all_eq_true.mp hn j hj
    rw [e] at this
    cases this
  refine ⟨ok'.toGok, ok.len, fun j => ?_, ok.sep⟩
  by_cases e : j ∈ vs
  · refine (ok.sl j).le l fun a x ex _ _ _ _ _ => absurd ex (no j e x)
  · have := ok'.sl j
    rw [hl j e, hs j e] at this
    exact this
end
/-! ### statements -/
/-- what a def hands back: a tree, or (m) a list or dict that nobody else has -/
def rpR (K : PySem.W.Frag) (m : Bool) : Gh → Hp → T → V → Prop := fun G H t v => if m then OwnR K G [] [] H t v else rep K G t v
def postS (K : PySem.W.Frag) (W : WX) (m : Bool) (G : Gh) (r : Fl) (D : Ends) : Prop := match r with
  | .nx loc sh => ∀ σ' H' G', GLe G G' → Ok K G' loc sh σ' H' → D.nx σ' H'
  | .bk loc sh => ∀ σ' H' G', GLe G G' → Ok K G' loc sh σ' H' → D.bk σ' H'
  | .ct loc sh => ∀ σ' H' G', GLe G G' → Ok K G' loc sh σ' H' → D.ct σ' H'
  | .rt t sh => ∀ v H' G', GLe G G' → Gok K G' sh H' → rpR K m G' H' t v → D.rt v H'
  | .exc e loc sh => ∀ d σ' H' G', GLe G G' → Ok K G' loc sh σ' H' → ExOk K G' H' e d → W (.ref (He.ga K e.cls)) d σ' H'
  | .bad => False
def liftS (K : PySem.W.Frag) (W : WX) (m : Bool) (sv : Sv) : TS := fun D σ H => ∃ G loc sh, Ok K G loc sh σ H ∧ postS K W m G (sv loc sh) D
abbrev TPS (X : Cx) (W : WX) (m : Bool) (st : Stmt) (sv : Sv) : Prop := PS X st (liftS X.K W m sv)
abbrev TPSs (X : Cx) (W : WX) (m : Bool) (st : List Stmt) (sv : Sv) : Prop := PSs X st (liftS X.K W m sv)
section
variable {K : PySem.W.Frag} {W : WX} {m : Bool} {G G' : Gh} {r : Fl} {D D' : Ends}
theorem postS.le (l : GLe G G') (h : postS K W m G r D) : postS K W m G' r D := by
  cases r with
  | nx a b => exact fun σ' H' G2 l2 => h σ' H' G2 (l.trans l2)
  | bk a b => exact fun σ' H' G2 l2 => h σ' H' G2 (l.trans l2)
  | ct a b => exact fun σ' H' G2 l2 => h σ' H' G2 (l.trans l2)
  | rt a b => exact fun σ' H' G2 l2 => h σ' H' G2 (l.trans l2)
  | exc e a b => exact fun d σ' H' G2 l2 => h d σ' H' G2 (l.trans l2)
  | bad => exact h
/-- first one, then the other -/
def sSeq (a b : Sv) : Sv := fun l s => match a l s with
  | .nx l1 s1 => b l1 s1
  | r => r
def sNil : Sv := fun l s => .nx l s
variable {X : Cx} {st : Stmt} {rest : List Stmt} {sa sb : Sv} {e : Expr} {ev : Ev} {pos : Pos}
theorem ts_nil : TPSs X W m [] sNil := PSs.weak pss_nil fun D σ H ⟨G, loc, sh, ok, p⟩ => p σ H G (GLe.refl _) ok
theorem ts_cons (ha : TPS X W m st sa) (hb : TPSs X W m rest sb) : TPSs X W m (st :: rest) (sSeq sa sb) := PSs.weak (pss_cons ha hb) fun D σ H ⟨G, loc, sh, ok, p⟩ => by
  refine ⟨G, loc, sh, ok, ?_⟩
  unfold sSeq at p
  cases h : sa loc sh with
  | nx l1 s1 =>
    rw [h] at p
    exact fun σ' H' G' l ok' => ⟨G', l1, s1, ok', postS.le l p⟩
  | bk a b => rw [h] at p; exact p
  | ct a b => rw [h] at p; exact p
  | rt a b => rw [h] at p; exact p
  | exc e a b => rw [h] at p; exact p
  | bad => rw [h] at p; exact p
theorem ts_one (ha : TPS X W m st sa) : TPSs X W m [st] sa := pss_one ha
/-- a value, then a statement with it -/
def sE {α : Type} (ev : Loc → Sh → Res α) (k : α → Sv) : Sv := fun l s => match ev l s with
  | .ok t s1 => k t l s1
  | .exc x s1 => .exc x l s1
  | .bad => .bad
theorem postS.val {α β : Type} {Rp : Gh → Hp → α → β → Prop} {ev : Loc → Sh → Res α} {k : α → Sv} {loc : Loc} {sh : Sh} {σ : St} (h : postS K W m G (sE ev k loc sh) D) :
    post Rp K W G loc σ (ev loc sh) (fun v H' => ∃ G' t sh', GLe G G' ∧ Ok K G' loc sh' σ H' ∧ Rp G' H' t v ∧ postS K W m G' (k t loc sh') D) := by
  unfold sE at h
  cases q : ev loc sh with
  | ok t s => rw [q] at h; exact fun v H' G2 l2 o p => ⟨G2, t, s, l2, o, p, postS.le l2 h⟩
  | exc x s => rw [q] at h; exact fun d H' G2 l2 o p => h d σ H' G2 l2 o p
  | bad => rw [q] at h; exact h
def sDrop (ev : Ev) : Sv := sE ev fun _ l s => .nx l s
theorem ts_expr (he : TPE X W e ev) (hs : swapsWith e none pos.line X.env = pure false := by rfl) : TPS X W m (.Expr e pos) (sDrop ev) := PS.weak (ps_expr he hs) fun D σ H ⟨G, loc, sh, ok, p⟩ => by
  refine ⟨G, loc, sh, ok, (postS.val (Rp := rpV X.K) p).imp ?_⟩
  rintro v H1 ⟨G1, t, s1, l1, ok1, r1, p1⟩
  exact p1 σ H1 G1 (GLe.refl _) ok1
def sIf (c : Et) (a b : Sv) : Sv := sE c fun k => if k then a else b
theorem ts_if {c : Expr} {tc : Et} {a b : List Stmt} (hc : TPT X W c tc) (ha : TPSs X W m a sa) (hb : TPSs X W m b sb) : TPS X W m (.If c a b pos) (sIf tc sa sb) := PS.weak (ps_if hc ha hb) fun D σ H ⟨G, loc, sh, ok, p⟩ => by
  refine ⟨G, loc, sh, ok, (postS.val (Rp := rpB) p).imp ?_⟩
  rintro k H1 ⟨G1, k', s1, l1, ok1, rfl, p1⟩
  cases k with
  | true => exact iteT ⟨G1, loc, s1, ok1, p1⟩
  | false => exact iteF ⟨G1, loc, s1, ok1, p1⟩
def sRet (ev : Ev) : Sv := sE ev fun t _ s => .rt t s
theorem ts_ret (he : TPE X W e ev) : TPS X W false (.Return (some e) pos) (sRet ev) := PS.weak (ps_ret he) fun D σ H ⟨G, loc, sh, ok, p⟩ => by
  refine ⟨G, loc, sh, ok, (postS.val (Rp := rpV X.K) p).imp ?_⟩
  rintro v H1 ⟨G1, t, s1, l1, ok1, r1, p1⟩
  exact p1 v H1 G1 (GLe.refl _) ok1.toGok r1
theorem OwnR.bare {loc : Loc} {σ : St} {H : Hp} {t : T} {v : V} (h : OwnR K G loc σ H t v) : OwnR K G [] [] H t v := by
  obtain ⟨a, e, h1, h2, h3, _, h5⟩ := h
  exact ⟨a, e, h1, h2, h3, fun i x z => (by cases z), h5⟩
theorem ts_retO (he : TPO X W e ev) : TPS X W true (.Return (some e) pos) (sRet ev) := PS.weak (ps_ret he) fun D σ H ⟨G, loc, sh, ok, p⟩ => by
  refine ⟨G, loc, sh, ok, (postS.val (Rp := fun G H t v => OwnR X.K G loc σ H t v) p).imp ?_⟩
  rintro v H1 ⟨G1, t, s1, l1, ok1, r1, p1⟩
  exact p1 v H1 G1 (GLe.refl _) ok1.toGok r1.bare
/-- return x, x an own list or dict -/
def sRetV (i : Nat) : Sv := fun l s => match l.at i with
  | .own t => .rt t s
  | _ => .bad
theorem ts_retVF {i : Nat} {x : Str} {p : Pos} (h : PE X (.Name x p) (tVar i)) : TPS X W false (.Return (some (.Name x p)) pos) (sRetV i) := PS.weak (ps_ret h) fun D σ H ⟨G, loc, sh, ok, p⟩ => by
  unfold sRetV at p
  cases q : loc.at i with
  | no => rw [q] at p; exact p.elim
  | t x => rw [q] at p; exact p.elim
  | own x =>
    rw [q] at p
    obtain ⟨v, e, ok', o⟩ := ok.takeO q
    obtain ⟨G2, l2, ok2, r⟩ := OwnR.freeze ok' o
    exact ⟨v, e, p v H G2 l2 ok2.toGok r⟩
def sRetN : Sv := fun _ s => .rt .non s
/-! ### name = value -/
def sAsg (i : Nat) (ev : Ev) : Sv := sE ev fun t l s => .nx (l.set i (.t t)) s
def sAsgO (i : Nat) (ev : Ev) : Sv := sE ev fun t l s => .nx (l.set i (.own t)) s
theorem ts_asg {i : Nat} {x : Str} {p : Pos} (h : PS X (.Assign [.Name x p] e pos) (tAsg (lift X.K W ev) (gName i))) : TPS X W m (.Assign [.Name x p] e pos) (sAsg i ev) := PS.weak h fun D σ H ⟨G, loc, sh, ok, p⟩ => by
  refine ⟨G, loc, sh, ok, (postS.val (Rp := rpV X.K) p).imp ?_⟩
  rintro v H1 ⟨G1, t, s1, l1, ok1, r1, p1⟩
  exact p1 _ H1 G1 (GLe.refl _) (ok1.setT r1)
theorem ts_asgO {i : Nat} {x : Str} {p : Pos} (h : PS X (.Assign [.Name x p] e pos) (tAsg (liftO X.K W ev) (gName i))) : TPS X W m (.Assign [.Name x p] e pos) (sAsgO i ev) := PS.weak h fun D σ H ⟨G, loc, sh, ok, p⟩ => by
  refine ⟨G, loc, sh, ok, (postS.val (Rp := fun G H t v => OwnR X.K G loc σ H t v) p).imp ?_⟩
  rintro v H1 ⟨G1, t, s1, l1, ok1, r1, p1⟩
  exact p1 _ H1 G1 (GLe.refl _) (ok1.setO r1)
end
end TL
/-! the T-layer, 3: targets, loops, comprehensions -/
namespace TL
open PySem PySem.Spec L2
/-! ### targets -/
inductive Tgt where
  | nm (i : Nat) | tp (is : List Nat)
def setAll : List Nat → List T → Loc → Option Loc
  | [], [], l => some l
  | i :: is, t :: ts, l => setAll is ts (l.set i (.t t))
  | _, _, _ => none
def setT : Tgt → T → Loc → Option Loc
  | .nm i, t, l => some (l.set i (.t t))
  | .tp is, .tup ts, l => setAll is ts l
  | .tp _, _, _ => none
def Tgt.slots : Tgt → List Nat
  | .nm i => [i]
  | .tp is => is
theorem wipe_set {σ : St} {i : Nat} {x : Option V} : ∀ {vs : List Nat}, i ∈ vs → wipe (σ.set i x) vs = wipe σ vs
  | v :: vs, h => by
    show (wipe (σ.set i x) vs).set v none = (wipe σ vs).set v none
    by_cases e : i ∈ vs
    · rw [wipe_set e]
    · have e1 : i = v := by
        rcases List.mem_cons.mp h with h | h
        · exact h
        · exact absurd h e
      subst e1
      have q : ∀ {ws : List Nat}, i ∉ ws → wipe (σ.set i x) ws = (wipe σ ws).set i x := by
        intro ws
        induction ws with
        | nil => intro _; rfl
        | cons w ws ih =>
          intro hw
          show (wipe (σ.set i x) ws).set w none = ((wipe σ ws).set w none).set i x
          rw [ih fun z => hw (by simp [z]), List.set_comm _ _ (fun z => hw (by simp [z]))]
      rw [q e, List.set_set]
def TgSem (K : PySem.W.Frag) (g : TG) (tt : Tgt) : Prop := ∀ (G : Gh) (loc : Loc) (sh : Sh) (σ : St) (H : Hp) (t : T) (v : V) (loc' : Loc) (Q : St → Hp → Prop), Ok K G loc sh σ H → rep K G t v → setT tt t loc = some loc' →
    (∀ σ', Ok K G loc' sh σ' H → (∀ j, j ∉ tt.slots → σ'[j]? = σ[j]? ∧ loc'.at j = loc.at j) → (∀ vs, (∀ i, i ∈ tt.slots → i ∈ vs) → wipe σ' vs = wipe σ vs) → Q σ' H) → g v σ H Q
structure TgOk (X : Cx) (tg : Expr) (g : TG) (tt : Tgt) : Prop where
  pg : PG X tg g
  sem : TgSem X.K g tt
section
variable {X : Cx} {pos : Pos}
theorem nm_sem {K : PySem.W.Frag} (i : Nat) : TgSem K (gName i) (.nm i) := by
  intro G loc sh σ H t v loc' Q ok r e k
  cases e
  refine k _ (ok.setT r) (fun j hj => ?_) fun vs hv => wipe_set (hv i (by simp [Tgt.slots]))
  have hij : i ≠ j := fun z => hj (by simp [Tgt.slots, z])
  exact ⟨List.getElem?_set_ne hij, by rw [Loc.at_set, if_neg (fun z => hij z.1)]⟩
def gNames : List Nat → TGs
  | [] => gNil
  | i :: is => gCons (gName i) (gNames is)
theorem gNames_sem {K : PySem.W.Frag} {G : Gh} {sh : Sh} {H : Hp} {Q : St → Hp → Prop} : ∀ (is : List Nat) (ts : List T) (vs : List V) (loc loc' : Loc) (σ : St), Ok K G loc sh σ H → repL K G ts vs → setAll is ts loc = some loc' →
    (∀ σ', Ok K G loc' sh σ' H → (∀ j, j ∉ is → σ'[j]? = σ[j]? ∧ loc'.at j = loc.at j) → (∀ ws, (∀ i, i ∈ is → i ∈ ws) → wipe σ' ws = wipe σ ws) → Q σ' H) → gNames is vs σ H Q
  | [], [], vs, loc, loc', σ, ok, r, e, k => by
    cases r
    cases e
    exact ⟨rfl, k σ ok (fun _ _ => ⟨rfl, rfl⟩) fun _ _ => rfl⟩
  | [], _ :: _, _, _, _, _, _, _, e, _ => by cases e
  | _ :: _, [], _, _, _, _, _, _, e, _ => by cases e
  | i :: is, t :: ts, _, loc, loc', σ, ok, r, e, k => by
    obtain ⟨v, rest, rfl, r1, r2⟩ := r
    refine ⟨v, rest, rfl, ?_⟩
    refine gNames_sem is ts rest _ loc' _ (ok.setT r1) r2 e fun σ' ok' h1 h2 => k σ' ok' (fun j hj => ?_) fun ws hw => ?_
    · obtain ⟨q1, q2⟩ := h1 j fun z => hj (by simp [z])
      have hij : i ≠ j := fun z => hj (by simp [z])
      exact ⟨q1.trans (List.getElem?_set_ne hij), q2.trans (by rw [Loc.at_set, if_neg (fun z => hij z.1)])⟩
    · rw [h2 ws fun i hi => hw i (by simp [hi]), wipe_set (hw i (by simp))]
theorem Gok.fle {K : PySem.W.Frag} {G : Gh} {sh : Sh} {H : Hp} (ok : Gok K G sh H) : FLe G.F H := ok.fh
theorem setAll_len : ∀ (is : List Nat) (ts : List T) (l : Loc) {l' : Loc}, setAll is ts l = some l' → ts.length = is.length
  | [], [], _, _, _ => rfl
  | [], _ :: _, _, _, e => by cases e
  | _ :: _, [], _, _, e => by cases e
  | i :: is, t :: ts, l, _, e => by rw [List.length_cons, List.length_cons, setAll_len is ts _ e]
theorem tp_sem {K : PySem.W.Frag} (is : List Nat) : TgSem K (gTup K is.length (gNames is)) (.tp is) := by
  intro G loc sh σ H t v loc' Q ok r e k
  cases t with
  | tup ts =>
    obtain ⟨a, vs, rfl, q, r, l⟩ := r
    exact ⟨a, vs, rfl, SqT.fle ok.fle q, by rw [RepL.length r]; exact setAll_len _ _ _ e, gNames_sem is ts vs loc loc' σ ok r e k⟩
  | _ => cases e
end
/-! ### what is walked -/
def Items (K : PySem.W.Frag) (G : Gh) (J : It) (items : List T) : Prop :=
  ∀ (G2 : Gh) (loc2 : Loc) (sh2 : Sh) (σ2 : St) (H2 : Hp), FLe G.F G2.F → ALe G.al G2.al → Ok K G2 loc2 sh2 σ2 H2 → ∀ i : Nat,
    (∀ t, items[i]? = some t → J.go i H2 ∧ ∀ x H3, J.yld i H2 x H3 → ∃ G3, GLe G2 G3 ∧ Ok K G3 loc2 sh2 σ2 H3 ∧ rep K G3 t x) ∧ (items.length ≤ i → J.stop i H2)
def liftI (K : PySem.W.Frag) (W : WX) (it : EvL) : TI := fun σ H R => ∃ G loc sh, Ok K G loc sh σ H ∧ post (fun G _ items J => Items K G J items) K W G loc σ (it loc sh) R
abbrev TPI (X : Cx) (W : WX) (tg e : Expr) (it : EvL) : Prop := PI X tg e (liftI X.K W it)
def charsT (x : Str) : List T := x.cps.toList.map fun c => .str ⟨#[c]⟩
def itemsT : T → Sh → Res (List T)
  | .lst xs, s => .ok xs s
  | .tup xs, s => .ok xs s
  | .str x, s => .ok (charsT x) s
  | _, _ => .bad
def itV (ev : Ev) : EvL := fun l s => (ev l s).bind itemsT
section
variable {K : PySem.W.Frag} {G : Gh}
theorem items_lst {a : Addr} {vs : List V} {xs : List T} (h : G.F a = some (.lst vs)) (r : repL K G xs vs) : Items K G (Itl K a) xs := by
  intro G2 loc2 sh2 σ2 H2 lF lA ok i
  have hH : SqL K H2 a vs := .of (ok.fh _ _ (lF _ _ h))
  refine ⟨fun t e => ?_, fun hi => ⟨vs, hH, by rw [RepL.length r]; exact hi⟩⟩
  obtain ⟨v, ev, rv⟩ := RepL.get r e
  refine ⟨⟨vs, v, hH, ev⟩, fun x H3 y => ?_⟩
  obtain ⟨rfl, y⟩ := y
  have : x = v := Option.some.inj ((y vs hH).symm.trans ev)
  subst this
  exact ⟨G2, GLe.refl _, ok, Rep.mono lF lA _ _ rv⟩
theorem items_tup {a : Addr} {vs : List V} {xs : List T} (h : SqT K G.F a vs) (r : repL K G xs vs) : Items K G (Itt K a) xs := by
  intro G2 loc2 sh2 σ2 H2 lF lA ok i
  have hH : SqT K H2 a vs := SqT.fle ok.fle (SqT.fle lF h)
  refine ⟨fun t e => ?_, fun hi => ⟨vs, hH, by rw [RepL.length r]; exact hi⟩⟩
  obtain ⟨v, ev, rv⟩ := RepL.get r e
  refine ⟨⟨vs, v, hH, ev⟩, fun x H3 y => ?_⟩
  obtain ⟨rfl, y⟩ := y
  have : x = v := Option.some.inj ((y vs hH).symm.trans ev)
  subst this
  exact ⟨G2, GLe.refl _, ok, Rep.mono lF lA _ _ rv⟩
theorem one_le : (1 : Nat) ≤ sizeLine := by decide
theorem items_str {x : Str} : Items K G (Its x) (charsT x) := by
  intro G2 loc2 sh2 σ2 H2 lF lA ok i
  have hl : (charsT x).length = x.cps.size := by unfold charsT; rw [List.length_map]; rfl
  refine ⟨fun t e => ?_, fun hi => by rw [hl] at hi; exact hi⟩
  have hi : i < x.cps.size := by rw [← hl]; exact (List.getElem?_eq_some_iff.mp e).1
  refine ⟨hi, fun v H3 y => ?_⟩
  obtain ⟨rfl, c, ec, rfl⟩ := y
  have e2 : t = .str ⟨#[c]⟩ := by
    unfold charsT at e
    rw [List.getElem?_map, Array.getElem?_toList, ec] at e
    exact (Option.some.inj e).symm
  subst e2
  exact ⟨G2, GLe.refl _, ok, rfl, one_le⟩
def rangeT (lo : Int) (n : Nat) : List T := (List.range n).map fun (i : Nat) => .int (lo + (i : Int))
theorem items_range {lo : Int} {n : Nat} : Items K G (Itr lo n) (rangeT lo n) := by
  intro G2 loc2 sh2 σ2 H2 lF lA ok i
  have hl : (rangeT lo n).length = n := by unfold rangeT; rw [List.length_map, List.length_range]
  refine ⟨fun t e => ?_, fun hi => by rw [hl] at hi; exact hi⟩
  have hi : i < n := by rw [← hl]; exact (List.getElem?_eq_some_iff.mp e).1
  refine ⟨hi, fun v H3 y => ?_⟩
  obtain ⟨rfl, rfl⟩ := y
  have e2 : t = .int (lo + (i : Int)) := by
    unfold rangeT at e
    rw [List.getElem?_map, List.getElem?_range hi] at e
    exact (Option.some.inj e).symm
  subst e2
  exact ⟨G2, GLe.refl _, ok, rfl⟩
end
section
variable {X : Cx} {W : WX} {tg e a b : Expr} {ev : Ev} {eL : EvL} {p pos : Pos}
theorem ti_val (h : TPE X W e ev) : TPI X W tg e (itV ev) := PI.weak (PI.or (pi_list h) (PI.or (pi_tup h) (pi_str h))) fun σ H R ⟨G, loc, sh, ok, p⟩ => by
  unfold itV at p
  cases q : ev loc sh with
  | bad => rw [q] at p; exact p.elim
  | exc x s => rw [q] at p; exact .inl ⟨G, loc, sh, ok, by rw [q]; exact p⟩
  | ok t s =>
    rw [q] at p
    cases t with
    | lst xs =>
      refine .inl ⟨G, loc, sh, ok, ?_⟩
      rw [q]
      rintro v H1 G1 l1 ok1 ⟨c, vs, rfl, h1, h2, h3⟩
      exact ⟨c, rfl, ⟨vs, .of (ok1.fh _ _ h1)⟩, p _ H1 G1 l1 ok1 (items_lst h1 h2)⟩
    | tup xs =>
      refine .inr (.inl ⟨G, loc, sh, ok, ?_⟩)
      rw [q]
      rintro v H1 G1 l1 ok1 ⟨c, vs, rfl, h1, h2, h3⟩
      exact ⟨c, rfl, ⟨vs, SqT.fle ok1.fle h1⟩, p _ H1 G1 l1 ok1 (items_tup h1 h2)⟩
    | str x =>
      refine .inr (.inr ⟨G, loc, sh, ok, ?_⟩)
      rw [q]
      rintro v H1 G1 l1 ok1 ⟨rfl, h3⟩
      exact ⟨x, rfl, p _ H1 G1 l1 ok1 items_str⟩
    | _ => exact p.elim
def rg1 : List T → Sh → Res (List T)
  | [.int j], s => if -(2 ^ 62) ≤ j ∧ j < 2 ^ 62 then .ok (rangeT 0 j.toNat) s else .bad
  | _, _ => .bad
def itA (f : List T → Sh → Res (List T)) (a : EvL) : EvL := fun l s => (a l s).bind f
theorem RepL.int1 {K : PySem.W.Frag} {F : Hp} {al : List Addr} {j : Int} {vs : List V} (r : RepL K F al [.int j] vs) : vs = [.int j] := by
  obtain ⟨v, q, rfl, rfl, rfl⟩ := r
  rfl
theorem ti_range1 (hg : Gl X "range") (hm : X.mg "range" = none) (ha : TPA X W [a] eL) (hs : starEach [a] X.env = [(false, eval a X.env)] := by rfl) : TPI X W tg (.Call (.Name "range" p) [a] [] pos) (itA rg1 eL) := PI.weak (pi_range1 hg hm ha hs) fun σ H R ⟨G, loc, sh, ok, p⟩ => by
  refine ⟨G, loc, sh, ok, (post.bind (Rp := rpL X.K) p).imp ?_⟩
  rintro vs H1 ⟨G1, ts, s1, l1, ok1, r1, p1⟩
  unfold rg1 at p1
  split at p1
  · rename_i j
    cases RepL.int1 r1
    split at p1
    · rename_i h
      exact ⟨j, rfl, h.1, h.2, p1 _ H1 G1 (GLe.refl _) ok1 items_range⟩
    · exact p1.elim
  · exact p1.elim
end
/-! ### for -/
def forL (tt : Tgt) (body : Sv) : List T → Sv
  | [], l, s => .nx l s
  | x :: xs, l, s => match setT tt x l with
    | none => .bad
    | some l1 => match body l1 s with
      | .nx l2 s2 => forL tt body xs l2 s2
      | .ct l2 s2 => forL tt body xs l2 s2
      | .bk l2 s2 => .nx l2 s2
      | r => r
def sFor (it : EvL) (tt : Tgt) (body : Sv) : Sv := sE it fun items => forL tt body items
section
variable {X : Cx} {W : WX} {m : Bool} {tg iter : Expr} {it : EvL} {g : TG} {tt : Tgt} {body : List Stmt} {sb : Sv} {pos : Pos}
theorem for_core {wi : TI} {D : Ends} {σ : St} {H : Hp} {G : Gh} {loc : Loc} {sh : Sh} (ok : Ok X.K G loc sh σ H) (hw : ∀ R, post (fun G _ items J => Items X.K G J items) X.K W G loc σ (it loc sh) R → wi σ H R) (hg : TgSem X.K g tt) (p : postS X.K W m G (sFor it tt sb loc sh) D) : tFor wi g (liftS X.K W m sb) D σ H := by
  refine hw _ ((postS.val (Rp := fun G _ items J => Items X.K G J items) p).imp ?_)
  rintro J H1 ⟨G1, items, s1, l1, ok1, r1, p1⟩
  refine ⟨fun i n σ2 H2 => ∃ G2 loc2 s2, GLe G1 G2 ∧ Ok X.K G2 loc2 s2 σ2 H2 ∧ i ≤ items.length ∧ n = items.length - i ∧ postS X.K W m G2 (forL tt sb (items.drop i) loc2 s2) D,
    ⟨items.length, G1, loc, s1, GLe.refl _, ok1, Nat.zero_le _, rfl, p1⟩, ?_⟩
  rintro i n σ2 H2 ⟨G2, loc2, s2, l2, ok2, hi, rfl, p2⟩
  obtain ⟨ig, is⟩ := r1 G2 loc2 s2 σ2 H2 l2.f l2.a ok2 i
  by_cases hlt : i < items.length
  · have ei : items[i]? = some items[i] := List.getElem?_eq_getElem hlt
    obtain ⟨go, yl⟩ := ig _ ei
    refine .inr ⟨go, fun σ' H' => ∃ m', m' < items.length - i ∧ ∃ G2 loc2 s2, GLe G1 G2 ∧ Ok X.K G2 loc2 s2 σ' H' ∧ i + 1 ≤ items.length ∧ m' = items.length - (i + 1) ∧ postS X.K W m G2 (forL tt sb (items.drop (i + 1)) loc2 s2) D, fun σ' H' h => h, fun x H3 y => ?_⟩
    obtain ⟨G3, l3, ok3, r3⟩ := yl x H3 y
    rw [List.drop_eq_getElem_cons hlt] at p2
    unfold forL at p2
    cases q : setT tt items[i] loc2 with
    | none => rw [q] at p2; exact p2.elim
    | some l1 =>
      rw [q] at p2
      refine hg G3 loc2 s2 σ2 H3 items[i] x l1 _ ok3 r3 q fun σ' ok' _ _ => ⟨G3, l1, s2, ok', ?_⟩
      have nxt : ∀ (l4 : Loc) (s4 : Sh), postS X.K W m G2 (forL tt sb (items.drop (i + 1)) l4 s4) D → ∀ σ' H' G', GLe G3 G' → Ok X.K G' l4 s4 σ' H' → ∃ m', m' < items.length - i ∧ ∃ G2 loc2 s2, GLe G1 G2 ∧ Ok X.K G2 loc2 s2 σ' H' ∧ i + 1 ≤ items.length ∧ m' = items.length - (i + 1) ∧ postS X.K W m G2 (forL tt sb (items.drop (i + 1)) loc2 s2) D :=
        fun l4 s4 p4 σ' H' G' l ok => ⟨_, by omega, G', l4, s4, l2.trans (l3.trans l), ok, hlt, rfl, postS.le (l3.trans l) p4⟩
      cases r : sb l1 s2 with
      | nx l4 s4 => simp only [r] at p2; exact nxt l4 s4 p2
      | ct l4 s4 => simp only [r] at p2; exact nxt l4 s4 p2
      | bk l4 s4 => simp only [r] at p2; exact fun σ' H' G' l ok => p2 σ' H' G' (l3.trans l) ok
      | rt t s4 => simp only [r] at p2; exact fun v H' G' l => p2 v H' G' (l3.trans l)
      | exc e l4 s4 => simp only [r] at p2; exact fun d σ' H' G' l => p2 d σ' H' G' (l3.trans l)
      | bad => simp only [r] at p2; exact p2
  · have e : i = items.length := by omega
    subst e
    refine .inl ⟨is (Nat.le_refl _), ?_⟩
    rw [List.drop_length] at p2
    exact p2 σ2 H2 G2 (GLe.refl _) ok2
theorem ts_for (hp : PassesOwn (model X.prog X.w) X.A X.env X.xe) (hc : X.calm = true) (hi : TPI X W tg iter it) (hg : TgOk X tg g tt) (hb : TPSs X W m body sb) (hs : ∀ x, foldedSetIterable iter X.env x = pure x := by intro _; rfl) : TPS X W m (.For tg iter body [] pos) (sFor it tt sb) :=
  PS.weak (ps_for hp hc hi hg.pg hb hs) fun D σ H ⟨G, loc, sh, ok, p⟩ => for_core ok (fun R q => ⟨G, loc, sh, ok, q⟩) hg.sem p
end
/-! ### comprehensions -/
def compL (tt : Tgt) (c : Et) (elt : Ev) : List T → Loc → Sh → Res (List T)
  | [], _, s => .ok [] s
  | x :: xs, l, s => match setT tt x l with
    | none => .bad
    | some l1 => (c l1 s).bind fun k s1 => if k then (elt l1 s1).bind fun y s2 => (compL tt c elt xs l s2).bind fun ys s3 => .ok (y :: ys) s3 else compL tt c elt xs l s1
def Res.noexc {α : Type} : Res α → Res α
  | .exc _ _ => .bad
  | r => r
def eComp (vs : List Nat) (it : EvL) (tt : Tgt) (c : Et) (elt : Ev) : Ev := fun l s => if noOwn l vs then (it l s).bind fun items s1 => (compL tt c elt items (wipeL l vs) s1).noexc.bind dLst else .bad
def cYes : Et := fun _ s => .ok true s
abbrev W0 : WX := fun _ _ _ _ => False
/-- nobody's -/
structure Nob (G : Gh) (loc : Loc) (σ : St) (D : Addr) : Prop where
  f : G.F D = none
  b : G.B D = none
  a : ∀ k : Nat, G.al[k]? ≠ some D
  s : ∀ (i : Nat) (x : T), loc.at i = .own x → σ[i]? ≠ some (some (.ref D))
section
variable {K : PySem.W.Frag} {G G' : Gh} {loc loc' : Loc} {sh sh' : Sh} {σ σ' : St} {H H' : Hp} {D : Addr}
theorem Ok.nob (ok : Ok K G loc sh σ H) (hp : H D = none) : Nob G loc σ D := by
  refine ⟨ok.freeF hp, ok.freeB hp, ok.freeA hp, fun i x es eo => ?_⟩
  have h := ok.sl i
  rw [es] at h
  obtain ⟨a, e, _, _, _, h4⟩ := h
  rw [eo] at e
  cases e
  obtain ⟨u, e⟩ := h4.there
  rw [hp] at e
  cases e
/-- something that is nobody's changes -/
theorem Ok.other (ok : Ok K G loc sh σ H) (n : Nob G loc σ D) {u o : HO} (hD : H D = some u) (hu : ∀ x, u ≠ .own x) : Ok K G loc sh σ (upd H D o) := by
  refine ⟨⟨fun a u h => ?_, fun a u h => ?_, ok.dis, ok.alf, ok.ali, ok.all, fun k u h => ?_⟩, ok.len, fun i => ?_, ok.sep⟩
  · rw [upd_ne (ne_of_none h n.f)]; exact ok.fh a u h
  · rw [upd_ne (ne_of_none h n.b)]; exact ok.bh a u h
  · obtain ⟨a, h1, h2⟩ := ok.shr k u h
    refine ⟨a, h1, h2.le (GLe.refl _) (upd_ne fun z => n.a k (z ▸ h1)) fun dx hd => ⟨(upd_ne fun z => ?_).trans hd, id, id⟩⟩
    subst z
    rw [hD] at hd
    exact hu _ (Option.some.inj hd)
  · refine (ok.sl i).le (GLe.refl _) fun a x es eo n1 _ n3 _ => ⟨upd_ne fun z => ?_, n1, n3⟩
    subst z
    exact n.s i x es eo
abbrev Gh.prot (G : Gh) (D : Addr) (u : HO) : Gh := { G with B := upd G.B D u }
theorem Ok.prot (ok : Ok K G loc sh σ H) (n : Nob G loc σ D) {u : HO} (hD : H D = some u) (hu : ∀ x, u ≠ .own x) : Ok K (G.prot D u) loc sh σ H := by
  refine ⟨⟨ok.fh, fun a o h => ?_, fun a => ?_, fun k a h => ?_, ok.ali, ok.all, fun k o h => ?_⟩, ok.len, fun i => ?_, ok.sep⟩
  · by_cases e : a = D
    · subst e
      have h' : upd G.B a u a = some o := h
      rw [upd_same] at h'
      cases h'
      exact hD
    · have h' : upd G.B D u a = some o := h
      rw [upd_ne e] at h'
      exact ok.bh a o h'
  · by_cases e : a = D
    · subst e; exact .inl n.f
    · rcases ok.dis a with h | h
      · exact .inl h
      · exact .inr ((upd_ne e).trans h)
  · obtain ⟨h1, h2⟩ := ok.alf k a h
    have hne : a ≠ D := fun z => n.a k (by rw [← z]; exact h)
    exact ⟨h1, (upd_ne hne).trans h2⟩
  · obtain ⟨a, h1, h2⟩ := ok.shr k o h
    refine ⟨a, h1, ?_⟩
    cases o with
    | lst xs => exact h2
    | dct kvs => exact h2
    | ins C fs =>
      obtain ⟨dx, fv, q1, q2, q3, q4, q5, q6⟩ := h2
      refine ⟨dx, fv, q1, q2, q3, q4, (upd_ne fun z => ?_).trans q5, q6⟩
      subst z
      rw [hD] at q3
      exact hu _ (Option.some.inj q3)
    | tab d q => exact h2
  · have h := ok.sl i
    cases e : loc.at i with
    | no => trivial
    | t x => rw [e] at h; exact h
    | own x =>
      rw [e] at h
      obtain ⟨a, h0, h1, h2, h3, h4⟩ := h
      refine ⟨a, h0, h1, (upd_ne fun z => ?_).trans h2, h3, ?_⟩
      · subst z
        exact n.s i x e h0
      · cases x <;> exact h4
theorem Sha.reB {B' : Hp} {a : Addr} {t : T} (h : Sha K G H a t) : Sha K { G with B := B' } H a t := by cases t <;> exact h
theorem Ok.unprot {B : Hp} {u : HO} (ok : Ok K { G with B := upd B D u } loc sh σ H) (hB : B D = none) : Ok K { G with B := B } loc sh σ H ∧ Nob { G with B := B } loc σ D ∧ H D = some u := by
  have le : ∀ {a : Addr}, (upd B D u) a = none → B a = none := fun {a} h => by
    by_cases e : a = D
    · subst e; exact hB
    · rw [upd_ne e] at h; exact h
  have hD : H D = some u := ok.bh D u (show upd B D u D = some u from upd_same)
  have fD : G.F D = none := by
    rcases ok.dis D with h | h
    · exact h
    · have h' : upd B D u D = none := h
      rw [upd_same] at h'
      cases h'
  refine ⟨⟨⟨ok.fh, fun a o h => ok.bh a o ?_, fun a => (ok.dis a).imp id le, fun k a h => ⟨(ok.alf k a h).1, le (ok.alf k a h).2⟩, ok.ali, ok.all, fun k o h => ?_⟩, ok.len, fun i => ?_, ok.sep⟩, ⟨fD, hB, fun k h => ?_, fun i x es eo => ?_⟩, hD⟩
  · show upd B D u a = some o
    rw [upd_ne (ne_of_none h hB)]
    exact h
  · obtain ⟨a, h1, h2⟩ := ok.shr k o h
    refine ⟨a, h1, ?_⟩
    cases o with
    | lst xs => exact h2
    | dct kvs => exact h2
    | ins C fs =>
      obtain ⟨dx, fv, q1, q2, q3, q4, q5, q6⟩ := h2
      exact ⟨dx, fv, q1, q2, q3, q4, le q5, q6⟩
    | tab d q => exact h2
  · have h := ok.sl i
    cases e : loc.at i with
    | no => trivial
    | t x => rw [e] at h; exact h
    | own x =>
      rw [e] at h
      obtain ⟨a, h0, h1, h2, h3, h4⟩ := h
      exact ⟨a, h0, h1, le h2, h3, h4.reB⟩
  · have h' : upd B D u D = none := (ok.alf k D h).2
    rw [upd_same] at h'
    cases h'
  · have h := ok.sl i
    rw [es] at h
    obtain ⟨a, h0, h1, h2, h3, h4⟩ := h
    rw [eo] at h0
    cases h0
    have h' : upd B D u D = none := h2
    rw [upd_same] at h'
    cases h'
end
section
variable {X : Cx} {W : WX} {m : Bool} {elt tg iter : Expr} {ifs : List Expr} {scope : Scope} {own : List (Str × Nat)} {pos : Pos} {it : EvL} {g : TG} {tt : Tgt} {c : Et} {ee : Ev}
abbrev TPTs (X : Cx) (W : WX) (ifs : List Expr) (c : Et) : Prop := PTs X ifs (liftT X.K W c)
theorem PTs.weak {X : Cx} {e : List Expr} {t t' : TT} (h : PTs X e t) (w : ∀ σ H Q, t' σ H Q → t σ H Q) : PTs X e t' := ⟨fun pins s σ H Q I q => h.run pins s σ H Q I (w σ H Q q)⟩
theorem tts_nil : TPTs X W [] cYes := PTs.weak pts_nil fun σ H Q ⟨G, loc, sh, ok, p⟩ => p true H G (GLe.refl _) ok rfl
theorem comp_core {wi : TI} {vs : List Nat} {σ : St} {H : Hp} {Q : VK} {G : Gh} {loc : Loc} {sh : Sh} (ok : Ok X.K G loc sh σ H) (hw : ∀ R, post (fun G _ items J => Items X.K G J items) X.K W G loc σ (it loc sh) R → wi σ H R) (hv : ∀ i, i ∈ tt.slots → i ∈ vs)
    (hg : TgSem X.K g tt)
    (p : post (fun G H t v => OwnR X.K G loc σ H t v) X.K W G loc σ (eComp vs it tt c ee loc sh) Q) : tLc wi g (liftT X.K W0 c) (lift X.K W0 ee) vs σ H Q := by
  unfold eComp at p
  by_cases hn : noOwn loc vs = true
  case neg => rw [if_neg hn] at p; exact p.elim
  rw [if_pos hn] at p
  refine hw _ ((post.bind (Rp := fun G _ items J => Items X.K G J items) p).imp ?_)
  rintro J H1 ⟨G1, items, s1, l1, ok1, r1, p1⟩
  intro D hD
  have nD := ok1.nob hD
  refine ⟨fun i n H2 => ∃ G2 s2 acc accT, GLe G1 G2 ∧ Ok X.K G2 loc s2 σ H2 ∧ Nob G2 loc σ D ∧ H2 D = some (.lst acc) ∧ repL X.K G2 accT acc ∧ i ≤ items.length ∧ n = items.length - i ∧
      post (fun G H t v => OwnR X.K G loc σ H t v) X.K W G2 loc σ ((compL tt c ee (items.drop i) (wipeL loc vs) s2).noexc.bind fun ys s => dLst (accT ++ ys) s) Q,
    ⟨items.length, G1, s1, [], [], GLe.refl _, ok1.grow hD, nD, upd_same, rfl, Nat.zero_le _, rfl, p1⟩, ?_⟩
  rintro i n H2 ⟨G2, s2, acc, accT, l2, ok2, n2, h2, r2, hi, rfl, p2⟩
  have okP := ok2.prot n2 h2 (fun _ z => nomatch z)
  have okW := okP.wiped vs
  obtain ⟨ig, is⟩ := r1 (G2.prot D (.lst acc)) (wipeL loc vs) s2 (wipe σ vs) H2 l2.f l2.a okW i
  by_cases hlt : i < items.length
  · have ei : items[i]? = some items[i] := List.getElem?_eq_getElem hlt
    obtain ⟨go, yl⟩ := ig _ ei
    refine .inr ⟨go, fun H' => ∃ m', m' < items.length - i ∧ ∃ G2 s2 acc accT, GLe G1 G2 ∧ Ok X.K G2 loc s2 σ H' ∧ Nob G2 loc σ D ∧ H' D = some (.lst acc) ∧ repL X.K G2 accT acc ∧ i + 1 ≤ items.length ∧ m' = items.length - (i + 1) ∧
      post (fun G H t v => OwnR X.K G loc σ H t v) X.K W G2 loc σ ((compL tt c ee (items.drop (i + 1)) (wipeL loc vs) s2).noexc.bind fun ys s => dLst (accT ++ ys) s) Q, fun H' h => h, fun x H3 y => ?_⟩
    obtain ⟨G3, l3, ok3, r3⟩ := yl x H3 y
    rw [List.drop_eq_getElem_cons hlt] at p2
    unfold compL at p2
    cases q : setT tt items[i] (wipeL loc vs) with
    | none => rw [q] at p2; exact p2.elim
    | some l1' =>
      rw [q] at p2
      refine hg G3 (wipeL loc vs) s2 (wipe σ vs) H3 items[i] x l1' _ ok3 r3 q fun σ' ok' hj hwp => ⟨?_, G3, l1', s2, ok', ?_⟩
      · have q1 := hwp vs hv
        rw [q1]
        have : ∀ ws : List Nat, (∀ w ∈ ws, w ∈ vs) → wipe (wipe σ vs) ws = wipe σ vs := by
          intro ws
          induction ws with
          | nil => intro _; rfl
          | cons w ws ih =>
            intro hws
            show (wipe (wipe σ vs) ws).set w none = _
            rw [ih fun z hz => hws z (by simp [hz])]
            apply List.ext_getElem?
            intro j
            by_cases e : w = j
            · subst e
              by_cases hl : w < (wipe σ vs).length
              · rw [List.getElem?_set_self hl]
                cases hx : (wipe σ vs)[w]? with
                | none => rw [List.getElem?_eq_none_iff] at hx; omega
                | some o =>
                  cases o with
                  | none => rfl
                  | some z => exact absurd (hws w (by simp)) (wipe_some hx).2
              · rw [List.set_eq_of_length_le (by omega)]
            · rw [List.getElem?_set_ne e]
        exact this vs fun _ h => h
      · -- the tests, the element
        have back : ∀ {G4 : Gh} {s4 : Sh} {H4 : Hp}, GLe G3 G4 → Ok X.K G4 l1' s4 σ' H4 → Ok X.K { G4 with B := G2.B } loc s4 σ H4 ∧ Nob { G4 with B := G2.B } loc σ D ∧ H4 D = some (.lst acc) ∧ GLe G2 { G4 with B := G2.B } := by
          intro G4 s4 H4 l4 ok4
          have le : GLe (G2.prot D (.lst acc)) G4 := l3.trans l4
          have u := okP.unwiped hn le ok4 (fun j hjv => by
            have := (hj j fun z => hjv (hv j z)).2
            rw [this, wipeL_at, if_neg hjv]) (fun j hjv => by
            have := (hj j fun z => hjv (hv j z)).1
            rw [this, wipe_at σ vs j hjv])
          obtain ⟨F4, al4, B4⟩ := G4
          have eB : B4 = upd G2.B D (.lst acc) := le.b
          subst eB
          obtain ⟨a1, a2, a3⟩ := Ok.unprot (G := ⟨F4, al4, G2.B⟩) u n2.b
          exact ⟨a1, a2, a3, le.f, le.a, rfl⟩
        have fin : ∀ {G4 : Gh} {s4 : Sh} {H4 : Hp} {acc' : List V} {accT' : List T}, GLe G2 G4 → Ok X.K G4 loc s4 σ H4 → Nob G4 loc σ D → H4 D = some (.lst acc') → repL X.K G4 accT' acc' →
            post (fun G H t v => OwnR X.K G loc σ H t v) X.K W G2 loc σ ((compL tt c ee (items.drop (i + 1)) (wipeL loc vs) s4).noexc.bind fun ys s => dLst (accT' ++ ys) s) Q → ∃ m', m' < items.length - i ∧ ∃ G2 s2 acc accT, GLe G1 G2 ∧ Ok X.K G2 loc s2 σ H4 ∧ Nob G2 loc σ D ∧ H4 D = some (.lst acc) ∧ repL X.K G2 accT acc ∧ i + 1 ≤ items.length ∧ m' = items.length - (i + 1) ∧
              post (fun G H t v => OwnR X.K G loc σ H t v) X.K W G2 loc σ ((compL tt c ee (items.drop (i + 1)) (wipeL loc vs) s2).noexc.bind fun ys s => dLst (accT ++ ys) s) Q :=
          fun l ok n h r p => ⟨_, by omega, _, _, _, _, l2.trans l, ok, n, h, r, hlt, rfl, post.le l p⟩
        have p3 := p2
        dsimp only at p3
        cases hc : c l1' s2 with
        | bad => rw [hc] at p3; exact p3.elim
        | exc x s => rw [hc] at p3; exact p3.elim
        | ok k s3 =>
          rw [hc] at p3
          rintro b H4 G4 l4 ok4 rfl
          cases b with
          | false =>
            refine iteF ?_
            obtain ⟨b1, b2, b3, b4⟩ := back l4 ok4
            exact fin b4 b1 b2 b3 (repL_le b4 r2) p3
          | true =>
            refine iteT ⟨G4, l1', s3, ok4, ?_⟩
            simp only [Res.bind_ok, if_true] at p3
            cases he : ee l1' s3 with
            | bad => rw [he] at p3; exact p3.elim
            | exc x s => rw [he] at p3; exact p3.elim
            | ok y s5 =>
              rw [he] at p3
              simp only [Res.bind_ok] at p3
              intro v H5 G5 l5 ok5 rv
              obtain ⟨b1, b2, b3, b4⟩ := back (l4.trans l5) ok5
              -- the length
              have hz : acc.length < sizeLine := by
                rw [RepL.length r2]
                cases hx : compL tt c ee (items.drop (i + 1)) (wipeL loc vs) s5 with
                | bad => rw [hx] at p3; exact p3.elim
                | exc x s => rw [hx] at p3; exact p3.elim
                | ok ys s6 =>
                  rw [hx] at p3
                  have p4 : post (fun G H t v => OwnR X.K G loc σ H t v) X.K W G2 loc σ (dLst (accT ++ y :: ys) s6) Q := p3
                  unfold dLst at p4
                  by_cases hs : (accT ++ y :: ys).length ≤ sizeLine
                  · rw [List.length_append, List.length_cons] at hs; omega
                  · rw [if_neg hs] at p4; exact p4.elim
              refine ⟨acc, b3, hz, ?_⟩
              refine fin (acc' := acc ++ [v]) (accT' := accT ++ [y]) b4 (b1.other b2 b3 (fun _ z => nomatch z)) b2 upd_same (RepL.append (repL_le b4 r2) (RepL.cons rv RepL.nil)) ?_
              have e : ∀ r : Res (List T), ((r.bind fun ys s3 => Res.ok (y :: ys) s3).noexc.bind fun ys s => dLst (accT ++ ys) s) = (r.noexc.bind fun ys s => dLst (accT ++ [y] ++ ys) s) := by
                intro r
                cases r with
                | ok ys s => simp [Res.bind, Res.noexc]
                | exc _ _ => rfl
                | bad => rfl
              rw [← e]
              exact p3
  · have e : i = items.length := by omega
    subst e
    refine .inl ⟨is (Nat.le_refl _), ?_⟩
    rw [List.drop_length] at p2
    have p3 : post (fun G H t v => OwnR X.K G loc σ H t v) X.K W G2 loc σ (dLst (accT ++ []) s2) Q := p2
    rw [List.append_nil] at p3
    unfold dLst at p3
    by_cases hs : accT.length ≤ sizeLine
    · rw [if_pos hs] at p3
      exact p3 _ H2 G2 (GLe.refl _) ok2 ⟨D, rfl, n2.f, n2.b, n2.a, n2.s, acc, h2, r2, hs⟩
    · rw [if_neg hs] at p3; exact p3.elim
theorem t_comp (hc : X.calm = true) (hN : X.N.Nodup) (hi : TPI X W tg iter it) (ok : BlkOk X.N X.env.scope scope own) (hv : (tt.slots.all fun i => (own.map (·.2)).contains i) = true)
    (hgs : TgSem X.K g tt) (hg : ∀ (s : Shared) (H : Hp) (C : Addr) (cl : List (Str × Addr)) (fp : List Addr), PG (X.blk s H scope (compEnvC scope cl C X.env) fp) tg g)
    (ht : ∀ (s : Shared) (H : Hp) (C : Addr) (cl : List (Str × Addr)) (fp : List Addr), TPTs (X.blk s H scope (compEnvC scope cl C X.env) fp) W0 ifs c)
    (he : ∀ (s : Shared) (H : Hp) (C : Addr) (cl : List (Str × Addr)) (fp : List Addr), TPE (X.blk s H scope (compEnvC scope cl C X.env) fp) W0 elt ee)
    (hs : ∀ x, foldedSetIterable iter X.env x = pure x := by intro _; rfl) : TPO X W (.ListComp elt [⟨tg, iter, ifs, 0⟩] scope pos) (eComp (own.map (·.2)) it tt c ee) :=
  PE.weak (pe_lc (wi := liftI X.K W it) (g := g) (tt := liftT X.K W0 c) (te := lift X.K W0 ee) hc hN hi ok hg ht he hs) fun σ H Q ⟨G, loc, sh, ok, p⟩ => comp_core ok (fun R q => ⟨G, loc, sh, ok, q⟩) (fun i hi => by
    have := List.all_eq_true.mp hv i hi
    simpa using this) hgs p
end
end TL
/-! the T-layer, 4: defs and calls -/
namespace TL
open PySem PySem.Spec L2
/-- the own dict of a shared instance -/
def isDx (al : List Addr) (H : Hp) (a : Addr) : Prop := ∃ (k : Nat) (b C : Addr) (fv : List (Str × V)), al[k]? = some b ∧ H b = some (.ins C a fv)
open Classical in
/-- what a callee may not touch -/
noncomputable def protB (G : Gh) (H : Hp) : Hp := fun a => if G.F a = none ∧ (∀ k : Nat, G.al[k]? ≠ some a) ∧ ¬ isDx G.al H a then H a else none
theorem protB_yes {G : Gh} {H : Hp} {a : Addr} (h1 : G.F a = none) (h2 : ∀ k : Nat, G.al[k]? ≠ some a) (h3 : ¬ isDx G.al H a) : protB G H a = H a := if_pos ⟨h1, h2, h3⟩
theorem protB_some {G : Gh} {H : Hp} {a : Addr} {o : HO} (h : protB G H a = some o) : H a = some o ∧ G.F a = none ∧ (∀ k : Nat, G.al[k]? ≠ some a) ∧ ¬ isDx G.al H a := by
  unfold protB at h
  split at h
  · rename_i q; exact ⟨h, q⟩
  · cases h
theorem protB_none {G : Gh} {H : Hp} {a : Addr} (h : ¬ (G.F a = none ∧ (∀ k : Nat, G.al[k]? ≠ some a) ∧ ¬ isDx G.al H a)) : protB G H a = none := if_neg h
def spT (K : PySem.W.Frag) (m : Bool) (np : Nat) (φ : Fn) : Sp := fun vs H Q E => vs.length = np ∧ ∃ G ts sh, Gok K G sh H ∧ repL K G ts vs ∧ match φ ts sh with
  | .ok t sh' => ∀ v H' G', GLe G G' → Gok K G' sh' H' → rpR K m G' H' t v → Q v H'
  | .exc e sh' => ∀ d H' G', GLe G G' → Gok K G' sh' H' → ExOk K G' H' e d → E (.ref (He.ga K e.cls)) d H'
  | .bad => False
/-- how a def hands on what is asked of its value: as a tree, as something that nobody has -/
def rpM (K : PySem.W.Frag) (m : Bool) (loc : Loc) (σ : L2.St) : Gh → Hp → T → V → Prop := fun G H t v => if m then OwnR K G loc σ H t v else rep K G t v
section
variable {K : PySem.W.Frag} {W : WX} {G : Gh} {loc : Loc} {sh : Sh} {σ : L2.St} {H : Hp} {m : Bool}
theorem Ok.callee (ok : Ok K G loc sh σ H) : Gok K { G with B := protB G H } sh H := by
  refine ⟨ok.fh, fun a o h => (protB_some h).1, fun a => ?_, fun k a h => ⟨(ok.alf k a h).1, protB_none fun z => z.2.1 k h⟩, ok.ali, ok.all, fun k o h => ?_⟩
  · cases e : protB G H a with
    | none => exact .inr e
    | some o => exact .inl (protB_some e).2.1
  · obtain ⟨a, h1, h2⟩ := ok.shr k o h
    refine ⟨a, h1, ?_⟩
    cases o with
    | lst xs => exact Sha.reB (t := .lst xs) h2
    | dct kvs => exact Sha.reB (t := .dct kvs) h2
    | ins C fs =>
      obtain ⟨dx, fv, q1, q2, q3, q4, q5, q6⟩ := h2
      exact ⟨dx, fv, q1, q2, q3, q4, protB_none fun z => z.2.2 ⟨k, a, _, fv, h1, q1⟩, q6⟩
    | tab d q => exact h2
/-- back from a callee -/
theorem Ok.back (ok : Ok K G loc sh σ H) {G' : Gh} {sh' : Sh} {H' : Hp} (l : GLe { G with B := protB G H } G') (g : Gok K G' sh' H') :
    Ok K { G' with B := G.B } loc sh' σ H' ∧ GLe G { G' with B := G.B } ∧ (∀ t v, rpR K m G' H' t v → rpM K m loc σ { G' with B := G.B } H' t v) := by
  have hB : G'.B = protB G H := l.b
  have pB : ∀ {a o}, G.B a = some o → protB G H a = some o := fun {a o} h => by
    have e : G.F a = none := by
      rcases ok.dis a with q | q
      · exact q
      · rw [h] at q; cases q
    refine (protB_yes e (fun k q => ?_) fun ⟨k, b, C, fv, q1, q2⟩ => ?_).trans (ok.bh a o h)
    · rw [(ok.alf k a q).2] at h; cases h
    · have hk : k < sh.length := by
        rw [← ok.all]
        exact (List.getElem?_eq_some_iff.mp q1).1
      obtain ⟨b', hb, r⟩ := ok.shr k sh[k] (List.getElem?_eq_getElem hk)
      rw [q1] at hb
      cases hb
      cases hs : sh[k] with
      | lst xs => rw [hs] at r; obtain ⟨_, z, _⟩ := r; rw [q2] at z; cases z
      | dct xs => rw [hs] at r; obtain ⟨_, z, _⟩ := r; rw [q2] at z; cases z
      | ins C' fs =>
        rw [hs] at r
        obtain ⟨dx, fv', z1, _, _, _, z5, _⟩ := r
        rw [q2] at z1
        cases z1
        rw [z5] at h
        cases h
      | tab d q => rw [hs] at r; obtain ⟨_, _, z, _⟩ := r; rw [q2] at z; cases z
  have pN : ∀ {a}, protB G H a = none → G.B a = none := fun {a} h => by
    cases e : G.B a with
    | none => rfl
    | some o => rw [pB e] at h; cases h
  have own : ∀ {i : Nat} {x : T}, loc.at i = .own x → ∃ a o, σ[i]? = some (some (.ref a)) ∧ protB G H a = some o ∧ H a = some o ∧ G.B a = none ∧ Sha K G H a x := fun {i x} e => by
    have h := ok.sl i
    rw [e] at h
    obtain ⟨a, e0, h1, h2, h3, h4⟩ := h
    have nd : ¬ isDx G.al H a := fun ⟨k, b, C, fv, q1, q2⟩ => by
      have hk : k < sh.length := by
        rw [← ok.all]
        exact (List.getElem?_eq_some_iff.mp q1).1
      obtain ⟨b', hb, r⟩ := ok.shr k sh[k] (List.getElem?_eq_getElem hk)
      rw [q1] at hb
      cases hb
      cases hs : sh[k] with
      | lst xs => rw [hs] at r; obtain ⟨_, z, _⟩ := r; rw [q2] at z; cases z
      | dct xs => rw [hs] at r; obtain ⟨_, z, _⟩ := r; rw [q2] at z; cases z
      | ins C' fs =>
        rw [hs] at r
        obtain ⟨dx, fv', z1, _, z3, _⟩ := r
        rw [q2] at z1
        cases z1
        rcases h4.is with ⟨_, w⟩ | ⟨_, w⟩ <;> rw [w] at z3 <;> cases z3
      | tab d q => rw [hs] at r; obtain ⟨_, _, z, _⟩ := r; rw [q2] at z; cases z
    obtain ⟨o, eo⟩ := h4.there
    exact ⟨a, o, e0, (protB_yes h1 h3 nd).trans eo, eo, h2, h4⟩
  have le : GLe G { G' with B := G.B } := ⟨l.f, l.a, rfl⟩
  refine ⟨⟨⟨g.fh, fun a o h => g.bh a o (by rw [hB]; exact pB h), fun a => ?_, fun k a h => ⟨(g.alf k a h).1, pN (by rw [← hB]; exact (g.alf k a h).2)⟩, g.ali, g.all, fun k o h => ?_⟩, ok.len, fun i => ?_, ok.sep⟩, le, fun t v r => ?_⟩
  · rcases g.dis a with h | h
    · exact .inl h
    · exact .inr (pN (by rw [← hB]; exact h))
  · obtain ⟨a, h1, h2⟩ := g.shr k o h
    refine ⟨a, h1, ?_⟩
    cases o with
    | lst xs => exact Sha.reB (t := .lst xs) h2
    | dct kvs => exact Sha.reB (t := .dct kvs) h2
    | ins C fs =>
      obtain ⟨dx, fv, q1, q2, q3, q4, q5, q6⟩ := h2
      exact ⟨dx, fv, q1, q2, q3, q4, pN (by rw [← hB]; exact q5), q6⟩
    | tab d q => exact h2
  · have h := ok.sl i
    cases e : loc.at i with
    | no => trivial
    | t x => rw [e] at h; obtain ⟨v, e0, r⟩ := h; exact ⟨v, e0, rep_le le r⟩
    | own x =>
      obtain ⟨a, o, e0, h1, h2, h3, h4⟩ := own e
      have fa : G'.F a = none := by
        rcases g.dis a with q | q
        · exact q
        · rw [hB, h1] at q; cases q
      refine ⟨a, e0, fa, h3, fun k q => ?_, (h4.le (H' := H') le ?_)⟩
      · have := (g.alf k a q).2
        rw [hB, h1] at this
        cases this
      · rw [g.bh a o (by rw [hB]; exact h1), h2]
  · unfold rpR at r
    unfold rpM
    cases m with
    | false => exact r
    | true =>
      obtain ⟨a, rfl, h1, h2, h3, _, h5⟩ := r
      refine ⟨a, rfl, h1, pN (by rw [← hB]; exact h2), h3, fun i x ei eo => ?_, h5.reB⟩
      obtain ⟨b, o, e0, q1, _, _, _⟩ := own ei
      rw [eo] at e0
      cases e0
      rw [hB, q1] at h2
      cases h2
theorem call_core (ok : Ok K G loc sh σ H) {φ : Fn} {ts : List T} {vs : List V} {Q : VK} (r : repL K G ts vs) (p : post (rpM K m loc σ) K W G loc σ (φ ts sh) Q) : spT K m ts.length φ vs H Q (WE W σ) := by
  refine ⟨RepL.length r, { G with B := protB G H }, ts, sh, ok.callee, r, ?_⟩
  cases e : φ ts sh with
  | ok t s =>
    rw [e] at p
    intro v H' G' l g rv
    obtain ⟨b1, b2, b3⟩ := ok.back (m := m) l g
    exact p v H' _ b2 b1 (b3 t v rv)
  | exc x s =>
    rw [e] at p
    intro d H' G' l g ⟨dd, fv, e1, e2, e3⟩
    obtain ⟨b1, b2, b3⟩ := ok.back (m := m) l g
    exact p d H' _ b2 b1 ⟨dd, fv, e1, e2, e3⟩
  | bad => rw [e] at p; exact p
end
/-! ### a def's body -/
def startL (n : Nat) (ts : List T) : Loc := ts.map Slot.t ++ List.replicate (n - ts.length) .no
def runB (m : Bool) (n : Nat) (sv : Sv) : Fn := fun ts sh => match sv (startL n ts) sh with
  | .nx _ s => if m then .bad else .ok .non s
  | .rt t s => .ok t s
  | .exc e _ s => .exc e s
  | _ => .bad
theorem start_ok {K : PySem.W.Frag} {G : Gh} {sh : Sh} {H : Hp} {N : List Str} {ts : List T} {vs : List V} (g : Gok K G sh H) (r : repL K G ts vs) : Ok K G (startL N.length ts) sh (L2.start N vs) H := by
  have hl := RepL.length r
  have no : ∀ (i : Nat) (x : T), (startL N.length ts).at i ≠ .own x := fun i x e => by
    unfold startL Loc.at at e
    rw [List.getElem?_append] at e
    split at e
    · rw [List.getElem?_map] at e
      cases q : ts[i]? with
      | none => rw [q] at e; cases e
      | some t => rw [q] at e; cases e
    · rw [List.getElem?_replicate] at e
      split at e <;> cases e
  refine ⟨g, ?_, fun i => ?_, fun i j x y a _ e _ _ => absurd e (no i x)⟩
  · unfold startL L2.start
    rw [List.length_append, List.length_append, List.length_map, List.length_map, List.length_replicate, List.length_replicate, hl]
  · cases e : (startL N.length ts).at i with
    | no => trivial
    | own x => exact absurd e (no i x)
    | t x =>
      unfold startL Loc.at at e
      rw [List.getElem?_append] at e
      split at e
      · rename_i hi
        rw [List.length_map] at hi
        rw [List.getElem?_map] at e
        cases q : ts[i]? with
        | none => rw [q] at e; cases e
        | some t =>
          rw [q] at e
          cases e
          obtain ⟨v, ev, rv⟩ := RepL.get r q
          refine ⟨v, ?_, rv⟩
          unfold L2.start
          rw [List.getElem?_append_left (by rw [List.length_map, hl]; exact hi), List.getElem?_map, ev]
          rfl
      · rw [List.getElem?_replicate] at e
        split at e <;> cases e
section
variable {P : Program} {w : World} {K : PySem.W.Frag} {mg : Str → Option Value} {base : Heap} {x qual : Str} {params : Arguments} {body : List Stmt} {scope : Scope} {dvs : List V} {kws : List (Str × V)} {f : Addr} {fd : FuncData}
/-- nothing is promised of a def that is never called -/
theorem fn_bad {CX : CXT} {k : Nat} {m : Bool} {ps : List Str} : FnOk P w K mg base CX k f fd ps (spT K m ps.length fun _ _ => .bad) :=
  ⟨fun vs H Q E h => h.1, fun A outer s H args us vs Q E _ _ _ _ h => by obtain ⟨_, _, _, _, _, _, z⟩ := h; exact z.elim⟩
end
/-! ### calls -/
def eCall (φ : Fn) (a : EvL) : Ev := fun l s => (a l s).bind φ
def eCallK (φ : Fn) (g : List T → List T → List T) (a b : EvL) : Ev := fun l s => (a l s).bind fun ts s1 => (b l s1).bind fun us s2 => φ (g ts us) s2
section
variable {X : Cx} {W : WX} {CX : CXT} {k : Nat} {f : Addr} {fd : FuncData} {ps ks : List Str} {m : Bool} {φ : Fn} {x : Str} {p pos : Pos} {e : Expr} {es : List Expr} {kws : List Keyword} {eL eK : EvL} {ds : List Value} {dvs : List V} {dts : List T}
theorem run_fnA {pins : List (Addr × Obj)} {σ : L2.St} {H : Hp} {s : Shared} {Q : VK} {vs : List V} {E : XK} {sp : Sp} {args : Args} {us' : List Value} (F : FnOk X.prog X.w X.K X.mg X.base CX k f fd ps sp) (hr : Room k X.A) (b : BindsTo s fd args (ps.zip us')) (hx : PassesAt CX X σ E)
    (I : Inv X pins σ H s) (r : Vals vs us') (h : sp vs H Q E) : codeAny (model X.prog X.w) X.A (.call (.ref f) args) (fun r s' => match r with
      | .ok (.ret u) => EP X pins σ Q u s'
      | .ok _ => False
      | .error e => X.xe e s') s := by
  refine codeAny_mono (F.run X.A X.stack s H args us' vs Q E hr I.env0 b r h) fun r s' hq => ?_
  cases r with
  | error e => exact hx pins H s e s' I hq
  | ok fl =>
    cases fl with
    | ret u => exact I.after hq
    | next => exact False.elim hq
    | brk => exact False.elim hq
    | cont => exact False.elim hq
/-- positional arguments, defaults behind them -/
theorem pe_callD {sp : Sp} {E : L2.St → XK} {t : TA} (F : FnOk X.prog X.w X.K X.mg X.base CX k f fd ps sp) (hr : Room k X.A) (hg : Gl X x) (hm : X.mg x = some (.ref f)) (hk : PySem.W.keepIn X.K (.ref f) = true) (hb : Binds X.K fd ps ds) (hd : Vals dvs ds) (hx : ∀ σ, PassesAt CX X σ (E σ))
    (ha : PA X (e :: es) t) (hdb : (x == ("__debug__" : Str)) = false := by decide) (he : starEach (e :: es) X.env = (false, eval e X.env) :: starEach es X.env := by rfl) (hpl : (backTo pos (starEach es X.env)).any (·.1) = false := by rfl) :
    PE X (.Call (.Name x p) (e :: es) [] pos) (fun σ H Q => t σ H fun vs H1 => sp (vs ++ dvs) H1 Q (E σ)) := by
  refine ⟨fun pins s σ H Q I h => ?_⟩
  refine wpAny_Call_Name_kw (ld_glob I hg hm ?_ hdb)
  refine PySem.W.callWith_K (h₀ := X.base) I.ok.mod.kin hk (thn (ha.run pos pins s σ H _ I h) fun us s1 ⟨vs, H1, I1, r, q⟩ => ⟨I1.kIn, ?_⟩) he hpl
  have r2 := Vals.append r hd
  have hl : (us ++ ds).length = ps.length := by rw [← r2.length]; exact F.len _ _ _ _ q
  exact wpAny_call (codeAny_mono (run_fnA F hr (hb s1 us I1.kIn hl) (hx σ) I1 r2 q) fun r s' h => h)
def TPR (X : Cx) (W : WX) (m : Bool) (e : Expr) (ev : Ev) : Prop := PE X e (fun σ H Q => ∃ G loc sh, Ok X.K G loc sh σ H ∧ post (rpM X.K m loc σ) X.K W G loc σ (ev loc sh) Q)
theorem TPR.toE {ev : Ev} (h : TPR X W false e ev) : TPE X W e ev := PE.weak h fun σ H Q ⟨G, loc, sh, ok, p⟩ => ⟨G, loc, sh, ok, p⟩
theorem TPR.toO {ev : Ev} (h : TPR X W true e ev) : TPO X W e ev := PE.weak h fun σ H Q ⟨G, loc, sh, ok, p⟩ => ⟨G, loc, sh, ok, p⟩
theorem t_call (F : FnOk X.prog X.w X.K X.mg X.base CX k f fd ps (spT X.K m ps.length φ)) (hr : Room k X.A) (hg : Gl X x) (hm : X.mg x = some (.ref f)) (hk : PySem.W.keepIn X.K (.ref f) = true) (hb : Binds X.K fd ps []) (hx : ∀ σ, PassesAt CX X σ (WE W σ))
    (ha : TPA X W (e :: es) eL) (hl : ∀ l s ts s', eL l s = .ok ts s' → ts.length = ps.length) (hdb : (x == ("__debug__" : Str)) = false := by decide) (he : starEach (e :: es) X.env = (false, eval e X.env) :: starEach es X.env := by rfl) (hpl : (backTo pos (starEach es X.env)).any (·.1) = false := by rfl) :
    TPR X W m (.Call (.Name x p) (e :: es) [] pos) (eCall φ eL) := PE.weak (pe_callD F hr hg hm hk hb .nil hx ha hdb he hpl) fun σ H Q ⟨G, loc, sh, ok, p⟩ => by
  refine ⟨G, loc, sh, ok, ?_⟩
  have q := post.bind (Rp := rpL X.K) p
  cases ea : eL loc sh with
  | bad => rw [ea] at q; exact q
  | exc x s => rw [ea] at q; exact q
  | ok ts s1 =>
    rw [ea] at q
    intro vs H1 G1 l1 ok1 r1
    obtain ⟨G1', a, s2, l2, ok2, r2, p2⟩ := q vs H1 G1 l1 ok1 r1
    rw [List.append_nil]
    have e0 := p
    unfold eCall at e0
    rw [ea] at e0
    have := call_core ok1 r1 (post.le l1 e0)
    rw [hl loc sh ts s1 ea] at this
    exact this
end
/-- the length of an argument list -/
def ALen (a : EvL) (n : Nat) : Prop := ∀ l s ts s', a l s = .ok ts s' → ts.length = n
theorem alen_nil : ALen aNil 0 := fun l s ts s' h => by cases h; rfl
theorem alen_cons {a : Ev} {r : EvL} {n : Nat} (h : ALen r n) : ALen (aCons a r) (n + 1) := fun l s ts s' e => by
  unfold aCons at e
  cases q : a l s with
  | bad => rw [q] at e; cases e
  | exc x s => rw [q] at e; cases e
  | ok t s1 =>
    rw [q] at e
    simp only [Res.bind_ok] at e
    cases q2 : r l s1 with
    | bad => rw [q2] at e; cases e
    | exc x s => rw [q2] at e; cases e
    | ok xs s2 =>
      rw [q2] at e
      have e' : Res.ok (t :: xs) s2 = Res.ok ts s' := e
      injection e' with e1 e2
      rw [← e1, List.length_cons, h l s1 xs s2 q2]
end TL
/-! the T-layer, 5: operators, subscripts, builtins -/
namespace TL
open PySem PySem.Spec L2
section
variable {K : PySem.W.Frag} {W : WX} {G : Gh} {loc : Loc} {sh : Sh} {σ : L2.St} {H : Hp}
/-- a list is made: as a tree's -/
theorem Ok.newL (ok : Ok K G loc sh σ H) {vs : List V} {xs : List T} {Q : VK} (r : repL K G xs vs) (l : xs.length ≤ sizeLine) (p : post (rpV K) K W G loc σ (.ok (.lst xs) sh) Q) : ∀ q, H q = none → Q (.ref q) (upd H q (.lst vs)) := fun q hq => by
  obtain ⟨ok2, o⟩ := ok.newOwn (o := .lst vs) (t := .lst xs) hq ⟨vs, upd_same, r, l⟩
  obtain ⟨G2, l2, ok3, r3⟩ := OwnR.freeze ok2 o
  exact p _ _ G2 l2 ok3 r3
theorem Ok.newLO (ok : Ok K G loc sh σ H) {vs : List V} {xs : List T} {Q : VK} (r : repL K G xs vs) (l : xs.length ≤ sizeLine) (p : post (fun G H t v => OwnR K G loc σ H t v) K W G loc σ (.ok (.lst xs) sh) Q) : ∀ q, H q = none → Q (.ref q) (upd H q (.lst vs)) := fun q hq => by
  obtain ⟨ok2, o⟩ := ok.newOwn (o := .lst vs) (t := .lst xs) hq ⟨vs, upd_same, r, l⟩
  exact p _ _ G (GLe.refl _) ok2 o
theorem Ok.newT (ok : Ok K G loc sh σ H) {vs : List V} {xs : List T} {Q : VK} (r : repL K G xs vs) (l : xs.length ≤ sizeLine) (p : post (rpV K) K W G loc σ (.ok (.tup xs) sh) Q) : ∀ q, H q = none → Q (.ref q) (upd H q (.tup vs)) := fun q hq => by
  obtain ⟨G2, l2, ok3, r3⟩ := ok.newTup hq r l
  exact p _ _ G2 l2 ok3 r3
theorem Ok.hl (ok : Ok K G loc sh σ H) {xs : List T} {v : V} (r : rep K G (.lst xs) v) : ∃ a vs, v = .ref a ∧ H a = some (.lst vs) ∧ repL K G xs vs ∧ xs.length ≤ sizeLine := by
  obtain ⟨a, vs, e, h, r, l⟩ := r
  exact ⟨a, vs, e, ok.fh _ _ h, r, l⟩
theorem Ok.ht (ok : Ok K G loc sh σ H) {xs : List T} {v : V} (r : rep K G (.tup xs) v) : ∃ a vs, v = .ref a ∧ SqT K H a vs ∧ repL K G xs vs ∧ xs.length ≤ sizeLine := by
  obtain ⟨a, vs, e, h, r, l⟩ := r
  exact ⟨a, vs, e, SqT.fle ok.fle h, r, l⟩
theorem Ok.hd (ok : Ok K G loc sh σ H) {xs : List (Key × T)} {v : V} (r : rep K G (.dct xs) v) : ∃ a vs, v = .ref a ∧ Rd H a (.dK vs) ∧ RepD K G.F G.al xs vs ∧ DOk xs := by
  obtain ⟨a, vs, e, h, r, l⟩ := r
  exact ⟨a, vs, e, FLe.rd ok.fle h, r, l⟩
/-- a shared list -/
theorem Ok.hc (ok : Ok K G loc sh σ H) {k : Nat} {xs : List T} {v : V} (r : rep K G (.cel k) v) (e : sh[k]? = some (.lst xs)) : ∃ a vs, v = .ref a ∧ G.al[k]? = some a ∧ H a = some (.lst vs) ∧ repL K G xs vs ∧ xs.length ≤ sizeLine := by
  obtain ⟨a, e1, h⟩ := r
  obtain ⟨a', h', s⟩ := ok.shr k _ e
  rw [h] at h'
  cases h'
  obtain ⟨vs, q1, q2, q3⟩ := s
  exact ⟨a, vs, e1, h, q1, q2, q3⟩
end
/-! ### + -/
def opAdd : T → T → Sh → Res T
  | .int i, .int j, s => .ok (.int (i + j)) s
  | .str x, .str y, s => if x.length + y.length ≤ sizeLine then .ok (.str (x ++ y)) s else .bad
  | .lst xs, .lst ys, s => if xs.length + ys.length ≤ sizeLine then .ok (.lst (xs ++ ys)) s else .bad
  | .tup xs, .tup ys, s => if xs.length + ys.length ≤ sizeLine then .ok (.tup (xs ++ ys)) s else .bad
  | _, _, _ => .bad
def rAddA (K : PySem.W.Frag) : R2 := fun x y H Q => rI0 (fun i j => .int (i + j)) x y H Q ∨ (∃ i j, x = .str i ∧ y = .str j ∧ i.length + j.length ≤ sizeLine ∧ Q (.str (i ++ j)) H) ∨ rCat x y H Q ∨ rCatA K x y H Q
theorem str_app_len (x y : Str) : (x ++ y).length = x.length + y.length := by
  show (x.cps ++ y.cps).size = x.cps.size + y.cps.size
  exact Array.size_append
theorem sv_add {K : PySem.W.Frag} : Sv2 K (rAddA K) opAdd := by
  intro W G loc sh σ H x y tx ty Q ok rx ry p
  cases tx with
  | int i =>
    cases ty with
    | int j =>
      cases rx; cases ry
      exact .inl ⟨i, j, rfl, rfl, p _ H G (GLe.refl _) ok rfl⟩
    | _ => exact p.elim
  | str i =>
    cases ty with
    | str j =>
      obtain ⟨rfl, lx⟩ := rx
      obtain ⟨rfl, ly⟩ := ry
      by_cases h : i.length + j.length ≤ sizeLine
      · have e : opAdd (.str i) (.str j) sh = .ok (.str (i ++ j)) sh := if_pos h
        rw [e] at p
        exact .inr (.inl ⟨i, j, rfl, rfl, h, p _ H G (GLe.refl _) ok ⟨rfl, by rw [str_app_len]; exact h⟩⟩)
      · have e : opAdd (.str i) (.str j) sh = .bad := if_neg h
        rw [e] at p
        exact p.elim
    | _ => exact p.elim
  | lst xs =>
    cases ty with
    | lst ys =>
      obtain ⟨a, vs, rfl, h1, r1, _⟩ := ok.hl rx
      obtain ⟨b, ws, rfl, h2, r2, _⟩ := ok.hl ry
      by_cases h : xs.length + ys.length ≤ sizeLine
      · have e : opAdd (.lst xs) (.lst ys) sh = .ok (.lst (xs ++ ys)) sh := if_pos h
        rw [e] at p
        exact .inr (.inr (.inl ⟨a, b, vs, ws, rfl, rfl, h1, h2, by rw [RepL.length r1, RepL.length r2]; exact h, ok.newL (RepL.append r1 r2) (by rw [List.length_append]; exact h) p⟩))
      · have e : opAdd (.lst xs) (.lst ys) sh = .bad := if_neg h
        rw [e] at p
        exact p.elim
    | _ => exact p.elim
  | tup xs =>
    cases ty with
    | tup ys =>
      by_cases h : xs.length + ys.length ≤ sizeLine
      · have e : opAdd (.tup xs) (.tup ys) sh = .ok (.tup (xs ++ ys)) sh := if_pos h
        rw [e] at p
        obtain ⟨a, vs, rfl, h1, r1, _⟩ := ok.ht rx
        obtain ⟨b, ws, rfl, h2, r2, _⟩ := ok.ht ry
        refine .inr (.inr (.inr ⟨a, b, vs, ws, rfl, rfl, h1, h2, by rw [RepL.length r1, RepL.length r2]; exact h, fun e => ?_, fun _ e => ?_, fun _ _ => ok.newT (RepL.append r1 r2) (by rw [List.length_append]; exact h) p⟩))
        · subst e
          have : xs = [] := by
            have := RepL.length r1
            exact List.length_eq_zero_iff.mp this.symm
          subst this
          exact p _ H G (GLe.refl _) ok ry
        · subst e
          have : ys = [] := by
            have := RepL.length r2
            exact List.length_eq_zero_iff.mp this.symm
          subst this
          rw [List.append_nil] at p
          exact p _ H G (GLe.refl _) ok rx
      · have e : opAdd (.tup xs) (.tup ys) sh = .bad := if_neg h
        rw [e] at p
        exact p.elim
    | _ => exact p.elim
  | _ => exact p.elim
theorem orp_add {X : Cx} : OpR X (binaryOp .Add) (rAddA X.K) := OpR.or op_add (OpR.or op_add_str (OpR.or op_cat op_catA))
/-! ### ints -/
/-- ints in, under c, an int out -/
def opI (c : Int → Int → Bool) (f : Int → Int → Int) : T → T → Sh → Res T
  | .int i, .int j, s => if c i j then .ok (.int (f i j)) s else .bad
  | _, _, _ => .bad
theorem sv_I {K : PySem.W.Frag} {C : Int → Int → Prop} {c : Int → Int → Bool} {f : Int → Int → Int} (hc : ∀ i j, c i j = true → C i j) : Sv2 K (rI C fun i j => .int (f i j)) (opI c f) := by
  intro W G loc sh σ H x y tx ty Q ok rx ry p
  cases tx with
  | int i =>
    cases ty with
    | int j =>
      cases rx; cases ry
      cases e : c i j with
      | true =>
        have e : opI c f (.int i) (.int j) sh = .ok (.int (f i j)) sh := if_pos e
        rw [e] at p
        exact ⟨i, j, rfl, rfl, hc i j ‹_›, p _ H G (GLe.refl _) ok rfl⟩
      | false =>
        have e : opI c f (.int i) (.int j) sh = .bad := if_neg (by simp [e])
        rw [e] at p
        exact p.elim
    | _ => exact p.elim
  | _ => exact p.elim
def opSub : T → T → Sh → Res T
  | .int i, .int j, s => .ok (.int (i - j)) s
  | _, _, _ => .bad
theorem sv_sub {K : PySem.W.Frag} : Sv2 K (rI0 fun i j => .int (i - j)) opSub := by
  intro W G loc sh σ H x y tx ty Q ok rx ry p
  cases tx with
  | int i =>
    cases ty with
    | int j => cases rx; cases ry; exact ⟨i, j, rfl, rfl, p _ H G (GLe.refl _) ok rfl⟩
    | _ => exact p.elim
  | _ => exact p.elim
def cDiv (i j : Int) : Bool := decide (j ≠ 0) && decide (j.natAbs < 1073741824)
def cMod (i j : Int) : Bool := decide (j ≠ 0)
def cPow (i j : Int) : Bool := decide (0 ≤ j) && decide (j ≤ 1000000) && decide (i.natAbs < 2 ^ 64)
def opFdiv := opI cDiv Int.fdiv
def opMod := opI cMod Int.fmod
def opPow := opI cPow fun i j => i ^ j.toNat
theorem sv_fdiv {K : PySem.W.Frag} : Sv2 K (rI CDivN fun i j => .int (i.fdiv j)) opFdiv := sv_I fun i j h => by
  have h1 : (decide (j ≠ 0) && decide (j.natAbs < 1073741824)) = true := h
  rw [Bool.and_eq_true] at h1
  exact ⟨of_decide_eq_true h1.1, of_decide_eq_true h1.2⟩
theorem sv_mod {K : PySem.W.Frag} : Sv2 K (rI (fun _ j => j ≠ 0) fun i j => .int (i.fmod j)) opMod := sv_I fun i j h => of_decide_eq_true h
theorem sv_pow {K : PySem.W.Frag} : Sv2 K (rI CPow fun i j => .int (i ^ j.toNat)) opPow := sv_I fun i j h => by
  have h1 : (decide (0 ≤ j) && decide (j ≤ 1000000) && decide (i.natAbs < 2 ^ 64)) = true := h
  rw [Bool.and_eq_true, Bool.and_eq_true] at h1
  exact ⟨of_decide_eq_true h1.1.1, of_decide_eq_true h1.1.2, of_decide_eq_true h1.2⟩
/-! ### * -/
def cMul (i j : Int) : Bool := (decide (-(2 ^ 64) < i) && decide (i < 2 ^ 64)) || (decide (-(2 ^ 64) < j) && decide (j < 2 ^ 64))
def opMul : T → T → Sh → Res T
  | .int i, .int j, s => if cMul i j then .ok (.int (i * j)) s else .bad
  | .str x, .int n, s => if 0 ≤ n ∧ n ≤ 1000 ∧ x.length ≤ 1000 then .ok (.str ⟨(List.replicate n.toNat x.cps.toList).flatten.toArray⟩) s else .bad
  | .lst xs, .int n, s => if -(2 ^ 63) ≤ n ∧ n < 2 ^ 63 ∧ xs.length * n.toNat ≤ sizeLine then .ok (.lst (List.replicate n.toNat xs).flatten) s else .bad
  | _, _, _ => .bad
theorem foldl_app (a : Array Nat) : ∀ (k : Nat) (acc : Array Nat), (List.replicate k a).foldl (· ++ ·) acc = acc ++ (List.replicate k a.toList).flatten.toArray
  | 0, acc => by simp
  | k + 1, acc => by
    rw [List.replicate_succ, List.foldl_cons, foldl_app a k, List.replicate_succ, List.flatten_cons, Array.append_assoc]
    congr 1
    simp
theorem mul_eq (x : Str) {n : Int} (h : 0 ≤ n) : Txt.mul x n = ⟨(List.replicate n.toNat x.cps.toList).flatten.toArray⟩ := by
  unfold Txt.mul
  by_cases h1 : n < 1
  · have : n = 0 := by omega
    subst this
    rw [if_pos (by decide)]
    rfl
  · rw [if_neg h1]
    by_cases h2 : (n == 1 || x.length == 0) = true
    · rw [if_pos h2]
      rcases Bool.or_eq_true_iff.mp h2 with h3 | h3
      · have : n = 1 := by simpa using h3
        subst this
        simp
      · have h4 : x.cps.size = 0 := by
          have : x.length = 0 := by simpa using h3
          exact this
        have h5 : x.cps = #[] := Array.eq_empty_of_size_eq_zero h4
        cases x with
        | mk c =>
          simp only at h5
          subst h5
          congr 1
          simp
    · rw [if_neg h2]
      congr 1
      rw [foldl_app]
      simp
theorem flat_len {α : Type} (l : List α) : ∀ k : Nat, (List.replicate k l).flatten.length = k * l.length
  | 0 => by simp
  | k + 1 => by rw [List.replicate_succ, List.flatten_cons, List.length_append, flat_len l k, Nat.succ_mul]; omega
def rMulS : R2 := fun x y H Q => ∃ (z : Str) (n : Int), x = .str z ∧ y = .int n ∧ 0 ≤ n ∧ n ≤ 1000 ∧ z.length ≤ 1000 ∧ Q (.str ⟨(List.replicate n.toNat z.cps.toList).flatten.toArray⟩) H
theorem op_mulS {X : Cx} : OpR X (binaryOp .Mult) rMulS := by
  intro pins s σ H x y v u Q I rx ry h
  obtain ⟨z, n, rfl, rfl, h0, h1, h2, q⟩ := h
  obtain ⟨t, rfl⟩ := rx
  obtain ⟨t', rfl⟩ := ry
  have e : z.length = z.cps.size := rfl
  have a1 : (z.length : Int) ≤ 1000 := by omega
  refine SB.mul ⟨?_, fun g1 _ => ?_, fun g1 _ => ?_⟩ fun t2 k => ?_
  · rw [Bool.or_eq_false_iff]
    exact ⟨decide_eq_false (by omega), decide_eq_false (by omega)⟩
  · intro hc
    have b1 : (1000 : Int) ≤ (2 ^ 63 - 1) / n := by
      refine (Int.le_ediv_iff_mul_le (by omega)).mpr ?_
      omega
    omega
  · show decide _ = false
    refine decide_eq_false ?_
    have b2 : z.length * n.toNat ≤ 1000 * 1000 := Nat.mul_le_mul (by omega) (by omega)
    have b3 : (1000 * 1000 : Nat) ≤ sizeLine := by decide
    omega
  · rw [mul_eq z h0]
    exact ⟨.str _, H, I.tok _, ⟨t2, rfl⟩, q⟩
def rMulA (K : PySem.W.Frag) : R2 := fun x y H Q => rI CMul (fun i j => .int (i * j)) x y H Q ∨ rMulS x y H Q ∨ rRep x y H Q
theorem orp_mul {X : Cx} : OpR X (binaryOp .Mult) (rMulA X.K) := OpR.or op_mul (OpR.or op_mulS op_rep)
theorem sv_mul {K : PySem.W.Frag} : Sv2 K (rMulA K) opMul := by
  intro W G loc sh σ H x y tx ty Q ok rx ry p
  cases tx with
  | int i =>
    cases ty with
    | int j =>
      cases rx; cases ry
      by_cases e : cMul i j = true
      · have e2 : opMul (.int i) (.int j) sh = .ok (.int (i * j)) sh := if_pos e
        rw [e2] at p
        have e3 : ((decide (-(2 ^ 64) < i) && decide (i < 2 ^ 64)) || (decide (-(2 ^ 64) < j) && decide (j < 2 ^ 64))) = true := e
        refine .inl ⟨i, j, rfl, rfl, ?_, p _ H G (GLe.refl _) ok rfl⟩
        rcases Bool.or_eq_true_iff.mp e3 with q | q
        · exact .inl ⟨of_decide_eq_true (Bool.and_eq_true_iff.mp q).1, of_decide_eq_true (Bool.and_eq_true_iff.mp q).2⟩
        · exact .inr ⟨of_decide_eq_true (Bool.and_eq_true_iff.mp q).1, of_decide_eq_true (Bool.and_eq_true_iff.mp q).2⟩
      · have e2 : opMul (.int i) (.int j) sh = .bad := if_neg e
        rw [e2] at p
        exact p.elim
    | _ => exact p.elim
  | str z =>
    cases ty with
    | int n =>
      obtain ⟨rfl, lz⟩ := rx
      cases ry
      by_cases e : 0 ≤ n ∧ n ≤ 1000 ∧ z.length ≤ 1000
      · have e2 : opMul (.str z) (.int n) sh = .ok (.str ⟨(List.replicate n.toNat z.cps.toList).flatten.toArray⟩) sh := if_pos e
        rw [e2] at p
        refine .inr (.inl ⟨z, n, rfl, rfl, e.1, e.2.1, e.2.2, p _ H G (GLe.refl _) ok ⟨rfl, ?_⟩⟩)
        show ((List.replicate n.toNat z.cps.toList).flatten.toArray).size ≤ _
        rw [List.size_toArray, flat_len, Array.length_toList]
        have b2 : n.toNat * z.cps.size ≤ 1000 * 1000 := Nat.mul_le_mul (by omega) e.2.2
        have : (1000 * 1000 : Nat) ≤ sizeLine := by decide
        omega
      · have e2 : opMul (.str z) (.int n) sh = .bad := if_neg e
        rw [e2] at p
        exact p.elim
    | _ => exact p.elim
  | lst xs =>
    cases ty with
    | int n =>
      obtain ⟨a, vs, rfl, h1, r1, _⟩ := ok.hl rx
      cases ry
      by_cases e : -(2 ^ 63) ≤ n ∧ n < 2 ^ 63 ∧ xs.length * n.toNat ≤ sizeLine
      · have e2 : opMul (.lst xs) (.int n) sh = .ok (.lst (List.replicate n.toNat xs).flatten) sh := if_pos e
        rw [e2] at p
        exact .inr (.inr ⟨a, n, vs, rfl, rfl, h1, e.1, e.2.1, by rw [RepL.length r1]; exact e.2.2, ok.newL (RepL.replicate _ r1) (by rw [flat_len, Nat.mul_comm]; exact e.2.2) p⟩)
      · have e2 : opMul (.lst xs) (.int n) sh = .bad := if_neg e
        rw [e2] at p
        exact p.elim
    | _ => exact p.elim
  | _ => exact p.elim
def opNeg : T → Sh → Res T
  | .int i, s => .ok (.int (-i)) s
  | _, _ => .bad
section
variable {X : Cx} {W : WX} {a : Expr} {ea : Ev} {pos : Pos}
theorem t_neg (ha : TPE X W a ea) : TPE X W (.UnaryOp .USub a pos) (e1 opNeg ea) := PE.weak (pe_un un_neg ha) fun σ H Q ⟨G, loc, sh, ok, p⟩ => by
  refine ⟨G, loc, sh, ok, (post.bind (Rp := rpV X.K) p).imp ?_⟩
  rintro x H1 ⟨G1, tx, s1, l1, ok1, r1, p1⟩
  cases tx with
  | int i => exact ⟨i, r1, p1 _ H1 G1 (GLe.refl _) ok1 rfl⟩
  | _ => exact p1.elim
end
end TL
/-! tuples compared: only the first place that differs is asked -/
namespace PySem.SeqAt
open AutoSeq1 (wpAny_loadPart')
open MeetsSeq MeetsSeq2 MeetsSeq3 SeqRoads2
/-- pairs walked: k comes out -/
def CmpSeq (op : CmpOp) (A : Around) (s : Shared) (fin k : Bool) : List (Value × Value) → Prop
  | [] => k = fin
  | p :: t => ∃ b, EqAt A s p.1 p.2 b ∧ (b = true → CmpSeq op A s fin k t) ∧ (b = false → RcOp op A s p.1 p.2 k)
theorem tuple_ltS (l b : Addr) (items items2 : Array Value) (n n2 : Nat) (dd dd2 : Option Addr) (sl sl2 : Array (Option Value)) (k : Bool) :
    Meets (Builtin.«tuple.__lt__» ⟨[.ref l, .ref b], []⟩)
      (fun A R s => s.heap.get? l = some { cls := .type "tuple", dict := dd, data := .seq items n, slots := sl } ∧ s.heap.get? b = some { cls := .type "tuple", dict := dd2, data := .seq items2 n2, slots := sl2 } ∧
        CmpSeq .Lt A.in1 s (decide (items.size < items2.size)) k (items.toList.zip items2.toList) ∧ R (.ok (.ret (.bool k))) s) :=
  .of_wp fun prog w A R s h => by
    obtain ⟨hp, g, d, tk, os⟩ := s; obtain ⟨hl, hb, hc, h⟩ := h
    have f2 := AutoSeq1.sub_tuple_tuple
    wp_walk using wpAny_loadPart' hl, wpAny_loadPart' hb, wpAny_forIn_list _ (fun rest b s' => b.1 = none ∧ s' = ⟨hp, g, d, tk, os⟩ ∧ CmpSeq .Lt A.in1 ⟨hp, g, d, tk, os⟩ (decide (items.size < items2.size)) k rest) _
    case turn =>
      rintro ⟨y, x⟩ rest b s' ⟨hb', rfl, q, q1, q2, q3⟩
      refine wpAny_bind (q1 prog w _ _ ?_)
      cases q with
      | true =>
        wp_walk
        exact ⟨rfl, rfl, q2 rfl⟩
      | false =>
        have key : ∀ (E Q : Value → Shared → Prop), Q (.bool k) ⟨hp, g, d, tk, os⟩ → wpAny (model prog w) A.in1 (richCompare CmpOp.Lt y x) Q E ⟨hp, g, d, tk, os⟩ := fun E Q => q3 rfl prog w E Q
        dsimp only
        generalize richCompare CmpOp.Lt y x = rc at key ⊢
        wp_walk
        refine key _ _ ?_
        wp_walk
        exact ⟨_, rfl, h⟩
    case fin =>
      rintro ⟨b1, b2⟩ s' ⟨hb', rfl, hz⟩
      simp only at hb'
      subst hb'
      have hz : k = decide (items.size < items2.size) := hz
      rw [hz] at h
      wp_walk
      exact ⟨_, rfl, by simpa [Builtin.Tuple.tupleCompareSizes] using h⟩
    case h =>
      exact ⟨rfl, rfl, hc⟩
section
variable {A : Around} {s : Shared} {l b : Addr} {items items2 : Array Value} {k : Bool}
theorem rc_tuples_lt (hl : s.heap.IsTuple l items) (hb : s.heap.IsTuple b items2) (hu : A.units < cLine) (hc : CmpSeq .Lt A.in1 s (decide (items.size < items2.size)) k (items.toList.zip items2.toList)) : RcOp .Lt A s (.ref l) (.ref b) k := fun prog w E Q h => by
  obtain ⟨⟨c1, d1, da1, s1⟩, ho, hc1, n, hd⟩ := hl
  obtain ⟨⟨c2, d2, da2, s2⟩, ho2, hc2, n2, hd2⟩ := hb
  cases hc1; cases hc2; cases hd; cases hd2
  exact richCompare_meets_room (op := .Lt) ⟨_, ho, rfl⟩ ⟨_, ho2, rfl⟩ F.slot_tuple_lt F.entry_tuple_lt (F.args_tuple_lt_2 _ _) (tuple_ltS l b items items2 n n2 d1 d2 s1 s2 k)
    ⟨ho, ho2, hc, show Value.bool k ≠ Value.notImplemented ∧ Q (.bool k) s from ⟨(fun x => nomatch x), h⟩⟩ hu
end
end PySem.SeqAt
/-! data that is compared: numbers, texts, tuples of these -/
namespace PySem.SeqAt
open PySem.W (eqv_comm eqv_all_cons)
mutual
/-- x < y, where Python says it -/
def ordD : PyData → PyData → Option Bool
  | .int a, .int b => some (decide (a < b))
  | .str a, .str b => some (decide (a.cps.toList < b.cps.toList))
  | .tuple xs, .tuple ys => ordDs xs ys
  | _, _ => none
def ordDs : List PyData → List PyData → Option Bool
  | [], [] => some false
  | [], _ :: _ => some true
  | _ :: _, [] => some false
  | x :: xs, y :: ys => if PyData.eqv x y then ordDs xs ys else ordD x y
end
theorem plain_cons {x : PyData} {xs : List PyData} (h : PyData.plainAll (x :: xs) = true) : x.plain = true ∧ PyData.plainAll xs = true := by
  have h' : (x.plain && PyData.plainAll xs) = true := h
  rw [Bool.and_eq_true] at h'
  exact h'
mutual
theorem rcLt_ord : ∀ (da db : PyData) (A : Around) (s : Shared) (a b : Value) (as bs : List Addr) (k : Bool), Reads s.heap a da as → Reads s.heap b db bs → da.plain = true → db.plain = true → A.units + min da.depth db.depth < cLine → ordD da db = some k → RcOp .Lt A s a b k
  | .int x, .int y, A, s, _, _, _, _, k, .int _ t, .int _ u, _, _, _, h => fun prog w E Q hq => by
    cases Option.some.inj h
    exact P.lt_int hq
  | .str x, .str y, A, s, _, _, _, _, k, .str _ t, .str _ u, _, _, _, h => fun prog w E Q hq => by
    cases Option.some.inj h
    exact P.lt_str hq
  | .tuple xs, .tuple ys, A, s, _, _, _, _, k, @Reads.tuple _ l o vs n _ _ h1 h2 h3 h4, @Reads.tuple _ l' o' vs' n' _ _ k1 k2 k3 k4, p1, p2, hu, h => by
    have n1 : vs.size = xs.length := by simpa using ReadsAll.length _ _ _ h4
    have n2 : vs'.size = ys.length := by simpa using ReadsAll.length _ _ _ k4
    refine rc_tuples_lt ⟨_, h1, h2, _, h3⟩ ⟨_, k1, k2, _, k3⟩ (room_here hu) ?_
    rw [n1, n2]
    exact seqLt_ord xs ys A.in1 s vs.toList vs'.toList _ _ k h4 k4 p1 p2 (room_in hu) h
  | .none, _, _, _, _, _, _, _, _, _, _, _, _, _, h => by simp [ordD] at h
  | .bool _, _, _, _, _, _, _, _, _, _, _, _, _, _, h => by simp [ordD] at h
  | .list _, _, _, _, _, _, _, _, _, _, _, _, _, _, h => by simp [ordD] at h
  | .dict _, _, _, _, _, _, _, _, _, _, _, _, _, _, h => by simp [ordD] at h
  | .int _, .none, _, _, _, _, _, _, _, _, _, _, _, _, h => by simp [ordD] at h
  | .int _, .bool _, _, _, _, _, _, _, _, _, _, _, _, _, h => by simp [ordD] at h
  | .int _, .str _, _, _, _, _, _, _, _, _, _, _, _, _, h => by simp [ordD] at h
  | .int _, .list _, _, _, _, _, _, _, _, _, _, _, _, _, h => by simp [ordD] at h
  | .int _, .tuple _, _, _, _, _, _, _, _, _, _, _, _, _, h => by simp [ordD] at h
  | .int _, .dict _, _, _, _, _, _, _, _, _, _, _, _, _, h => by simp [ordD] at h
  | .str _, .none, _, _, _, _, _, _, _, _, _, _, _, _, h => by simp [ordD] at h
  | .str _, .bool _, _, _, _, _, _, _, _, _, _, _, _, _, h => by simp [ordD] at h
  | .str _, .int _, _, _, _, _, _, _, _, _, _, _, _, _, h => by simp [ordD] at h
  | .str _, .list _, _, _, _, _, _, _, _, _, _, _, _, _, h => by simp [ordD] at h
  | .str _, .tuple _, _, _, _, _, _, _, _, _, _, _, _, _, h => by simp [ordD] at h
  | .str _, .dict _, _, _, _, _, _, _, _, _, _, _, _, _, h => by simp [ordD] at h
  | .tuple _, .none, _, _, _, _, _, _, _, _, _, _, _, _, h => by simp [ordD] at h
  | .tuple _, .bool _, _, _, _, _, _, _, _, _, _, _, _, _, h => by simp [ordD] at h
  | .tuple _, .int _, _, _, _, _, _, _, _, _, _, _, _, _, h => by simp [ordD] at h
  | .tuple _, .str _, _, _, _, _, _, _, _, _, _, _, _, _, h => by simp [ordD] at h
  | .tuple _, .list _, _, _, _, _, _, _, _, _, _, _, _, _, h => by simp [ordD] at h
  | .tuple _, .dict _, _, _, _, _, _, _, _, _, _, _, _, _, h => by simp [ordD] at h
theorem seqLt_ord : ∀ (xs ys : List PyData) (A : Around) (s : Shared) (vs ws : List Value) (as bs : List Addr) (k : Bool), ReadsAll s.heap vs xs as → ReadsAll s.heap ws ys bs → PyData.plainAll xs = true → PyData.plainAll ys = true → A.units + min (PyData.depthAll xs) (PyData.depthAll ys) < cLine → ordDs xs ys = some k → CmpSeq .Lt A s (decide (xs.length < ys.length)) k (vs.zip ws)
  | [], [], _, _, _, _, _, _, k, ra, rb, _, _, _, h => by
    cases ra; cases rb
    have h' : some false = some k := by simpa [ordDs] using h
    cases h'
    rfl
  | [], y :: ys, _, _, _, _, _, _, k, ra, rb, _, _, _, h => by
    cases ra
    have h' : some true = some k := by simpa [ordDs] using h
    cases h'
    rw [List.zip_nil_left]
    exact (decide_eq_true (Nat.succ_pos _)).symm
  | x :: xs, [], _, _, _, _, _, _, k, ra, rb, _, _, _, h => by
    cases rb
    have h' : some false = some k := by simpa [ordDs] using h
    cases h'
    rw [List.zip_nil_right]
    exact (decide_eq_false (Nat.not_lt_zero _)).symm
  | x :: xs, y :: ys, A, s, _, _, _, _, k, ra, rb, p1, p2, hu, h => by
    cases ra with
    | cons r rs =>
      cases rb with
      | cons r' rs' =>
        obtain ⟨p1, p3⟩ := plain_cons p1
        obtain ⟨p2, p4⟩ := plain_cons p2
        rw [List.zip_cons_cons]
        refine ⟨PyData.eqv x y, eqAt_plain x y A s _ _ _ _ r r' p1 p2 (room_head hu), fun e => ?_, fun e => ?_⟩
        · have h' : ordDs xs ys = some k := by simpa [ordDs, e] using h
          have := seqLt_ord xs ys A s _ _ _ _ k rs rs' p3 p4 (room_tail hu) h'
          simpa [Nat.add_lt_add_iff_right] using this
        · have h' : ordD x y = some k := by simpa [ordDs, e] using h
          exact rcLt_ord x y A s _ _ _ _ k r r' p1 p2 (room_head hu) h'
end
end PySem.SeqAt
set_option maxHeartbeats 4000000
/-! tuples compared by <= : only the first place that differs is asked -/
namespace PySem.SeqAt
open AutoSeq1 (wpAny_loadPart')
open MeetsSeq MeetsSeq2 MeetsSeq3 SeqRoads2
open PySem.W (eqv_comm eqv_all_cons)
end PySem.SeqAt
/-! the T-layer, 6: comparisons -/
namespace TL
open PySem PySem.Spec L2
/-! ### is None -/
def isNonT : T → Bool
  | .non => true
  | _ => false
def opIsN : T → T → Sh → Res T
  | x, .non, s => .ok (.bl (isNonT x)) s
  | _, _, _ => .bad
def opNotN : T → T → Sh → Res T
  | x, .non, s => .ok (.bl (!isNonT x)) s
  | _, _, _ => .bad
theorem rep_non {K : PySem.W.Frag} {G : Gh} {t : T} {v : V} (r : rep K G t v) : decide (v = V.non) = isNonT t := by
  cases t with
  | non => cases r; rfl
  | bl b => cases r; rfl
  | int i => cases r; rfl
  | str x => obtain ⟨rfl, _⟩ := r; rfl
  | lst xs => obtain ⟨_, _, rfl, _⟩ := r; rfl
  | tup xs => obtain ⟨_, _, rfl, _⟩ := r; rfl
  | dct xs => obtain ⟨_, _, rfl, _⟩ := r; rfl
  | cel k => obtain ⟨_, rfl, _⟩ := r; rfl
  | glo x => cases r; rfl
  | ty n => cases r; rfl
  | scr n => obtain ⟨_, rfl, _⟩ := r; rfl
  | obj C fs => obtain ⟨_, _, _, rfl, _⟩ := r; rfl
theorem sv_isN {K : PySem.W.Frag} : Sv2 K (fun x y H Q => y = .non ∧ Q (.bl (decide (x = .non))) H) opIsN := by
  intro W G loc sh σ H x y tx ty Q ok rx ry p
  cases ty with
  | non => cases ry; exact ⟨rfl, by rw [rep_non rx]; exact p _ H G (GLe.refl _) ok rfl⟩
  | _ => cases tx <;> exact p.elim
/-! ### == and != -/
mutual
def toD : T → PyData
  | .non => .none
  | .bl b => .bool b
  | .int i => .int i
  | .str x => .str x
  | .lst xs => .list (toDs xs)
  | .tup xs => .tuple (toDs xs)
  | _ => .dict []
def toDs : List T → List PyData
  | [] => []
  | x :: xs => toD x :: toDs xs
end
mutual
def plainT : T → Bool
  | .non => true
  | .bl _ => true
  | .int _ => true
  | .str _ => true
  | .lst xs => plainTs xs
  | .tup xs => plainTs xs
  | _ => false
def plainTs : List T → Bool
  | [] => true
  | x :: xs => plainT x && plainTs xs
end
mutual
theorem plain_toD : ∀ t : T, plainT t = true → (toD t).plain = true
  | .non, _ => rfl
  | .bl _, _ => rfl
  | .int _, _ => rfl
  | .str _, _ => rfl
  | .lst xs, h => plain_toDs xs h
  | .tup xs, h => plain_toDs xs h
  | .dct _, h => by cases h
  | .cel _, h => by cases h
  | .glo _, h => by cases h
  | .ty _, h => by cases h
  | .scr _, h => by cases h
  | .obj _ _, h => by cases h
theorem plain_toDs : ∀ ts : List T, plainTs ts = true → PyData.plainAll (toDs ts) = true
  | [], _ => rfl
  | x :: xs, h => by
    have h1 : (plainT x && plainTs xs) = true := h
    rw [Bool.and_eq_true] at h1
    show ((toD x).plain && PyData.plainAll (toDs xs)) = true
    rw [plain_toD x h1.1, plain_toDs xs h1.2]
    rfl
end
mutual
theorem dp_of {K : PySem.W.Frag} {G : Gh} {H : Hp} (f : FLe G.F H) : ∀ (t : T) (v : V), plainT t = true → rep K G t v → Dp K H v (toD t)
  | .non, _, _, r => by cases r; exact .non
  | .bl _, _, _, r => by cases r; exact .bl _
  | .int _, _, _, r => by cases r; exact .int _
  | .str _, _, _, r => by obtain ⟨rfl, _⟩ := r; exact .str _
  | .lst xs, v, h, r => by
    obtain ⟨a, vs, rfl, q, r, _⟩ := r
    exact .lst (.of (f _ _ q)) (dps_of f xs vs h r)
  | .tup xs, v, h, r => by
    obtain ⟨a, vs, rfl, q, r, _⟩ := r
    exact .tup (SqT.fle f q) (dps_of f xs vs h r)
  | .dct _, _, h, _ => by cases h
  | .cel _, _, h, _ => by cases h
  | .glo _, _, h, _ => by cases h
  | .ty _, _, h, _ => by cases h
  | .scr _, _, h, _ => by cases h
  | .obj _ _, _, h, _ => by cases h
theorem dps_of {K : PySem.W.Frag} {G : Gh} {H : Hp} (f : FLe G.F H) : ∀ (ts : List T) (vs : List V), plainTs ts = true → repL K G ts vs → DpAll K H vs (toDs ts)
  | [], _, _, r => by cases r; exact .nil
  | x :: xs, _, h, r => by
    obtain ⟨v, q, rfl, r1, r2⟩ := r
    have h1 : (plainT x && plainTs xs) = true := h
    rw [Bool.and_eq_true] at h1
    exact .cons (dp_of f x v h1.1 r1) (dps_of f xs q h1.2 r2)
end
/-- == of plain data -/
def eqT (x y : T) : Bool := PyData.eqv (toD x) (toD y)
def eqOk (x y : T) : Bool := plainT x && plainT y && decide (min (toD x).depth (toD y).depth ≤ 150)
def opEqv (neg : Bool) : T → T → Sh → Res T := fun x y s => match x, y with
  | .lst xs, .lst ys => if xs.length ≠ ys.length then .ok (.bl neg) s else if xs.isEmpty then .ok (.bl (!neg)) s else if eqOk x y then .ok (.bl (neg ^^ eqT x y)) s else .bad
  | .dct xs, .dct ys => if xs.length ≠ ys.length then .ok (.bl neg) s else if xs.isEmpty then .ok (.bl (!neg)) s else .bad
  | _, _ => if eqOk x y then .ok (.bl (neg ^^ eqT x y)) s else .bad
def opEq := opEqv false
def opNe := opEqv true
/-- the rule: plain data, or two lists or dicts of unlike lengths, or both empty -/
def rEqA (K : PySem.W.Frag) (neg : Bool) : R2 := fun x y H Q => (∃ d e, Dp K H x d ∧ Dp K H y e ∧ d.plain = true ∧ e.plain = true ∧ min d.depth e.depth ≤ 150 ∧ Q (.bl (neg ^^ PyData.eqv d e)) H) ∨
  (∃ a b xs ys, x = .ref a ∧ y = .ref b ∧ SqL K H a xs ∧ SqL K H b ys ∧ (xs.length ≠ ys.length ∨ xs = []) ∧ Q (.bl (neg ^^ decide (xs.length = ys.length))) H) ∨
  (∃ a b xs ys, x = .ref a ∧ y = .ref b ∧ Rd H a (.dK xs) ∧ Rd H b (.dK ys) ∧ (xs.length ≠ ys.length ∨ xs = []) ∧ Q (.bl (neg ^^ decide (xs.length = ys.length))) H)
section
variable {X : Cx}
theorem orp_eq (hu : X.A.units + 150 < cLine) : OpR X (compareOp .Eq) (rEqA X.K false) := by
  intro pins s σ H x y v u Q I rx ry h
  rcases h with ⟨d, e, hd, he, p1, p2, hm, q⟩ | ⟨a, b, xs, ys, rfl, rfl, ha, hb, hl, q⟩ | ⟨a, b, xs, ys, rfl, rfl, ha, hb, hl, q⟩
  · obtain ⟨as, r1⟩ := Dp.reads I d x v hd rx
    obtain ⟨bs, r2⟩ := Dp.reads I e y u he ry
    exact SeqAt.eq_plain r1 r2 p1 p2 (by omega) ⟨.bl _, H, I, by rw [Bool.false_xor]; rfl, q⟩
  · cases rx; cases ry
    obtain ⟨its, ra, la, za⟩ := I.list ha
    obtain ⟨itb, rb, lb, zb⟩ := I.list hb
    have e1 := ra.length
    have e2 := rb.length
    by_cases hz : xs.length = ys.length
    · have : xs = [] := hl.resolve_left (fun z => z hz)
      subst this
      have h1 : its = [] := List.length_eq_zero_iff.mp e1.symm
      have h2 : itb = [] := List.length_eq_zero_iff.mp (by rw [← e2, ← hz]; rfl)
      subst h1 h2
      refine SeqAt.RcAt.lists (e := fun _ => true) la.isList lb.isList rfl (by omega) (fun j h1 => absurd h1 (by simp)) X.prog X.w _ _ ?_
      refine ⟨.bl _, H, I, ?_, q⟩
      rw [decide_eq_true hz]
      rfl
    · refine SeqAt.RcAt.lists_lengths la.isList lb.isList (by simp only [List.size_toArray, bne_iff_ne]; omega) (by omega) X.prog X.w _ _ ?_
      refine ⟨.bl _, H, I, ?_, q⟩
      rw [decide_eq_false hz]
      rfl
  · cases rx; cases ry
    obtain ⟨_, ya, va, ra, da⟩ := dk_rd I.hok ha
    obtain ⟨_, yb, vb, rb, db⟩ := dk_rd I.hok hb
    have e1 := ra.length
    have e2 := rb.length
    refine PySem.W.keq_eq (knd := mixKind X.prog X.w) (r := true) ya yb da db (by omega) (fun hz => ?_) ?_
    · have h3 : xs.length = ys.length := by omega
      have : xs = [] := hl.resolve_left (fun z => z h3)
      subst this
      have h1 : va = [] := List.length_eq_zero_iff.mp e1.symm
      subst h1
      exact .nil
    · refine ⟨.bl _, H, I, ?_, q⟩
      show _ = Value.bool _
      rw [Bool.false_xor, Bool.and_true, Bool.beq_eq_decide_eq, e1, e2]
theorem orp_ne (hu : X.A.units + 150 < cLine) : OpR X (compareOp .NotEq) (rEqA X.K true) := by
  intro pins s σ H x y v u Q I rx ry h
  rcases h with ⟨d, e, hd, he, p1, p2, hm, q⟩ | ⟨a, b, xs, ys, rfl, rfl, ha, hb, hl, q⟩ | ⟨a, b, xs, ys, rfl, rfl, ha, hb, hl, q⟩
  · obtain ⟨as, r1⟩ := Dp.reads I d x v hd rx
    obtain ⟨bs, r2⟩ := Dp.reads I e y u he ry
    exact SeqAt.ne_plain r1 r2 p1 p2 (by omega) ⟨.bl _, H, I, by rw [Bool.true_xor]; rfl, q⟩
  · cases rx; cases ry
    obtain ⟨its, ra, la, za⟩ := I.list ha
    obtain ⟨itb, rb, lb, zb⟩ := I.list hb
    have e1 := ra.length
    have e2 := rb.length
    by_cases hz : xs.length = ys.length
    · have : xs = [] := hl.resolve_left (fun z => z hz)
      subst this
      have h1 : its = [] := List.length_eq_zero_iff.mp e1.symm
      have h2 : itb = [] := List.length_eq_zero_iff.mp (by rw [← e2, ← hz]; rfl)
      subst h1 h2
      refine SeqAt.RcNeAt.lists (e := fun _ => true) la.isList lb.isList rfl (by omega) (fun j h1 => absurd h1 (by simp)) X.prog X.w _ _ ?_
      refine ⟨.bl _, H, I, ?_, q⟩
      rw [decide_eq_true hz]
      rfl
    · refine SeqAt.RcNeAt.lists_lengths la.isList lb.isList (by simp only [List.size_toArray, bne_iff_ne]; omega) (by omega) X.prog X.w _ _ ?_
      refine ⟨.bl _, H, I, ?_, q⟩
      rw [decide_eq_false hz]
      rfl
  · cases rx; cases ry
    obtain ⟨_, ya, va, ra, da⟩ := dk_rd I.hok ha
    obtain ⟨_, yb, vb, rb, db⟩ := dk_rd I.hok hb
    have e1 := ra.length
    have e2 := rb.length
    refine PySem.W.keq_ne (knd := mixKind X.prog X.w) (r := true) ya yb da db (by omega) (fun hz => ?_) ?_
    · have h3 : xs.length = ys.length := by omega
      have : xs = [] := hl.resolve_left (fun z => z h3)
      subst this
      have h1 : va = [] := List.length_eq_zero_iff.mp e1.symm
      subst h1
      exact .nil
    · refine ⟨.bl _, H, I, ?_, q⟩
      show _ = Value.bool _
      rw [Bool.true_xor, Bool.and_true, Bool.beq_eq_decide_eq, e1, e2]
end
theorem sv_eqv {K : PySem.W.Frag} {neg : Bool} : Sv2 K (rEqA K neg) (opEqv neg) := by
  intro W G loc sh σ H x y tx ty Q ok rx ry p
  have gen : post (rpV K) K W G loc σ (if eqOk tx ty then .ok (.bl (neg ^^ eqT tx ty)) sh else .bad : Res T) Q → rEqA K neg x y H Q := fun p => by
    by_cases h : eqOk tx ty = true
    · rw [if_pos h] at p
      have h1 : (plainT tx && plainT ty && decide (min (toD tx).depth (toD ty).depth ≤ 150)) = true := h
      rw [Bool.and_eq_true, Bool.and_eq_true] at h1
      exact .inl ⟨_, _, dp_of ok.fle tx x h1.1.1 rx, dp_of ok.fle ty y h1.1.2 ry, plain_toD _ h1.1.1, plain_toD _ h1.1.2, of_decide_eq_true h1.2, p _ H G (GLe.refl _) ok rfl⟩
    · rw [if_neg h] at p
      exact p.elim
  unfold opEqv at p
  split at p
  · rename_i xs ys
    obtain ⟨a, vs, rfl, h1, r1, _⟩ := ok.hl rx
    obtain ⟨b, ws, rfl, h2, r2, _⟩ := ok.hl ry
    have e1 := RepL.length r1
    have e2 := RepL.length r2
    by_cases hz : xs.length ≠ ys.length
    · rw [if_pos hz] at p
      have n : vs.length ≠ ws.length := by omega
      refine .inr (.inl ⟨a, b, vs, ws, rfl, rfl, .of h1, .of h2, .inl n, ?_⟩)
      rw [decide_eq_false n, Bool.xor_false]
      exact p _ H G (GLe.refl _) ok rfl
    · rw [if_neg hz] at p
      by_cases he : xs.isEmpty = true
      · rw [if_pos he] at p
        have ex : xs = [] := List.isEmpty_iff.mp he
        subst ex
        have ev : vs = [] := List.length_eq_zero_iff.mp e1
        have n : vs.length = ws.length := by
          have : ([] : List T).length = ys.length := Classical.not_not.mp hz
          omega
        refine .inr (.inl ⟨a, b, vs, ws, rfl, rfl, .of h1, .of h2, .inr ev, ?_⟩)
        rw [decide_eq_true n, Bool.xor_true]
        exact p _ H G (GLe.refl _) ok rfl
      · rw [if_neg he] at p
        exact gen p
  · rename_i xs ys
    obtain ⟨a, vs, rfl, h1, r1, _⟩ := ok.hd rx
    obtain ⟨b, ws, rfl, h2, r2, _⟩ := ok.hd ry
    have e1 := RepD.length r1
    have e2 := RepD.length r2
    by_cases hz : xs.length ≠ ys.length
    · rw [if_pos hz] at p
      have n : vs.length ≠ ws.length := by omega
      refine .inr (.inr ⟨a, b, vs, ws, rfl, rfl, h1, h2, .inl n, ?_⟩)
      rw [decide_eq_false n, Bool.xor_false]
      exact p _ H G (GLe.refl _) ok rfl
    · rw [if_neg hz] at p
      by_cases he : xs.isEmpty = true
      · rw [if_pos he] at p
        have ex : xs = [] := List.isEmpty_iff.mp he
        subst ex
        have ev : vs = [] := List.length_eq_zero_iff.mp e1
        have n : vs.length = ws.length := by
          have : ([] : List (Key × T)).length = ys.length := Classical.not_not.mp hz
          simp at this
          omega
        refine .inr (.inr ⟨a, b, vs, ws, rfl, rfl, h1, h2, .inr ev, ?_⟩)
        rw [decide_eq_true n, Bool.xor_true]
        exact p _ H G (GLe.refl _) ok rfl
      · rw [if_neg he] at p
        exact p.elim
  · exact gen p
/-! ### in, not in -/
def keyOf : T → Option Key
  | .int i => some (.inl i)
  | .str x => some (.inr x)
  | _ => none
/-- a text within a text -/
def inStr (x y : Str) : Bool := match x.cps.toList with
  | [c] => decide (c ∈ y.cps.toList)
  | _ => !(Builtin.Str.occurrences y x 0 y.length 1).isEmpty
def inT (x : T) (ys : List T) : Bool := ys.any fun y => eqT y x
def inOk (x : T) (ys : List T) : Bool := plainT x && plainTs ys && decide (min (PyData.depthAll (toDs ys)) (toD x).depth ≤ 150)
def opInv (neg : Bool) : T → T → Sh → Res T := fun x y s => match x, y with
  | .str z, .str t => .ok (.bl (neg ^^ inStr z t)) s
  | _, .dct kvs => match keyOf x with
    | some k => .ok (.bl (neg ^^ (dgetT kvs k).isSome)) s
    | none => .bad
  | _, .lst ys => if inOk x ys then .ok (.bl (neg ^^ inT x ys)) s else .bad
  | _, .tup ys => if inOk x ys then .ok (.bl (neg ^^ inT x ys)) s else .bad
  | _, _ => .bad
def opIn := opInv false
theorem keyOf_rep {K : PySem.W.Frag} {G : Gh} {t : T} {v : V} {k : Key} (r : rep K G t v) (e : keyOf t = some k) : v = kV k := by
  cases t with
  | int i => cases e; exact r
  | str x => cases e; exact r.1
  | _ => cases e
/-! ### < <= > >= of ints, of texts; < > of tuples of these -/
def ltS (x y : Str) : Bool := decide (x.cps.toList < y.cps.toList)
def ordT (x y : T) : Option Bool := if plainT x && plainT y && decide (min (toD x).depth (toD y).depth ≤ 150) then SeqAt.ordD (toD x) (toD y) else none
def opCmp (fi : Int → Int → Bool) (fs : Str → Str → Bool) (ft : T → T → Option Bool) : T → T → Sh → Res T
  | .int i, .int j, s => .ok (.bl (fi i j)) s
  | .str x, .str y, s => .ok (.bl (fs x y)) s
  | .tup xs, .tup ys, s => match ft (.tup xs) (.tup ys) with
    | some k => .ok (.bl k) s
    | none => .bad
  | _, _, _ => .bad
def opLt := opCmp (fun i j => decide (i < j)) ltS ordT
def opLe := opCmp (fun i j => decide (i ≤ j)) (fun x y => !ltS y x) fun x y => (ordT y x).map (!·)
def opGt := opCmp (fun i j => decide (j < i)) (fun x y => ltS y x) fun x y => ordT y x
def opGe := opCmp (fun i j => decide (j ≤ i)) (fun x y => !ltS x y) fun _ _ => none
def rCmpA (fi : Int → Int → Bool) (fs : Str → Str → Bool) : R2 := fun x y H Q => rI0 (fun i j => .bl (fi i j)) x y H Q ∨ ∃ i j, x = .str i ∧ y = .str j ∧ Q (.bl (fs i j)) H
/-- plain data that can be compared by f -/
def rOrd (K : PySem.W.Frag) (f : PyData → PyData → Option Bool) : R2 := fun x y H Q => ∃ d e k, Dp K H x d ∧ Dp K H y e ∧ d.plain = true ∧ e.plain = true ∧ min d.depth e.depth ≤ 150 ∧ f d e = some k ∧ Q (.bl k) H
def rCmpT (K : PySem.W.Frag) (fi : Int → Int → Bool) (fs : Str → Str → Bool) (f : PyData → PyData → Option Bool) : R2 := fun x y H Q => rCmpA fi fs x y H Q ∨ rOrd K f x y H Q
theorem sv_cmp0 {K : PySem.W.Frag} {fi : Int → Int → Bool} {fs : Str → Str → Bool} {ft : T → T → Option Bool} {r : R2} (h1 : ∀ x y H Q, rCmpA fi fs x y H Q → r x y H Q)
    (h2 : ∀ {G : Gh} {H : Hp} {xs ys : List T} {x y : V} {k : Bool} {Q : VK}, FLe G.F H → rep K G (.tup xs) x → rep K G (.tup ys) y → ft (.tup xs) (.tup ys) = some k → Q (.bl k) H → r x y H Q) : Sv2 K r (opCmp fi fs ft) := by
  intro W G loc sh σ H x y tx ty Q ok rx ry p
  cases tx with
  | int i =>
    cases ty with
    | int j => cases rx; cases ry; exact h1 _ _ _ _ (.inl ⟨i, j, rfl, rfl, p _ H G (GLe.refl _) ok rfl⟩)
    | _ => exact p.elim
  | str i =>
    cases ty with
    | str j => obtain ⟨rfl, _⟩ := rx; obtain ⟨rfl, _⟩ := ry; exact h1 _ _ _ _ (.inr ⟨i, j, rfl, rfl, p _ H G (GLe.refl _) ok rfl⟩)
    | _ => exact p.elim
  | tup xs =>
    cases ty with
    | tup ys =>
      have p' : post (rpV K) K W G loc σ (match ft (.tup xs) (.tup ys) with | some k => .ok (.bl k) sh | none => .bad : Res T) Q := p
      cases e : ft (.tup xs) (.tup ys) with
      | none => rw [e] at p'; exact p'.elim
      | some k => rw [e] at p'; exact h2 ok.fle rx ry e (p' _ H G (GLe.refl _) ok rfl)
    | _ => exact p.elim
  | _ => exact p.elim
theorem ordT_is {x y : T} {k : Bool} (h : ordT x y = some k) : plainT x = true ∧ plainT y = true ∧ min (toD x).depth (toD y).depth ≤ 150 ∧ SeqAt.ordD (toD x) (toD y) = some k := by
  unfold ordT at h
  split at h
  · rename_i q
    rw [Bool.and_eq_true, Bool.and_eq_true] at q
    exact ⟨q.1.1, q.1.2, of_decide_eq_true q.2, h⟩
  · cases h
theorem sv_cmp {K : PySem.W.Frag} {fi : Int → Int → Bool} {fs : Str → Str → Bool} : Sv2 K (rCmpA fi fs) (opCmp fi fs fun _ _ => none) := sv_cmp0 (fun _ _ _ _ h => h) fun _ _ _ e _ => by cases e
theorem sv_lt {K : PySem.W.Frag} : Sv2 K (rCmpT K (fun i j => decide (i < j)) ltS SeqAt.ordD) opLt := sv_cmp0 (fun _ _ _ _ h => .inl h) fun f rx ry e q => by
  obtain ⟨h1, h2, h3, h4⟩ := ordT_is e
  exact .inr ⟨_, _, _, dp_of f _ _ h1 rx, dp_of f _ _ h2 ry, plain_toD _ h1, plain_toD _ h2, h3, h4, q⟩
section
variable {X : Cx}
theorem op_ltOrd (hu : X.A.units + 150 < cLine) : OpR X (compareOp .Lt) (rOrd X.K SeqAt.ordD) := by
  intro pins s σ H x y v u Q I rx ry ⟨d, e, k, hd, he, p1, p2, hm, hk, q⟩
  obtain ⟨as, r1⟩ := Dp.reads I d x v hd rx
  obtain ⟨bs, r2⟩ := Dp.reads I e y u he ry
  exact SeqAt.rcLt_ord d e X.A s v u as bs k r1 r2 p1 p2 (by omega) hk X.prog X.w _ _ ⟨.bl k, H, I, rfl, q⟩
theorem orp_lt (hu : X.A.units + 150 < cLine) : OpR X (compareOp .Lt) (rCmpT X.K (fun i j => decide (i < j)) ltS SeqAt.ordD) := OpR.or (OpR.or op_lt op_lt_str) (op_ltOrd hu)
theorem orp_ge : OpR X (compareOp .GtE) (rCmpA (fun i j => decide (j ≤ i)) fun x y => !ltS x y) := OpR.or op_ge op_ge_str
end
/-! ### a chain -/
section
variable {X : Cx} {W : WX} {a b c : Expr} {ea eb ec : Ev} {pos : Pos}
def eChain (f g : T → T → Sh → Res T) (a b c : Ev) : Ev := fun l s => (a l s).bind fun x s1 => (b l s1).bind fun y s2 => (f x y s2).bind fun z s3 => match z with
  | .bl true => (c l s3).bind fun w s4 => g y w s4
  | .bl false => .ok (.bl false) s3
  | _ => .bad
end
end TL
/-! the T-layer, 7: builtins -/
namespace TL
open PySem PySem.Spec L2
def SvL (K : PySem.W.Frag) (r : List V → Hp → VK → Prop) (f : List T → Sh → Res T) : Prop :=
  ∀ (W : WX) (G : Gh) (loc : Loc) (sh : Sh) (σ : L2.St) (H : Hp) (vs : List V) (ts : List T) (Q : VK), Ok K G loc sh σ H → repL K G ts vs → post (rpV K) K W G loc σ (f ts sh) Q → r vs H Q
def SvLO (K : PySem.W.Frag) (r : List V → Hp → VK → Prop) (f : List T → Sh → Res T) : Prop :=
  ∀ (W : WX) (G : Gh) (loc : Loc) (sh : Sh) (σ : L2.St) (H : Hp) (vs : List V) (ts : List T) (Q : VK), Ok K G loc sh σ H → repL K G ts vs → post (fun G H t v => OwnR K G loc σ H t v) K W G loc σ (f ts sh) Q → r vs H Q
section
variable {X : Cx} {W : WX} {x : Str} {p pos : Pos} {e : Expr} {es : List Expr} {eL : EvL} {id Ty : String} {r : List V → Hp → VK → Prop} {f : List T → Sh → Res T}
theorem liftCB (hf : SvL X.K r f) {σ : L2.St} {H : Hp} {Q : VK} (h : lift X.K W (eA f eL) σ H Q) : tCB r (liftA X.K W eL) σ H Q := by
  obtain ⟨G, loc, sh, ok, p⟩ := h
  refine ⟨G, loc, sh, ok, (post.bind (Rp := rpL X.K) p).imp ?_⟩
  rintro vs H1 ⟨G1, ts, s1, l1, ok1, r1, p1⟩
  exact hf W G1 loc s1 σ H1 vs ts Q ok1 r1 p1
theorem liftCBO (hf : SvLO X.K r f) {σ : L2.St} {H : Hp} {Q : VK} (h : liftO X.K W (eA f eL) σ H Q) : tCB r (liftA X.K W eL) σ H Q := by
  obtain ⟨G, loc, sh, ok, p⟩ := h
  refine ⟨G, loc, sh, ok, (post.bind (Rp := rpL X.K) p).imp ?_⟩
  rintro vs H1 ⟨G1, ts, s1, l1, ok1, r1, p1⟩
  exact hf W G1 loc s1 σ H1 vs ts Q ok1 r1 p1
theorem t_bi (hc : CallR X (.builtin id) r) (hf : SvL X.K r f) (hg : Gl X x) (hm : X.mg x = none) (hv : bootBuiltins x = some (.builtin id)) (ha : TPA X W (e :: es) eL) (hn : x ≠ "__name__" := by decide) (hdb : (x == ("__debug__" : Str)) = false := by decide)
    (he : starEach (e :: es) X.env = (false, eval e X.env) :: starEach es X.env := by rfl) (hpl : (backTo pos (starEach es X.env)).any (·.1) = false := by rfl) : TPE X W (.Call (.Name x p) (e :: es) [] pos) (eA f eL) := PE.weak (pe_callB hc hg hm hv ha hn hdb he hpl) fun _ _ _ h => liftCB hf h
theorem t_biO (hc : CallR X (.builtin id) r) (hf : SvLO X.K r f) (hg : Gl X x) (hm : X.mg x = none) (hv : bootBuiltins x = some (.builtin id)) (ha : TPA X W (e :: es) eL) (hn : x ≠ "__name__" := by decide) (hdb : (x == ("__debug__" : Str)) = false := by decide)
    (he : starEach (e :: es) X.env = (false, eval e X.env) :: starEach es X.env := by rfl) (hpl : (backTo pos (starEach es X.env)).any (·.1) = false := by rfl) : TPO X W (.Call (.Name x p) (e :: es) [] pos) (eA f eL) := PE.weak (pe_callB hc hg hm hv ha hn hdb he hpl) fun _ _ _ h => liftCBO hf h
theorem t_ty (hc : CallR X (.type Ty) r) (hf : SvL X.K r f) (hg : Gl X x) (hm : X.mg x = none) (hv : bootBuiltins x = some (.type Ty)) (ha : TPA X W (e :: es) eL) (hn : x ≠ "__name__" := by decide) (hdb : (x == ("__debug__" : Str)) = false := by decide)
    (he : starEach (e :: es) X.env = (false, eval e X.env) :: starEach es X.env := by rfl) (hpl : (backTo pos (starEach es X.env)).any (·.1) = false := by rfl) : TPE X W (.Call (.Name x p) (e :: es) [] pos) (eA f eL) := PE.weak (pe_callTy hc hg hm hv ha hn hdb he hpl) fun _ _ _ h => liftCB hf h
theorem t_tyO (hc : CallR X (.type Ty) r) (hf : SvLO X.K r f) (hg : Gl X x) (hm : X.mg x = none) (hv : bootBuiltins x = some (.type Ty)) (ha : TPA X W (e :: es) eL) (hn : x ≠ "__name__" := by decide) (hdb : (x == ("__debug__" : Str)) = false := by decide)
    (he : starEach (e :: es) X.env = (false, eval e X.env) :: starEach es X.env := by rfl) (hpl : (backTo pos (starEach es X.env)).any (·.1) = false := by rfl) : TPO X W (.Call (.Name x p) (e :: es) [] pos) (eA f eL) := PE.weak (pe_callTy hc hg hm hv ha hn hdb he hpl) fun _ _ _ h => liftCBO hf h
/-- a built-in type as a value -/
theorem t_tyv {n : String} (hg : Gl X x) (hm : X.mg x = none) (hv : bootBuiltins x = some (.type n)) (hn : x ≠ "__name__" := by decide) (hd : (x == ("__debug__" : Str)) = false := by decide) : TPE X W (.Name x pos) (eC (.ty n)) := t_c (pe_bltn (v := .ty n) hg hm hv rfl hn hd) fun _ _ => rfl
end
theorem RepL.one {K : PySem.W.Frag} {F : Hp} {al : List Addr} {t : T} {vs : List V} (r : RepL K F al [t] vs) : ∃ v, vs = [v] ∧ Rep K F al t v := by
  obtain ⟨v, q, rfl, h, rfl⟩ := r
  exact ⟨v, rfl, h⟩
theorem RepL.two {K : PySem.W.Frag} {F : Hp} {al : List Addr} {t u : T} {vs : List V} (r : RepL K F al [t, u] vs) : ∃ v w, vs = [v, w] ∧ Rep K F al t v ∧ Rep K F al u w := by
  obtain ⟨v, q, rfl, h, w, q2, rfl, h2, rfl⟩ := r
  exact ⟨v, w, rfl, h, h2⟩
/-! ### isinstance -/
def tyName : T → Sh → Option String
  | .non, _ => some "NoneType"
  | .bl _, _ => some "bool"
  | .int _, _ => some "int"
  | .str _, _ => some "str"
  | .lst _, _ => some "list"
  | .tup _, _ => some "tuple"
  | .dct _, _ => some "dict"
  | .cel k, s => match s[k]? with
    | some (.lst _) => some "list"
    | some (.dct _) => some "dict"
    | _ => none
  | _, _ => none
def isTy (a n : String) : Bool := a == n || (a == "bool" && n == "int")
def tyKn (n : String) : Bool := ["str", "list", "dict", "int", "bool", "tuple"].contains n
def biIsI : List T → Sh → Res T
  | [x, .ty n], s => match tyName x s with
    | some a => if tyKn n then .ok (.bl (isTy a n)) s else .bad
    | none => .bad
  | _, _ => .bad
def tyAll : List String := ["NoneType", "bool", "int", "str", "list", "tuple", "dict"]
theorem kit_all : (tyAll.all fun a => ["str", "list", "dict", "int", "bool", "tuple"].all fun n => decide (kitB a n = some (isTy a n))) = true := by decide +kernel
theorem kit_one {K : PySem.W.Frag} {a n : String} (ha : a ∈ tyAll) (hn : tyKn n = true) : PySem.W.kitOne K (.type a) (.type n) = some (isTy a n) := by
  refine kit_ty (of_decide_eq_true (List.all_eq_true.mp (List.all_eq_true.mp kit_all a ha) n ?_))
  exact List.contains_iff_mem.mp hn
section
variable {K : PySem.W.Frag} {W : WX} {G : Gh} {loc : Loc} {sh : Sh} {σ : L2.St} {H : Hp}
theorem ty_of (ok : Ok K G loc sh σ H) {t : T} {v : V} {a : String} (r : rep K G t v) (e : tyName t sh = some a) : TyX K H v (.type a) ∧ a ∈ tyAll := by
  cases t with
  | non => cases e; cases r; exact ⟨.base .non, by decide⟩
  | bl b => cases e; cases r; exact ⟨.base (.bl _), by decide⟩
  | int i => cases e; cases r; exact ⟨.base (.int _), by decide⟩
  | str x => cases e; obtain ⟨rfl, _⟩ := r; exact ⟨.base (.str _), by decide⟩
  | lst xs => cases e; obtain ⟨b, vs, rfl, h, _⟩ := ok.hl r; exact ⟨.base (.lst h), by decide⟩
  | tup xs =>
    cases e
    obtain ⟨b, vs, rfl, h, _⟩ := ok.ht r
    refine ⟨?_, by decide⟩
    rcases h with (h | ⟨o, h⟩) | ⟨o, its, n, h1, h2, _⟩
    · exact .base (.tup h)
    · exact .fTuple h
    · exact .kTuple h1 h2
  | dct kvs =>
    cases e
    obtain ⟨b, vs, rfl, h, _⟩ := ok.hd r
    refine ⟨?_, by decide⟩
    rcases h with h | ⟨o, h⟩
    · exact .base (.dK h)
    · exact .fDict h
  | cel k =>
    obtain ⟨b, rfl, h⟩ := r
    unfold tyName at e
    cases q : sh[k]? with
    | none => simp only [q] at e; cases e
    | some so =>
      simp only [q] at e
      obtain ⟨b', h', s⟩ := ok.shr k so q
      rw [h] at h'
      cases h'
      cases so with
      | lst xs => cases e; obtain ⟨vs, q1, _⟩ := s; exact ⟨.base (.lst q1), by decide⟩
      | dct xs => cases e; obtain ⟨vs, q1, _⟩ := s; exact ⟨.base (.dK q1), by decide⟩
      | ins C fs => cases e
      | tab d q => cases e
  | _ => cases e
end
theorem kitAny_of {K : PySem.W.Frag} {a : String} (ha : a ∈ tyAll) : ∀ ns : List String, (∀ n ∈ ns, tyKn n = true) → PySem.W.kitAny K (.type a) (ns.map Value.type) = some (ns.any fun n => isTy a n)
  | [], _ => kitAny_nil
  | n :: ns, h => by
    have ih := kitAny_of (K := K) ha ns fun k hk => h k (by simp [hk])
    rw [List.map_cons]
    refine kitAny_cons (kit_one ha (h n (by simp))) (fun e => ?_) fun e => ?_
    · rw [List.any_cons, e, Bool.false_or]; exact ih
    · rw [List.any_cons, e, Bool.true_or]
theorem sv_isi {K : PySem.W.Frag} : SvL K (rIsi K) biIsI := by
  intro W G loc sh σ H vs ts Q ok r p
  unfold biIsI at p
  split at p
  · rename_i x n
    obtain ⟨v, c, rfl, r1, r2⟩ := RepL.two r
    cases r2
    split at p
    · rename_i a e
      split at p
      · rename_i hn
        obtain ⟨h1, h2⟩ := ty_of ok r1 e
        exact ⟨v, .ty n, .type a, .type n, isTy a n, rfl, .ty n, h1, kit_one h2 hn, p _ H G (GLe.refl _) ok rfl⟩
      · exact p.elim
    · exact p.elim
  · exact p.elim
/-- isinstance(e, (T1, T2)) -/
def eIsT (ns : List String) (a : Ev) : Ev := fun l s => (a l s).bind fun x s1 => match tyName x s1 with
  | some a => .ok (.bl (ns.any fun n => isTy a n)) s1
  | none => .bad
def tTys (ns : List String) : TA := fun _ H Q => Q (ns.map V.ty) H
section
variable {X : Cx} {W : WX} {x : Str} {p pos q : Pos} {e a : Expr} {es cs : List Expr} {ea : Ev} {ns : List String}
theorem pa_tys_nil : PA X [] (tTys []) := PA.weak pa_nil fun σ H Q h => h
theorem pa_tys_cons {n : String} (hg : Gl X x) (hm : X.mg x = none) (hv : bootBuiltins x = some (.type n)) (hr : PA X es (tTys ns)) (hn : x ≠ "__name__" := by decide) (hd : (x == ("__debug__" : Str)) = false := by decide) (hs : starEach (.Name x pos :: es) X.env = (false, eval (.Name x pos) X.env) :: starEach es X.env := by rfl) : PA X (.Name x pos :: es) (tTys (n :: ns)) :=
  PA.weak (pa_cons (pe_bltn (v := .ty n) hg hm hv rfl hn hd) hr hs) fun σ H Q h => h
theorem tys_cls : ∀ ns : List String, Paired ClsV (ns.map V.ty) (ns.map Value.type)
  | [] => .nil
  | n :: ns => .cons (.ty n) (tys_cls ns)
theorem t_isT {k} (ha : TPE X W a ea) (hcs : PA X cs (tTys ns)) (hn : ns.all tyKn = true) (hl : ns.length ≤ sizeLine) (hg : Gl X x) (hm : X.mg x = none) (hv : bootBuiltins x = some (.builtin "isinstance")) (hnm : x ≠ "__name__" := by decide) (hdb : (x == ("__debug__" : Str)) = false := by decide)
    (he : starEach [a, .Tuple cs k q] X.env = (false, eval a X.env) :: starEach [.Tuple cs k q] X.env := by rfl) (hpl : (backTo pos (starEach [.Tuple cs k q] X.env)).any (·.1) = false := by rfl) (hs : starEach [.Tuple cs k q] X.env = (false, eval (.Tuple cs k q) X.env) :: starEach [] X.env := by rfl) :
    TPE X W (.Call (.Name x p) [a, .Tuple cs k q] [] pos) (eIsT ns ea) := PE.weak (pe_callB call_isiT hg hm hv (pa_cons ha (pa_cons (pe_tup hcs) pa_nil hs) he) hnm hdb he hpl) fun σ H Q ⟨G, loc, sh, ok, p⟩ => by
  refine ⟨G, loc, sh, ok, (post.bind (Rp := rpV X.K) p).imp ?_⟩
  rintro v H1 ⟨G1, t, s1, l1, ok1, r1, p1⟩
  refine ⟨by rw [List.length_map]; exact hl, fun b hb => ?_⟩
  have ok2 : Ok X.K G1 loc s1 σ (upd H1 b (.tup (ns.map V.ty))) := ok1.grow hb
  cases e : tyName t s1 with
  | none => simp only [e] at p1; exact p1.elim
  | some a' =>
    simp only [e] at p1
    obtain ⟨h1, h2⟩ := ty_of ok2 r1 e
    exact ⟨v, b, ns.map V.ty, .type a', ns.map Value.type, _, rfl, upd_same, tys_cls ns, h1, kitAny_of h2 ns (fun n hn' => List.all_eq_true.mp hn n hn'), p1 _ _ G1 (GLe.refl _) ok2 rfl⟩
end
end TL
/-! the T-layer, 8: subscripts, slices, stores, methods -/
namespace TL
open PySem PySem.Spec L2
section
variable {K : PySem.W.Frag} {F : Hp} {al : List Addr}
theorem RepL.atI {ts : List T} {vs : List V} {i : Int} {t : T} (r : RepL K F al ts vs) (e : atI ts i = some t) : ∃ v, L2.atI vs i = some v ∧ Rep K F al t v := by
  unfold L2.atI at e ⊢
  rw [RepL.length r]
  cases q : ixN ts.length i with
  | none => rw [q] at e; cases e
  | some j =>
    rw [q] at e
    exact RepL.get r e
end
def isDc : T → Sh → Bool
  | .dct _, _ => true
  | .cel k, s => match s[k]? with
    | some (.dct _) => true
    | _ => false
  | _, _ => false
def opIx : T → T → Sh → Res T
  | .lst xs, .int i, s => match atI xs i with
    | some t => .ok t s
    | none => .bad
  | .tup xs, .int i, s => match atI xs i with
    | some t => .ok t s
    | none => .bad
  | .str z, .int i, s => match atI z.cps.toList i with
    | some c => .ok (.str ⟨#[c]⟩) s
    | none => .bad
  | .scr ns, .int i, s => match atI ns i with
    | some n => .ok (.int n) s
    | none => .bad
  | .dct kvs, k, s => match keyOf k with
    | some k => match dgetT kvs k with
      | some t => .ok t s
      | none => .bad
    | none => .bad
  | .cel c, k, s => match s[c]? with
    | some (.lst xs) => match k with
      | .int i => match atI xs i with
        | some t => .ok t s
        | none => .bad
      | _ => .bad
    | some (.dct kvs) => match keyOf k with
      | some k => match dgetT kvs k with
        | some t => .ok t s
        | none => .bad
      | none => .bad
    | _ => .bad
  | _, _, _ => .bad
def rIxA (K : PySem.W.Frag) : R2 := fun x y H Q => rIxL K x y H Q ∨ rIxT K x y H Q ∨ rIxS x y H Q
def rIxD : R2 := fun x y H Q => ∃ a v, x = .ref a ∧ DGet H a y (some v) ∧ Q v H
section
variable {K : PySem.W.Frag} {W : WX} {G : Gh} {loc : Loc} {sh : Sh} {σ : L2.St} {H : Hp} {tx ty : T} {x y : V} {Q : VK}
theorem atI_map {α β : Type} (f : α → β) (xs : List α) (i : Int) : atI (xs.map f) i = (atI xs i).map f := by
  unfold atI
  rw [List.length_map]
  cases ixN xs.length i with
  | none => rfl
  | some j => simp
theorem ix_core (ok : Ok K G loc sh σ H) (rx : rep K G tx x) (ry : rep K G ty y) (p : post (rpV K) K W G loc σ (opIx tx ty sh) Q) : if isDc tx sh then rIxD x y H Q else rIxA K x y H Q := by
  have dg : ∀ (a : Addr) (kvs : List (Key × T)) (kv : List (Key × V)), Rd H a (.dK kv) → RepD K G.F G.al kvs kv → post (rpV K) K W G loc σ (match keyOf ty with
      | some k => match dgetT kvs k with
        | some t => .ok t sh
        | none => .bad
      | none => .bad) Q → rIxD (.ref a) y H Q := fun a kvs kv h1 r1 p => by
    cases e : keyOf ty with
    | none => rw [e] at p; exact p.elim
    | some k =>
      rw [e] at p
      rcases RepD.get (k := k) r1 with ⟨q1, q2⟩ | ⟨t, v, q1, q2, q3⟩
      · simp only [q1] at p; exact p.elim
      · simp only [q1] at p
        exact ⟨a, v, rfl, .inl ⟨kv, k, h1, keyOf_rep ry e, q2.symm⟩, p v H G (GLe.refl _) ok q3⟩
  have li : ∀ (a : Addr) (xs : List T) (vs : List V) (i : Int), (SqL K H a vs ∨ SqT K H a vs) → repL K G xs vs → post (rpV K) K W G loc σ (match atI xs i with
      | some t => .ok t sh
      | none => .bad) Q → rIxA K (.ref a) (.int i) H Q := fun a xs vs i h1 r1 p => by
    cases e : atI xs i with
    | none => rw [e] at p; exact p.elim
    | some t =>
      rw [e] at p
      obtain ⟨v, ev, rv⟩ := RepL.atI r1 e
      rcases h1 with h1 | h1
      · exact .inl ⟨a, vs, i, v, rfl, rfl, h1, ev, p v H G (GLe.refl _) ok rv⟩
      · exact .inr (.inl ⟨a, vs, i, v, rfl, rfl, h1, ev, p v H G (GLe.refl _) ok rv⟩)
  cases tx with
  | lst xs =>
    show rIxA K x y H Q
    obtain ⟨a, vs, rfl, h1, r1, _⟩ := ok.hl rx
    cases ty with
    | int i => cases ry; exact li a xs vs i (.inl (.of h1)) r1 p
    | _ => exact p.elim
  | tup xs =>
    show rIxA K x y H Q
    obtain ⟨a, vs, rfl, h1, r1, _⟩ := ok.ht rx
    cases ty with
    | int i => cases ry; exact li a xs vs i (.inr h1) r1 p
    | _ => exact p.elim
  | str z =>
    show rIxA K x y H Q
    obtain ⟨rfl, hz⟩ := rx
    cases ty with
    | int i =>
      cases ry
      have p' : post (rpV K) K W G loc σ (match atI z.cps.toList i with
        | some c => .ok (.str ⟨#[c]⟩) sh
        | none => .bad) Q := p
      cases e : atI z.cps.toList i with
      | none => rw [e] at p'; exact p'.elim
      | some c =>
        rw [e] at p'
        exact .inr (.inr ⟨z, i, c, rfl, rfl, hz, e, p' _ H G (GLe.refl _) ok ⟨rfl, one_le⟩⟩)
    | _ => exact p.elim
  | scr ns =>
    show rIxA K x y H Q
    obtain ⟨a, rfl, h1, _⟩ := rx
    cases ty with
    | int i =>
      cases ry
      have p' : post (rpV K) K W G loc σ (match atI ns i with
        | some n => .ok (.int n) sh
        | none => .bad) Q := p
      cases e : atI ns i with
      | none => rw [e] at p'; exact p'.elim
      | some n =>
        rw [e] at p'
        exact .inl ⟨a, _, i, .int n, rfl, rfl, SqL.fle ok.fle h1, by rw [atI_map, e]; rfl, p' _ H G (GLe.refl _) ok rfl⟩
    | _ => exact p.elim
  | dct kvs =>
    show rIxD x y H Q
    obtain ⟨a, kv, rfl, h1, r1, _⟩ := ok.hd rx
    exact dg a kvs kv h1 r1 p
  | cel c =>
    obtain ⟨a, rfl, ha⟩ := rx
    cases e : sh[c]? with
    | none =>
      have : opIx (.cel c) ty sh = .bad := by unfold opIx; simp only [e]
      rw [this] at p
      exact p.elim
    | some so =>
      obtain ⟨a', ha', s⟩ := ok.shr c so e
      rw [ha] at ha'
      cases ha'
      cases so with
      | lst xs =>
        have hi : isDc (.cel c) sh = false := by unfold isDc; simp only [e]
        rw [hi]
        show rIxA K _ y H Q
        obtain ⟨vs, q1, q2, q3⟩ := s
        cases ty with
        | int i =>
          cases ry
          have : opIx (.cel c) (.int i) sh = (match atI xs i with
            | some t => .ok t sh
            | none => .bad) := by unfold opIx; simp only [e]
          rw [this] at p
          exact li a xs vs i (.inl (.of q1)) q2 p
        | _ =>
          exfalso
          unfold opIx at p
          simp only [e] at p
          exact p
      | dct kvs =>
        have hi : isDc (.cel c) sh = true := by unfold isDc; simp only [e]
        rw [hi]
        show rIxD _ y H Q
        obtain ⟨kv, q1, q2, q3⟩ := s
        refine dg a kvs kv (.inl q1) q2 ?_
        have : opIx (.cel c) ty sh = (match keyOf ty with
          | some k => match dgetT kvs k with
            | some t => .ok t sh
            | none => .bad
          | none => .bad) := by unfold opIx; simp only [e]
        rw [this] at p
        exact p
      | ins C fs =>
        have : opIx (.cel c) ty sh = .bad := by unfold opIx; simp only [e]
        rw [this] at p
        exact p.elim
      | tab d q =>
        have : opIx (.cel c) ty sh = .bad := by unfold opIx; simp only [e]
        rw [this] at p
        exact p.elim
  | _ => exact p.elim
end
section
variable {X : Cx} {W : WX} {a b c : Expr} {ea eb ec : Ev} {pos p2 : Pos}
theorem t_ix (hu : X.A.units + 1 < cLine) (ha : TPE X W a ea) (hb : TPE X W b eb) (hs : NoSl b := by intro _ _; rfl) : TPE X W (.Subscript a b pos) (e2 opIx ea eb) :=
  PE.weak (PE.or (pe_dget hu ha hb hs) (pe_ix (IxR.or ix_list (IxR.or ix_tup ix_str)) ha hb hs)) fun σ H Q ⟨G, loc, sh, ok, p⟩ => by
    cases e1 : ea loc sh with
    | bad => unfold e2 at p; rw [e1] at p; exact p.elim
    | exc x s =>
      unfold e2 at p
      rw [e1] at p
      exact .inl ⟨G, loc, sh, ok, by rw [e1]; exact p⟩
    | ok tx s1 =>
      unfold e2 at p
      rw [e1] at p
      simp only [Res.bind_ok] at p
      cases e2 : eb loc s1 with
      | bad => rw [e2] at p; exact p.elim
      | exc x s =>
        rw [e2] at p
        refine .inl ⟨G, loc, sh, ok, ?_⟩
        rw [e1]
        intro v H1 G1 l1 ok1 r1
        refine ⟨G1, loc, s1, ok1, ?_⟩
        rw [e2]
        exact fun d H2 G2 l2 => p d H2 G2 (l1.trans l2)
      | ok ty s2 =>
        rw [e2] at p
        simp only [Res.bind_ok] at p
        have key : ∀ v H1 G1, GLe G G1 → Ok X.K G1 loc s1 σ H1 → rep X.K G1 tx v → ∀ u H2 G2, GLe G1 G2 → Ok X.K G2 loc s2 σ H2 → rep X.K G2 ty u → if isDc tx s2 then rIxD v u H2 Q else rIxA X.K v u H2 Q :=
          fun v H1 G1 l1 ok1 r1 u H2 G2 l2 ok2 r2 => ix_core (W := W) ok2 (rep_le l2 r1) r2 (post.le (l1.trans l2) p)
        cases hd : isDc tx s2 with
        | true =>
          rw [hd] at key
          refine .inl ⟨G, loc, sh, ok, ?_⟩
          rw [e1]
          intro v H1 G1 l1 ok1 r1
          refine ⟨G1, loc, s1, ok1, ?_⟩
          rw [e2]
          exact fun u H2 G2 l2 ok2 r2 => key v H1 G1 l1 ok1 r1 u H2 G2 l2 ok2 r2
        | false =>
          rw [hd] at key
          refine .inr ⟨G, loc, sh, ok, ?_⟩
          rw [e1]
          intro v H1 G1 l1 ok1 r1
          refine ⟨G1, loc, s1, ok1, ?_⟩
          rw [e2]
          exact fun u H2 G2 l2 ok2 r2 => key v H1 G1 l1 ok1 r1 u H2 G2 l2 ok2 r2
/-! ### slices -/
def cutA {α : Type} (xs : List α) (lo hi : Option Int) : List α := (xs.drop (HT.sIx xs.length 0 lo)).take (HT.sIx xs.length xs.length hi - HT.sIx xs.length 0 lo)
theorem cutA_length {α : Type} (xs : List α) (lo hi : Option Int) : (cutA xs lo hi).length ≤ xs.length := by
  unfold cutA
  rw [List.length_take, List.length_drop]
  omega
theorem cutA_map {α β : Type} (f : α → β) (xs : List α) (lo hi : Option Int) : (cutA xs lo hi).map f = cutA (xs.map f) lo hi := by
  unfold cutA
  rw [List.length_map, List.map_take, List.map_drop]
theorem RepL.cut {K : PySem.W.Frag} {F : Hp} {al : List Addr} {ts : List T} {vs : List V} (lo hi : Option Int) (r : RepL K F al ts vs) : RepL K F al (cutA ts lo hi) (cutV vs lo hi) := by
  unfold cutA cutV
  rw [RepL.length r]
  exact RepL.take _ (RepL.drop _ r)
abbrev EvO := Loc → Sh → Res (Option Int)
def oNone : EvO := fun _ s => .ok none s
def oSome (a : Ev) : EvO := fun l s => (a l s).bind fun x s1 => match x with
  | .int i => .ok (some i) s1
  | _ => .bad
def liftPo (K : PySem.W.Frag) (W : WX) (ev : EvO) : TO := fun σ H Q => ∃ G loc sh, Ok K G loc sh σ H ∧ post (fun _ _ a b => b = a) K W G loc σ (ev loc sh) Q
abbrev TPO' (X : Cx) (W : WX) (o : Option Expr) (ev : EvO) : Prop := PO X o (liftPo X.K W ev)
theorem PO.weak {X : Cx} {e : Option Expr} {t t' : TO} (h : PO X e t) (w : ∀ σ H Q, t' σ H Q → t σ H Q) : PO X e t' := ⟨fun pins s σ H Q I q => h.run pins s σ H Q I (w σ H Q q)⟩
theorem tpo_none : TPO' X W none oNone := PO.weak po_none fun σ H Q ⟨G, loc, sh, ok, p⟩ => p none H G (GLe.refl _) ok rfl
theorem tpo_some (h : TPE X W a ea) : TPO' X W (some a) (oSome ea) := PO.weak (po_some h) fun σ H Q ⟨G, loc, sh, ok, p⟩ => by
  refine ⟨G, loc, sh, ok, (post.bind (Rp := rpV X.K) p).imp ?_⟩
  rintro v H1 ⟨G1, t, s1, l1, ok1, r1, p1⟩
  cases t with
  | int i => exact ⟨i, r1, p1 (some i) H1 G1 (GLe.refl _) ok1 rfl⟩
  | _ => exact p1.elim
def opSl : T → Option Int → Option Int → Sh → Res T
  | .lst xs, lo, hi, s => .ok (.lst (cutA xs lo hi)) s
  | .scr ns, lo, hi, s => .ok (.lst ((cutA ns lo hi).map T.int)) s
  | .tup xs, lo, hi, s => .ok (.tup (cutA xs lo hi)) s
  | .str z, lo, hi, s => .ok (.str (cutS z lo hi)) s
  | .cel k, lo, hi, s => match s[k]? with
    | some (.lst xs) => .ok (.lst (cutA xs lo hi)) s
    | _ => .bad
  | _, _, _, _ => .bad
/-- a list's -/
def opSlL : T → Option Int → Option Int → Sh → Res T
  | .lst xs, lo, hi, s => .ok (.lst (cutA xs lo hi)) s
  | .scr ns, lo, hi, s => .ok (.lst ((cutA ns lo hi).map T.int)) s
  | .cel k, lo, hi, s => match s[k]? with
    | some (.lst xs) => .ok (.lst (cutA xs lo hi)) s
    | _ => .bad
  | _, _, _, _ => .bad
def eSl (f : T → Option Int → Option Int → Sh → Res T) (a : Ev) (lo hi : EvO) : Ev := fun l s => (a l s).bind fun x s1 => (lo l s1).bind fun i s2 => (hi l s2).bind fun j s3 => f x i j s3
theorem cutS_len (z : Str) (lo hi : Option Int) : (cutS z lo hi).length ≤ z.length := by
  show ((z.cps.toList.drop _).take _).toArray.size ≤ _
  rw [List.size_toArray, List.length_take, List.length_drop, Array.length_toList]
  show min _ (z.cps.size - _) ≤ z.cps.size
  omega
def rSlX (K : PySem.W.Frag) : V → Option Int → Option Int → Hp → VK → Prop := fun x lo hi H Q => rSlL K x lo hi H Q ∨ rSlA K x lo hi H Q ∨ rSlS x lo hi H Q
theorem cut_whole {α : Type} {xs : List α} {lo hi : Option Int} (h : HT.sIx xs.length 0 lo = 0 ∧ HT.sIx xs.length xs.length hi = xs.length) : cutA xs lo hi = xs := by
  unfold cutA
  rw [h.1, h.2]
  simp
theorem sl_coreO {K : PySem.W.Frag} {G : Gh} {loc : Loc} {sh : Sh} {σ : L2.St} {H : Hp} {x : V} {t : T} {lo hi : Option Int} {Q : VK} (ok : Ok K G loc sh σ H) (rx : rep K G t x) (p : post (fun G H t v => OwnR K G loc σ H t v) K W G loc σ (opSlL t lo hi sh) Q) : rSlX K x lo hi H Q := by
  cases t with
  | lst xs =>
    obtain ⟨a, vs, rfl, h1, r1, hz⟩ := ok.hl rx
    exact .inl ⟨a, vs, rfl, .of h1, ok.newLO (RepL.cut lo hi r1) (Nat.le_trans (cutA_length _ _ _) hz) p⟩
  | scr ns =>
    obtain ⟨a, rfl, h1, hz⟩ := rx
    refine .inl ⟨a, _, rfl, SqL.fle ok.fle h1, ok.newLO (xs := (cutA ns lo hi).map T.int) ?_ (by rw [List.length_map]; exact Nat.le_trans (cutA_length _ _ _) hz) p⟩
    rw [cutA_map]
    exact RepL.cut lo hi (RepL.ints ns)
  | cel k =>
    obtain ⟨a, rfl, ha⟩ := rx
    cases e : sh[k]? with
    | none => have : opSlL (.cel k) lo hi sh = .bad := by unfold opSlL; simp only [e]
              rw [this] at p; exact p.elim
    | some so =>
      cases so with
      | lst xs =>
        have : opSlL (.cel k) lo hi sh = .ok (.lst (cutA xs lo hi)) sh := by unfold opSlL; simp only [e]
        rw [this] at p
        obtain ⟨b, vs, e1, _, h1, r1, hz⟩ := ok.hc (K := K) (v := .ref a) ⟨a, rfl, ha⟩ e
        cases e1
        exact .inl ⟨a, vs, rfl, .of h1, ok.newLO (RepL.cut lo hi r1) (Nat.le_trans (cutA_length _ _ _) hz) p⟩
      | _ => have : opSlL (.cel k) lo hi sh = .bad := by unfold opSlL; simp only [e]
             rw [this] at p; exact p.elim
  | _ => exact p.elim
theorem sl_core {K : PySem.W.Frag} {G : Gh} {loc : Loc} {sh : Sh} {σ : L2.St} {H : Hp} {x : V} {t : T} {lo hi : Option Int} {Q : VK} (ok : Ok K G loc sh σ H) (rx : rep K G t x) (p : post (rpV K) K W G loc σ (opSl t lo hi sh) Q) : rSlX K x lo hi H Q := by
  have up : ∀ {r : Res T}, post (rpV K) K W G loc σ r Q → post (fun G H t v => OwnR K G loc σ H t v) K W G loc σ r Q := fun {r} p => by
    cases r with
    | ok t s =>
      intro v H' G' le ok' o
      obtain ⟨G2, l2, ok2, r⟩ := OwnR.freeze ok' o
      exact p v H' G2 (le.trans l2) ok2 r
    | exc x s => exact p
    | bad => exact p
  cases t with
  | lst xs => exact sl_coreO (W := W) ok rx (up p)
  | scr ns => exact sl_coreO (W := W) ok rx (up p)
  | cel k => exact sl_coreO (W := W) ok rx (up p)
  | tup xs =>
    obtain ⟨a, vs, rfl, h1, r1, hz⟩ := ok.ht rx
    refine .inr (.inl ⟨a, vs, rfl, h1, fun h => ?_, fun _ => ok.newT (RepL.cut lo hi r1) (Nat.le_trans (cutA_length _ _ _) hz) p⟩)
    rw [RepL.length r1] at h
    have p' : post (rpV K) K W G loc σ (.ok (.tup (cutA xs lo hi)) sh) Q := p
    rw [cut_whole h] at p'
    exact p' _ H G (GLe.refl _) ok rx
  | str z =>
    obtain ⟨rfl, hz⟩ := rx
    exact .inr (.inr ⟨z, rfl, hz, p _ H G (GLe.refl _) ok ⟨rfl, Nat.le_trans (cutS_len z lo hi) hz⟩⟩)
  | _ => exact p.elim
variable {lo hi : Option Expr} {el eh : EvO}
theorem t_sl (ha : TPE X W a ea) (hl : TPO' X W lo el) (hh : TPO' X W hi eh) : TPE X W (.Subscript a (.Slice lo hi none p2) pos) (eSl opSl ea el eh) := PE.weak (pe_slice (SlR.or sl_list (SlR.or sl_tupA sl_str)) ha hl hh) fun σ H Q ⟨G, loc, sh, ok, p⟩ => by
  refine ⟨G, loc, sh, ok, (post.bind (Rp := rpV X.K) p).imp ?_⟩
  rintro v H1 ⟨G1, t, s1, l1, ok1, r1, p1⟩
  refine ⟨G1, loc, s1, ok1, (post.bind (Rp := fun _ _ a b => b = a) p1).imp ?_⟩
  rintro i H2 ⟨G2, i', s2, l2, ok2, rfl, p2⟩
  refine ⟨G2, loc, s2, ok2, (post.bind (Rp := fun _ _ a b => b = a) p2).imp ?_⟩
  rintro j H3 ⟨G3, j', s3, l3, ok3, rfl, p3⟩
  exact sl_core ok3 (rep_le (l2.trans l3) r1) p3
end
end TL
/-! the T-layer, 9: built-in functions -/
namespace TL
open PySem PySem.Spec L2
def blsOf : List T → Option (List Bool)
  | [] => some []
  | .bl b :: r => (blsOf r).map (b :: ·)
  | _ => none
def strsOf : List T → Option (List Str)
  | [] => some []
  | .str b :: r => (strsOf r).map (b :: ·)
  | _ => none
theorem blsOf_map (bs : List Bool) : blsOf (bs.map T.bl) = some bs := by
  induction bs with
  | nil => rfl
  | cons b bs ih => simp [blsOf, ih]
section
variable {K : PySem.W.Frag} {F : Hp} {al : List Addr}
theorem RepL.bls : ∀ {ts : List T} {vs : List V} {bs : List Bool}, RepL K F al ts vs → blsOf ts = some bs → vs = bs.map V.bl
  | [], _, _, r, e => by cases r; cases e; rfl
  | t :: ts, _, bs, r, e => by
    obtain ⟨v, q, rfl, r1, r2⟩ := r
    cases t with
    | bl b =>
      cases h : blsOf ts with
      | none => simp [blsOf, h] at e
      | some cs =>
        have e' : some (b :: cs) = some bs := by rw [← e]; simp [blsOf, h]
        cases e'
        cases r1
        rw [List.map_cons, RepL.bls r2 h]
    | _ => cases e
theorem RepL.strs : ∀ {ts : List T} {vs : List V} {bs : List Str}, RepL K F al ts vs → strsOf ts = some bs → vs = bs.map V.str ∧ ∀ b ∈ bs, b.length ≤ sizeLine
  | [], _, _, r, e => by cases r; cases e; exact ⟨rfl, fun _ h => by cases h⟩
  | t :: ts, _, bs, r, e => by
    obtain ⟨v, q, rfl, r1, r2⟩ := r
    cases t with
    | str b =>
      cases h : strsOf ts with
      | none => simp [strsOf, h] at e
      | some cs =>
        have e' : some (b :: cs) = some bs := by rw [← e]; simp [strsOf, h]
        cases e'
        obtain ⟨rfl, hl⟩ := r1
        obtain ⟨q1, q2⟩ := RepL.strs r2 h
        refine ⟨by rw [List.map_cons, q1], fun c hc => ?_⟩
        rcases List.mem_cons.mp hc with rfl | hc
        · exact hl
        · exact q2 c hc
    | _ => cases e
theorem RepL.ofStrs : ∀ (bs : List Str), (∀ b ∈ bs, b.length ≤ sizeLine) → RepL K F al (bs.map T.str) (bs.map V.str)
  | [], _ => rfl
  | b :: bs, h => ⟨_, _, rfl, ⟨rfl, h b (by simp)⟩, RepL.ofStrs bs fun c hc => h c (by simp [hc])⟩
end
/-! ### len -/
def lenT : T → Sh → Option Nat
  | .lst xs, _ => some xs.length
  | .tup xs, _ => some xs.length
  | .str x, _ => some x.length
  | .dct kvs, _ => some kvs.length
  | .scr ns, _ => some ns.length
  | .cel k, s => match s[k]? with
    | some (.lst xs) => some xs.length
    | some (.dct xs) => some xs.length
    | _ => none
  | _, _ => none
def biLen : List T → Sh → Res T
  | [x], s => match lenT x s with
    | some n => .ok (.int n) s
    | none => .bad
  | _, _ => .bad
def rLenD : List V → Hp → VK → Prop := fun xs H Q => ∃ a kvs, xs = [V.ref a] ∧ Rd H a (.dK kvs) ∧ Q (.int kvs.length) H
theorem call_lenR {X : Cx} : CallR X (.builtin "len") rLenD := by
  intro pins s σ H xs us Q I r h
  obtain ⟨a, kvs, rfl, ha, q⟩ := h
  obtain ⟨u, rfl, ru⟩ := vals1 r
  cases ru
  exact d_len I ha fun t s' I' => ⟨.int kvs.length, H, I', ⟨t, rfl⟩, q⟩
theorem CallR.or {X : Cx} {f : Value} {r r' : List V → Hp → VK → Prop} (h : CallR X f r) (h' : CallR X f r') : CallR X f (fun x H Q => r x H Q ∨ r' x H Q) := fun pins s σ H xs us Q I rv q => q.elim (h pins s σ H xs us Q I rv) (h' pins s σ H xs us Q I rv)
def rLenV (K : PySem.W.Frag) : List V → Hp → VK → Prop := fun xs H Q => ∃ x n, xs = [x] ∧ LenV K x H n ∧ Q (.int n) H
def rLenA (K : PySem.W.Frag) : List V → Hp → VK → Prop := fun x H Q => rLenV K x H Q ∨ rLenD x H Q
theorem call_lenA {X : Cx} : CallR X (.builtin "len") (rLenA X.K) := CallR.or call_len call_lenR
theorem sv_len {K : PySem.W.Frag} : SvL K (rLenA K) biLen := by
  intro W G loc sh σ H vs ts Q ok r p
  unfold biLen at p
  split at p
  · rename_i x
    obtain ⟨v, rfl, r1⟩ := RepL.one r
    cases e : lenT x sh with
    | none => rw [e] at p; exact p.elim
    | some n =>
      rw [e] at p
      have q : Q (.int n) H := p _ H G (GLe.refl _) ok rfl
      cases x with
      | lst xs => cases e; obtain ⟨a, vs, rfl, h, h2, _⟩ := ok.hl r1; exact .inl ⟨_, _, rfl, .inl ⟨vs, .of h, by rw [RepL.length h2]⟩, q⟩
      | tup xs => cases e; obtain ⟨a, vs, rfl, h, h2, _⟩ := ok.ht r1; exact .inl ⟨_, _, rfl, .inr ⟨vs, h, by rw [RepL.length h2]⟩, q⟩
      | str x => cases e; obtain ⟨rfl, h⟩ := r1; exact .inl ⟨_, _, rfl, ⟨h, rfl⟩, q⟩
      | dct xs => cases e; obtain ⟨a, vs, rfl, h, h2, _⟩ := ok.hd r1; exact .inr ⟨a, vs, rfl, h, by rw [RepD.length h2]; exact q⟩
      | scr ns => cases e; obtain ⟨a, rfl, h, _⟩ := r1; exact .inl ⟨_, _, rfl, .inl ⟨_, SqL.fle ok.fle h, by rw [List.length_map]⟩, q⟩
      | cel k =>
        obtain ⟨a, rfl, ha⟩ := r1
        unfold lenT at e
        cases hs : sh[k]? with
        | none => simp only [hs] at e; cases e
        | some so =>
          simp only [hs] at e
          obtain ⟨a', ha', s⟩ := ok.shr k so hs
          rw [ha] at ha'
          cases ha'
          cases so with
          | lst xs => cases e; obtain ⟨vs, q1, q2, _⟩ := s; exact .inl ⟨_, _, rfl, .inl ⟨vs, .of q1, by rw [RepL.length q2]⟩, q⟩
          | dct xs => cases e; obtain ⟨vs, q1, q2, _⟩ := s; exact .inr ⟨a, vs, rfl, .inl q1, by rw [RepD.length q2]; exact q⟩
          | ins C fs => cases e
          | tab d q => cases e
      | _ => cases e
  · exact p.elim
/-! ### all, any, sum, max, min of a list -/
def biAll : List T → Sh → Res T
  | [.lst xs], s => match blsOf xs with
    | some bs => .ok (.bl (bs.all id)) s
    | none => .bad
  | _, _ => .bad
theorem sv_all {K : PySem.W.Frag} : SvL K (rAll K) biAll := by
  intro W G loc sh σ H vs ts Q ok r p
  unfold biAll at p
  split at p
  · rename_i xs
    obtain ⟨v, rfl, r1⟩ := RepL.one r
    obtain ⟨a, vs, rfl, h1, r1, _⟩ := ok.hl r1
    cases e : blsOf xs with
    | none => rw [e] at p; exact p.elim
    | some bs => rw [e] at p; cases RepL.bls r1 e; exact ⟨a, bs, rfl, .of h1, p _ H G (GLe.refl _) ok rfl⟩
  · exact p.elim
def eAK (f : List T → List T → Sh → Res T) (a b : EvL) : Ev := fun l s => (a l s).bind fun xs s1 => (b l s1).bind fun ys s2 => f xs ys s2
/-! ### max(xs, default=d), min(xs, default=d) of ints -/
end TL
/-! sorting of data that is compared (U1): numbers, texts, tuples of these -/
namespace PySem.W
open PySem PySem.Calls PyProof.Rows PySem.SeqAt
abbrev lexT (a b : List (Int ⊕ List Nat)) : Bool := PyProof.Rows.lexLt itemOrd a b
mutual
theorem toksE : ∀ (x y : PyData), PyData.eqv x y = true → keyToks x = keyToks y
  | .none, y, h => by cases y <;> first | rfl | simp [PyData.eqv] at h
  | .bool a, y, h => by
    cases y with
    | bool b => have e : a = b := by simpa [PyData.eqv] using h
                rw [e]
    | int j => have e : (if a = true then (1 : Int) else 0) = j := by simpa [PyData.eqv] using h
               simp only [keyToks]
               rw [e]
    | _ => simp [PyData.eqv] at h
  | .int i, y, h => by
    cases y with
    | bool b => have e : i = (if b = true then (1 : Int) else 0) := by simpa [PyData.eqv] using h
                simp only [keyToks]
                rw [e]
    | int j => have e : i = j := by simpa [PyData.eqv] using h
               rw [e]
    | _ => simp [PyData.eqv] at h
  | .str a, y, h => by
    cases y with
    | str b => have e : a = b := by simpa [PyData.eqv] using h
               rw [e]
    | _ => simp [PyData.eqv] at h
  | .list xs, y, h => by
    cases y with
    | list ys => simp only [keyToks]; exact toksEs xs ys (by simpa [PyData.eqv] using h)
    | _ => simp [PyData.eqv] at h
  | .tuple xs, y, h => by
    cases y with
    | tuple ys => simp only [keyToks]; exact toksEs xs ys (by simpa [PyData.eqv] using h)
    | _ => simp [PyData.eqv] at h
  | .dict _, y, h => by cases y <;> simp [PyData.eqv] at h
theorem toksEs : ∀ (xs ys : List PyData), PyData.eqvAll xs ys = true → keyToksAll xs = keyToksAll ys
  | [], [], _ => rfl
  | [], _ :: _, h => by simp [PyData.eqvAll] at h
  | _ :: _, [], h => by simp [PyData.eqvAll] at h
  | x :: xs, y :: ys, h => by
    rw [eqv_all_cons, Bool.and_eq_true] at h
    rw [toks_all_cons, toks_all_cons, toksE x y h.1, toksEs xs ys h.2]
end
mutual
/-- what is told of x < y, the rows of signs tell, whatever stands behind; of like ones: no -/
theorem toksO : ∀ (x y : PyData) (k : Bool), ordD x y = some k → (PyData.eqv x y = false → ∀ l m, lexT (keyToks x ++ l) (keyToks y ++ m) = k) ∧ (PyData.eqv x y = true → k = false)
  | .int a, .int b, k, h => by
    cases Option.some.inj h
    refine ⟨fun e l m => ?_, fun e => ?_⟩
    · have hne : a ≠ b := fun q => by subst q; simp [PyData.eqv] at e
      simp only [keyToks, List.cons_append, List.nil_append]
      exact (lex_atom (fun q => hne (Sum.inl.inj q)) l m).trans (lex_one _ _)
    · have e' : a = b := by simpa [PyData.eqv] using e
      rw [e']
      exact decide_eq_false (by omega)
  | .str a, .str b, k, h => by
    cases Option.some.inj h
    refine ⟨fun e l m => ?_, fun e => ?_⟩
    · have hne : a ≠ b := fun q => by subst q; simp [PyData.eqv] at e
      simp only [keyToks, List.cons_append, List.nil_append]
      exact (lex_atom (fun q => hne (str_of_cps (Sum.inr.inj q))) l m).trans (lex_one _ _)
    · have e' : a = b := by simpa [PyData.eqv] using e
      rw [e']
      exact decide_eq_false (List.lt_irrefl _)
  | .tuple xs, .tuple ys, k, h => by
    have t := toksOs xs ys k (by simpa [ordD] using h)
    simp only [keyToks, PyData.eqv]
    exact t
  | .none, _, _, h => by simp [ordD] at h
  | .bool _, _, _, h => by simp [ordD] at h
  | .list _, _, _, h => by simp [ordD] at h
  | .dict _, _, _, h => by simp [ordD] at h
  | .int _, .none, _, h => by simp [ordD] at h
  | .int _, .bool _, _, h => by simp [ordD] at h
  | .int _, .str _, _, h => by simp [ordD] at h
  | .int _, .list _, _, h => by simp [ordD] at h
  | .int _, .tuple _, _, h => by simp [ordD] at h
  | .int _, .dict _, _, h => by simp [ordD] at h
  | .str _, .none, _, h => by simp [ordD] at h
  | .str _, .bool _, _, h => by simp [ordD] at h
  | .str _, .int _, _, h => by simp [ordD] at h
  | .str _, .list _, _, h => by simp [ordD] at h
  | .str _, .tuple _, _, h => by simp [ordD] at h
  | .str _, .dict _, _, h => by simp [ordD] at h
  | .tuple _, .none, _, h => by simp [ordD] at h
  | .tuple _, .bool _, _, h => by simp [ordD] at h
  | .tuple _, .int _, _, h => by simp [ordD] at h
  | .tuple _, .str _, _, h => by simp [ordD] at h
  | .tuple _, .list _, _, h => by simp [ordD] at h
  | .tuple _, .dict _, _, h => by simp [ordD] at h
theorem toksOs : ∀ (xs ys : List PyData) (k : Bool), ordDs xs ys = some k → (PyData.eqvAll xs ys = false → ∀ l m, lexT (keyToksAll xs ++ l) (keyToksAll ys ++ m) = k) ∧ (PyData.eqvAll xs ys = true → k = false)
  | [], [], k, h => by
    have h' : some false = some k := by simpa [ordDs] using h
    cases h'
    exact ⟨fun e => by simp [PyData.eqvAll] at e, fun _ => rfl⟩
  | [], y :: ys, k, h => by
    have h' : some true = some k := by simpa [ordDs] using h
    cases h'
    refine ⟨fun _ l m => ?_, fun e => by simp [PyData.eqvAll] at e⟩
    rw [toks_all_cons]
    simp only [keyToksAll, List.cons_append, List.nil_append]
    exact (lex_atom (by simp) _ _).trans (lex_one _ _)
  | x :: xs, [], k, h => by
    have h' : some false = some k := by simpa [ordDs] using h
    cases h'
    refine ⟨fun _ l m => ?_, fun e => by simp [PyData.eqvAll] at e⟩
    rw [toks_all_cons]
    simp only [keyToksAll, List.cons_append, List.nil_append]
    exact (lex_atom (by simp) _ _).trans (lex_one _ _)
  | x :: xs, y :: ys, k, h => by
    rw [eqv_all_cons, toks_all_cons, toks_all_cons]
    cases e : PyData.eqv x y with
    | true =>
      have h' : ordDs xs ys = some k := by simpa [ordDs, e] using h
      obtain ⟨q1, q2⟩ := toksOs xs ys k h'
      rw [Bool.true_and]
      refine ⟨fun e2 l m => ?_, q2⟩
      rw [toksE x y e]
      simp only [List.cons_append, List.append_assoc]
      exact (lex_self (O := itemOrd) _ _ _).trans ((lex_pre _ _ _).trans (q1 e2 l m))
    | false =>
      have h' : ordD x y = some k := by simpa [ordDs, e] using h
      obtain ⟨q1, q2⟩ := toksO x y k h'
      rw [Bool.false_and]
      refine ⟨fun _ l m => ?_, fun e2 => absurd e2 Bool.false_ne_true⟩
      simp only [List.cons_append, List.append_assoc]
      exact (lex_self (O := itemOrd) _ _ _).trans (q1 e _ _)
end
theorem ord_is {x y : PyData} {k : Bool} (h : ordD x y = some k) : dataLt x y = k := by
  obtain ⟨q1, q2⟩ := toksO x y k h
  unfold dataLt
  cases e : PyData.eqv x y with
  | true =>
    rw [toksE x y e, q2 e]
    exact lex_irrefl _
  | false =>
    have := q1 e [] []
    simpa using this
section
variable {prog : Program} {w : World} {A : Around} {s : Shared}
theorem oneLt_ord {f : Bool} {da db : PyData} {a b : Value} {as bs : List Addr} {k : Bool} {E : Value → Shared → Prop} {Q : Bool → Shared → Prop} (hf : f = true → ∀ xs, da ≠ .tuple xs) (ra : Reads s.heap a da as) (rb : Reads s.heap b db bs) (p1 : da.plain = true) (p2 : db.plain = true) (h : ordD da db = some k)
    (hu : A.units + min da.depth db.depth < cLine) (hq : Q k s) : wpAny (model prog w) A (oneLt' f a b) Q E s := by
  cases f with
  | false =>
    rw [oneLt'_eq]
    simp only [Bool.false_eq_true, if_false]
    exact wpAny_bind (rcLt_ord da db A s a b as bs k ra rb p1 p2 hu h prog w E _ (wpAny_truthy_bool hq))
  | true =>
    cases da with
    | int x =>
      cases db with
      | int y =>
        cases ra; cases rb
        cases Option.some.inj h
        exact oneLt_int hq
      | _ => simp [ordD] at h
    | str x =>
      cases db with
      | str y =>
        cases ra; cases rb
        cases Option.some.inj h
        exact oneLt_str hq
      | _ => simp [ordD] at h
    | tuple xs => exact absurd rfl (hf rfl xs)
    | _ => simp [ordD] at h
theorem katLex_ord {b fin k : Bool} {Q : Bool → Shared → Prop} : ∀ (xs ys : List PyData) (i : Nat) (vs ws : List Value) (as bs : List Addr), ReadsAll s.heap vs xs as → ReadsAll s.heap ws ys bs → PyData.plainAll xs = true → PyData.plainAll ys = true → ordDs xs ys = some k →
    A.units + min (PyData.depthAll xs) (PyData.depthAll ys) < cLine → (b = true → i = 0 → ∀ x r t, xs = x :: r → x ≠ .tuple t) → fin = decide (xs.length < ys.length) → Q k s → KatLex prog w A b fin Q (vs.zip ws) i s
  | [], [], i, _, _, _, _, ra, rb, _, _, h, _, _, hf, hq => by
    cases ra; cases rb
    have h' : some false = some k := by simpa [ordDs] using h
    cases h'
    subst hf
    exact kat_nil hq
  | [], y :: ys, i, _, _, _, _, ra, rb, _, _, h, _, _, hf, hq => by
    cases ra
    have h' : some true = some k := by simpa [ordDs] using h
    cases h'
    have e : fin = true := hf.trans (decide_eq_true (Nat.succ_pos _))
    subst e
    rw [List.zip_nil_left]
    exact kat_nil hq
  | x :: xs, [], i, _, _, _, _, ra, rb, _, _, h, _, _, hf, hq => by
    cases rb
    have h' : some false = some k := by simpa [ordDs] using h
    cases h'
    have e : fin = false := hf.trans (decide_eq_false (Nat.not_lt_zero _))
    subst e
    rw [List.zip_nil_right]
    exact kat_nil hq
  | x :: xs, y :: ys, i, _, _, _, _, ra, rb, p1, p2, h, hu, hb, hf, hq => by
    obtain ⟨p1, p3⟩ := plain_cons p1
    obtain ⟨p2, p4⟩ := plain_cons p2
    have hf' : fin = decide (xs.length < ys.length) := by
      rw [hf]
      simp only [List.length_cons, Nat.add_lt_add_iff_right]
    cases ra with
    | cons r rs =>
      cases rb with
      | cons r' rs' =>
        rw [List.zip_cons_cons]
        refine kat_cons (eqAt_plain x y A s _ _ _ _ r r' p1 p2 (room_head hu) prog w _ _ ?_)
        cases e : PyData.eqv x y with
        | true =>
          have h' : ordDs xs ys = some k := by simpa [ordDs, e] using h
          exact kat_yes (katLex_ord xs ys (i + 1) _ _ _ _ rs rs' p3 p4 h' (room_tail hu) (fun _ hi => absurd hi (Nat.succ_ne_zero i)) hf' hq)
        | false =>
          have h' : ordD x y = some k := by simpa [ordDs, e] using h
          refine kat_no (oneLt_ord (fun hbi t => ?_) r r' p1 p2 h' (room_head hu) hq)
          rw [Bool.and_eq_true] at hbi
          exact hb hbi.1 (by simpa using hbi.2) x xs t rfl
/-- plain, each two of them compared -/
def AllOrd (ds : List PyData) : Prop := (∀ d ∈ ds, d.plain = true) ∧ ∀ d ∈ ds, ∀ e ∈ ds, ∃ k, ordD d e = some k
/-- tuples whose first items are of one kind, or numbers, or texts -/
def SortOrd (ds : List PyData) : Prop := (∃ t, ∀ d ∈ ds, ∃ x r, d = .tuple (x :: r) ∧ dataType x = t) ∨ ∃ t, ∀ d ∈ ds, dataType d = t ∧ ∀ xs, d ≠ .tuple xs
theorem ordKind_some {h : Heap} {ds : List PyData} (hal : AllOrd ds) {v : Value} {d : PyData} {as : List Addr} (hd : d ∈ ds) (r : Reads h v d as) : (dataKind h ds).keyOf v = some (keyToks d) := by
  have q : ∃ d, d ∈ ds ∧ ∃ as, Reads h v d as := ⟨d, hd, as, r⟩
  have e : (dataKind h ds).keyOf v = some (keyToks q.choose) := by
    show (open Classical in if q : ∃ d, d ∈ ds ∧ ∃ as, Reads h v d as then some (keyToks q.choose) else none) = _
    rw [dif_pos q]
  obtain ⟨h1, as', h2⟩ := q.choose_spec
  rw [e, plain_unique _ _ _ _ _ (hal.1 _ h1) h2 r]
theorem SortsAt.ord {vs : List Value} {ds : List PyData} (e : EachIs (fun v d => ∃ as, Reads s.heap v d as) vs ds) (hal : AllOrd ds) (hk : SortOrd ds) (hu : ∀ d, d ∈ ds → A.units + d.depth < cLine) : SortsAt prog w A s (dataKind s.heap ds) vs := by
  have room : ∀ {d d' : PyData}, d ∈ ds → A.units + min d.depth d'.depth < cLine := fun {d d'} hd => Nat.lt_of_le_of_lt (Nat.add_le_add_left (Nat.min_le_left _ _) _) (hu d hd)
  refine ⟨fun v hv => ?_, ?_⟩
  · obtain ⟨d, hd, as, r⟩ := e.left v hv
    exact ⟨_, ordKind_some hal hd r⟩
  · rcases hk with ⟨T, ht⟩ | ⟨T, hn⟩
    · refine ⟨tuples' (T != Value.type "tuple"), ?_, fun h2 E Q hq => ?_⟩
      · intro E x y a b Q ha hb hq
        obtain ⟨d, as, hd, ra, rfl⟩ := dataKind_inv ha
        obtain ⟨d', as', hd', rb, rfl⟩ := dataKind_inv hb
        obtain ⟨k, hk⟩ := hal.2 d hd d' hd'
        have p1 := hal.1 d hd
        have p2 := hal.1 d' hd'
        have hroom := room (d' := d') hd
        obtain ⟨x1, r1, rfl, t1⟩ := ht d hd
        obtain ⟨x2, r2, rfl, t2⟩ := ht d' hd'
        have hq' : Q (dataLt (.tuple (x1 :: r1)) (.tuple (x2 :: r2))) s := hq
        rw [ord_is hk] at hq'
        cases ra with
        | @tuple l o xs n _ _ h1 h2 h3 h4 =>
          cases rb with
          | @tuple l' o' xs' n' _ _ k1 k2 k3 k4 =>
            have n1 : xs.size = (x1 :: r1).length := by simpa using SeqAt.ReadsAll.length _ _ _ h4
            have n2 : xs'.size = (x2 :: r2).length := by simpa using SeqAt.ReadsAll.length _ _ _ k4
            refine kat_lt h1 h3 k1 k3 (katLex_ord (x1 :: r1) (x2 :: r2) 0 _ _ _ _ h4 k4 p1 p2 (by simpa [ordD] using hk) (by have q := SeqAt.room_in hroom; omega) (fun hb _ x r t ex => ?_) (by rw [n1, n2]) hq')
            obtain ⟨rfl, rfl⟩ := List.cons.inj ex
            rw [← t1] at hb
            exact dataType_tuple hb t
      · obtain ⟨fs, t1, t2, t3⟩ := each_katTups e fun d hd => (ht d hd).imp fun x h => h.imp fun r h => h.1
        refine kat_kind (T := T) t1 (by omega) (fun f hf => ?_) (beq_self_eq_true _) hq
        obtain ⟨x, r, as, m1, m2⟩ := t3 f hf
        obtain ⟨x', r', e1, e2⟩ := ht _ m1
        cases e1
        rw [← e2]
        exact looks_reads m2
    · refine ⟨oneType', ?_, fun h2 E Q hq => ?_⟩
      · intro E x y a b Q ha hb hq
        obtain ⟨d, as, hd, ra, rfl⟩ := dataKind_inv ha
        obtain ⟨d', as', hd', rb, rfl⟩ := dataKind_inv hb
        obtain ⟨k, hk⟩ := hal.2 d hd d' hd'
        have hq' : Q (dataLt d d') s := hq
        rw [ord_is hk] at hq'
        rw [keyLt'_oneType]
        exact oneLt_ord (fun _ => (hn d hd).2) ra rb (hal.1 d hd) (hal.1 d' hd') hk (room hd) hq'
      · cases ds with
        | nil =>
          cases e
          exact absurd h2 (by simp)
        | cons d₀ ds₀ =>
          refine kas_kind (T := T) h2 (fun v hv => ?_) ?_ (beq_self_eq_true _) hq
          · obtain ⟨d, hd, as, r⟩ := e.left v hv
            rw [← (hn d hd).1]
            exact looks_reads r
          · rw [← (hn d₀ (List.mem_cons_self ..)).1]
            exact dataType_other (hn d₀ (List.mem_cons_self ..)).2
end
end PySem.W
/-! sorted(xs) of data that is compared, by values -/
namespace L2
open PySem PySem.Spec PySem.W PyProof.Rows
theorem each_ord {h : Heap} {ds : List PyData} (hal : AllOrd ds) {vs : List Value} (e : EachIs (fun v d => ∃ as, Reads h v d as) vs ds) : EachIs (fun v d => (dataKind h ds).keyOf v = some (keyToks d)) vs ds :=
  (each_mem e).mono fun _ _ ⟨⟨_, r⟩, hd⟩ => ordKind_some hal hd r
theorem vals_each {α : Type} {f : α → V} : ∀ {bs : List α} {us : List Value}, Vals (bs.map f) us → EachIs (fun v b => RelV (f b) v) us bs
  | [], _, r => by cases r; exact .nil
  | b :: bs, _, r => by
    rw [List.map_cons] at r
    cases r with
    | cons r1 r2 => exact .cons r1 (vals_each r2)
theorem each_vals {α : Type} {f : α → V} : ∀ {bs : List α} {us : List Value}, EachIs (fun v b => RelV (f b) v) us bs → Vals (bs.map f) us
  | _, _, .nil => .nil
  | _, _, .cons h t => .cons h (each_vals t)
theorem each_and {α β : Type} {R S : α → β → Prop} : ∀ {as : List α} {bs : List β}, EachIs R as bs → (∀ a b, b ∈ bs → R a b → S a b) → EachIs S as bs
  | _, _, .nil, _ => .nil
  | _, _, .cons h t, f => .cons (f _ _ (List.mem_cons_self ..) h) (each_and t fun a b hb => f a b (List.mem_cons_of_mem _ hb))
abbrev leVP : V × PyData → V × PyData → Bool := dataLe false fun b => b.2
/-- sorted(xs): each item with its data -/
def rSortO (K : PySem.W.Frag) : List V → Hp → VK → Prop := fun vs H Q => ∃ (a : Addr) (bs : List (V × PyData)), vs = [.ref a] ∧ SqL K H a (bs.map (·.1)) ∧ (∀ p ∈ bs, Dp K H p.1 p.2 ∧ p.2.depth ≤ 150) ∧ AllOrd (bs.map (·.2)) ∧ SortOrd (bs.map (·.2)) ∧
  ∀ q, H q = none → Q (.ref q) (upd H q (.lst ((bs.mergeSort leVP).map (·.1))))
theorem cr_sortedO {X : Cx} (hu : X.A.units + 160 < cLine) : CallR X (.builtin "sorted") (rSortO X.K) := by
  intro pins s σ H vs us Q I r ⟨a, bs, e0, hs, hd, hal, hk, q⟩
  subst e0
  obtain ⟨its, rv, hl, hz⟩ := I.list hs
  rw [Vals.ref1 r]
  have e : EachIs (fun v (b : V × PyData) => RelV b.1 v) its bs := vals_each rv
  have er : EachIs (fun v (b : V × PyData) => ∃ as, Reads (sortingHeap (copyHeap s.heap its) (s.heap.objs.size + 1) its) v b.2 as) its bs := each_and e fun v b hb rb => by
    obtain ⟨as, q⟩ := Dp.reads I b.2 b.1 v (hd b hb).1 rb
    exact ⟨as, PyProof.Rows.Reads.keeps (fun _ _ => sorting_copy_old) q⟩
  have hlen : its.length = bs.length := by rw [← rv.length, List.length_map]
  rw [List.length_map] at hz
  refine sorted_vals hl.isList (SortsAt.ord (s := { s with heap := sortingHeap (copyHeap s.heap its) (s.heap.objs.size + 1) its }) (ds := bs.map (·.2)) (each_map (R := fun v d => ∃ as, Reads (sortingHeap (copyHeap s.heap its) (s.heap.objs.size + 1) its) v d as) (fun b : V × PyData => b.2) er) hal hk (fun d hd' => ?_)) (by omega) ?_
  · obtain ⟨b, hb, rfl⟩ := List.mem_map.mp hd'
    have := (hd b hb).2
    show X.A.units + 1 + 1 + b.2.depth < cLine
    omega
  · have out := sortVals_each (κ := dataKind (sortingHeap (copyHeap s.heap its) (s.heap.objs.size + 1) its) (bs.map fun b : V × PyData => b.2)) (rev := false) (fun b : V × PyData => keyToks b.2) e
      (each_of_map (fun b : V × PyData => b.2) (each_ord hal (each_map (R := fun v d => ∃ as, Reads (sortingHeap (copyHeap s.heap its) (s.heap.objs.size + 1) its) v d as) (fun b : V × PyData => b.2) er)))
    obtain ⟨ep, he'⟩ := PyProof.Rows.sortedAll_at s.heap its (sortVals (dataKind (sortingHeap (copyHeap s.heap its) (s.heap.objs.size + 1) its) (bs.map fun b : V × PyData => b.2)) false its its).toArray
    have hl2 : ((bs.mergeSort leVP).map (·.1)).length ≤ sizeLine := by
      rw [List.length_map, List.length_mergeSort]
      exact hz
    exact ⟨.ref _, upd H (s.heap.objs.size + 1) (.lst ((bs.mergeSort leVP).map (·.1))), I.laid (t' := s.toks) (fun _ _ => PyProof.Rows.sortedAll_old) (Nat.le_succ _) ⟨hl2, _, ep, each_vals out, he'⟩, rfl, q _ (I.hok.fresh (Nat.le_succ _))⟩
end L2
/-! the T-layer, 10: conversions -/
namespace TL
open PySem PySem.Spec L2 PyProof.Rows
/-! ### list(x), tuple(x) -/
def biList : List T → Sh → Res T
  | [.lst xs], s => .ok (.lst xs) s
  | [.tup xs], s => .ok (.lst xs) s
  | [.scr ns], s => .ok (.lst (ns.map T.int)) s
  | [.cel k], s => match s[k]? with
    | some (.lst xs) => .ok (.lst xs) s
    | _ => .bad
  | _, _ => .bad
def rListOf (K : PySem.W.Frag) : List V → Hp → VK → Prop := fun xs H Q => ∃ p ys, xs = [.ref p] ∧ (SqL K H p ys ∨ SqT K H p ys) ∧ ∀ l, H l = none → Q (.ref l) (upd H l (.lst ys))
theorem sv_listO {K : PySem.W.Frag} : SvLO K (rListOf K) biList := by
  intro W G loc sh σ H vs ts Q ok r p
  unfold biList at p
  split at p
  · rename_i xs
    obtain ⟨v, rfl, r1⟩ := RepL.one r
    obtain ⟨a, vs, rfl, h1, r1, hz⟩ := ok.hl r1
    exact ⟨a, vs, rfl, .inl (.of h1), ok.newLO r1 hz p⟩
  · rename_i xs
    obtain ⟨v, rfl, r1⟩ := RepL.one r
    obtain ⟨a, vs, rfl, h1, r1, hz⟩ := ok.ht r1
    exact ⟨a, vs, rfl, .inr h1, ok.newLO r1 hz p⟩
  · rename_i ns
    obtain ⟨v, rfl, a, rfl, h1, hz⟩ := RepL.one r
    exact ⟨a, _, rfl, .inl (SqL.fle ok.fle h1), ok.newLO (RepL.ints ns) (by rw [List.length_map]; exact hz) p⟩
  · rename_i k
    obtain ⟨v, rfl, r1⟩ := RepL.one r
    split at p
    · rename_i xs e
      obtain ⟨a, vs, rfl, _, h1, r1, hz⟩ := ok.hc r1 e
      exact ⟨a, vs, rfl, .inl (.of h1), ok.newLO r1 hz p⟩
    · exact p.elim
  · exact p.elim
def biTuple : List T → Sh → Res T
  | [.lst xs], s => .ok (.tup xs) s
  | [.tup xs], s => .ok (.tup xs) s
  | [.cel k], s => match s[k]? with
    | some (.lst xs) => .ok (.tup xs) s
    | _ => .bad
  | _, _ => .bad
def rTupOf (K : PySem.W.Frag) : List V → Hp → VK → Prop := fun xs H Q => ∃ p ys, xs = [.ref p] ∧ ((SqL K H p ys ∧ ∀ l, H l = none → Q (.ref l) (upd H l (.tup ys))) ∨ (SqT K H p ys ∧ Q (.ref p) H))
theorem sv_tuple {K : PySem.W.Frag} : SvL K (rTupOf K) biTuple := by
  intro W G loc sh σ H vs ts Q ok r p
  unfold biTuple at p
  split at p
  · rename_i xs
    obtain ⟨v, rfl, r1⟩ := RepL.one r
    obtain ⟨a, vs, rfl, h1, r1, hz⟩ := ok.hl r1
    exact ⟨a, vs, rfl, .inl ⟨.of h1, ok.newT r1 hz p⟩⟩
  · rename_i xs
    obtain ⟨v, rfl, r1⟩ := RepL.one r
    have q := p _ H G (GLe.refl _) ok r1
    obtain ⟨a, vs, rfl, h1, r1, hz⟩ := ok.ht r1
    exact ⟨a, vs, rfl, .inr ⟨h1, q⟩⟩
  · rename_i k
    obtain ⟨v, rfl, r1⟩ := RepL.one r
    split at p
    · rename_i xs e
      obtain ⟨a, vs, rfl, _, h1, r1, hz⟩ := ok.hc r1 e
      exact ⟨a, vs, rfl, .inl ⟨.of h1, ok.newT r1 hz p⟩⟩
    · exact p.elim
  · exact p.elim
/-! ### dict(x) -/
def mergeT (kvs more : List (Key × T)) : List (Key × T) := more.foldl (fun acc kv => dputT acc kv.1 kv.2) kvs
def pairsOf : List T → Option (List (Key × T))
  | [] => some []
  | .tup [k, v] :: r => match keyOf k, pairsOf r with
    | some k, some r => some ((k, v) :: r)
    | _, _ => none
  | _ => none
def biDict : List T → Sh → Res T
  | [.lst xs], s => match pairsOf xs with
    | some kvs => .ok (.dct (mergeT [] kvs)) s
    | none => .bad
  | [.dct kvs], s => .ok (.dct kvs) s
  | [.cel k], s => match s[k]? with
    | some (.dct kvs) => .ok (.dct kvs) s
    | _ => .bad
  | _, _ => .bad
def rDictP (K : PySem.W.Frag) : List V → Hp → VK → Prop := fun xs H Q => ∃ (a : Addr) (ps : List Addr) (kvs : List (Key × V)), xs = [.ref a] ∧ SqL K H a (ps.map V.ref) ∧ Paired (fun p kv => SqT K H p [kV kv.1, kv.2]) ps kvs ∧
    ∀ p, H p = none → Q (.ref p) (upd H p (.dK (mergeK [] kvs)))
def rDictD : List V → Hp → VK → Prop := fun xs H Q => ∃ (a : Addr) (kvs : List (Key × V)), xs = [.ref a] ∧ Rd H a (.dK kvs) ∧ ∀ p, H p = none → Q (.ref p) (upd H p (.dK kvs))
section
variable {K : PySem.W.Frag} {W : WX} {G : Gh} {loc : Loc} {sh : Sh} {σ : L2.St} {H : Hp}
theorem Ok.newDO (ok : Ok K G loc sh σ H) {vs : List (Key × V)} {xs : List (Key × T)} {Q : VK} (r : RepD K G.F G.al xs vs) (l : DOk xs) (p : post (fun G H t v => OwnR K G loc σ H t v) K W G loc σ (.ok (.dct xs) sh) Q) : ∀ q, H q = none → Q (.ref q) (upd H q (.dK vs)) := fun q hq => by
  obtain ⟨ok2, o⟩ := ok.newOwn (o := .dK vs) (t := .dct xs) hq ⟨vs, upd_same, r, l⟩
  exact p _ _ G (GLe.refl _) ok2 o
theorem RepD.merge {F : Hp} {al : List Addr} : ∀ {more : List (Key × T)} {rs : List (Key × V)} {kvs : List (Key × T)} {vs : List (Key × V)}, RepD K F al more rs → RepD K F al kvs vs → RepD K F al (mergeT kvs more) (mergeK vs rs)
  | [], _, _, _, h, q => by cases h; exact q
  | (k, t) :: more, _, kvs, vs, h, q => by
    obtain ⟨v, r, rfl, h1, h2⟩ := h
    exact RepD.merge (kvs := dputT kvs k t) (vs := putK vs k v) h2 (RepD.put q h1)
theorem keyOf_ok {F : Hp} {al : List Addr} {t : T} {v : V} {k : Key} (r : Rep K F al t v) (e : keyOf t = some k) : KOk k := by
  cases t with
  | int i => cases e; trivial
  | str x => cases e; exact r.2
  | _ => cases e
theorem mergeT_ok : ∀ (more kvs : List (Key × T)), kvs.length + more.length ≤ sizeLine → (∀ p ∈ kvs, KOk p.1) → (∀ p ∈ more, KOk p.1) → DOk (mergeT kvs more)
  | [], kvs, h, h1, _ => ⟨by simpa [mergeT] using h, h1⟩
  | m :: more, kvs, h, h1, h2 => by
    rw [List.length_cons] at h
    have d := DOk.put (t := m.2) (k := m.1) (kvs := kvs) ⟨by omega, h1⟩ (by omega) (h2 m (by simp))
    exact mergeT_ok more (dputT kvs m.1 m.2) (by have := dputT_length kvs m.1 m.2; omega) d.2 fun p hp => h2 p (by simp [hp])
theorem pairs_rep (ok : Ok K G loc sh σ H) : ∀ {ts : List T} {vs : List V} {kvs : List (Key × T)}, repL K G ts vs → pairsOf ts = some kvs → ∃ (ps : List Addr) (kw : List (Key × V)), vs = ps.map V.ref ∧ Paired (fun p kv => SqT K H p [kV kv.1, kv.2]) ps kw ∧ RepD K G.F G.al kvs kw ∧ kvs.length = ts.length ∧ ∀ p ∈ kvs, KOk p.1
  | [], _, _, r, e => by cases r; cases e; exact ⟨[], [], rfl, .nil, rfl, rfl, fun _ h => (by cases h)⟩
  | t :: ts, _, kvs, r, e => by
    obtain ⟨v, q, rfl, r1, r2⟩ := r
    unfold pairsOf at e
    split at e
    · rename_i h; cases h
    · rename_i k x rest h
      cases h
      cases e1 : keyOf k with
      | none => rw [e1] at e; cases e
      | some k' =>
        cases e2 : pairsOf ts with
        | none => rw [e1, e2] at e; cases e
        | some kvs' =>
          rw [e1, e2] at e
          cases e
          obtain ⟨a, ws, rfl, h1, r3, _⟩ := ok.ht r1
          obtain ⟨u, w, rfl, r4, r5⟩ := RepL.two r3
          obtain ⟨ps, kw, rfl, q1, q2, q3, q4⟩ := pairs_rep ok r2 e2
          refine ⟨a :: ps, (k', w) :: kw, rfl, .cons ?_ q1, ⟨w, kw, rfl, r5, q2⟩, by rw [List.length_cons, List.length_cons, q3], fun p hp => ?_⟩
          · rw [← keyOf_rep r4 e1]
            exact h1
          · rcases List.mem_cons.mp hp with rfl | hp
            · exact keyOf_ok r4 e1
            · exact q4 p hp
    · cases e
theorem sv_dictO : SvLO K (fun xs H Q => rDictP K xs H Q ∨ rDictD xs H Q) biDict := by
  intro W G loc sh σ H vs ts Q ok r p
  unfold biDict at p
  split at p
  · rename_i xs
    obtain ⟨v, rfl, r1⟩ := RepL.one r
    obtain ⟨a, vs, rfl, h1, r1, hz⟩ := ok.hl r1
    cases e : pairsOf xs with
    | none => rw [e] at p; exact p.elim
    | some kvs =>
      rw [e] at p
      obtain ⟨ps, kw, rfl, q1, q2, q3, q4⟩ := pairs_rep ok r1 e
      exact .inl ⟨a, ps, kw, rfl, .of h1, q1, ok.newDO (RepD.merge q2 (kvs := []) rfl) (mergeT_ok kvs [] (by simp only [List.length_nil]; omega) (fun _ h => (by cases h)) q4) p⟩
  · rename_i kvs
    obtain ⟨v, rfl, r1⟩ := RepL.one r
    obtain ⟨a, kv, rfl, h1, r1, hz⟩ := ok.hd r1
    exact .inr ⟨a, kv, rfl, h1, ok.newDO r1 hz p⟩
  · rename_i k
    obtain ⟨v, rfl, a, rfl, ha⟩ := RepL.one r
    split at p
    · rename_i kvs e
      obtain ⟨a', ha', q1, q2⟩ := ok.shr k _ e
      rw [ha] at ha'
      cases ha'
      obtain ⟨q3, q4, q5⟩ := q2
      exact .inr ⟨a, q1, rfl, .inl q3, ok.newDO q4 q5 p⟩
    · exact p.elim
  · exact p.elim
end
theorem call_dictA {X : Cx} (hc : X.calm = true) : CallR X (.type "dict") (fun xs H Q => rDictP X.K xs H Q ∨ rDictD xs H Q) := CallR.or (call_dictP hc) call_dictD
/-! ### sorted of texts -/
def lebS (x y : Str) : Bool := !ltCps y.cps.toList x.cps.toList
def sortS (xs : List Str) : List Str := xs.mergeSort lebS
theorem ltCps_irrefl : ∀ a : List Nat, ltCps a a = false := by
  intro a
  induction a with
  | nil => rfl
  | cons x xs ih => simp [ltCps, ih]
theorem ltCps_trans : ∀ a b c : List Nat, ltCps a b = true → ltCps b c = true → ltCps a c = true
  | [], [], _, h, _ => by simp [ltCps] at h
  | [], _ :: _, [], _, h => by simp [ltCps] at h
  | [], _ :: _, _ :: _, _, _ => by simp [ltCps]
  | _ :: _, [], _, h, _ => by simp [ltCps] at h
  | _ :: _, _ :: _, [], _, h => by simp [ltCps] at h
  | x :: xs, y :: ys, z :: zs, h1, h2 => by
    simp only [ltCps] at h1 h2 ⊢
    have ih := ltCps_trans xs ys zs
    by_cases e1 : x = y
    · by_cases e2 : y = z
      · subst e1 e2
        simp at h1 h2 ⊢
        exact ih h1 h2
      · subst e1
        simp_all
    · by_cases e2 : y = z
      · subst e2
        simp_all
      · simp_all
        omega
theorem ltCps_total : ∀ a b : List Nat, ltCps a b = false → ltCps b a = false → a = b
  | [], [], _, _ => rfl
  | [], _ :: _, h, _ => by simp [ltCps] at h
  | _ :: _, [], _, h => by simp [ltCps] at h
  | x :: xs, y :: ys, h1, h2 => by
    simp only [ltCps] at h1 h2
    have ih := ltCps_total xs ys
    by_cases e : x = y
    · subst e
      simp at h1 h2
      rw [ih h1 h2]
    · simp_all
      omega
theorem str_cps {x y : Str} (h : x.cps.toList = y.cps.toList) : x = y := by
  cases x with
  | mk a =>
    cases y with
    | mk b =>
      congr 1
      exact Array.ext' h
theorem lebS_trans (a b c : Str) (h1 : lebS a b = true) (h2 : lebS b c = true) : lebS a c = true := by
  unfold lebS at *
  simp only [Bool.not_eq_true'] at *
  cases h : ltCps c.cps.toList a.cps.toList with
  | false => rfl
  | true =>
    cases q : ltCps b.cps.toList a.cps.toList with
    | true => rw [q] at h1; cases h1
    | false =>
      cases q2 : ltCps a.cps.toList b.cps.toList with
      | true =>
        have := ltCps_trans _ _ _ h q2
        rw [this] at h2; cases h2
      | false =>
        have := ltCps_total _ _ q2 q
        rw [this] at h
        rw [h] at h2; cases h2
theorem lebS_total (a b : Str) : (lebS a b || lebS b a) = true := by
  unfold lebS
  cases h : ltCps b.cps.toList a.cps.toList with
  | false => rfl
  | true =>
    cases q : ltCps a.cps.toList b.cps.toList with
    | false => rfl
    | true =>
      have := ltCps_trans _ _ _ h q
      rw [ltCps_irrefl] at this; cases this
theorem lebS_anti (a b : Str) (h1 : lebS a b = true) (h2 : lebS b a = true) : a = b := by
  unfold lebS at *
  simp only [Bool.not_eq_true'] at *
  exact str_cps (ltCps_total _ _ h2 h1)
theorem risingS_pw : ∀ (xs : List Str) (p : Str), risingS p xs = true → (∀ x ∈ xs, lebS p x = true) ∧ xs.Pairwise fun a b => lebS a b = true
  | [], _, _ => ⟨fun _ h => (by cases h), .nil⟩
  | x :: xs, p, h => by
    unfold risingS at h
    rw [Bool.and_eq_true] at h
    obtain ⟨q1, q2⟩ := risingS_pw xs x h.2
    refine ⟨fun y hy => ?_, .cons q1 q2⟩
    rcases List.mem_cons.mp hy with rfl | hy
    · exact h.1
    · exact lebS_trans p x y h.1 (q1 y hy)
theorem sortS_is {ys xs : List Str} (hp : ys.Perm xs) (hs : sortedS ys = true) : ys = sortS xs := by
  refine List.Perm.eq_of_pairwise (le := fun a b => lebS a b = true) (fun a b _ _ => lebS_anti a b) ?_ (List.pairwise_mergeSort lebS_trans lebS_total xs) (hp.trans (List.mergeSort_perm xs lebS).symm)
  cases ys with
  | nil => exact .nil
  | cons y ys => obtain ⟨q1, q2⟩ := risingS_pw ys y hs; exact .cons q1 q2
def keyStrs : List (Key × T) → Option (List Str)
  | [] => some []
  | (.inr x, _) :: r => (keyStrs r).map (x :: ·)
  | _ => none
theorem keyStrs_map : ∀ {kvs : List (Key × T)} {ks : List Str}, keyStrs kvs = some ks → kvs.map (·.1) = ks.map Sum.inr
  | [], _, e => by cases e; rfl
  | (k, v) :: kvs, ks, e => by
    cases k with
    | inl i => cases e
    | inr x =>
      cases h : keyStrs kvs with
      | none => simp [keyStrs, h] at e
      | some ks' =>
        have e' : some (x :: ks') = some ks := by rw [← e]; simp [keyStrs, h]
        cases e'
        rw [List.map_cons, List.map_cons, keyStrs_map h]
theorem keyStrs_len {kvs : List (Key × T)} {ks : List Str} (h : keyStrs kvs = some ks) : ks.length = kvs.length := by
  have := congrArg List.length (keyStrs_map h)
  rw [List.length_map, List.length_map] at this
  exact this.symm
theorem keyStrs_ok {kvs : List (Key × T)} {ks : List Str} (h : keyStrs kvs = some ks) (hd : DOk kvs) : ∀ b ∈ ks, b.length ≤ sizeLine := fun b hb => by
  have h1 : Sum.inr b ∈ kvs.map (·.1) := by rw [keyStrs_map h]; exact List.mem_map.mpr ⟨b, hb, rfl⟩
  obtain ⟨p, hp, e⟩ := List.mem_map.mp h1
  have := hd.2 p hp
  rw [e] at this
  exact this
def biSortS : List T → Sh → Res T
  | [.lst xs], s => match strsOf xs with
    | some ks => if ks.length < 64 then .ok (.lst ((sortS ks).map T.str)) s else .bad
    | none => .bad
  | [.dct kvs], s => match keyStrs kvs with
    | some ks => if ks.length < 64 then .ok (.lst ((sortS ks).map T.str)) s else .bad
    | none => .bad
  | _, _ => .bad
def rSortD : List V → Hp → VK → Prop := fun xs H Q => ∃ (a : Addr) (kvs : List (Key × V)) (ks : List Str), xs = [.ref a] ∧ Rd H a (.dK kvs) ∧ kvs.map (·.1) = ks.map Sum.inr ∧ ks.length < 64 ∧
    ∀ ys p, ys.Perm ks → sortedS ys = true → H p = none → Q (.ref p) (upd H p (.lst (ys.map V.str)))
theorem sv_sortSO {K : PySem.W.Frag} : SvLO K (fun xs H Q => rSortedS K xs H Q ∨ rSortD xs H Q) biSortS := by
  intro W G loc sh σ H vs ts Q ok r p
  have fin : ∀ (ks ys : List Str) (q : Addr), ks.length < 64 → (∀ b ∈ ks, b.length ≤ sizeLine) → post (fun G H t v => OwnR K G loc σ H t v) K W G loc σ (.ok (.lst ((sortS ks).map T.str)) sh) Q → ys.Perm ks → sortedS ys = true → H q = none → Q (.ref q) (upd H q (.lst (ys.map V.str))) := fun ks ys q hl hb p h1 h2 hq => by
    have e := sortS_is h1 h2
    subst e
    refine ok.newLO (RepL.ofStrs _ fun b hb' => hb b (h1.mem_iff.mp hb')) ?_ p q hq
    rw [List.length_map, h1.length_eq]
    exact small64 hl
  unfold biSortS at p
  split at p
  · rename_i xs
    obtain ⟨v, rfl, r1⟩ := RepL.one r
    obtain ⟨a, vs, rfl, h1, r1, hz⟩ := ok.hl r1
    cases e : strsOf xs with
    | none => rw [e] at p; exact p.elim
    | some ks =>
      simp only [e] at p
      obtain ⟨rfl, hb⟩ := RepL.strs r1 e
      by_cases hl : ks.length < 64
      · rw [if_pos hl] at p
        exact .inl ⟨a, ks, rfl, .of h1, hl, fun ys q q1 q2 q3 => fin ks ys q hl hb p q1 q2 q3⟩
      · rw [if_neg hl] at p; exact p.elim
  · rename_i kvs
    obtain ⟨v, rfl, r1⟩ := RepL.one r
    obtain ⟨a, kv, rfl, h1, r1, hz⟩ := ok.hd r1
    cases e : keyStrs kvs with
    | none => rw [e] at p; exact p.elim
    | some ks =>
      simp only [e] at p
      by_cases hl : ks.length < 64
      · rw [if_pos hl] at p
        exact .inr ⟨a, kv, ks, rfl, h1, (RepD.keys r1).trans (keyStrs_map e), hl, fun ys q q1 q2 q3 => fin ks ys q hl (keyStrs_ok e hz) p q1 q2 q3⟩
      · rw [if_neg hl] at p; exact p.elim
  · exact p.elim
theorem call_sortA {X : Cx} (hc : X.calm = true) : CallR X (.builtin "sorted") (fun xs H Q => rSortedS X.K xs H Q ∨ rSortD xs H Q) := CallR.or cr_sortedS (call_sortedD hc)
/-! ### int(x), bool(x) -/
def biInt : List T → Sh → Res T
  | [.int i], s => .ok (.int i) s
  | [.bl k], s => .ok (.int (if k then 1 else 0)) s
  | _, _ => .bad
/-! ### sorted of data that is compared -/
def kindD : PyData → Nat
  | .none => 0
  | .bool _ => 1
  | .int _ => 2
  | .str _ => 3
  | .list _ => 4
  | .tuple _ => 5
  | .dict _ => 6
theorem kindD_type {x y : PyData} (h : kindD x = kindD y) : PySem.W.dataType x = PySem.W.dataType y := by
  cases x <;> cases y <;> first | rfl | (simp [kindD] at h)
def fstD : PyData → Option Nat
  | .tuple (x :: _) => some (kindD x)
  | _ => none
theorem fstD_is {d : PyData} {n : Nat} (h : fstD d = some n) : ∃ x r, d = .tuple (x :: r) ∧ kindD x = n := by
  unfold fstD at h
  split at h
  · exact ⟨_, _, rfl, Option.some.inj h⟩
  · cases h
def ordAllB (ds : List PyData) : Bool := (ds.all fun d => d.plain) && ds.all fun d => ds.all fun e => (SeqAt.ordD d e).isSome
def sortOrdB : List PyData → Bool
  | [] => true
  | d :: ds => ((fstD d).isSome && (d :: ds).all fun e => decide (fstD e = fstD d)) || ((d :: ds).all fun e => decide (kindD e = kindD d) && decide (kindD e ≠ 5))
theorem ordAllB_is {ds : List PyData} (h : ordAllB ds = true) : PySem.W.AllOrd ds := by
  unfold ordAllB at h
  rw [Bool.and_eq_true] at h
  exact ⟨fun d hd => List.all_eq_true.mp h.1 d hd, fun d hd e he => Option.isSome_iff_exists.mp (List.all_eq_true.mp (List.all_eq_true.mp h.2 d hd) e he)⟩
theorem sortOrdB_is {ds : List PyData} (h : sortOrdB ds = true) : PySem.W.SortOrd ds := by
  cases ds with
  | nil => exact .inl ⟨.none, fun d hd => (by cases hd)⟩
  | cons d ds =>
    have h' : (((fstD d).isSome && (d :: ds).all fun e => decide (fstD e = fstD d)) || ((d :: ds).all fun e => decide (kindD e = kindD d) && decide (kindD e ≠ 5))) = true := h
    rw [Bool.or_eq_true] at h'
    rcases h' with h' | h'
    · rw [Bool.and_eq_true] at h'
      obtain ⟨n, hn⟩ := Option.isSome_iff_exists.mp h'.1
      obtain ⟨x0, r0, rfl, k0⟩ := fstD_is hn
      refine .inl ⟨PySem.W.dataType x0, fun e he => ?_⟩
      have := of_decide_eq_true (List.all_eq_true.mp h'.2 e he)
      rw [hn] at this
      obtain ⟨x, r, rfl, k⟩ := fstD_is this
      exact ⟨x, r, rfl, kindD_type (k.trans k0.symm)⟩
    · refine .inr ⟨PySem.W.dataType d, fun e he => ?_⟩
      have := List.all_eq_true.mp h' e he
      rw [Bool.and_eq_true] at this
      refine ⟨kindD_type (of_decide_eq_true this.1), fun xs z => ?_⟩
      subst z
      exact of_decide_eq_true this.2 rfl
def leT (x y : T) : Bool := !PySem.W.dataLt (toD y) (toD x)
def sortTs (xs : List T) : List T := xs.mergeSort leT
def sortOkT (xs : List T) : Bool := (xs.all fun x => plainT x && decide ((toD x).depth ≤ 150)) && (ordAllB (xs.map toD) && sortOrdB (xs.map toD))
def biSort : List T → Sh → Res T
  | [.lst xs], s => match strsOf xs with
    | some ks => if ks.length < 64 then .ok (.lst ((sortS ks).map T.str)) s else .bad
    | none => if sortOkT xs then .ok (.lst (sortTs xs)) s else .bad
  | [.dct kvs], s => match keyStrs kvs with
    | some ks => if ks.length < 64 then .ok (.lst ((sortS ks).map T.str)) s else .bad
    | none => .bad
  | _, _ => .bad
theorem repL_pairs {K : PySem.W.Frag} {F : Hp} {al : List Addr} : ∀ {L : List (V × T)}, (∀ p ∈ L, Rep K F al p.2 p.1) → RepL K F al (L.map (·.2)) (L.map (·.1))
  | [], _ => rfl
  | p :: L, h => ⟨p.1, _, rfl, h p (by simp), repL_pairs fun q hq => h q (by simp [hq])⟩
theorem pairs_repL {K : PySem.W.Frag} {F : Hp} {al : List Addr} : ∀ {xs : List T} {vs : List V}, RepL K F al xs vs → (∀ p ∈ vs.zip xs, Rep K F al p.2 p.1 ∧ p.2 ∈ xs) ∧ (vs.zip xs).map (·.1) = vs ∧ (vs.zip xs).map (·.2) = xs
  | [], _, h => by cases h; exact ⟨fun _ h => (by cases h), rfl, rfl⟩
  | x :: xs, _, h => by
    obtain ⟨v, r, rfl, h1, h2⟩ := h
    obtain ⟨q1, q2, q3⟩ := pairs_repL h2
    rw [List.zip_cons_cons, List.map_cons, List.map_cons, q2, q3]
    refine ⟨fun p hp => ?_, rfl, rfl⟩
    rcases List.mem_cons.mp hp with rfl | hp
    · exact ⟨h1, by simp⟩
    · exact ⟨(q1 p hp).1, by simp [(q1 p hp).2]⟩
theorem sv_sortO {K : PySem.W.Frag} : SvLO K (fun xs H Q => (rSortedS K xs H Q ∨ rSortD xs H Q) ∨ rSortO K xs H Q) biSort := by
  intro W G loc sh σ H vs ts Q ok r p
  have old : post (fun G H t v => OwnR K G loc σ H t v) K W G loc σ (biSortS ts sh) Q → (rSortedS K vs H Q ∨ rSortD vs H Q) ∨ rSortO K vs H Q := fun p => .inl (sv_sortSO W G loc sh σ H vs ts Q ok r p)
  unfold biSort at p
  split at p
  · rename_i xs
    cases e : strsOf xs with
    | some ks =>
      refine old ?_
      have es : biSortS [.lst xs] sh = if ks.length < 64 then Res.ok (T.lst ((sortS ks).map T.str)) sh else Res.bad := by
        unfold biSortS
        simp only [e]
      rw [es]
      rw [e] at p
      exact p
    | none =>
      rw [e] at p
      simp only at p
      by_cases h : sortOkT xs = true
      · rw [if_pos h] at p
        unfold sortOkT at h
        rw [Bool.and_eq_true, Bool.and_eq_true] at h
        obtain ⟨v, rfl, r1⟩ := RepL.one r
        obtain ⟨a, vs, rfl, h1, r1, hz⟩ := ok.hl r1
        obtain ⟨q1, q2, q3⟩ := pairs_repL r1
        have pl : ∀ x ∈ xs, plainT x = true ∧ (toD x).depth ≤ 150 := fun x hx => by
          have := List.all_eq_true.mp h.1 x hx
          rw [Bool.and_eq_true] at this
          exact ⟨this.1, of_decide_eq_true this.2⟩
        have eb : ((vs.zip xs).map fun p => (p.1, toD p.2)).map (·.2) = xs.map toD := by
          rw [List.map_map, ← q3, List.map_map]
          rw [q3]
          rfl
        refine .inr ⟨a, (vs.zip xs).map fun p => (p.1, toD p.2), rfl, ?_, ?_, ?_, ?_, ?_⟩
        · rw [List.map_map]
          show SqL K H a ((vs.zip xs).map (·.1))
          rw [q2]
          exact .of h1
        · intro p hp
          obtain ⟨q, hq, rfl⟩ := List.mem_map.mp hp
          obtain ⟨w1, w2⟩ := q1 q hq
          exact ⟨dp_of ok.fle q.2 q.1 (pl q.2 w2).1 w1, (pl q.2 w2).2⟩
        · rw [eb]; exact ordAllB_is h.2.1
        · rw [eb]; exact sortOrdB_is h.2.2
        · have m1 := List.map_mergeSort (r := fun p q : V × T => leT p.2 q.2) (s := leVP) (f := fun p : V × T => (p.1, toD p.2)) (l := vs.zip xs) fun a _ b _ => rfl
          have m2 := List.map_mergeSort (r := fun p q : V × T => leT p.2 q.2) (s := leT) (f := fun p : V × T => p.2) (l := vs.zip xs) fun a _ b _ => rfl
          rw [q3] at m2
          rw [← m1, List.map_map]
          have rr := repL_pairs (K := K) (F := G.F) (al := G.al) (L := (vs.zip xs).mergeSort fun p q : V × T => leT p.2 q.2) fun p hp => (q1 p ((List.mergeSort_perm _ _).mem_iff.mp hp)).1
          rw [m2] at rr
          exact ok.newLO rr (by show (xs.mergeSort leT).length ≤ _; rw [List.length_mergeSort]; exact hz) p
      · rw [if_neg h] at p; exact p.elim
  · exact old p
  · exact p.elim
theorem call_sortO {X : Cx} (hc : X.calm = true) (hu : X.A.units + 160 < cLine) : CallR X (.builtin "sorted") (fun xs H Q => (rSortedS X.K xs H Q ∨ rSortD xs H Q) ∨ rSortO X.K xs H Q) := CallR.or (call_sortA hc) (cr_sortedO hu)
end TL
/-! the T-layer, 11: walks over dicts -/
namespace TL
open PySem PySem.Spec L2
section
variable {K : PySem.W.Frag} {W : WX} {m : Bool} {G G' : Gh} {loc loc' : Loc} {sh sh' : Sh} {σ σ' : L2.St} {H H' : Hp}
/-- the object at a, a tree's, is told anew -/
def Gh.sw (G : Gh) (a : Addr) (o : HO) : Gh := { G with F := upd G.F a o }
theorem fsim_lock {F : Hp} {a : Addr} {kv : List (Key × V)} (od : Obj) (h : F a = some (.dK kv)) : FSim F (upd F a (.frz od (.dK kv))) := by
  refine ⟨fun b vs q => ?_, fun b u nu q => ?_, fun b P q => ?_, fun b C dx fv q => ?_⟩
  · have : b ≠ a := fun e => by rw [e, h] at q; cases q
    rw [upd_ne this]; exact q
  · by_cases e : b = a
    · subst e
      rcases q with q | ⟨o, q⟩
      · rw [h] at q; cases q; exact .inr ⟨od, upd_same⟩
      · rw [h] at q; cases q
    · rcases q with q | ⟨o, q⟩
      · exact .inl ((upd_ne e).trans q)
      · exact .inr ⟨o, (upd_ne e).trans q⟩
  · have : b ≠ a := fun e => by rw [e, h] at q; cases q
    exact (upd_ne this).trans q
  · have : b ≠ a := fun e => by rw [e, h] at q; cases q
    exact (upd_ne this).trans q
theorem fsim_open {F : Hp} {a : Addr} {kv : List (Key × V)} {od : Obj} (h : F a = some (.frz od (.dK kv))) : FSim F (upd F a (.dK kv)) := by
  refine ⟨fun b vs q => ?_, fun b u nu q => ?_, fun b P q => ?_, fun b C dx fv q => ?_⟩
  · have : b ≠ a := fun e => by rw [e, h] at q; cases q
    rw [upd_ne this]; exact q
  · by_cases e : b = a
    · subst e
      rcases q with q | ⟨o, q⟩
      · rw [h] at q; cases q; exact absurd rfl (nu _ _)
      · rw [h] at q; cases q; exact .inl upd_same
    · rcases q with q | ⟨o, q⟩
      · exact .inl ((upd_ne e).trans q)
      · exact .inr ⟨o, (upd_ne e).trans q⟩
  · have : b ≠ a := fun e => by rw [e, h] at q; cases q
    exact (upd_ne this).trans q
  · have : b ≠ a := fun e => by rw [e, h] at q; cases q
    exact (upd_ne this).trans q
theorem RepFs.sim {F F' : Hp} {al : List Addr} (hF : FSim F F') : ∀ {fs : List (Str × T)} {vs : List (Str × V)}, RepFs K F al fs vs → RepFs K F' al fs vs
  | [], _, h => h
  | (_, _) :: _, _, h => by
    obtain ⟨v, r, e, h1, h2⟩ := h
    exact ⟨v, r, e, Rep.sim hF (ALe.refl _) _ _ h1, RepFs.sim hF h2⟩
theorem Sha.sim {a : Addr} {t : T} (hF : FSim G.F G'.F) (hA : G'.al = G.al) (e : H' a = H a) (h : Sha K G H a t) : Sha K G' H' a t := by
  cases t with
  | lst xs => obtain ⟨vs, h1, h2, h3⟩ := h; exact ⟨vs, e.trans h1, by rw [hA]; exact RepL.sim hF (ALe.refl _) _ _ h2, h3⟩
  | dct kvs => obtain ⟨vs, h1, h2, h3⟩ := h; exact ⟨vs, e.trans h1, by rw [hA]; exact RepD.sim hF (ALe.refl _) _ _ h2, h3⟩
  | _ => exact h.elim
theorem Ok.swap (ok : Ok K G loc sh σ H) {a : Addr} {o1 o2 : HO} (h1 : G.F a = some o1) (hs : FSim G.F (upd G.F a o2)) (no : ∀ x, o1 ≠ .own x) : Ok K (G.sw a o2) loc sh σ (upd H a o2) := by
  have nF : ∀ {b : Addr}, G.F b = none → b ≠ a := fun {b} h e => by rw [e, h1] at h; cases h
  have nn : ∀ {b : Addr}, G.F b = none → upd G.F a o2 b = none := fun {b} h => (upd_ne (nF h)).trans h
  refine ⟨⟨fun b u h => ?_, fun b u h => ?_, fun b => ?_, fun k b h => ?_, ok.ali, ok.all, fun k u h => ?_⟩, ok.len, fun i => ?_, ok.sep⟩
  · have h' : upd G.F a o2 b = some u := h
    by_cases e : b = a
    · subst e; rw [upd_same] at h' ⊢; exact h'
    · rw [upd_ne e] at h' ⊢; exact ok.fh b u h'
  · have : G.F b = none := by
      rcases ok.dis b with q | q
      · exact q
      · have h' : G.B b = some u := h
        rw [h'] at q; cases q
    rw [upd_ne (nF this)]; exact ok.bh b u h
  · rcases ok.dis b with q | q
    · exact .inl (nn q)
    · exact .inr q
  · obtain ⟨q1, q2⟩ := ok.alf k b h
    exact ⟨nn q1, q2⟩
  · obtain ⟨b, q1, q2⟩ := ok.shr k u h
    have hb := (ok.alf k b q1).1
    refine ⟨b, q1, ?_⟩
    cases u with
    | lst xs => exact Sha.sim (G := G) (G' := G.sw a o2) (t := .lst xs) hs rfl (upd_ne (nF hb)) q2
    | dct kvs => exact Sha.sim (G := G) (G' := G.sw a o2) (t := .dct kvs) hs rfl (upd_ne (nF hb)) q2
    | ins C fs =>
      obtain ⟨dx, fv, r1, r2, r3, r4, r5, r6⟩ := q2
      exact ⟨dx, fv, (upd_ne (nF hb)).trans r1, RepFs.sim hs r2, (upd_ne (nF r4)).trans r3, nn r4, r5, r6⟩
    | tab d q =>
      obtain ⟨r0, ps, r1, r2, r3⟩ := q2
      exact ⟨r0, ps, (upd_ne (nF hb)).trans r1, r2, fun p cv hc => by
        obtain ⟨c, e1, e2⟩ := r3 p cv hc
        exact ⟨c, e1, hs.e _ _ e2⟩⟩
  · have h := ok.sl i
    cases e : loc.at i with
    | no => trivial
    | t x => rw [e] at h; obtain ⟨v, q, r⟩ := h; exact ⟨v, q, Rep.sim hs (ALe.refl _) _ _ r⟩
    | own x =>
      rw [e] at h
      obtain ⟨b, q1, q2, q3, q4, q5⟩ := h
      exact ⟨b, q1, nn q2, q3, q4, Sha.sim (G := G) (G' := G.sw a o2) hs rfl (upd_ne (nF q2)) q5⟩
theorem OwnR.swap {a : Addr} {o1 o2 : HO} (h1 : G.F a = some o1) (hs : FSim G.F (upd G.F a o2)) {t : T} {v : V} (h : OwnR K G loc σ H t v) : OwnR K (G.sw a o2) loc σ (upd H a o2) t v := by
  obtain ⟨b, e, q1, q2, q3, q4, q5⟩ := h
  have nF : b ≠ a := fun e => by rw [e, h1] at q1; cases q1
  exact ⟨b, e, (upd_ne nF).trans q1, q2, q3, q4, Sha.sim (G := G) (G' := G.sw a o2) hs rfl (upd_ne nF) q5⟩
theorem gle_sw {a : Addr} {kv : List (Key × V)} {od : Obj} (h1 : G.F a = some (.dK kv)) (l : GLe (G.sw a (.frz od (.dK kv))) G') : GLe G (G'.sw a (.dK kv)) := by
  refine ⟨fun b u q => ?_, l.a, l.b⟩
  show upd G'.F a (.dK kv) b = some u
  by_cases e : b = a
  · subst e; rw [upd_same, ← h1]; exact q
  · rw [upd_ne e]
    exact l.f b u ((upd_ne e).trans q)
/-- the keys, as they come -/
def keyT : Key → T
  | .inl i => .int i
  | .inr x => .str x
def itemsN : T → Sh → Res (List T)
  | .lst xs, s => .ok xs s
  | .tup xs, s => .ok xs s
  | .str x, s => .ok (charsT x) s
  | .dct kvs, s => .ok (kvs.map fun p => keyT p.1) s
  | _, _ => .bad
def itN (i : Nat) : EvL := fun l s => match l.at i with
  | .t x => itemsN x s
  | _ => .bad
theorem items_keys {a : Addr} {od : Obj} {kv : List (Key × V)} {kvs : List (Key × T)} (h : G.F a = some (.frz od (.dK kv))) (r : RepD K G.F G.al kvs kv) (hd : DOk kvs) : Items K G (Itk a od kv) (kvs.map fun p => keyT p.1) := by
  intro G2 loc2 sh2 σ2 H2 lF lA ok i
  have hH : H2 a = some (.frz od (.dK kv)) := ok.fh _ _ (lF _ _ h)
  have hk := RepD.keys r
  have hl := RepD.length r
  refine ⟨fun t e => ?_, fun hi => ⟨hH, by rw [List.length_map] at hi; omega⟩⟩
  have hi : i < kvs.length := by
    have := (List.getElem?_eq_some_iff.mp e).1
    rwa [List.length_map] at this
  refine ⟨⟨hH, by omega⟩, fun x H3 y => ?_⟩
  obtain ⟨rfl, k, v, e1, rfl⟩ := y
  have e2 : kvs[i]? = some kvs[i] := List.getElem?_eq_getElem hi
  have e3 : (kv.map (·.1))[i]? = some k := by rw [List.getElem?_map, e1]; rfl
  rw [hk, List.getElem?_map, e2] at e3
  rw [List.getElem?_map, e2] at e
  have e4 : kvs[i].1 = k := Option.some.inj e3
  have e5 : keyT kvs[i].1 = t := Option.some.inj e
  have := hd.2 kvs[i] (List.getElem_mem hi)
  rw [← e5, e4]
  rw [e4] at this
  refine ⟨G2, GLe.refl _, ok, ?_⟩
  cases k with
  | inl i => rfl
  | inr x => exact ⟨rfl, this⟩
/-- a dict's walk, locked by somebody else, or to be locked -/
theorem itN_cases (ok : Ok K G loc sh σ H) {i : Nat} {P : (List T → Sh → Res (List T)) → Prop} {kvs : List (Key × T)} (e : loc.at i = .t (.dct kvs)) :
    ∃ a kv, σ[i]? = some (some (.ref a)) ∧ RepD K G.F G.al kvs kv ∧ DOk kvs ∧ (G.F a = some (.dK kv) ∨ ∃ od, G.F a = some (.frz od (.dK kv))) := by
  have h := ok.sl i
  rw [e] at h
  obtain ⟨v, e1, a, kv, rfl, q, r, d⟩ := h
  exact ⟨a, kv, e1, r, d, q⟩
end
section
variable {X : Cx}
/-- as HandS.Iter's tLockE, and what stood there ahead of all was not locked -/
def tLockW (t : TE) : TE := fun σ H Q => ∃ d u, H d = some u ∧ Mut (some u) ∧ ∀ od, (∀ o' u', X.H_0 d ≠ some (.frz o' u')) → t σ (upd H d (.frz od u)) fun v H' => H' d = some (.frz od u) ∧ Q v (upd H' d u)
theorem pe_lockW {e : Expr} {t : TE} (h : PE X e t) : PE X e (tLockW (X := X) t) := by
  refine ⟨fun pins s σ H Q I hw => ?_⟩
  obtain ⟨d, u, hd, mu, hw⟩ := hw
  obtain ⟨od, I1⟩ := I.lock hd mu
  refine thn (h.run pins s σ _ _ I1 (hw od (I.nofrz hd mu))) fun v s1 ⟨x, H1, I2, r, e2, q⟩ => ?_
  exact ⟨x, _, I2.unlock e2 (I.nofrz hd mu), r, q⟩
def tLockS (t : TS) : TS := fun D σ H => ∃ d u, H d = some u ∧ Mut (some u) ∧ ∀ od, (∀ o' u', X.H_0 d ≠ some (.frz o' u')) → t ⟨fun σ' H' => H' d = some (.frz od u) ∧ D.nx σ' (upd H' d u), fun v H' => H' d = some (.frz od u) ∧ D.rt v (upd H' d u), fun σ' H' => H' d = some (.frz od u) ∧ D.bk σ' (upd H' d u), fun σ' H' => H' d = some (.frz od u) ∧ D.ct σ' (upd H' d u)⟩ σ (upd H d (.frz od u))
theorem ps_lockW {st : Stmt} {t : TS} (h : PS X st t) : PS X st (tLockS (X := X) t) := by
  refine ⟨fun pins s σ H D I hw => ?_⟩
  obtain ⟨d, u, hd, mu, hw⟩ := hw
  obtain ⟨od, I1⟩ := I.lock hd mu
  refine thn (h.run pins s σ _ _ I1 (hw od (I.nofrz hd mu))) fun f s1 q => ?_
  cases f with
  | next => obtain ⟨σ', H', I2, e, q⟩ := q; exact ⟨σ', _, I2.unlock e (I.nofrz hd mu), q⟩
  | brk => obtain ⟨σ', H', I2, e, q⟩ := q; exact ⟨σ', _, I2.unlock e (I.nofrz hd mu), q⟩
  | cont => obtain ⟨σ', H', I2, e, q⟩ := q; exact ⟨σ', _, I2.unlock e (I.nofrz hd mu), q⟩
  | ret v => obtain ⟨x, σ', H', I2, r, e, q⟩ := q; exact ⟨x, σ', _, I2.unlock e (I.nofrz hd mu), r, q⟩
/-- a wish that may be asked behind the unlocking -/
def Wopen (X : Cx) (W : WX) : Prop := ∀ cls d σ (H : Hp) (a : Addr) (od : Obj) (u : HO), (∀ o' u', X.H_0 a ≠ some (.frz o' u')) → H a = some (.frz od u) → W cls d σ (upd H a u) → W cls d σ H
theorem wopen0 : Wopen X W0 := fun _ _ _ _ _ _ _ _ _ h => h
variable {W : WX} {m : Bool} {elt tg iter : Expr} {ifs : List Expr} {scope : Scope} {own : List (Str × Nat)} {pos np : Pos} {g : TG} {tt : Tgt} {c : Et} {ee : Ev} {x : Str} {i : Nat}
theorem PS.or {st : Stmt} {t t' : TS} (h : PS X st t) (h' : PS X st t') : PS X st (fun D σ H => t D σ H ∨ t' D σ H) := ⟨fun pins s σ H D I q => q.elim (h.run pins s σ H D I) (h'.run pins s σ H D I)⟩
theorem compN_core {vs : List Nat} {Q : VK} {G : Gh} {loc : Loc} {sh : Sh} {σ : L2.St} {H : Hp} (hW : Wopen X W) (hsl : ∀ i, i ∈ tt.slots → i ∈ vs) (hgs : TgSem X.K g tt) (ok : Ok X.K G loc sh σ H)
    (p : post (fun G H t v => OwnR X.K G loc σ H t v) X.K W G loc σ (eComp vs (itN i) tt c ee loc sh) Q) :
    tLc (liftI X.K W (itV (eVar i))) g (liftT X.K W0 c) (lift X.K W0 ee) vs σ H Q ∨ tLc (iKeys (tVar i)) g (liftT X.K W0 c) (lift X.K W0 ee) vs σ H Q ∨
    ∃ d u, H d = some u ∧ Mut (some u) ∧ ∀ od, (∀ o' u', X.H_0 d ≠ some (.frz o' u')) → tLc (iKeys (tVar i)) g (liftT X.K W0 c) (lift X.K W0 ee) vs σ (upd H d (.frz od u)) fun v H' => H' d = some (.frz od u) ∧ Q v (upd H' d u) := by
  have seq : (∀ kvs, loc.at i ≠ .t (.dct kvs)) → itN i loc sh = itV (eVar i) loc sh := fun h => by
    unfold itN itV eVar
    cases e : loc.at i with
    | no => rfl
    | own x => rfl
    | t x =>
      cases x with
      | dct kvs => exact absurd e (h kvs)
      | _ => rfl
  by_cases hd : ∃ kvs, loc.at i = .t (.dct kvs)
  · obtain ⟨kvs, e⟩ := hd
    obtain ⟨a, kv, es, r, d, hF⟩ := itN_cases (P := fun _ => True) ok e
    have ei : ∀ s, itN i loc s = .ok (kvs.map fun p => keyT p.1) s := fun s => by unfold itN; rw [e]; rfl
    rcases hF with hF | ⟨od, hF⟩
    · refine .inr (.inr ⟨a, .dK kv, ok.fh _ _ hF, trivial, fun od hx => ?_⟩)
      have sim := fsim_lock od hF
      have ok1 := ok.swap hF sim (fun _ z => nomatch z)
      have F1 : (G.sw a (.frz od (.dK kv))).F a = some (.frz od (.dK kv)) := upd_same
      refine comp_core (W := W) (it := itN i) ok1 (fun R q => ?_) hsl hgs ?_
      · rw [ei] at q
        refine ⟨.ref a, es, a, od, rfl, .inl ⟨kv, ok1.fh _ _ F1, ?_⟩⟩
        exact q (Itk a od kv) _ _ (GLe.refl _) ok1 (items_keys F1 (RepD.sim sim (ALe.refl _) _ _ r) d)
      · cases q : eComp vs (itN i) tt c ee loc sh with
        | bad => rw [q] at p; exact p
        | exc y s =>
          rw [q] at p
          intro dd H2 G2 l2 ok2 ⟨dd', fv, h1, h2, h3⟩
          have F2 := l2.f _ _ F1
          have s2 := fsim_open F2
          refine hW _ _ _ _ a od (.dK kv) hx (ok2.fh _ _ F2) (p dd _ _ (gle_sw hF l2) (ok2.swap F2 s2 (fun _ z => nomatch z)) ⟨dd', fv, h1, (upd_ne fun z => ?_).trans h2, RepFs.sim s2 h3⟩)
          rw [z, ok2.fh _ _ F2] at h2
          cases h2
        | ok t s =>
          rw [q] at p
          intro v H2 G2 l2 ok2 o
          have F2 := l2.f _ _ F1
          have s2 := fsim_open F2
          exact ⟨ok2.fh _ _ F2, p v _ _ (gle_sw hF l2) (ok2.swap F2 s2 (fun _ z => nomatch z)) (o.swap F2 s2)⟩
    · refine .inr (.inl (comp_core (W := W) (it := itN i) ok (fun R q => ?_) hsl hgs p))
      rw [ei] at q
      exact ⟨.ref a, es, a, od, rfl, .inl ⟨kv, ok.fh _ _ hF, q (Itk a od kv) _ _ (GLe.refl _) ok (items_keys hF r d)⟩⟩
  · have hn : ∀ kvs, loc.at i ≠ .t (.dct kvs) := fun kvs e => hd ⟨kvs, e⟩
    refine .inl (comp_core (W := W) (it := itN i) ok (fun R q => ⟨G, loc, sh, ok, ?_⟩) hsl hgs p)
    rw [← seq hn]
    exact q
/-- [e for x in name if c], name a list, a tuple, a text or a dict -/
theorem t_compN (hW : Wopen X W) (hv' : PE X (.Name x np) (tVar i)) (hc : X.calm = true) (hN : X.N.Nodup) (ok : BlkOk X.N X.env.scope scope own) (hv : (tt.slots.all fun i => (own.map (·.2)).contains i) = true)
    (hgs : TgSem X.K g tt) (hg : ∀ (s : Shared) (H : Hp) (C : Addr) (cl : List (Str × Addr)) (fp : List Addr), PG (X.blk s H scope (compEnvC scope cl C X.env) fp) tg g)
    (ht : ∀ (s : Shared) (H : Hp) (C : Addr) (cl : List (Str × Addr)) (fp : List Addr), TPTs (X.blk s H scope (compEnvC scope cl C X.env) fp) W0 ifs c)
    (he : ∀ (s : Shared) (H : Hp) (C : Addr) (cl : List (Str × Addr)) (fp : List Addr), TPE (X.blk s H scope (compEnvC scope cl C X.env) fp) W0 elt ee)
    (hs : ∀ v, foldedSetIterable (.Name x np) X.env v = pure v := by intro _; rfl) : TPO X W (.ListComp elt [⟨tg, .Name x np, ifs, 0⟩] scope pos) (eComp (own.map (·.2)) (itN i) tt c ee) := by
  have hsl : ∀ i, i ∈ tt.slots → i ∈ own.map (·.2) := fun i hi => by
    have := List.all_eq_true.mp hv i hi
    simpa using this
  have keys := pe_lc (pos := pos) (wi := iKeys (tVar i)) (g := g) (tt := liftT X.K W0 c) (te := lift X.K W0 ee) hc hN (pi_keys (tg := tg) hv') ok hg ht he hs
  exact PE.weak (PE.or (pe_lc (wi := liftI X.K W (itV (eVar i))) (g := g) (tt := liftT X.K W0 c) (te := lift X.K W0 ee) hc hN (ti_val (t_var hv')) ok hg ht he hs) (PE.or keys (pe_lockW keys))) fun σ H Q ⟨G, loc, sh, ok, p⟩ => compN_core hW hsl hgs ok p
/-- for x in name -/
theorem ts_forN {body : List Stmt} {sb : Sv} (hW : Wopen X W) (hv' : PE X (.Name x np) (tVar i)) (hp : PassesOwn (model X.prog X.w) X.A X.env X.xe) (hc : X.calm = true) (hg : TgOk X tg g tt) (hb : TPSs X W m body sb) (hs : ∀ v, foldedSetIterable (.Name x np) X.env v = pure v := by intro _; rfl) : TPS X W m (.For tg (.Name x np) body [] pos) (sFor (itN i) tt sb) := by
  have keys := ps_for (pos := pos) hp hc (pi_keys (tg := tg) hv') hg.pg hb hs
  refine PS.weak (PS.or (ps_for hp hc (ti_val (W := W) (t_var hv')) hg.pg hb hs) (PS.or keys (ps_lockW keys))) fun D σ H ⟨G, loc, sh, ok, p⟩ => ?_
  have seq : (∀ kvs, loc.at i ≠ .t (.dct kvs)) → itN i loc sh = itV (eVar i) loc sh := fun h => by
    unfold itN itV eVar
    cases e : loc.at i with
    | no => rfl
    | own x => rfl
    | t x =>
      cases x with
      | dct kvs => exact absurd e (h kvs)
      | _ => rfl
  by_cases hd : ∃ kvs, loc.at i = .t (.dct kvs)
  · obtain ⟨kvs, e⟩ := hd
    obtain ⟨a, kv, es, r, d, hF⟩ := itN_cases (P := fun _ => True) ok e
    have ei : ∀ s, itN i loc s = .ok (kvs.map fun p => keyT p.1) s := fun s => by unfold itN; rw [e]; rfl
    rcases hF with hF | ⟨od, hF⟩
    · refine .inr (.inr ⟨a, .dK kv, ok.fh _ _ hF, trivial, fun od hx => ?_⟩)
      have sim := fsim_lock od hF
      have ok1 := ok.swap hF sim (fun _ z => nomatch z)
      have F1 : (G.sw a (.frz od (.dK kv))).F a = some (.frz od (.dK kv)) := upd_same
      refine for_core (W := W) (it := itN i) ok1 (fun R q => ?_) hg.sem ?_
      · rw [ei] at q
        refine ⟨.ref a, es, a, od, rfl, .inl ⟨kv, ok1.fh _ _ F1, ?_⟩⟩
        exact q (Itk a od kv) _ _ (GLe.refl _) ok1 (items_keys F1 (RepD.sim sim (ALe.refl _) _ _ r) d)
      · cases q : sFor (itN i) tt sb loc sh with
        | bad => rw [q] at p; exact p
        | exc y l s =>
          rw [q] at p
          intro dd σ2 H2 G2 l2 ok2 ⟨dd', fv, h1, h2, h3⟩
          have F2 := l2.f _ _ F1
          have s2 := fsim_open F2
          refine hW _ _ _ _ a od (.dK kv) hx (ok2.fh _ _ F2) (p dd _ _ _ (gle_sw hF l2) (ok2.swap F2 s2 (fun _ z => nomatch z)) ⟨dd', fv, h1, (upd_ne fun z => ?_).trans h2, RepFs.sim s2 h3⟩)
          rw [z, ok2.fh _ _ F2] at h2
          cases h2
        | nx l s =>
          rw [q] at p
          intro σ2 H2 G2 l2 ok2
          have F2 := l2.f _ _ F1
          exact ⟨ok2.fh _ _ F2, p _ _ _ (gle_sw hF l2) (ok2.swap F2 (fsim_open F2) (fun _ z => nomatch z))⟩
        | bk l s =>
          rw [q] at p
          intro σ2 H2 G2 l2 ok2
          have F2 := l2.f _ _ F1
          exact ⟨ok2.fh _ _ F2, p _ _ _ (gle_sw hF l2) (ok2.swap F2 (fsim_open F2) (fun _ z => nomatch z))⟩
        | ct l s =>
          rw [q] at p
          intro σ2 H2 G2 l2 ok2
          have F2 := l2.f _ _ F1
          exact ⟨ok2.fh _ _ F2, p _ _ _ (gle_sw hF l2) (ok2.swap F2 (fsim_open F2) (fun _ z => nomatch z))⟩
        | rt t s =>
          rw [q] at p
          intro v H2 G2 l2 g2 o
          have F2 := l2.f _ _ F1
          have s2 := fsim_open F2
          have ok2 : Ok X.K G2 [] s [] H2 := ⟨g2, rfl, fun i => by simp [Loc.at]; trivial, fun i j x y b _ h => by cases h⟩
          refine ⟨g2.fh _ _ F2, p v _ _ (gle_sw hF l2) (ok2.swap F2 s2 (fun _ z => nomatch z)).toGok ?_⟩
          cases m with
          | false => exact Rep.sim s2 (ALe.refl _) _ _ o
          | true => exact OwnR.swap F2 s2 o
    · refine .inr (.inl (for_core (W := W) (it := itN i) ok (fun R q => ?_) hg.sem p))
      rw [ei] at q
      exact ⟨.ref a, es, a, od, rfl, .inl ⟨kv, ok.fh _ _ hF, q (Itk a od kv) _ _ (GLe.refl _) ok (items_keys hF r d)⟩⟩
  · have hn : ∀ kvs, loc.at i ≠ .t (.dct kvs) := fun kvs e => hd ⟨kvs, e⟩
    refine .inl (for_core (W := W) (it := itN i) ok (fun R q => ⟨G, loc, sh, ok, ?_⟩) hg.sem p)
    rw [← seq hn]
    exact q
end
end TL
/-! the T-layer, 12: stores, methods, shared objects, assignments -/
namespace TL
open PySem PySem.Spec L2
/-! ### a list or dict becomes a shared object -/
def shareT : T → Sh → Res T
  | .lst xs, s => .ok (.cel s.length) (s ++ [.lst xs])
  | .dct kvs, s => .ok (.cel s.length) (s ++ [.dct kvs])
  | _, _ => .bad
def eShare (a : Ev) : Ev := fun l s => (a l s).bind shareT
section
variable {K : PySem.W.Frag} {W : WX} {m : Bool} {G G' : Gh} {loc loc' : Loc} {sh sh' : Sh} {σ σ' : L2.St} {H H' : Hp}
theorem ale_snoc (al : List Addr) (a : Addr) : ALe al (al ++ [a]) := fun k b h => by
  rw [List.getElem?_append_left (List.getElem?_eq_some_iff.mp h).1]
  exact h
theorem snoc_get {α : Type} {l : List α} {a b : α} {k : Nat} (h : (l ++ [a])[k]? = some b) : l[k]? = some b ∨ (k = l.length ∧ b = a) := by
  rw [List.getElem?_append] at h
  split at h
  · exact .inl h
  · rename_i q
    right
    cases e : k - l.length with
    | zero => rw [e] at h; exact ⟨by omega, (Option.some.inj h).symm⟩
    | succ n => rw [e] at h; cases h
theorem Ok.share (ok : Ok K G loc sh σ H) {t : T} {v : V} {so : SO} (o : OwnR K G loc σ H t v) (hso : (∃ xs, t = .lst xs ∧ so = .lst xs) ∨ ∃ kvs, t = .dct kvs ∧ so = .dct kvs) : ∃ G', GLe G G' ∧ Ok K G' loc (sh ++ [so]) σ H ∧ rep K G' (.cel sh.length) v := by
  obtain ⟨a, rfl, nF, nB, nA, nS, hs⟩ := o
  have le : GLe G { G with al := G.al ++ [a] } := ⟨FLe.refl _, ale_snoc _ _, rfl⟩
  have na : ∀ x, H a ≠ some (.own x) := fun x e => by
    rcases hs.is with ⟨_, q⟩ | ⟨_, q⟩ <;> rw [q] at e <;> cases e
  have hsr : ShRep K { G with al := G.al ++ [a] } H a so := by
    rcases hso with ⟨xs, rfl, rfl⟩ | ⟨xs, rfl, rfl⟩
    · exact Sha.le (t := .lst xs) le rfl hs
    · exact Sha.le (t := .dct xs) le rfl hs
  refine ⟨_, le, ⟨⟨ok.fh, ok.bh, ok.dis, fun k b h => ?_, fun i j b h1 h2 => ?_, ?_, fun k u h => ?_⟩, ok.len, fun i => ?_, ok.sep⟩, a, rfl, ?_⟩
  · rcases snoc_get h with h | ⟨_, rfl⟩
    · exact ok.alf k b h
    · exact ⟨nF, nB⟩
  · rcases snoc_get h1 with g1 | ⟨e1, e2⟩
    · rcases snoc_get h2 with g2 | ⟨e3, e4⟩
      · exact ok.ali i j b g1 g2
      · exact (nA i (by rw [← e4]; exact g1)).elim
    · rcases snoc_get h2 with g2 | ⟨e3, e4⟩
      · exact (nA j (by rw [← e2]; exact g2)).elim
      · rw [e1, e3]
  · show (G.al ++ [a]).length = (sh ++ [so]).length
    rw [List.length_append, List.length_append, ok.all]
    rfl
  · rcases snoc_get h with h | ⟨rfl, rfl⟩
    · obtain ⟨b, h1, h2⟩ := ok.shr k u h
      refine ⟨b, le.a _ _ h1, ?_⟩
      refine h2.le le rfl fun dx hd => ⟨hd, id, fun q k' h' => ?_⟩
      rcases snoc_get h' with h' | ⟨_, rfl⟩
      · exact q k' h'
      · exact na _ hd
    · refine ⟨a, ?_, hsr⟩
      show (G.al ++ [a])[sh.length]? = some a
      rw [← ok.all]
      simp
  · refine (ok.sl i).le le fun b x es eo _ _ n3 _ => ⟨rfl, ‹_›, fun k h => ?_⟩
    rcases snoc_get h with h | ⟨_, rfl⟩
    · exact n3 k h
    · exact nS i x es eo
  · show (G.al ++ [a])[sh.length]? = some a
    rw [← ok.all]
    simp
end
section
variable {X : Cx} {W : WX} {m : Bool} {a b c e : Expr} {es : List Expr} {ea eb ek ev : Ev} {pos apos cpos p2 np : Pos} {i : Nat} {x : Str}
theorem t_share (h : TPO X W a ea) : TPE X W a (eShare ea) := PE.weak h fun σ H Q ⟨G, loc, sh, ok, p⟩ => by
  refine ⟨G, loc, sh, ok, (post.bind (Rp := fun G H t v => OwnR X.K G loc σ H t v) p).imp ?_⟩
  rintro v H1 ⟨G1, t, s1, l1, ok1, o, p1⟩
  cases t with
  | lst xs =>
    obtain ⟨G2, l2, ok2, r2⟩ := ok1.share o (.inl ⟨xs, rfl, rfl⟩)
    exact p1 v H1 G2 l2 ok2 r2
  | dct kvs =>
    obtain ⟨G2, l2, ok2, r2⟩ := ok1.share o (.inr ⟨kvs, rfl, rfl⟩)
    exact p1 v H1 G2 l2 ok2 r2
  | _ => exact p1.elim
/-! ### name[k] = v -/
def putOwn (t k v : T) : Option T := match t, k with
  | .lst xs, .int j => (ixN xs.length j).map fun n => .lst (xs.set n v)
  | .dct kvs, k => match keyOf k with
    | some k => if kvs.length < sizeLine then some (.dct (dputT kvs k v)) else none
    | none => none
  | _, _ => none
def soT : SO → T
  | .lst xs => .lst xs
  | .dct kvs => .dct kvs
  | .ins _ _ => .non
  | .tab _ _ => .non
def tSo : T → SO
  | .lst xs => .lst xs
  | .dct kvs => .dct kvs
  | _ => .lst []
def slotMut : Slot → Bool
  | .own _ => true
  | .t (.cel _) => true
  | _ => false
def sPutK (i : Nat) (v k : T) : Sv := fun l s => match l.at i with
  | .own t => match putOwn t k v with
    | some t' => .nx (l.set i (.own t')) s
    | none => .bad
  | .t (.cel c) => match s[c]? with
    | some so => match putOwn (soT so) k v with
      | some t' => .nx l (s.set c (tSo t'))
      | none => .bad
    | none => .bad
  | _ => .bad
def sMut (i : Nat) (a : Sv) : Sv := fun l s => if slotMut (l.at i) then a l s else .bad
def sPut (i : Nat) (ek ev : Ev) : Sv := sE ev fun v => sMut i (sE ek fun k => sPutK i v k)
def rSetD : V → V → V → Hp → (Hp → Prop) → Prop := fun o i v H Q => ∃ a H', o = .ref a ∧ DPut H a i v H' ∧ Q H'
theorem set_dict (hu : X.A.units + 1 < cLine) : PSet X rSetD := by
  intro pins s σ H o i v ov iv u Q I ro ri rv h
  obtain ⟨a, H', rfl, g, q⟩ := h
  cases ro
  exact d_setItem hu I g ri rv fun s' I' => ⟨H', I', q⟩
theorem PSet.or {r r' : TSet} (h : PSet X r) (h' : PSet X r') : PSet X (fun o i v H Q => r o i v H Q ∨ r' o i v H Q) := fun pins s σ H o i v ov iv u Q I ro ri rv q => q.elim (h pins s σ H o i v ov iv u Q I ro ri rv) (h' pins s σ H o i v ov iv u Q I ro ri rv)
def rSetA : V → V → V → Hp → (Hp → Prop) → Prop := fun o i v H Q => rSetL o i v H Q ∨ rSetD o i v H Q
theorem put_rule {K : PySem.W.Frag} {G : Gh} {H : Hp} {A : Addr} {t t' tk tv : T} {k v : V} {Q : Hp → Prop} (hs : Sha K G H A t) (rk : rep K G tk k) (rv : rep K G tv v) (e : putOwn t tk tv = some t') (q : ∀ o, Sha K G (upd H A o) A t' → Q (upd H A o)) : rSetA (.ref A) k v H Q := by
  cases t with
  | lst xs =>
    obtain ⟨vs, h1, h2, h3⟩ := hs
    cases tk with
    | int j =>
      cases rk
      cases ej : ixN xs.length j with
      | none => simp [putOwn, ej] at e
      | some n =>
        have e' : some (T.lst (xs.set n tv)) = some t' := by rw [← e]; simp [putOwn, ej]
        cases e'
        refine .inl ⟨A, vs, j, n, rfl, rfl, h1, by rw [RepL.length h2]; exact ej, q _ ⟨_, upd_same, RepL.set n h2 rv, by rw [List.length_set]; exact h3⟩⟩
    | _ => cases e
  | dct kvs =>
    obtain ⟨kv, h1, h2, h3⟩ := hs
    cases ek : keyOf tk with
    | none => simp [putOwn, ek] at e
    | some k' =>
      by_cases hz : kvs.length < sizeLine
      · have e' : some (T.dct (dputT kvs k' tv)) = some t' := by rw [← e]; simp [putOwn, ek, hz]
        cases e'
        exact .inr ⟨A, _, rfl, .inl ⟨kv, k', h1, keyOf_rep rk ek, by rw [RepD.length h2]; exact hz, rfl⟩, q _ ⟨_, upd_same, RepD.put h2 rv, h3.put hz (keyOf_ok rk ek)⟩⟩
      · simp [putOwn, ek, hz] at e
  | _ => cases e
theorem sha_so {K : PySem.W.Frag} {G : Gh} {H : Hp} {A : Addr} {so : SO} {t' : T} {k v : T} (h : ShRep K G H A so) (e : putOwn (soT so) k v = some t') : Sha K G H A (soT so) := by
  cases so with
  | lst xs => exact h
  | dct xs => exact h
  | ins C fs => cases e
  | tab d q => cases e
theorem so_sha {K : PySem.W.Frag} {G : Gh} {H : Hp} {A : Addr} {t : T} (h : Sha K G H A t) : ShRep K G H A (tSo t) := by
  cases t with
  | lst xs => exact h
  | dct xs => exact h
  | _ => exact h.elim
/-- the slot's thing, ready to be changed -/
theorem slot_own {K : PySem.W.Frag} {G : Gh} {loc : Loc} {sh : Sh} {σ : L2.St} {H : Hp} {t : T} (ok : Ok K G loc sh σ H) (e : loc.at i = .own t) : ∃ A, σ[i]? = some (some (.ref A)) ∧ Sha K G H A t := by
  have h := ok.sl i
  rw [e] at h
  obtain ⟨A, es, _, _, _, hs⟩ := h
  exact ⟨A, es, hs⟩
theorem slot_cel {K : PySem.W.Frag} {G : Gh} {loc : Loc} {sh : Sh} {σ : L2.St} {H : Hp} {c : Nat} (ok : Ok K G loc sh σ H) (e : loc.at i = .t (.cel c)) : ∃ A, σ[i]? = some (some (.ref A)) ∧ G.al[c]? = some A := by
  have h := ok.sl i
  rw [e] at h
  obtain ⟨v, es, A, rfl, ha⟩ := h
  exact ⟨A, es, ha⟩
theorem slot_ref {K : PySem.W.Frag} {G : Gh} {loc : Loc} {sh : Sh} {σ : L2.St} {H : Hp} (ok : Ok K G loc sh σ H) (e : slotMut (loc.at i) = true) : ∃ A, σ[i]? = some (some (.ref A)) := by
  cases h : loc.at i with
  | no => rw [h] at e; cases e
  | own t => obtain ⟨A, es, _⟩ := slot_own ok h; exact ⟨A, es⟩
  | t x =>
    cases x with
    | cel c => obtain ⟨A, es, _⟩ := slot_cel ok h; exact ⟨A, es⟩
    | _ => rw [h] at e; cases e
theorem ts_put (hu : X.A.units + 1 < cLine) (hx : PE X (.Name x np) (tVar i)) (hk : TPE X W b ek) (hv : TPE X W e ev)
    (ha : ∀ v, assign (.Subscript (.Name x np) b p2) X.env v = (do
      let ov ← holding [v] (eval (.Name x np) X.env)
      let iv ← holding [v, ov] (eval b X.env)
      standAt p2
      holding [v, ov, iv] (setItem ov iv v)
      release [v, ov, iv] []) := by intro _; rfl)
    (hs : swapsWithSole [.Subscript (.Name x np) b p2] e pos.line X.env = pure false := by rfl) (hw : swappedStores [.Subscript (.Name x np) b p2] e X.env = pure none := by rfl)
    (h1 : (assignEach [.Subscript (.Name x np) b p2] X.env).map (·.2) = [assign (.Subscript (.Name x np) b p2) X.env] := by rfl) :
    TPS X W m (.Assign [.Subscript (.Name x np) b p2] e pos) (sPut i ek ev) := PS.weak (ps_asg hv (pg_sub hx hk (PSet.or set_list (set_dict hu)) ha) hs hw h1) fun D σ H ⟨G, loc, sh, ok, p⟩ => by
  refine ⟨G, loc, sh, ok, (postS.val (Rp := rpV X.K) p).imp ?_⟩
  rintro v H1 ⟨G1, tv, s1, l1, ok1, r1, p1⟩
  have hm : slotMut (loc.at i) = true ∧ postS X.K W m G1 (sE ek (fun k => sPutK i tv k) loc s1) D := by
    unfold sMut at p1
    by_cases h : slotMut (loc.at i) = true
    · rw [if_pos h] at p1; exact ⟨h, p1⟩
    · rw [if_neg h] at p1; exact p1.elim
  obtain ⟨hm, p1⟩ := hm
  obtain ⟨A, es⟩ := slot_ref ok1 hm
  refine ⟨.ref A, es, G1, loc, s1, ok1, (postS.val (Rp := rpV X.K) p1).imp ?_⟩
  rintro k H2 ⟨G2, tk, s2, l2, ok2, r2, p2⟩
  unfold sPutK at p2
  cases e1 : loc.at i with
  | no => rw [e1] at hm; cases hm
  | own t =>
    simp only [e1] at p2
    obtain ⟨A', es', hs⟩ := slot_own ok2 e1
    rw [es] at es'
    cases es'
    cases e2 : putOwn t tk tv with
    | none => simp only [e2] at p2; exact p2.elim
    | some t' =>
      simp only [e2] at p2
      exact put_rule hs r2 (rep_le l2 r1) e2 fun o ho => p2 _ _ G2 (GLe.refl _) (ok2.mutO e1 es ho)
  | t x =>
    cases x with
    | cel c =>
      simp only [e1] at p2
      obtain ⟨A', es', ha⟩ := slot_cel ok2 e1
      rw [es] at es'
      cases es'
      cases e3 : s2[c]? with
      | none => simp only [e3] at p2; exact p2.elim
      | some so =>
        simp only [e3] at p2
        obtain ⟨A', ha', hs⟩ := ok2.shr c so e3
        rw [ha] at ha'
        cases ha'
        cases e2 : putOwn (soT so) tk tv with
        | none => simp only [e2] at p2; exact p2.elim
        | some t' =>
          simp only [e2] at p2
          have hs' := sha_so hs e2
          exact put_rule hs' r2 (rep_le l2 r1) e2 fun o ho => p2 _ _ G2 (GLe.refl _) (ok2.mutC ha e3 (fun x q => by rcases hs'.is with ⟨_, z⟩ | ⟨_, z⟩ <;> rw [z] at q <;> cases q) (so_sha ho))
    | _ => rw [e1] at hm; cases hm
end
end TL
/-! the T-layer, 13: methods that change a list, tuple targets, comprehensions stored on one line -/
namespace TL
open PySem PySem.Spec L2
abbrev Mth := List T → List T → Option T
def MthOk (K : PySem.W.Frag) (r : V → List V → Hp → VK → Prop) (f : Mth) : Prop := ∀ (G : Gh) (H : Hp) (A : Addr) (xs : List T) (vs : List V) (ts : List T) (t' : T) (Q : VK),
  Sha K G H A (.lst xs) → FLe G.F H → repL K G ts vs → f xs ts = some t' → (∀ o, Sha K G (upd H A o) A t' → Q .non (upd H A o)) → r (.ref A) vs H Q
def slotLst (l : Loc) (s : Sh) (i : Nat) : Bool := match l.at i with
  | .own (.lst _) => true
  | .t (.cel c) => match s[c]? with
    | some (.lst _) => true
    | _ => false
  | _ => false
def sMthK (i : Nat) (f : Mth) (ts : List T) : Sv := fun l s => match l.at i with
  | .own (.lst xs) => match f xs ts with
    | some t' => .nx (l.set i (.own t')) s
    | none => .bad
  | .t (.cel c) => match s[c]? with
    | some (.lst xs) => match f xs ts with
      | some t' => .nx l (s.set c (tSo t'))
      | none => .bad
    | _ => .bad
  | _ => .bad
def sMth (i : Nat) (f : Mth) (a : EvL) : Sv := fun l s => if slotLst l s i then sE a (fun ts => sMthK i f ts) l s else .bad
section
variable {X : Cx} {W : WX} {m : Bool} {e : Expr} {es : List Expr} {eL : EvL} {ev : Ev} {pos apos cpos np : Pos} {i : Nat} {x name : Str} {id : String} {r : V → List V → Hp → VK → Prop} {f : Mth}
theorem slotLst_ref {K : PySem.W.Frag} {G : Gh} {loc : Loc} {sh : Sh} {σ : L2.St} {H : Hp} (ok : Ok K G loc sh σ H) (e : slotLst loc sh i = true) : ∃ A vs, σ[i]? = some (some (.ref A)) ∧ H A = some (.lst vs) := by
  unfold slotLst at e
  split at e
  · rename_i xs h
    obtain ⟨A, es, hs⟩ := slot_own ok h
    obtain ⟨vs, h1, _⟩ := hs
    exact ⟨A, vs, es, h1⟩
  · rename_i c h
    obtain ⟨A, es, ha⟩ := slot_cel ok h
    split at e
    · rename_i xs h2
      obtain ⟨A', ha', hs⟩ := ok.shr c _ h2
      rw [ha] at ha'
      cases ha'
      obtain ⟨vs, h1, _⟩ := hs
      exact ⟨A, vs, es, h1⟩
    · cases e
  · cases e
theorem mthK_core {K : PySem.W.Frag} {G : Gh} {loc : Loc} {sh : Sh} {σ : L2.St} {H : Hp} {A : Addr} {vs : List V} {ts : List T} {D : Ends} (hf : MthOk K r f) (ok : Ok K G loc sh σ H) (es : σ[i]? = some (some (.ref A))) (rv : repL K G ts vs) (p : postS K W m G (sMthK i f ts loc sh) D) : r (.ref A) vs H fun _ H' => D.nx σ H' := by
  unfold sMthK at p
  split at p
  · rename_i xs h
    obtain ⟨A', es', hs⟩ := slot_own ok h
    rw [es] at es'
    cases es'
    split at p
    · rename_i t' e
      exact hf G H A xs vs ts t' _ hs ok.fle rv e fun o ho => p _ _ G (GLe.refl _) (ok.mutO h es ho)
    · exact p.elim
  · rename_i c h
    obtain ⟨A', es', ha⟩ := slot_cel ok h
    rw [es] at es'
    cases es'
    split at p
    · rename_i xs h2
      obtain ⟨A', ha', hs⟩ := ok.shr c _ h2
      rw [ha] at ha'
      cases ha'
      split at p
      · rename_i t' e
        refine hf G H A xs vs ts t' _ hs ok.fle rv e fun o ho => p _ _ G (GLe.refl _) (ok.mutC ha h2 (fun x q => ?_) (so_sha ho))
        obtain ⟨_, z, _⟩ := hs
        rw [z] at q
        cases q
      · exact p.elim
    · exact p.elim
  · exact p.elim
theorem ts_mth (slot : PySem.Slot "list" name id) (hty : typeOf (.builtin id) = pure (.type "method_descriptor")) (hm : MtR X id r) (hf : MthOk X.K r f) (hx : PE X (.Name x np) (tVar i)) (ha : TPA X W (e :: es) eL)
    (hbase : attributeBase (.Name x np) name X.env (eval (.Name x np) X.env) = eval (.Name x np) X.env := by rfl)
    (hfew : ((backTo cpos (starEach (e :: es) X.env)).all (fun x => !x.1) && (backToKw cpos (keywordEach [] X.env)).all (fun x => x.1.isSome)
      && decide ((e :: es).length + ([] : List Keyword).length + (if ([] : List Keyword).isEmpty then 0 else 1) < 30)) = true := by rfl)
    (hline : (apos.endLine == cpos.line) = true := by rfl) (hs : starEach (e :: es) X.env = (false, eval e X.env) :: starEach es X.env := by rfl) (hplain : (backTo cpos (starEach es X.env)).any (·.1) = false := by rfl)
    (hsw : swapsWith (.Call (.Attribute (.Name x np) name apos) (e :: es) [] cpos) none pos.line X.env = pure false := by rfl) :
    TPS X W m (.Expr (.Call (.Attribute (.Name x np) name apos) (e :: es) [] cpos) pos) (sMth i f eL) := PS.weak (ps_expr (pe_bm PySem.F.plainAttrs_list slot hty hm hx ha hbase hfew hline hs hplain) hsw) fun D σ H ⟨G, loc, sh, ok, p⟩ => by
  unfold sMth at p
  by_cases h : slotLst loc sh i = true
  · rw [if_pos h] at p
    obtain ⟨A, vs, es, hA⟩ := slotLst_ref ok h
    refine ⟨.ref A, es, .inl ⟨rfl, vs, .of hA⟩, G, loc, sh, ok, (postS.val (Rp := rpL X.K) p).imp ?_⟩
    rintro ws H1 ⟨G1, ts, s1, l1, ok1, r1, p1⟩
    exact mthK_core hf ok1 es r1 p1
  · rw [if_neg h] at p; exact p.elim
theorem ts_mth0 (slot : PySem.Slot "list" name id) (hty : typeOf (.builtin id) = pure (.type "method_descriptor")) (hm : MtR X id r) (hf : MthOk X.K r f) (hx : PE X (.Name x np) (tVar i))
    (hbase : attributeBase (.Name x np) name X.env (eval (.Name x np) X.env) = eval (.Name x np) X.env := by rfl) (hline : (apos.endLine == cpos.line) = true := by rfl)
    (hsw : swapsWith (.Call (.Attribute (.Name x np) name apos) [] [] cpos) none pos.line X.env = pure false := by rfl) :
    TPS X W m (.Expr (.Call (.Attribute (.Name x np) name apos) [] [] cpos) pos) (sMth i f aNil) := PS.weak (ps_expr (pe_bm0 PySem.F.plainAttrs_list slot hty hm hx hbase hline) hsw) fun D σ H ⟨G, loc, sh, ok, p⟩ => by
  unfold sMth at p
  by_cases h : slotLst loc sh i = true
  · rw [if_pos h] at p
    obtain ⟨A, vs, es, hA⟩ := slotLst_ref ok h
    exact ⟨.ref A, es, .inl ⟨rfl, vs, .of hA⟩, mthK_core (vs := []) (ts := []) hf ok es rfl p⟩
  · rw [if_neg h] at p; exact p.elim
end
def mAppend : Mth := fun xs ts => match ts with
  | [t] => if xs.length < sizeLine then some (.lst (xs ++ [t])) else none
  | _ => none
theorem mk_append {K : PySem.W.Frag} : MthOk K rAppend mAppend := by
  intro G H A xs vs ts t' Q ⟨ws, h1, h2, h3⟩ hF rv e q
  unfold mAppend at e
  split at e
  · rename_i t
    obtain ⟨v, rfl, r1⟩ := RepL.one rv
    by_cases h : xs.length < sizeLine
    · rw [if_pos h] at e
      cases e
      exact ⟨A, ws, v, rfl, rfl, h1, by rw [RepL.length h2]; exact h, q _ ⟨_, upd_same, RepL.append h2 (RepL.cons r1 RepL.nil), by rw [List.length_append]; exact h⟩⟩
    · rw [if_neg h] at e; cases e
  · cases e
def mReverse : Mth := fun xs ts => match ts with
  | [] => some (.lst xs.reverse)
  | _ => none
theorem mk_reverse {K : PySem.W.Frag} : MthOk K rReverse mReverse := by
  intro G H A xs vs ts t' Q ⟨ws, h1, h2, h3⟩ hF rv e q
  unfold mReverse at e
  split at e
  · cases rv
    cases e
    exact ⟨A, ws, rfl, rfl, h1, q _ ⟨_, upd_same, RepL.reverse h2, by rw [List.length_reverse]; exact h3⟩⟩
  · cases e
/-! ### a, b = .. -/
section
variable {X : Cx} {W : WX} {m : Bool} {tg a b e : Expr} {ev : Ev} {eL : EvL} {pos px py pt pt2 : Pos} {g : TG} {tt : Tgt} {i j : Nat} {x y : Str} {kt k2 : _}
def sAsgT (tt : Tgt) (ev : Ev) : Sv := sE ev fun t l s => match setT tt t l with
  | some l1 => .nx l1 s
  | none => .bad
theorem ts_asgT (he : TPE X W e ev) (hg : TgOk X tg g tt) (hs : swapsWithSole [tg] e pos.line X.env = pure false := by rfl) (hw : swappedStores [tg] e X.env = pure none := by rfl)
    (h1 : (assignEach [tg] X.env).map (·.2) = [assign tg X.env] := by rfl) : TPS X W m (.Assign [tg] e pos) (sAsgT tt ev) := PS.weak (ps_asg he hg.pg hs hw h1) fun D σ H ⟨G, loc, sh, ok, p⟩ => by
  refine ⟨G, loc, sh, ok, (postS.val (Rp := rpV X.K) p).imp ?_⟩
  rintro v H1 ⟨G1, t, s1, l1, ok1, r1, p1⟩
  cases q : setT tt t loc with
  | none => simp only [q] at p1; exact p1.elim
  | some l1 =>
    simp only [q] at p1
    exact hg.sem G1 loc s1 σ H1 t v l1 _ ok1 r1 q fun σ' ok' _ _ => p1 σ' H1 G1 (GLe.refl _) ok'
def sPar (i j : Nat) (a : EvL) : Sv := sE a fun ts l s => match ts with
  | [t, u] => .nx ((l.set i (.t t)).set j (.t u)) s
  | _ => .bad
end
/-! ### name = [e for ..] on one line -/
end TL
/-! the T-layer, 14: calls with defaults and keywords -/
namespace TL
open PySem PySem.Spec L2
section
variable {X : Cx} {W : WX} {CX : CXT} {k n : Nat} {f : Addr} {fd : FuncData} {ps ks : List Str} {m : Bool} {φ : Fn} {x : Str} {p pos : Pos} {e : Expr} {es : List Expr} {kws : List Keyword} {eL eK : EvL} {ds : List Value} {dvs : List V} {dts : List T} {g : List Value → List Value → List Value} {gV : List V → List V → List V} {gT : List T → List T → List T}
theorem post.bindok {α β γ δ : Type} {Rp : Gh → Hp → α → β → Prop} {Rq : Gh → Hp → γ → δ → Prop} {K : PySem.W.Frag} {G : Gh} {loc : Loc} {σ : L2.St} {r : Res α} {h : α → Sh → Res γ} {Q : δ → Hp → Prop} (p : post Rq K W G loc σ (r.bind h) Q) :
    post Rp K W G loc σ r (fun v H' => ∃ G' a sh', r = .ok a sh' ∧ GLe G G' ∧ Ok K G' loc sh' σ H' ∧ Rp G' H' a v ∧ post Rq K W G' loc σ (h a sh') Q) := by
  cases r with
  | ok t sh => exact fun v H' G2 l2 o q => ⟨G2, t, sh, rfl, l2, o, q, post.le l2 p⟩
  | exc e sh => exact p
  | bad => exact p
end
/-! ### {k: v, ..} -/
/-! ### the facts of a def that is called -/
def CalP (P : Program) (w : World) (K : PySem.W.Frag) (mg : Str → Option Value) (base : Heap) (CX : CXT) (k : Nat) (x : Str) (ps : List Str) (m : Bool) (φ : Fn) : Prop :=
  ∃ f fd, FnOk P w K mg base CX k f fd ps (spT K m ps.length φ) ∧ mg x = some (.ref f) ∧ PySem.W.keepIn K (.ref f) = true ∧ Binds K fd ps []
section
variable {X : Cx} {W : WX} {CX : CXT} {k n n' nk : Nat} {ps ks : List Str} {m : Bool} {φ : Fn} {x : Str} {p pos : Pos} {e : Expr} {es : List Expr} {kws : List Keyword} {eL eK : EvL} {dts : List T} {gT : List T → List T → List T}
theorem t_callP (C : CalP X.prog X.w X.K X.mg X.base CX k x ps m φ) (hr : Room k X.A) (hx : ∀ σ, PassesAt CX X σ (WE W σ)) (hg : Gl X x)
    (ha : TPA X W (e :: es) eL) (hl : ALen eL n) (hn : n = ps.length := by rfl) (hdb : (x == ("__debug__" : Str)) = false := by decide) (he : starEach (e :: es) X.env = (false, eval e X.env) :: starEach es X.env := by rfl) (hpl : (backTo pos (starEach es X.env)).any (·.1) = false := by rfl) :
    TPR X W m (.Call (.Name x p) (e :: es) [] pos) (eCall φ eL) := by
  obtain ⟨f, fd, F, hm, hk, hb⟩ := C
  subst hn
  exact t_call F hr hg hm hk hb hx ha hl hdb he hpl
end
/-! ### defs of a text that lets no exception out -/
def runB0 (m : Bool) (n : Nat) (sv : Sv) : Fn := fun ts sh => match sv (startL n ts) sh with
  | .nx _ s => if m then .bad else .ok .non s
  | .rt t s => .ok t s
  | _ => .bad
theorem fn_tl0 {P : Program} {w : World} {K : PySem.W.Frag} {mg : Str → Option Value} {base : Heap} {x qual : Str} {params : Arguments} {body : List Stmt} {scope : Scope} {dvs : List V} {kws : List (Str × V)} {f : Addr} {fd : FuncData} {CX : CXT} {N ps : List Str} {k : Nat} {m : Bool} {sv : Sv} (F : FunD K x qual params body scope dvs kws f fd) (S : FnScope N ps scope)
    (hbody : ∀ (cdv : Value) (A : Around) (outer : List Env) (s : Shared) (H : Hp) (E : XK), Room k (A.deeper (PyProof.Rows.envOfC qual scope s.heap.objs.size f cdv)) → TPSs (cxOf CX P w K mg base N qual scope f cdv A outer s H E) W0 m body sv) :
    FnOk P w K mg base CX (k + 1) f fd ps (spT K m ps.length (runB0 m N.length sv)) := by
  refine F.ok S (fun vs H Q E h => h.1) fun cdv A outer s H vs Q E hr h => ⟨_, hbody cdv A outer s H E hr, ?_⟩
  obtain ⟨hl, G, ts, sh, g, r, p⟩ := h
  refine ⟨G, startL N.length ts, sh, start_ok g r, ?_⟩
  unfold runB0 at p
  cases e : sv (startL N.length ts) sh with
  | nx l s1 =>
    rw [e] at p
    cases m with
    | true => exact p.elim
    | false => exact fun σ' H' G' l ok => p .non H' G' l ok.toGok rfl
  | rt t s1 => rw [e] at p; exact fun v H' G' l ok => p v H' G' l ok
  | exc x l s1 => rw [e] at p; exact p.elim
  | bk l s1 => rw [e] at p; exact p.elim
  | ct l s1 => rw [e] at p; exact p.elim
  | bad => rw [e] at p; exact p.elim
theorem hx0 {X : Cx} {W : WX} (σ : L2.St) : PassesAt CX0 X σ (WE W σ) := fun _ _ _ _ _ _ h => h.elim
theorem ru {k n : Nat} {A : Around} (h : Room k A) (hn : n ≤ 200 := by decide) : A.units + n < cLine := by
  have := h.un
  omega
abbrev badFn : Fn := fun _ _ => .bad
/-! ### what keywords bind, for defs of any defaults -/
end TL
/-! the T-layer, 16: dict comprehensions -/
namespace TL
open PySem PySem.Spec L2 PyProof.Rows
def dcompL (tt : Tgt) (c : Et) (ek ev : Ev) : List T → Loc → Sh → List (Key × T) → Res (List (Key × T))
  | [], _, s, acc => .ok acc s
  | x :: xs, l, s, acc => match setT tt x l with
    | none => .bad
    | some l1 => (c l1 s).bind fun k s1 => if k = true then (ek l1 s1).bind fun y s2 => match keyOf y with
        | none => .bad
        | some ky => if acc.length < sizeLine then (ev l1 s2).bind fun z s3 => dcompL tt c ek ev xs l s3 (dputT acc ky z) else .bad
      else dcompL tt c ek ev xs l s1 acc
def eDComp (vs : List Nat) (it : EvL) (tt : Tgt) (c : Et) (ek ev : Ev) : Ev := fun l s => if noOwn l vs then (it l s).bind fun items s1 => (dcompL tt c ek ev items (wipeL l vs) s1 []).noexc.bind fun ys s => .ok (.dct ys) s else .bad
section
variable {X : Cx} {W : WX} {m : Bool} {kx elt tg iter : Expr} {ifs : List Expr} {scope : Scope} {own : List (Str × Nat)} {pos np : Pos} {it : EvL} {g : TG} {tt : Tgt} {c : Et} {ek ee : Ev} {x : Str} {i : Nat}
theorem RepD_nil {K : PySem.W.Frag} {F : Hp} {al : List Addr} : RepD K F al [] [] := rfl
theorem RepD.le2 {K : PySem.W.Frag} {G G' : Gh} (l : GLe G G') {t : List (Key × T)} {v : List (Key × V)} (h : RepD K G.F G.al t v) : RepD K G'.F G'.al t v := RepD.mono l.f l.a t v h
theorem dcomp_core {wi : TI} {vs : List Nat} {σ : L2.St} {H : Hp} {Q : VK} {G : Gh} {loc : Loc} {sh : Sh} (ok : Ok X.K G loc sh σ H) (hw : ∀ R, post (fun G _ items J => Items X.K G J items) X.K W G loc σ (it loc sh) R → wi σ H R) (hv : ∀ i, i ∈ tt.slots → i ∈ vs)
    (hg : TgSem X.K g tt)
    (p : post (fun G H t v => OwnR X.K G loc σ H t v) X.K W G loc σ (eDComp vs it tt c ek ee loc sh) Q) : tDc wi g (liftT X.K W0 c) (lift X.K W0 ek) (lift X.K W0 ee) vs σ H Q := by
  unfold eDComp at p
  by_cases hn : noOwn loc vs = true
  case neg => rw [if_neg hn] at p; exact p.elim
  rw [if_pos hn] at p
  refine hw _ ((post.bind (Rp := fun G _ items J => Items X.K G J items) p).imp ?_)
  rintro J H1 ⟨G1, items, s1, l1, ok1, r1, p1⟩
  intro D hD
  have nD := ok1.nob hD
  refine ⟨fun i n H2 => ∃ G2 s2 acc accT, GLe G1 G2 ∧ Ok X.K G2 loc s2 σ H2 ∧ Nob G2 loc σ D ∧ H2 D = some (.dK acc) ∧ RepD X.K G2.F G2.al accT acc ∧ DOk accT ∧ i ≤ items.length ∧ n = items.length - i ∧
      post (fun G H t v => OwnR X.K G loc σ H t v) X.K W G2 loc σ ((dcompL tt c ek ee (items.drop i) (wipeL loc vs) s2 accT).noexc.bind fun ys s => .ok (.dct ys) s) Q,
    ⟨items.length, G1, s1, [], [], GLe.refl _, ok1.grow hD, nD, upd_same, RepD_nil, DOk.nil, Nat.zero_le _, rfl, p1⟩, ?_⟩
  rintro i n H2 ⟨G2, s2, acc, accT, l2, ok2, n2, h2, r2, d2, hi, rfl, p2⟩
  have okP := ok2.prot n2 h2 (fun _ z => nomatch z)
  have okW := okP.wiped vs
  obtain ⟨ig, is⟩ := r1 (G2.prot D (.dK acc)) (wipeL loc vs) s2 (wipe σ vs) H2 l2.f l2.a okW i
  by_cases hlt : i < items.length
  · have ei : items[i]? = some items[i] := List.getElem?_eq_getElem hlt
    obtain ⟨go, yl⟩ := ig _ ei
    refine .inr ⟨go, fun H' => ∃ m', m' < items.length - i ∧ ∃ G2 s2 acc accT, GLe G1 G2 ∧ Ok X.K G2 loc s2 σ H' ∧ Nob G2 loc σ D ∧ H' D = some (.dK acc) ∧ RepD X.K G2.F G2.al accT acc ∧ DOk accT ∧ i + 1 ≤ items.length ∧ m' = items.length - (i + 1) ∧
      post (fun G H t v => OwnR X.K G loc σ H t v) X.K W G2 loc σ ((dcompL tt c ek ee (items.drop (i + 1)) (wipeL loc vs) s2 accT).noexc.bind fun ys s => .ok (.dct ys) s) Q, fun H' h => h, fun x H3 y => ?_⟩
    obtain ⟨G3, l3, ok3, r3⟩ := yl x H3 y
    rw [List.drop_eq_getElem_cons hlt] at p2
    unfold dcompL at p2
    cases q : setT tt items[i] (wipeL loc vs) with
    | none => rw [q] at p2; exact p2.elim
    | some l1' =>
      rw [q] at p2
      refine hg G3 (wipeL loc vs) s2 (wipe σ vs) H3 items[i] x l1' _ ok3 r3 q fun σ' ok' hj hwp => ⟨?_, G3, l1', s2, ok', ?_⟩
      · have q1 := hwp vs hv
        rw [q1]
        have : ∀ ws : List Nat, (∀ w ∈ ws, w ∈ vs) → wipe (wipe σ vs) ws = wipe σ vs := by
          intro ws
          induction ws with
          | nil => intro _; rfl
          | cons w ws ih =>
            intro hws
            show (wipe (wipe σ vs) ws).set w none = _
            rw [ih fun z hz => hws z (by simp [hz])]
            apply List.ext_getElem?
            intro j
            by_cases e : w = j
            · subst e
              by_cases hl : w < (wipe σ vs).length
              · rw [List.getElem?_set_self hl]
                cases hx : (wipe σ vs)[w]? with
                | none => rw [List.getElem?_eq_none_iff] at hx; omega
                | some o =>
                  cases o with
                  | none => rfl
                  | some z => exact absurd (hws w (by simp)) (wipe_some hx).2
              · rw [List.set_eq_of_length_le (by omega)]
            · rw [List.getElem?_set_ne e]
        exact this vs fun _ h => h
      · -- the tests, the element
        have back : ∀ {G4 : Gh} {s4 : Sh} {H4 : Hp}, GLe G3 G4 → Ok X.K G4 l1' s4 σ' H4 → Ok X.K { G4 with B := G2.B } loc s4 σ H4 ∧ Nob { G4 with B := G2.B } loc σ D ∧ H4 D = some (.dK acc) ∧ GLe G2 { G4 with B := G2.B } := by
          intro G4 s4 H4 l4 ok4
          have le : GLe (G2.prot D (.dK acc)) G4 := l3.trans l4
          have u := okP.unwiped hn le ok4 (fun j hjv => by
            have := (hj j fun z => hjv (hv j z)).2
            rw [this, wipeL_at, if_neg hjv]) (fun j hjv => by
            have := (hj j fun z => hjv (hv j z)).1
            rw [this, wipe_at σ vs j hjv])
          obtain ⟨F4, al4, B4⟩ := G4
          have eB : B4 = upd G2.B D (.dK acc) := le.b
          subst eB
          obtain ⟨a1, a2, a3⟩ := Ok.unprot (G := ⟨F4, al4, G2.B⟩) u n2.b
          exact ⟨a1, a2, a3, le.f, le.a, rfl⟩
        have fin : ∀ {G4 : Gh} {s4 : Sh} {H4 : Hp} {acc' : List (Key × V)} {accT' : List (Key × T)}, GLe G2 G4 → Ok X.K G4 loc s4 σ H4 → Nob G4 loc σ D → H4 D = some (.dK acc') → RepD X.K G4.F G4.al accT' acc' → DOk accT' →
            post (fun G H t v => OwnR X.K G loc σ H t v) X.K W G2 loc σ ((dcompL tt c ek ee (items.drop (i + 1)) (wipeL loc vs) s4 accT').noexc.bind fun ys s => .ok (.dct ys) s) Q → ∃ m', m' < items.length - i ∧ ∃ G2 s2 acc accT, GLe G1 G2 ∧ Ok X.K G2 loc s2 σ H4 ∧ Nob G2 loc σ D ∧ H4 D = some (.dK acc) ∧ RepD X.K G2.F G2.al accT acc ∧ DOk accT ∧ i + 1 ≤ items.length ∧ m' = items.length - (i + 1) ∧
              post (fun G H t v => OwnR X.K G loc σ H t v) X.K W G2 loc σ ((dcompL tt c ek ee (items.drop (i + 1)) (wipeL loc vs) s2 accT).noexc.bind fun ys s => .ok (.dct ys) s) Q :=
          fun l ok n h r d p => ⟨_, by omega, _, _, _, _, l2.trans l, ok, n, h, r, d, hlt, rfl, post.le l p⟩
        have p3 := p2
        dsimp only at p3
        cases hc : c l1' s2 with
        | bad => rw [hc] at p3; exact p3.elim
        | exc x s => rw [hc] at p3; exact p3.elim
        | ok k s3 =>
          rw [hc] at p3
          rintro b H4 G4 l4 ok4 rfl
          cases b with
          | false =>
            refine iteF ?_
            obtain ⟨b1, b2, b3, b4⟩ := back l4 ok4
            exact fin b4 b1 b2 b3 (RepD.le2 b4 r2) d2 p3
          | true =>
            refine iteT ⟨G4, l1', s3, ok4, ?_⟩
            simp only [Res.bind_ok, if_true] at p3
            cases hk : ek l1' s3 with
            | bad => rw [hk] at p3; exact p3.elim
            | exc x s => rw [hk] at p3; exact p3.elim
            | ok yk s4 =>
            rw [hk] at p3
            simp only [Res.bind_ok] at p3
            cases eky : keyOf yk with
            | none => rw [eky] at p3; exact p3.elim
            | some ky =>
            rw [eky] at p3
            simp only at p3
            by_cases hz : accT.length < sizeLine
            case neg => rw [if_neg hz] at p3; exact p3.elim
            rw [if_pos hz] at p3
            intro vk H5 G5 l5 ok5 rk
            refine ⟨G5, l1', s4, ok5, ?_⟩
            cases he : ee l1' s4 with
            | bad => rw [he] at p3; exact p3.elim
            | exc x s => rw [he] at p3; exact p3.elim
            | ok y s5 =>
              rw [he] at p3
              simp only [Res.bind_ok] at p3
              intro v H6 G6 l6 ok6 rv
              obtain ⟨b1, b2, b3, b4⟩ := back ((l4.trans l5).trans l6) ok6
              have rk' := keyOf_rep rk eky
              refine ⟨acc, ky, rk', b3, by rw [RepD.length r2]; exact hz, ?_⟩
              exact fin (acc' := putK acc ky v) (accT' := dputT accT ky y) b4 (b1.other b2 b3 (fun _ z => nomatch z)) b2 upd_same (RepD.put (RepD.le2 b4 r2) rv) (d2.put hz (keyOf_ok rk eky)) p3
  · have e : i = items.length := by omega
    subst e
    refine .inl ⟨is (Nat.le_refl _), ?_⟩
    rw [List.drop_length] at p2
    have p3 : post (fun G H t v => OwnR X.K G loc σ H t v) X.K W G2 loc σ (.ok (.dct accT) s2) Q := p2
    exact p3 _ H2 G2 (GLe.refl _) ok2 ⟨D, rfl, n2.f, n2.b, n2.a, n2.s, acc, h2, r2, d2⟩
theorem dcompN_core {vs : List Nat} {Q : VK} {G : Gh} {loc : Loc} {sh : Sh} {σ : L2.St} {H : Hp} (hW : Wopen X W) (hsl : ∀ i, i ∈ tt.slots → i ∈ vs) (hgs : TgSem X.K g tt) (ok : Ok X.K G loc sh σ H)
    (p : post (fun G H t v => OwnR X.K G loc σ H t v) X.K W G loc σ (eDComp vs (itN i) tt c ek ee loc sh) Q) :
    tDc (liftI X.K W (itV (eVar i))) g (liftT X.K W0 c) (lift X.K W0 ek) (lift X.K W0 ee) vs σ H Q ∨ tDc (iKeys (tVar i)) g (liftT X.K W0 c) (lift X.K W0 ek) (lift X.K W0 ee) vs σ H Q ∨
    ∃ d u, H d = some u ∧ Mut (some u) ∧ ∀ od, (∀ o' u', X.H_0 d ≠ some (.frz o' u')) → tDc (iKeys (tVar i)) g (liftT X.K W0 c) (lift X.K W0 ek) (lift X.K W0 ee) vs σ (upd H d (.frz od u)) fun v H' => H' d = some (.frz od u) ∧ Q v (upd H' d u) := by
  have seq : (∀ kvs, loc.at i ≠ .t (.dct kvs)) → itN i loc sh = itV (eVar i) loc sh := fun h => by
    unfold itN itV eVar
    cases e : loc.at i with
    | no => rfl
    | own x => rfl
    | t x =>
      cases x with
      | dct kvs => exact absurd e (h kvs)
      | _ => rfl
  by_cases hd : ∃ kvs, loc.at i = .t (.dct kvs)
  · obtain ⟨kvs, e⟩ := hd
    obtain ⟨a, kv, es, r, d, hF⟩ := itN_cases (P := fun _ => True) ok e
    have ei : ∀ s, itN i loc s = .ok (kvs.map fun p => keyT p.1) s := fun s => by unfold itN; rw [e]; rfl
    rcases hF with hF | ⟨od, hF⟩
    · refine .inr (.inr ⟨a, .dK kv, ok.fh _ _ hF, trivial, fun od hx => ?_⟩)
      have sim := fsim_lock od hF
      have ok1 := ok.swap hF sim (fun _ z => nomatch z)
      have F1 : (G.sw a (.frz od (.dK kv))).F a = some (.frz od (.dK kv)) := upd_same
      refine dcomp_core (W := W) (it := itN i) ok1 (fun R q => ?_) hsl hgs ?_
      · rw [ei] at q
        refine ⟨.ref a, es, a, od, rfl, .inl ⟨kv, ok1.fh _ _ F1, ?_⟩⟩
        exact q (Itk a od kv) _ _ (GLe.refl _) ok1 (items_keys F1 (RepD.sim sim (ALe.refl _) _ _ r) d)
      · cases q : eDComp vs (itN i) tt c ek ee loc sh with
        | bad => rw [q] at p; exact p
        | exc y s =>
          rw [q] at p
          intro dd H2 G2 l2 ok2 ⟨dd', fv, h1, h2, h3⟩
          have F2 := l2.f _ _ F1
          have s2 := fsim_open F2
          refine hW _ _ _ _ a od (.dK kv) hx (ok2.fh _ _ F2) (p dd _ _ (gle_sw hF l2) (ok2.swap F2 s2 (fun _ z => nomatch z)) ⟨dd', fv, h1, (upd_ne fun z => ?_).trans h2, RepFs.sim s2 h3⟩)
          rw [z, ok2.fh _ _ F2] at h2
          cases h2
        | ok t s =>
          rw [q] at p
          intro v H2 G2 l2 ok2 o
          have F2 := l2.f _ _ F1
          have s2 := fsim_open F2
          exact ⟨ok2.fh _ _ F2, p v _ _ (gle_sw hF l2) (ok2.swap F2 s2 (fun _ z => nomatch z)) (o.swap F2 s2)⟩
    · refine .inr (.inl (dcomp_core (W := W) (it := itN i) ok (fun R q => ?_) hsl hgs p))
      rw [ei] at q
      exact ⟨.ref a, es, a, od, rfl, .inl ⟨kv, ok.fh _ _ hF, q (Itk a od kv) _ _ (GLe.refl _) ok (items_keys hF r d)⟩⟩
  · have hn : ∀ kvs, loc.at i ≠ .t (.dct kvs) := fun kvs e => hd ⟨kvs, e⟩
    refine .inl (dcomp_core (W := W) (it := itN i) ok (fun R q => ⟨G, loc, sh, ok, ?_⟩) hsl hgs p)
    rw [← seq hn]
    exact q
/-- [e for x in name if c], name a list, a tuple, a text or a dict -/
theorem t_dcompN (hW : Wopen X W) (hv' : PE X (.Name x np) (tVar i)) (hc : X.calm = true) (hN : X.N.Nodup) (ok : BlkOk X.N X.env.scope scope own) (hv : (tt.slots.all fun i => (own.map (·.2)).contains i) = true)
    (hgs : TgSem X.K g tt) (hg : ∀ (s : Shared) (H : Hp) (C : Addr) (cl : List (Str × Addr)) (fp : List Addr), PG (X.blk s H scope (compEnvC scope cl C X.env) fp) tg g)
    (ht : ∀ (s : Shared) (H : Hp) (C : Addr) (cl : List (Str × Addr)) (fp : List Addr), TPTs (X.blk s H scope (compEnvC scope cl C X.env) fp) W0 ifs c)
    (hk : ∀ (s : Shared) (H : Hp) (C : Addr) (cl : List (Str × Addr)) (fp : List Addr), TPE (X.blk s H scope (compEnvC scope cl C X.env) fp) W0 kx ek)
    (he : ∀ (s : Shared) (H : Hp) (C : Addr) (cl : List (Str × Addr)) (fp : List Addr), TPE (X.blk s H scope (compEnvC scope cl C X.env) fp) W0 elt ee)
    (hs : ∀ v, foldedSetIterable (.Name x np) X.env v = pure v := by intro _; rfl) : TPO X W (.DictComp kx elt [⟨tg, .Name x np, ifs, 0⟩] scope pos) (eDComp (own.map (·.2)) (itN i) tt c ek ee) := by
  have hsl : ∀ i, i ∈ tt.slots → i ∈ own.map (·.2) := fun i hi => by
    have := List.all_eq_true.mp hv i hi
    simpa using this
  have keys := pe_dc (pos := pos) (wi := iKeys (tVar i)) (g := g) (tt := liftT X.K W0 c) (tk := lift X.K W0 ek) (tv := lift X.K W0 ee) hc hN (pi_keys (tg := tg) hv') ok hg ht hk he hs
  exact PE.weak (PE.or (pe_dc (wi := liftI X.K W (itV (eVar i))) (g := g) (tt := liftT X.K W0 c) (tk := lift X.K W0 ek) (tv := lift X.K W0 ee) hc hN (ti_val (t_var hv')) ok hg ht hk he hs) (PE.or keys (pe_lockW keys))) fun σ H Q ⟨G, loc, sh, ok, p⟩ => dcompN_core hW hsl hgs ok p
end
end TL
/-! the T-layer, 17: a def called behind a built-in, on data alone -/
namespace TL
open PySem PySem.Spec L2 PyProof.Rows
/-- kinds of data -/
def datK : HO → Bool
  | .lst _ => true
  | .tup _ => true
  | .dK _ => true
  | .frz _ u => datK u
  | _ => false
def datH (F : Hp) : Hp := fun a => match F a with
  | some o => if datK o = true then some o else none
  | none => none
theorem datH_some {F : Hp} {a : Addr} {o : HO} (h : datH F a = some o) : F a = some o ∧ datK o = true := by
  unfold datH at h
  split at h
  · rename_i u e
    split at h
    · rename_i d; cases h; exact ⟨e, d⟩
    · cases h
  · cases h
theorem datH_of {F : Hp} {a : Addr} {o : HO} (h : F a = some o) (d : datK o = true) : datH F a = some o := by
  unfold datH
  rw [h]
  exact if_pos d
theorem datH_rd {F : Hp} {a : Addr} {o : HO} (h : Rd F a o) (d : datK o = true) : Rd (datH F) a o := by
  rcases h with h | ⟨od, h⟩
  · exact .inl (datH_of h d)
  · exact .inr ⟨od, datH_of h d⟩
/-- what stands for data leans on its own object alone -/
theorem obj_dat {P : Program} {w : World} {H H' : Hp} {h h' : Heap} {a : Addr} : ∀ {o : HO}, datK o = true → ObjOk P w H h a o → (∀ u, h.get? a = some u → h'.get? a = some u) → ObjOk P w H' h' a o
  | .lst xs, _, x, k => by obtain ⟨z, its, n, r, e⟩ := x; exact ⟨z, its, n, r, k _ e⟩
  | .tup xs, _, x, k => by obtain ⟨z, its, r, ob, e, c⟩ := x; exact ⟨z, its, r, ob, k _ e, c⟩
  | .dK kvs, _, x, k => by obtain ⟨z, y, vs, r, ob, es, ep, e, c⟩ := x; exact ⟨z, y, vs, r, ob, es, ep, k _ e, c⟩
  | .frz ob u, d, x, k => by obtain ⟨e, q⟩ := x; exact ⟨k _ e, obj_dat (o := u) d q k⟩
  | .dT _, d, _, _ => by cases d
  | .set _ _, d, _, _ => by cases d
  | .ins _ _ _, d, _, _ => by cases d
  | .own _, d, _, _ => by cases d
  | .xd _, d, _, _ => by cases d
  | .met _ _, d, _, _ => by cases d
  | .rng _ _, d, _, _ => by cases d
  | .tbl _, d, _, _ => by cases d
  | .ext _, d, _, _ => by cases d
mutual
/-- data without shared objects -/
def noCel : T → Bool
  | .cel _ => false
  | .obj _ _ => false
  | .lst xs => noCels xs
  | .tup xs => noCels xs
  | .dct kvs => noCelD kvs
  | _ => true
def noCels : List T → Bool
  | [] => true
  | x :: xs => noCel x && noCels xs
def noCelD : List (Key × T) → Bool
  | [] => true
  | (_, x) :: xs => noCel x && noCelD xs
end
section
variable {K : PySem.W.Frag} {F : Hp} {al : List Addr}
theorem SqT.dat {a : Addr} {xs : List V} (q : SqT K F a xs) : SqT K (datH F) a xs := by
  rcases q with q | q
  · exact .inl (datH_rd q rfl)
  · exact .inr q
theorem SqL.dat {a : Addr} {xs : List V} (q : SqL K F a xs) : SqL K (datH F) a xs := by
  rcases q with q | q
  · exact .inl (datH_rd q rfl)
  · exact .inr q
mutual
theorem Rep.dat : ∀ (t : T) (v : V), noCel t = true → Rep K F al t v → Rep K (datH F) [] t v
  | .non, _, _, h => h
  | .bl _, _, _, h => h
  | .int _, _, _, h => h
  | .str _, _, _, h => h
  | .lst xs, v, c, h => by
    obtain ⟨a, vs, e, q, r, l⟩ := h
    exact ⟨a, vs, e, datH_of q rfl, RepL.dat xs vs (by rw [noCel] at c; exact c) r, l⟩
  | .tup xs, v, c, h => by
    obtain ⟨a, vs, e, q, r, l⟩ := h
    exact ⟨a, vs, e, SqT.dat q, RepL.dat xs vs (by rw [noCel] at c; exact c) r, l⟩
  | .dct kvs, v, c, h => by
    obtain ⟨a, kv, e, q, r, l⟩ := h
    exact ⟨a, kv, e, datH_rd q rfl, RepD.dat kvs kv (by rw [noCel] at c; exact c) r, l⟩
  | .cel k, v, c, h => by rw [noCel] at c; cases c
  | .glo _, _, _, h => h
  | .ty _, _, _, h => h
  | .scr _, _, _, h => by
    obtain ⟨a, e, q, l⟩ := h
    exact ⟨a, e, SqL.dat q, l⟩
  | .obj _ _, v, c, h => by rw [noCel] at c; cases c
theorem RepL.dat : ∀ (xs : List T) (vs : List V), noCels xs = true → RepL K F al xs vs → RepL K (datH F) [] xs vs
  | [], _, _, h => h
  | x :: xs, vs, c, h => by
    obtain ⟨v, r, e, h1, h2⟩ := h
    rw [noCels, Bool.and_eq_true] at c
    exact ⟨v, r, e, Rep.dat x v c.1 h1, RepL.dat xs r c.2 h2⟩
theorem RepD.dat : ∀ (xs : List (Key × T)) (vs : List (Key × V)), noCelD xs = true → RepD K F al xs vs → RepD K (datH F) [] xs vs
  | [], _, _, h => h
  | (k, x) :: xs, vs, c, h => by
    obtain ⟨v, r, e, h1, h2⟩ := h
    rw [noCelD, Bool.and_eq_true] at c
    exact ⟨v, r, e, Rep.dat x v c.1 h1, RepD.dat xs r c.2 h2⟩
end
theorem Gok.dat {G : Gh} {sh : Sh} {H : Hp} : Gok K ⟨datH F, [], fun _ => none⟩ [] (datH F) :=
  ⟨fun _ _ h => h, fun _ _ h => (by cases h), fun _ => .inr rfl, fun k a h => (by cases k <;> cases h), fun i j a h => (by cases i <;> cases h), rfl, fun k o h => (by cases k <;> cases h)⟩
end
section
variable {P : Program} {w : World} {K : PySem.W.Frag} {mg : Str → Option Value} {base : Heap} {CX : CXT} {k : Nat} {f : Addr} {fd : FuncData} {ps : List Str} {m : Bool} {φ : Fn}
/-- behind a call on data: what was tracked, what was not -/
structure Calm (P : Program) (w : World) (fs : List Addr) (D : Hp) (s s' : Shared) : Prop where
  os : s'.os = s.os
  bare : AllBare s'.gens
  un : Un fs [] D D s.heap s'.heap
  hok : HOk P w D s'.heap
theorem un_shrink {fs ex : List Addr} {D H' : Hp} {h h' : Heap} (u : Un fs ex D H' h h') : Un fs ex D D h h' :=
  ⟨u.keep, u.slot, fun _ _ _ n _ => n, u.there, fun _ _ e => e, fun _ _ _ e => e, fun _ ps e => ⟨#[], by rw [e]; simp⟩⟩
theorem hok_shrink {D H' : Hp} {h : Heap} (hD : ∀ a o, D a = some o → H' a = some o ∧ datK o = true) (x : HOk P w H' h) : HOk P w D h := fun a o e =>
  obj_dat (hD a o e).2 (x a o (hD a o e).1) fun _ q => q
/-- the def runs on data -/
theorem pure_run {F : Hp} {al : List Addr} {A : Around} {outer : List Env} {s : Shared} {us : List Value} {vs : List V} {ts : List T} {t : T} (hF : FnOk P w K mg base CX k f fd ps (spT K m ps.length φ)) (hb : Binds K fd ps []) (hr : Room k A) (e0 : Env0 P w K mg base A outer s (datH F))
    (hcx : ∀ s' e, ¬ CX outer (datH F) s (fun _ _ _ => False) e s') (r : Vals vs us) (hl : ts.length = ps.length) (rt : RepL K F al ts vs) (nc : noCels ts = true) (h : φ ts [] = .ok t []) {Q : Value → Shared → Prop} {E : Value → Shared → Prop}
    (q : ∀ u v s' H' G', GLe ⟨datH F, [], fun _ => none⟩ G' → Gok K G' [] H' → rpR K m G' H' t v → RelV v u → HOk P w H' s'.heap → Un (frs outer) [] (datH F) H' s.heap s'.heap → Calm P w (frs outer) (datH F) s s' → Q u s') :
    wpAny (model P w) A (call (.ref f) us) Q E s := by
  refine wpAny_call (codeAny_mono (FnOk.raw hF hb (dvs := []) .nil A outer s (datH F) us vs (fun v H' => ∃ G', GLe ⟨datH F, [], fun _ => none⟩ G' ∧ Gok K G' [] H' ∧ rpR K m G' H' t v) (fun _ _ _ => False) hr e0 r ?_) fun r' s' hq => ?_)
  · show spT K m ps.length φ (vs ++ []) _ _ _
    rw [List.append_nil]
    refine ⟨by rw [RepL.length rt]; exact hl, ⟨datH F, [], fun _ => none⟩, ts, [], Gok.dat (G := ⟨datH F, [], fun _ => none⟩) (sh := []) (H := datH F), RepL.dat ts vs nc rt, ?_⟩
    rw [h]
    exact fun v H' G' l g rr => ⟨G', l, g, rr⟩
  · cases r' with
    | error e => exact (hcx s' e hq).elim
    | ok fl =>
      cases fl with
      | ret u =>
        obtain ⟨v, H', os, bare, un, hok, rv, G', l, g, rr⟩ := hq
        exact q u v s' H' G' l g rr rv hok un ⟨os, bare, un_shrink un, hok_shrink (fun a o e => ⟨g.fh a o (l.f a o e), (datH_some e).2⟩) hok⟩
      | next => exact False.elim hq
      | brk => exact False.elim hq
      | cont => exact False.elim hq
end
end TL
/-! the T-layer, 18: min and max with key=def -/
namespace TL
open PySem PySem.Spec L2 PyProof.Rows
end TL
/-! the T-layer, 19: what is read of tuples is kept by every call -/
namespace TL
open PySem PySem.Spec PySem.W L2 PyProof.Rows
/-- the same but for tokens -/
def Sm (v v' : Value) : Prop := v = v' ∨ ∃ x, L2.RelV x v ∧ L2.RelV x v'
theorem Sm.int {i : Int} {t : Tok} {v : Value} (h : Sm (.int i t) v) : ∃ t', v = .int i t' := by
  rcases h with rfl | ⟨x, a, b⟩
  · exact ⟨_, rfl⟩
  · cases x with
    | int j => obtain ⟨_, e⟩ := a; cases e; exact b
    | non => cases a
    | bl _ => cases a
    | str _ => obtain ⟨_, e⟩ := a; cases e
    | byt _ => obtain ⟨_, e⟩ := a; cases e
    | flt _ => obtain ⟨_, e⟩ := a; cases e
    | ref _ => cases a
    | ty _ => cases a
theorem Sm.str {i : Str} {t : Tok} {v : Value} (h : Sm (.str i t) v) : ∃ t', v = .str i t' := by
  rcases h with rfl | ⟨x, a, b⟩
  · exact ⟨_, rfl⟩
  · cases x with
    | str j => obtain ⟨_, e⟩ := a; cases e; exact b
    | non => cases a
    | bl _ => cases a
    | int _ => obtain ⟨_, e⟩ := a; cases e
    | byt _ => obtain ⟨_, e⟩ := a; cases e
    | flt _ => obtain ⟨_, e⟩ := a; cases e
    | ref _ => cases a
    | ty _ => cases a
theorem Sm.none {v : Value} (h : Sm .none v) : v = .none := by
  rcases h with rfl | ⟨x, a, b⟩
  · rfl
  · cases x with
    | non => exact b
    | bl _ => cases a
    | int _ => obtain ⟨_, e⟩ := a; cases e
    | str _ => obtain ⟨_, e⟩ := a; cases e
    | byt _ => obtain ⟨_, e⟩ := a; cases e
    | flt _ => obtain ⟨_, e⟩ := a; cases e
    | ref _ => cases a
    | ty _ => cases a
theorem Sm.bool {c : Bool} {v : Value} (h : Sm (.bool c) v) : v = .bool c := by
  rcases h with rfl | ⟨x, a, b⟩
  · rfl
  · cases x with
    | non => cases a
    | bl _ => cases a; exact b
    | int _ => obtain ⟨_, e⟩ := a; cases e
    | str _ => obtain ⟨_, e⟩ := a; cases e
    | byt _ => obtain ⟨_, e⟩ := a; cases e
    | flt _ => obtain ⟨_, e⟩ := a; cases e
    | ref _ => cases a
    | ty _ => cases a
theorem Sm.ref {c : Addr} {v : Value} (h : Sm (.ref c) v) : v = .ref c := by
  rcases h with rfl | ⟨x, a, b⟩
  · rfl
  · cases x with
    | non => cases a
    | bl _ => cases a
    | int _ => obtain ⟨_, e⟩ := a; cases e
    | str _ => obtain ⟨_, e⟩ := a; cases e
    | byt _ => obtain ⟨_, e⟩ := a; cases e
    | flt _ => obtain ⟨_, e⟩ := a; cases e
    | ref _ => cases a; exact b
    | ty _ => cases a
/-- every tuple stands there, its items up to tokens -/
def TK (h h' : Heap) : Prop := ∀ b o vs n, h.get? b = some o → o.cls = .type "tuple" → o.data = .seq vs n → ∃ o' vs' n', h'.get? b = some o' ∧ o'.cls = .type "tuple" ∧ o'.data = .seq vs' n' ∧ EachIs Sm vs.toList vs'.toList
mutual
theorem reads_keep {h h' : Heap} (k : TK h h') : ∀ (d : PyData) (v v' : Value) (as : List Addr), as = [] → Reads h v d as → Sm v v' → Reads h' v' d []
  | .none, _, _, _, _, r, q => by cases r; rw [q.none]; exact .none
  | .bool _, _, _, _, _, r, q => by cases r; rw [q.bool]; exact .bool _
  | .int _, _, _, _, _, r, q => by cases r; obtain ⟨t, rfl⟩ := q.int; exact .int _ _
  | .str _, _, _, _, _, r, q => by cases r; obtain ⟨t, rfl⟩ := q.str; exact .str _ _
  | .list xs, _, _, _, e, r, q => by cases r; cases e
  | .dict xs, _, _, _, e, r, q => by cases r; cases e
  | .tuple xs, _, _, _, e, r, q => by
    cases r with
    | tuple h1 h2 h3 h4 =>
      rw [q.ref]
      obtain ⟨o', vs', n', g1, g2, g3, g4⟩ := k _ _ _ _ h1 h2 h3
      exact .tuple g1 g2 g3 (reads_keeps k xs _ _ _ e h4 g4)
theorem reads_keeps {h h' : Heap} (k : TK h h') : ∀ (ds : List PyData) (vs vs' : List Value) (as : List Addr), as = [] → ReadsAll h vs ds as → EachIs Sm vs vs' → ReadsAll h' vs' ds []
  | [], _, _, _, _, r, q => by cases r; cases q; exact .nil
  | d :: ds, _, _, _, e, r, q => by
    cases r with
    | cons r1 r2 =>
      cases q with
      | cons q1 q2 =>
        have e2 := List.append_eq_nil_iff.mp e
        exact .cons (as := []) (bs := []) (reads_keep k d _ _ _ e2.1 r1 q1) (reads_keeps k ds _ _ _ e2.2 r2 q2)
end
theorem sm_refl : ∀ l : List Value, EachIs Sm l l
  | [] => .nil
  | v :: r => .cons (.inl rfl) (sm_refl r)
theorem sm_vals : ∀ {xs : List V} {l l' : List Value}, Vals xs l → Vals xs l' → EachIs Sm l l'
  | _, _, _, .nil, .nil => .nil
  | _, _, _, .cons a b, .cons c d => .cons (.inr ⟨_, a, c⟩) (sm_vals b d)
/-- a call keeps the tuples -/
theorem tk_un {P : Program} {w : World} {F H' : Hp} {fs : List Addr} {h h' : Heap} (o1 : HOk P w (datH F) h) (u : Un fs [] (datH F) H' h h') (o2 : HOk P w H' h') : TK h h' := fun b o vs n h1 h2 h3 => by
  cases e : datH F b with
  | none =>
    obtain ⟨sl, q⟩ := u.any h1 e (by simp)
    exact ⟨_, vs, n, q, h2, h3, sm_refl _⟩
  | some ob =>
    have dk := (datH_some e).2
    have ok := o1 b ob e
    cases ob with
    | tup xs =>
      obtain ⟨_, its, r, o', e1, e2, m, e3⟩ := ok
      rw [h1] at e1
      cases e1
      rw [h3] at e3
      cases e3
      obtain ⟨_, its', r', o', e1', e2', m', e3'⟩ := o2 b _ (u.tups b xs e)
      exact ⟨o', _, _, e1', e2', e3', sm_vals r r'⟩
    | frz x y =>
      obtain ⟨e1, _⟩ := ok
      obtain ⟨e2, _⟩ := o2 b _ (u.frzs b x y e)
      rw [h1] at e1
      cases e1
      exact ⟨_, vs, n, e2, h2, h3, sm_refl _⟩
    | lst xs =>
      obtain ⟨_, its, m, _, e1⟩ := ok
      rw [h1] at e1
      cases e1
      have h4 : Value.type "list" = Value.type "tuple" := h2
      exact absurd h4 (by decide)
    | dK kvs =>
      obtain ⟨_, _, _, _, o', es, ep, e1, e2, e3, _⟩ := ok
      rw [h1] at e1
      cases e1
      rw [h3] at e3
      cases e3
    | _ => cases dk
end TL
/-! the T-layer, 20: keys read in a part of the heap -/
namespace TL
open PySem PySem.Spec PySem.W L2 PyProof.Rows
mutual
/-- data without lists -/
def flatT : T → Bool
  | .non => true
  | .bl _ => true
  | .int _ => true
  | .str _ => true
  | .tup xs => flatTs xs
  | _ => false
def flatTs : List T → Bool
  | [] => true
  | x :: xs => flatT x && flatTs xs
end
mutual
theorem flat_plain : ∀ t : T, flatT t = true → plainT t = true
  | .non, _ => rfl
  | .bl _, _ => rfl
  | .int _, _ => rfl
  | .str _, _ => rfl
  | .tup xs, h => by rw [flatT] at h; rw [plainT]; exact flat_plains xs h
  | .lst _, h => by cases h
  | .dct _, h => by cases h
  | .cel _, h => by cases h
  | .glo _, h => by cases h
  | .ty _, h => by cases h
  | .scr _, h => by cases h
  | .obj _ _, h => by cases h
theorem flat_plains : ∀ ts : List T, flatTs ts = true → plainTs ts = true
  | [], _ => rfl
  | x :: xs, h => by
    rw [flatTs, Bool.and_eq_true] at h
    rw [plainTs, Bool.and_eq_true]
    exact ⟨flat_plain x h.1, flat_plains xs h.2⟩
end
section
variable {P : Program} {w : World} {K : PySem.W.Frag} {F : Hp} {al : List Addr} {h : Heap}
theorem tup_at (hk : K.In h) (ok : HOk P w (datH F) h) {a : Addr} {xs : List V} (q : SqT K F a xs) : ∃ (o : Obj) (its : List Value) (n : Nat), h.get? a = some o ∧ o.cls = .type "tuple" ∧ o.data = .seq its.toArray n ∧ Vals xs its := by
  rcases q with q | ⟨o, its, n, e, hc, hs, hz, r⟩
  · have q' : Rd (datH F) a (.tup xs) := datH_rd q rfl
    have z : ObjOk P w (datH F) h a (.tup xs) := by
      rcases q' with q' | ⟨od, q'⟩
      · exact ok a _ q'
      · exact (ok a _ q').2
    obtain ⟨_, its, r, o, e1, e2, m, e3⟩ := z
    exact ⟨o, its, m, e1, e2, e3, r⟩
  · exact ⟨o, its.toList, n, hk a o e, hc, by simpa using hs, r⟩
mutual
theorem rep_reads (hk : K.In h) (ok : HOk P w (datH F) h) : ∀ (t : T) (x : V) (v : Value), flatT t = true → Rep K F al t x → L2.RelV x v → Reads h v (toD t) []
  | .non, _, _, _, r, q => by cases r; cases q; exact .none
  | .bl _, _, _, _, r, q => by cases r; cases q; exact .bool _
  | .int _, _, _, _, r, q => by cases r; obtain ⟨t, rfl⟩ := q; exact .int _ _
  | .str _, _, _, _, r, q => by obtain ⟨rfl, _⟩ := r; obtain ⟨t, rfl⟩ := q; exact .str _ _
  | .tup xs, _, _, f, r, q => by
    obtain ⟨a, vs, rfl, q1, r1, _⟩ := r
    cases q
    obtain ⟨o, its, n, e1, e2, e3, rv⟩ := tup_at hk ok q1
    rw [flatT] at f
    exact .tuple e1 e2 e3 (by
      have := reps_reads hk ok xs vs its f r1 rv
      simpa using this)
  | .lst _, _, _, f, _, _ => by cases f
  | .dct _, _, _, f, _, _ => by cases f
  | .cel _, _, _, f, _, _ => by cases f
  | .glo _, _, _, f, _, _ => by cases f
  | .ty _, _, _, f, _, _ => by cases f
  | .scr _, _, _, f, _, _ => by cases f
  | .obj _ _, _, _, f, _, _ => by cases f
theorem reps_reads (hk : K.In h) (ok : HOk P w (datH F) h) : ∀ (ts : List T) (xs : List V) (vs : List Value), flatTs ts = true → RepL K F al ts xs → Vals xs vs → ReadsAll h vs (toDs ts) []
  | [], _, _, _, r, q => by cases r; cases q; exact .nil
  | t :: ts, _, _, f, r, q => by
    obtain ⟨v, r', rfl, r1, r2⟩ := r
    rw [flatTs, Bool.and_eq_true] at f
    cases q with
    | cons q1 q2 => exact .cons (as := []) (bs := []) (rep_reads hk ok t v _ f.1 r1 q1) (reps_reads hk ok ts _ _ f.2 r2 q2)
end
/-- k is read as d away from the addresses ex -/
def ReadsBut (ex : List Addr) (h : Heap) (v : Value) (d : PyData) : Prop := ∃ h0 : Heap, (∀ b o, h0.get? b = some o → b ∉ ex ∧ h.get? b = some o) ∧ Reads h0 v d []
theorem ReadsBut.all {ex : List Addr} {v : Value} {d : PyData} (r : ReadsBut ex h v d) : Reads h v d [] := by
  obtain ⟨h0, k, r⟩ := r
  exact Reads.keeps (fun b o e => (k b o e).2) r
theorem ReadsBut.moved {ex : List Addr} {v : Value} {d : PyData} {h' : Heap} (r : ReadsBut ex h v d) (k : ∀ b o, b ∉ ex → h.get? b = some o → h'.get? b = some o) : ReadsBut ex h' v d := by
  obtain ⟨h0, k0, r⟩ := r
  exact ⟨h0, fun b o e => ⟨(k0 b o e).1, k b o (k0 b o e).1 (k0 b o e).2⟩, r⟩
/-- what tuples say is kept where the tuples are kept -/
theorem ReadsBut.tk {ex : List Addr} {v : Value} {d : PyData} {h' : Heap} (r : ReadsBut ex h v d) (k : TK h h') : ReadsBut ex h' v d := by
  obtain ⟨h0, k0, r⟩ := r
  refine ⟨PySem.W.hideAll h' ex, fun b o e => ⟨fun hb => ?_, PySem.W.of_hideAll ex e⟩, reads_keep (fun b o vs n e1 e2 e3 => ?_) d v v [] rfl r (.inl rfl)⟩
  · rw [PySem.W.hideAll_none ex hb] at e; cases e
  · obtain ⟨hb, e⟩ := k0 b o e1
    obtain ⟨o', vs', n', g1, g2, g3, g4⟩ := k b o vs n e e2 e3
    exact ⟨o', vs', n', PySem.W.hideAll_get ex g1 hb, g2, g3, g4⟩
/-- the key, read away from ex -/
theorem reads_but {ex : List Addr} (hk : K.In h) (ok : HOk P w (datH F) h) (hx : ∀ b ∈ ex, F b = none ∧ K.lookup b = none) {t : T} {x : V} {v : Value} (f : flatT t = true) (r : Rep K F al t x) (q : L2.RelV x v) : ReadsBut ex h v (toD t) := by
  refine ⟨PySem.W.hideAll h ex, fun b o e => ⟨fun hb => ?_, PySem.W.of_hideAll ex e⟩, rep_reads (P := P) (w := w) (fun a o e => PySem.W.hideAll_get ex (hk a o e) fun hb => ?_) (fun a o e => obj_dat (datH_some e).2 (ok a o e) fun u hu => PySem.W.hideAll_get ex hu fun hb => ?_) t x v f r q⟩
  · rw [PySem.W.hideAll_none ex hb] at e; cases e
  · rw [(hx a hb).2] at e; cases e
  · have := (datH_some e).1
    rw [(hx a hb).1] at this; cases this
end
end TL
/-! the T-layer, 21: the turns of min and max with key=def -/
namespace TL
open PySem PySem.Spec PySem.W PySem.SeqAt L2 PyProof.Rows
section
variable {P : Program} {w : World} {F H : Hp} {fs : List Addr} {h h' : Heap}
theorem none_dat (hF : FLe F H) {b : Addr} (n : H b = none) : datH F b = none := by
  cases q : datH F b with
  | none => rfl
  | some o => rw [hF _ _ (datH_some q).1] at n; cases n
theorem un_full (hF : FLe F H) (u : Un fs [] (datH F) (datH F) h h') : Un fs [] H H h h' :=
  ⟨fun b o e n hb hx => u.keep b o e (none_dat hF n) hb hx, fun b o e n hb hx => u.slot b o e (none_dat hF n) hb hx, fun _ _ _ n _ => n, u.there, fun _ _ e => e, fun _ _ _ e => e, fun _ ps e => ⟨#[], by rw [e]; simp⟩⟩
theorem hok_full (hF : FLe F H) (o1 : HOk P w H h) (u : Un fs [] (datH F) (datH F) h h') (hfs : ∀ b ∈ fs, H b = none) (o2 : HOk P w (datH F) h') : HOk P w H h' := fun a o e => by
  cases q : datH F a with
  | some ob =>
    have e2 := hF _ _ (datH_some q).1
    rw [e] at e2
    cases e2
    exact obj_dat (datH_some q).2 (o2 a o q) fun _ z => z
  | none =>
    refine (o1 a o e).stay (fun b v hb hu => u.keep b v hu ?_ (fun z => ?_) (by simp)) (fun _ z => z) fun _ _ z => z
    · rcases hb with rfl | hb
      · exact q
      · cases q2 : datH F b with
        | none => rfl
        | some ob =>
          have e2 := hF _ _ (datH_some q2).1
          rw [hb] at e2
          cases e2
          have := (datH_some q2).2
          cases this
    · have := hfs b z
      rcases hb with rfl | hb
      · rw [e] at this; cases this
      · rw [hb] at this; cases this
end
end TL
/-! the T-layer, 22: min(xs, key=def), max(xs, key=def) -/
namespace TL
open PySem PySem.Spec PySem.W PySem.SeqAt L2 PyProof.Rows
def keyT1 (φ : Fn) (t : T) : T := match φ [t] [] with
  | .ok k _ => k
  | _ => .non
def keyOk (φ : Fn) (t : T) : Bool := match φ [t] [] with
  | .ok k [] => flatT k && decide ((toD k).depth ≤ 150)
  | _ => false
section
variable {X : Cx} {CX : CXT} {k : Nat} {f : Addr} {fd : FuncData} {p : Str} {φ : Fn}
theorem keyOk_spec {φ : Fn} {t : T} (h : keyOk φ t = true) : φ [t] [] = .ok (keyT1 φ t) [] ∧ flatT (keyT1 φ t) = true ∧ (toD (keyT1 φ t)).depth ≤ 150 := by
  unfold keyOk at h
  unfold keyT1
  split at h
  · rename_i k e
    rw [e]
    rw [Bool.and_eq_true, decide_eq_true_eq] at h
    exact ⟨rfl, h.1, h.2⟩
  · cases h
end
end TL
/-! the T-layer, 23: min(xs, key=def), max(xs, key=def), as expressions -/
namespace TL
open PySem PySem.Spec L2
section
variable {X : Cx} {W : WX} {CX : CXT} {k : Nat} {φ : Fn} {x y q : Str} {e : Expr} {ev : Ev} {p yp kp pos : Pos}
theorem hcx0 (outer : List Env) (D : Hp) (s s' : Shared) (e : Value) : ¬ CX0 outer D s (fun _ _ _ => False) e s' := fun h => h
end
end TL
/-! the T-layer, 24: a walk over a shared list that stays as it is -/
namespace TL
open PySem PySem.Spec L2
open Classical in
noncomputable def forC (tt : Tgt) (body : Sv) (k : Nat) (all : List T) : List T → Sv
  | [], l, s => if s[k]? = some (.lst all) then .nx l s else .bad
  | x :: xs, l, s => if s[k]? = some (.lst all) then match setT tt x l with
    | none => .bad
    | some l1 => match body l1 s with
      | .nx l2 s2 => forC tt body k all xs l2 s2
      | .ct l2 s2 => forC tt body k all xs l2 s2
      | .bk l2 s2 => .nx l2 s2
      | r => r
    else .bad
section
variable {X : Cx} {W : WX} {m : Bool} {tg iter : Expr} {it : EvL} {g : TG} {tt : Tgt} {body : List Stmt} {sb : Sv} {pos : Pos}
theorem items_cel {K : PySem.W.Frag} {G2 : Gh} {loc2 : Loc} {s2 : Sh} {σ2 : L2.St} {H2 : Hp} {k : Nat} {A : Addr} {items : List T} (ok : Ok K G2 loc2 s2 σ2 H2) (hA : G2.al[k]? = some A) (hs : s2[k]? = some (.lst items)) (i : Nat) :
    (∀ t, items[i]? = some t → (Itl K A).go i H2 ∧ ∀ x H3, (Itl K A).yld i H2 x H3 → ∃ G3, GLe G2 G3 ∧ Ok K G3 loc2 s2 σ2 H3 ∧ rep K G3 t x) ∧ (items.length ≤ i → (Itl K A).stop i H2) := by
  obtain ⟨a, ha, vs, h1, r, hz⟩ := ok.shr k _ hs
  rw [hA] at ha
  cases ha
  have hH : SqL K H2 A vs := .of h1
  refine ⟨fun t e => ?_, fun hi => ⟨vs, hH, by rw [RepL.length r]; exact hi⟩⟩
  obtain ⟨v, ev, rv⟩ := RepL.get r e
  refine ⟨⟨vs, v, hH, ev⟩, fun x H3 y => ?_⟩
  obtain ⟨rfl, y⟩ := y
  have : x = v := Option.some.inj ((y vs hH).symm.trans ev)
  subst this
  exact ⟨G2, GLe.refl _, ok, rv⟩
theorem forC_core {wi : TI} {D : Ends} {σ : L2.St} {H : Hp} {G : Gh} {loc : Loc} {sh : Sh} {k : Nat} {A : Addr} {items : List T} (ok1 : Ok X.K G loc sh σ H) (hA : G.al[k]? = some A) (hw : ∀ R : It → Hp → Prop, R (Itl X.K A) H → wi σ H R) (hg : TgSem X.K g tt) (p1 : postS X.K W m G (forC tt sb k items items loc sh) D) : tFor wi g (liftS X.K W m sb) D σ H := by
  refine hw _ ?_
  refine ⟨fun i n σ2 H2 => ∃ G2 loc2 s2, GLe G G2 ∧ Ok X.K G2 loc2 s2 σ2 H2 ∧ i ≤ items.length ∧ n = items.length - i ∧ postS X.K W m G2 (forC tt sb k items (items.drop i) loc2 s2) D,
    ⟨items.length, G, loc, sh, GLe.refl _, ok1, Nat.zero_le _, rfl, p1⟩, ?_⟩
  rintro i n σ2 H2 ⟨G2, loc2, s2, l2, ok2, hi, rfl, p2⟩
  have hs : s2[k]? = some (.lst items) := by
    cases hd : items.drop i with
    | nil => rw [hd] at p2; unfold forC at p2; by_cases c : s2[k]? = some (.lst items); exact c; rw [if_neg c] at p2; exact p2.elim
    | cons x r => rw [hd] at p2; unfold forC at p2; by_cases c : s2[k]? = some (.lst items); exact c; rw [if_neg c] at p2; exact p2.elim
  obtain ⟨ig, is⟩ := items_cel ok2 (l2.a _ _ hA) hs i
  by_cases hlt : i < items.length
  · have ei : items[i]? = some items[i] := List.getElem?_eq_getElem hlt
    obtain ⟨go, yl⟩ := ig _ ei
    refine .inr ⟨go, fun σ' H' => ∃ m', m' < items.length - i ∧ ∃ G2 loc2 s2, GLe G G2 ∧ Ok X.K G2 loc2 s2 σ' H' ∧ i + 1 ≤ items.length ∧ m' = items.length - (i + 1) ∧ postS X.K W m G2 (forC tt sb k items (items.drop (i + 1)) loc2 s2) D, fun σ' H' h => h, fun x H3 y => ?_⟩
    obtain ⟨G3, l3, ok3, r3⟩ := yl x H3 y
    rw [List.drop_eq_getElem_cons hlt] at p2
    unfold forC at p2
    rw [if_pos hs] at p2
    cases q : setT tt items[i] loc2 with
    | none => rw [q] at p2; exact p2.elim
    | some l1 =>
      rw [q] at p2
      refine hg G3 loc2 s2 σ2 H3 items[i] x l1 _ ok3 r3 q fun σ' ok' _ _ => ⟨G3, l1, s2, ok', ?_⟩
      have nxt : ∀ (l4 : Loc) (s4 : Sh), postS X.K W m G2 (forC tt sb k items (items.drop (i + 1)) l4 s4) D → ∀ σ' H' G', GLe G3 G' → Ok X.K G' l4 s4 σ' H' → ∃ m', m' < items.length - i ∧ ∃ G2 loc2 s2, GLe G G2 ∧ Ok X.K G2 loc2 s2 σ' H' ∧ i + 1 ≤ items.length ∧ m' = items.length - (i + 1) ∧ postS X.K W m G2 (forC tt sb k items (items.drop (i + 1)) loc2 s2) D :=
        fun l4 s4 p4 σ' H' G' l ok => ⟨_, by omega, G', l4, s4, l2.trans (l3.trans l), ok, hlt, rfl, postS.le (l3.trans l) p4⟩
      cases r : sb l1 s2 with
      | nx l4 s4 => simp only [r] at p2; exact nxt l4 s4 p2
      | ct l4 s4 => simp only [r] at p2; exact nxt l4 s4 p2
      | bk l4 s4 => simp only [r] at p2; exact fun σ' H' G' l ok => p2 σ' H' G' (l3.trans l) ok
      | rt t s4 => simp only [r] at p2; exact fun v H' G' l => p2 v H' G' (l3.trans l)
      | exc e l4 s4 => simp only [r] at p2; exact fun d σ' H' G' l => p2 d σ' H' G' (l3.trans l)
      | bad => simp only [r] at p2; exact p2
  · have e : i = items.length := by omega
    subst e
    refine .inl ⟨is (Nat.le_refl _), ?_⟩
    rw [List.drop_length] at p2
    unfold forC at p2
    rw [if_pos hs] at p2
    exact p2 σ2 H2 G2 (GLe.refl _) ok2
/-- for x in name: name a list, a tuple, a text, a dict, or a shared list that the body leaves as it is -/
noncomputable def sForC (i : Nat) (tt : Tgt) (body : Sv) : Sv := fun l s => match l.at i with
  | .t (.cel k) => match s[k]? with
    | some (.lst xs) => forC tt body k xs xs l s
    | _ => .bad
  | _ => sFor (itN i) tt body l s
theorem ts_forC {x : Str} {np : Pos} {i : Nat} (hW : Wopen X W) (hv' : PE X (.Name x np) (tVar i)) (hp : PassesOwn (model X.prog X.w) X.A X.env X.xe) (hc : X.calm = true) (hg : TgOk X tg g tt) (hb : TPSs X W m body sb) (hs : ∀ v, foldedSetIterable (.Name x np) X.env v = pure v := by intro _; rfl) : TPS X W m (.For tg (.Name x np) body [] pos) (sForC i tt sb) := by
  refine PS.weak (PS.or (ts_forN (pos := pos) hW hv' hp hc hg hb hs) (ps_for (pos := pos) hp hc (pi_list hv') hg.pg hb hs)) fun D σ H ⟨G, loc, sh, ok, p⟩ => ?_
  by_cases h : ∃ k, loc.at i = .t (.cel k)
  · obtain ⟨k, e⟩ := h
    unfold sForC at p
    rw [e] at p
    dsimp only at p
    cases es : sh[k]? with
    | none => rw [es] at p; exact p.elim
    | some so =>
      rw [es] at p
      cases so with
      | lst xs =>
        have hsl := ok.sl i
        rw [e] at hsl
        obtain ⟨v, e1, A, rfl, hA⟩ := hsl
        obtain ⟨A', hA', vs, h1, _⟩ := ok.shr k _ es
        rw [hA] at hA'
        cases hA'
        exact .inr (forC_core ok hA (fun R r => ⟨_, e1, A, rfl, ⟨vs, .of h1⟩, r⟩) hg.sem p)
      | _ => exact p.elim
  · refine .inl ⟨G, loc, sh, ok, ?_⟩
    have e : sForC i tt sb loc sh = sFor (itN i) tt sb loc sh := by
      unfold sForC
      cases e : loc.at i with
      | no => rfl
      | own x => rfl
      | t x =>
        cases x with
        | cel k => exact absurd ⟨k, e⟩ h
        | _ => rfl
    rw [← e]
    exact p
end
end TL
/-! the T-layer, 25: a list comprehension over a shared list that stays as it is -/
namespace TL
open PySem PySem.Spec L2
end TL
/-! the T-layer, 26: sorted() of a shared dict -/
namespace TL
open PySem PySem.Spec L2
def biSortC : List T → Sh → Res T
  | [.cel k], s => match s[k]? with
    | some (.dct kvs) => match keyStrs kvs with
      | some ks => if ks.length < 64 then .ok (.lst ((sortS ks).map T.str)) s else .bad
      | none => .bad
    | _ => .bad
  | ts, s => biSort ts s
theorem sv_sortC {K : PySem.W.Frag} : SvLO K (fun xs H Q => (rSortedS K xs H Q ∨ rSortD xs H Q) ∨ rSortO K xs H Q) biSortC := by
  intro W G loc sh σ H vs ts Q ok r p
  unfold biSortC at p
  split at p
  · rename_i k
    obtain ⟨v, rfl, a, rfl, hA⟩ := RepL.one r
    cases es : sh[k]? with
    | none => rw [es] at p; exact p.elim
    | some so =>
      rw [es] at p
      cases so with
      | dct kvs =>
        obtain ⟨a', hA', kv, h1, r1, hz⟩ := ok.shr k _ es
        rw [hA] at hA'
        cases hA'
        dsimp only at p
        cases e : keyStrs kvs with
        | none => rw [e] at p; exact p.elim
        | some ks =>
          rw [e] at p
          dsimp only at p
          by_cases hl : ks.length < 64
          · rw [if_pos hl] at p
            refine .inl (.inr ⟨a, kv, ks, rfl, .inl h1, (RepD.keys r1).trans (keyStrs_map e), hl, fun ys q q1 q2 q3 => ?_⟩)
            have e := sortS_is q1 q2
            subst e
            refine ok.newLO (RepL.ofStrs _ fun b hb' => keyStrs_ok (by assumption) hz b (q1.mem_iff.mp hb')) ?_ p q q3
            rw [List.length_map, q1.length_eq]
            exact small64 hl
          · rw [if_neg hl] at p; exact p.elim
      | _ => exact p.elim
  · exact sv_sortO W G loc sh σ H vs _ Q ok r p
end TL
/-! the T-layer, 27: exceptions of own classes: made by C(), raised -/
namespace TL
open PySem PySem.Spec PyProof.Rows L2
/-! ### raise -/
def sRaise (c : Str) (fs : List (Str × T)) : Sv := fun l s => .exc ⟨c, fs⟩ l s
def sBad : Sv := fun _ _ => .bad
end TL
/-! the T-layer, 28: several except clauses, each with a name -/
namespace TL
open PySem PySem.Spec PyProof.Rows L2
/-- the ends of a suite whose name at i goes -/
def Ends.gone (D : Ends) (i : Nat) : Ends := { nx := fun σ' H' => D.nx (σ'.set i none) H', rt := D.rt, bk := fun σ' H' => D.bk (σ'.set i none) H', ct := fun σ' H' => D.ct (σ'.set i none) H' }
end TL
set_option maxHeartbeats 2000000
/-! the T-layer, 29: a lambda without parameters handed to a def that calls it in a try -/
namespace TL
open PySem PySem.Spec PyProof.Rows L2 LamX
end TL
set_option maxHeartbeats 2000000
/-! the T-layer, 30: _law_why(lambda: e) -/
namespace TL
open PySem PySem.Spec PyProof.Rows L2 LamX
/-! ### _law_why -/
end TL
set_option maxHeartbeats 2000000
/-! the T-layer, 31: _law_why(lambda: e) as an expression -/
namespace TL
open PySem PySem.Spec PyProof.Rows L2 LamX
theorem repFs_lookup {K : PySem.W.Frag} {F : Hp} {al : List Addr} {f : Str} : ∀ {fs : List (Str × T)} {vs : List (Str × V)} {t : T}, RepFs K F al fs vs → fs.lookup f = some t → ∃ v, vs.lookup f = some v ∧ Rep K F al t v
  | [], _, _, _, e => by simp at e
  | (g, x) :: fs, vs, t, h, e => by
    obtain ⟨v, r, rfl, h1, h2⟩ := h
    by_cases q : f = g
    · subst q
      have : x = t := by simpa [List.lookup] using e
      subst this
      exact ⟨v, by simp [List.lookup], h1⟩
    · have qb : (f == g) = false := by simpa using q
      have e' : fs.lookup f = some t := by simpa [List.lookup, qb] using e
      obtain ⟨u, hu, ru⟩ := repFs_lookup h2 e'
      exact ⟨u, by simpa [List.lookup, qb] using hu, ru⟩
end TL
/-! plain Lean over the T-layer, 0: what a result must fulfil -/
namespace TL
open PySem PySem.Spec L2
def wpR {α : Type} (r : Res α) (Q : α → Sh → Prop) : Prop := match r with
  | .ok a s => Q a s
  | .exc _ _ => False
  | .bad => False
def wpF (r : Fl) (nx : Loc → Sh → Prop) (rt : T → Sh → Prop) (bk ct : Loc → Sh → Prop) : Prop := match r with
  | .nx l s => nx l s
  | .rt t s => rt t s
  | .bk l s => bk l s
  | .ct l s => ct l s
  | .exc _ _ _ => False
  | .bad => False
theorem wpR.imp {α : Type} {r : Res α} {Q Q' : α → Sh → Prop} (h : wpR r Q) (i : ∀ a s, Q a s → Q' a s) : wpR r Q' := by
  cases r with
  | ok a s => exact i a s h
  | _ => exact h
theorem wpF.imp {r : Fl} {nx nx' : Loc → Sh → Prop} {rt rt' : T → Sh → Prop} {bk bk' ct ct' : Loc → Sh → Prop} (h : wpF r nx rt bk ct) (i1 : ∀ l s, nx l s → nx' l s) (i2 : ∀ l s, rt l s → rt' l s) (i3 : ∀ l s, bk l s → bk' l s) (i4 : ∀ l s, ct l s → ct' l s) : wpF r nx' rt' bk' ct' := by
  cases r with
  | nx l s => exact i1 l s h
  | rt l s => exact i2 l s h
  | bk l s => exact i3 l s h
  | ct l s => exact i4 l s h
  | _ => exact h
section
variable {α β : Type} {Q : α → Sh → Prop} {R : T → Sh → Prop} {B : Bool → Sh → Prop} {nx bk ct : Loc → Sh → Prop} {rt : T → Sh → Prop} {l : Loc} {s : Sh}
@[simp] theorem wpR_ok (a : α) (s : Sh) : wpR (.ok a s) Q = Q a s := rfl
@[simp] theorem wpR_bad : wpR (.bad : Res α) Q = False := rfl
@[simp] theorem wpR_bind (r : Res β) (k : β → Sh → Res α) : wpR (r.bind k) Q = wpR r fun a s => wpR (k a s) Q := by
  cases r <;> rfl
@[simp] theorem wpR_ite {c : Prop} [Decidable c] (a b : Res α) : wpR (if c then a else b) Q = if c then wpR a Q else wpR b Q := by split <;> rfl
@[simp] theorem wpF_ite {c : Prop} [Decidable c] (a b : Fl) : wpF (if c then a else b) nx rt bk ct = if c then wpF a nx rt bk ct else wpF b nx rt bk ct := by split <;> rfl
@[simp] theorem wpF_nx : wpF (.nx l s) nx rt bk ct = nx l s := rfl
@[simp] theorem wpF_rt (t : T) : wpF (.rt t s) nx rt bk ct = rt t s := rfl
@[simp] theorem wpF_bk : wpF (.bk l s) nx rt bk ct = bk l s := rfl
@[simp] theorem wpF_ct : wpF (.ct l s) nx rt bk ct = ct l s := rfl
@[simp] theorem wpF_bad : wpF .bad nx rt bk ct = False := rfl
/-- a local name's value -/
def vAt (l : Loc) (i : Nat) (Q : T → Prop) : Prop := match l.at i with
  | .t x => Q x
  | _ => False
@[simp] theorem wp_eVar (i : Nat) : wpR (eVar i l s) R = vAt l i fun x => R x s := by
  unfold eVar vAt
  cases l.at i <;> rfl
@[simp] theorem vAt_0 (x : T) (l : Loc) (Q : T → Prop) : vAt (.t x :: l) 0 Q = Q x := rfl
@[simp] theorem vAt_s (a : Slot) (l : Loc) (i : Nat) (Q : T → Prop) : vAt (a :: l) (i + 1) Q = vAt l i Q := rfl
@[simp] theorem at_0 (a : Slot) (l : Loc) : Loc.at (a :: l) 0 = a := rfl
@[simp] theorem at_s (a : Slot) (l : Loc) (i : Nat) : Loc.at (a :: l) (i + 1) = Loc.at l i := rfl
@[simp] theorem wp_eC (t : T) : wpR (eC t l s) R = R t s := rfl
@[simp] theorem wp_e1 (f : T → Sh → Res T) (a : Ev) : wpR (e1 f a l s) R = wpR (a l s) fun x s => wpR (f x s) R := by simp [e1]
@[simp] theorem wp_e2 (f : T → T → Sh → Res T) (a b : Ev) : wpR (e2 f a b l s) R = wpR (a l s) fun x s => wpR (b l s) fun y s => wpR (f x y s) R := by simp [e2]
@[simp] theorem wp_eT (a : Ev) : wpR (eT a l s) B = wpR (a l s) fun x s => wpR (truB x s) B := by simp [eT]
@[simp] theorem truB_bl (b : Bool) : truB (.bl b) s = .ok b s := rfl
@[simp] theorem wp_eIf (c : Et) (a b : Ev) : wpR (eIf c a b l s) R = wpR (c l s) fun k s => if k = true then wpR (a l s) R else wpR (b l s) R := by simp [eIf]
@[simp] theorem wp_cAnd (a b : Et) : wpR (cAnd a b l s) B = wpR (a l s) fun k s => if k = true then wpR (b l s) B else B false s := by simp [cAnd]
@[simp] theorem wp_cOr (a b : Et) : wpR (cOr a b l s) B = wpR (a l s) fun k s => if k = true then B true s else wpR (b l s) B := by simp [cOr]
@[simp] theorem wp_cNot (a : Et) : wpR (cNot a l s) B = wpR (a l s) fun k s => B (!k) s := by simp [cNot]
/-- a bool's way -/
def onB (x : T) (Q : Bool → Prop) : Prop := match x with
  | .bl k => Q k
  | _ => False
@[simp] theorem onB_bl (k : Bool) (Q : Bool → Prop) : onB (.bl k) Q = Q k := rfl
@[simp] theorem wp_eAnd (a b : Ev) : wpR (eAnd a b l s) R = wpR (a l s) fun x s => onB x fun k => if k = true then wpR (b l s) R else R (.bl false) s := by
  simp only [eAnd, wpR_bind]
  congr 1
  funext x s
  cases x with
  | bl k => cases k <;> rfl
  | _ => rfl
@[simp] theorem wp_eOr (a b : Ev) : wpR (eOr a b l s) R = wpR (a l s) fun x s => onB x fun k => if k = true then R (.bl true) s else wpR (b l s) R := by
  simp only [eOr, wpR_bind]
  congr 1
  funext x s
  cases x with
  | bl k => cases k <;> rfl
  | _ => rfl
@[simp] theorem wp_eNot (a : Ev) : wpR (eNot a l s) R = wpR (a l s) fun x s => onB x fun k => R (.bl (!k)) s := by
  simp only [eNot, wpR_bind]
  congr 1
  funext x s
  cases x <;> rfl
@[simp] theorem wp_eChain (f g : T → T → Sh → Res T) (a b c : Ev) : wpR (eChain f g a b c l s) R = wpR (a l s) fun x s => wpR (b l s) fun y s => wpR (f x y s) fun z s => onB z fun k => if k = true then wpR (c l s) fun w s => wpR (g y w s) R else R (.bl false) s := by
  simp only [eChain, wpR_bind]
  congr 1
  funext x s
  congr 1
  funext y s
  congr 1
  funext z s
  cases z with
  | bl k => cases k <;> simp
  | _ => rfl
@[simp] theorem wp_aNil (Q : List T → Sh → Prop) : wpR (aNil l s) Q = Q [] s := rfl
@[simp] theorem wp_aCons (a : Ev) (r : EvL) (Q : List T → Sh → Prop) : wpR (aCons a r l s) Q = wpR (a l s) fun x s => wpR (r l s) fun xs s => Q (x :: xs) s := by simp [aCons]
@[simp] theorem wp_eA (f : List T → Sh → Res T) (a : EvL) : wpR (eA f a l s) R = wpR (a l s) fun xs s => wpR (f xs s) R := by simp [eA]
@[simp] theorem wp_eAK (f : List T → List T → Sh → Res T) (a b : EvL) : wpR (eAK f a b l s) R = wpR (a l s) fun xs s => wpR (b l s) fun ys s => wpR (f xs ys s) R := by simp [eAK]
@[simp] theorem wp_eCall (φ : Fn) (a : EvL) : wpR (eCall φ a l s) R = wpR (a l s) fun xs s => wpR (φ xs s) R := by simp [eCall]
@[simp] theorem wp_eCallK (φ : Fn) (g : List T → List T → List T) (a b : EvL) : wpR (eCallK φ g a b l s) R = wpR (a l s) fun xs s => wpR (b l s) fun ys s => wpR (φ (g xs ys) s) R := by simp [eCallK]
@[simp] theorem wp_eShare (a : Ev) : wpR (eShare a l s) R = wpR (a l s) fun x s => wpR (shareT x s) R := by simp [eShare]
@[simp] theorem wp_share_lst (xs : List T) : wpR (shareT (.lst xs) s) R = R (.cel s.length) (s ++ [.lst xs]) := rfl
@[simp] theorem wp_eSl (f : T → Option Int → Option Int → Sh → Res T) (a : Ev) (lo hi : EvO) : wpR (eSl f a lo hi l s) R = wpR (a l s) fun x s => wpR (lo l s) fun i s => wpR (hi l s) fun j s => wpR (f x i j s) R := by simp [eSl]
@[simp] theorem wp_oNone (Q : Option Int → Sh → Prop) : wpR (oNone l s) Q = Q none s := rfl
def onI (x : T) (Q : Int → Prop) : Prop := match x with
  | .int k => Q k
  | _ => False
@[simp] theorem onI_int (k : Int) (Q : Int → Prop) : onI (.int k) Q = Q k := rfl
@[simp] theorem wp_oSome (a : Ev) (Q : Option Int → Sh → Prop) : wpR (oSome a l s) Q = wpR (a l s) fun x s => onI x fun i => Q (some i) s := by
  simp only [oSome, wpR_bind]
  congr 1
  funext x s
  cases x <;> rfl
@[simp] theorem wp_eIsT (ns : List String) (a : Ev) : wpR (eIsT ns a l s) R = wpR (a l s) fun x s => ∃ a, tyName x s = some a ∧ R (.bl (ns.any fun n => isTy a n)) s := by
  simp only [eIsT, wpR_bind]
  congr 1
  funext x s
  cases h : tyName x s <;> simp
@[simp] theorem wp_cYes : wpR (cYes l s) B = B true s := rfl
/-! statements -/
@[simp] theorem wp_sNil : wpF (sNil l s) nx rt bk ct = nx l s := rfl
@[simp] theorem wp_sSeq (a b : Sv) : wpF (sSeq a b l s) nx rt bk ct = wpF (a l s) (fun l s => wpF (b l s) nx rt bk ct) rt bk ct := by
  unfold sSeq
  cases a l s <;> rfl
theorem wp_sE (ev : Loc → Sh → Res α) (k : α → Sv) : wpF (sE ev k l s) nx rt bk ct = wpR (ev l s) fun t s => wpF (k t l s) nx rt bk ct := by
  unfold sE
  cases ev l s <;> rfl
@[simp] theorem wp_sDrop (ev : Ev) : wpF (sDrop ev l s) nx rt bk ct = wpR (ev l s) fun _ s => nx l s := by simp [sDrop, wp_sE]
@[simp] theorem wp_sIf (c : Et) (a b : Sv) : wpF (sIf c a b l s) nx rt bk ct = wpR (c l s) fun k s => if k = true then wpF (a l s) nx rt bk ct else wpF (b l s) nx rt bk ct := by
  simp only [sIf, wp_sE]
  congr 1
  funext k s
  cases k <;> rfl
@[simp] theorem wp_sRet (ev : Ev) : wpF (sRet ev l s) nx rt bk ct = wpR (ev l s) rt := by simp [sRet, wp_sE]
@[simp] theorem wp_sRetN : wpF (sRetN l s) nx rt bk ct = rt .non s := rfl
@[simp] theorem wp_sRetV (i : Nat) : wpF (sRetV i l s) nx rt bk ct = ∃ t, l.at i = .own t ∧ rt t s := by
  unfold sRetV
  cases h : l.at i <;> simp
@[simp] theorem wp_sAsg (i : Nat) (ev : Ev) : wpF (sAsg i ev l s) nx rt bk ct = wpR (ev l s) fun t s => nx (l.set i (.t t)) s := by simp [sAsg, wp_sE]
@[simp] theorem wp_sAsgO (i : Nat) (ev : Ev) : wpF (sAsgO i ev l s) nx rt bk ct = wpR (ev l s) fun t s => nx (l.set i (.own t)) s := by simp [sAsgO, wp_sE]
@[simp] theorem wp_sPar (i j : Nat) (a : Ev) (b : Ev) : wpF (sPar i j (aCons a (aCons b aNil)) l s) nx rt bk ct = wpR (a l s) fun t s => wpR (b l s) fun u s => nx ((l.set i (.t t)).set j (.t u)) s := by simp [sPar, wp_sE]
@[simp] theorem wp_sAsgT (tt : Tgt) (ev : Ev) : wpF (sAsgT tt ev l s) nx rt bk ct = wpR (ev l s) fun t s => ∃ l1, setT tt t l = some l1 ∧ nx l1 s := by
  simp only [sAsgT, wp_sE]
  congr 1
  funext t s
  cases h : setT tt t l <;> simp
@[simp] theorem wp_sPut (i : Nat) (ek ev : Ev) : wpF (sPut i ek ev l s) nx rt bk ct = wpR (ev l s) fun v s => slotMut (l.at i) = true ∧ wpR (ek l s) fun k s => wpF (sPutK i v k l s) nx rt bk ct := by
  simp only [sPut, wp_sE]
  congr 1
  funext v s
  unfold sMut
  split
  · rename_i h; simp [h, wp_sE]
  · rename_i h; simp [h]
@[simp] theorem wp_sMth (i : Nat) (f : Mth) (a : EvL) : wpF (sMth i f a l s) nx rt bk ct = (slotLst l s i = true ∧ wpR (a l s) fun ts s => wpF (sMthK i f ts l s) nx rt bk ct) := by
  unfold sMth
  split
  · rename_i h; simp [h, wp_sE]
  · rename_i h; simp [h]
@[simp] theorem wp_sFor (it : EvL) (tt : Tgt) (b : Sv) : wpF (sFor it tt b l s) nx rt bk ct = wpR (it l s) fun items s => wpF (forL tt b items l s) nx rt bk ct := by simp [sFor, wp_sE]
@[simp] theorem wp_runB0 (m : Bool) (n : Nat) (sv : Sv) (ts : List T) : wpR (runB0 m n sv ts s) R = wpF (sv (startL n ts) s) (fun _ s => m = false ∧ R .non s) R (fun _ _ => False) fun _ _ => False := by
  unfold runB0
  cases sv (startL n ts) s <;> simp [wpF]
@[simp] theorem wp_itN (i : Nat) (Q : List T → Sh → Prop) : wpR (itN i l s) Q = vAt l i fun x => wpR (itemsN x s) Q := by
  unfold itN vAt
  cases l.at i <;> rfl
@[simp] theorem wp_itV (a : Ev) (Q : List T → Sh → Prop) : wpR (itV a l s) Q = wpR (a l s) fun x s => wpR (itemsT x s) Q := by simp [itV]
@[simp] theorem wp_itA (f : List T → Sh → Res (List T)) (a : EvL) (Q : List T → Sh → Prop) : wpR (itA f a l s) Q = wpR (a l s) fun xs s => wpR (f xs s) Q := by simp [itA]
theorem wp_noexc {r : Res α} : wpR r.noexc Q = wpR r Q := by cases r <;> rfl
@[simp] theorem wp_dLst (xs : List T) : wpR (dLst xs s) R = (xs.length ≤ sizeLine ∧ R (.lst xs) s) := by
  unfold dLst
  split
  · rename_i h; simp [h]
  · rename_i h; simp [h]
@[simp] theorem wp_dTup (xs : List T) : wpR (dTup xs s) R = (xs.length ≤ sizeLine ∧ R (.tup xs) s) := by
  unfold dTup
  split
  · rename_i h; simp [h]
  · rename_i h; simp [h]
@[simp] theorem wp_eComp (vs : List Nat) (it : EvL) (tt : Tgt) (c : Et) (elt : Ev) : wpR (eComp vs it tt c elt l s) R = (noOwn l vs = true ∧ wpR (it l s) fun items s => wpR (compL tt c elt items (wipeL l vs) s) fun ys s => ys.length ≤ sizeLine ∧ R (.lst ys) s) := by
  unfold eComp
  split
  · rename_i h
    simp [h, wp_noexc]
  · rename_i h; simp [h]
end
/-- a comprehension whose items don't touch the state -/
theorem comp_map {i : Nat} {elt : Ev} {l : Loc} {s : Sh} {f : T → T} {Q : List T → Sh → Prop} : ∀ {items : List T}, (∀ x ∈ items, ∀ R : T → Sh → Prop, R (f x) s → wpR (elt (l.set i (.t x)) s) R) → Q (items.map f) s → wpR (compL (.nm i) cYes elt items l s) Q
  | [], _, q => q
  | x :: items, h, q => by
    unfold compL
    simp only [setT, wpR_bind, wp_cYes, if_true]
    refine h x (by simp) _ ?_
    exact comp_map (Q := fun ys s => Q (f x :: ys) s) (fun y hy => h y (by simp [hy])) q
/-- .. that may touch it: each item fulfils P, the state fulfils J -/
theorem comp_inv {tt : Tgt} {elt : Ev} {l : Loc} {P : T → Prop} {J : Sh → Prop} {Q : List T → Sh → Prop} : ∀ {items : List T} {s : Sh}, (∀ x ∈ items, ∀ s, J s → ∃ l1, setT tt x l = some l1 ∧ wpR (elt l1 s) fun y s => P y ∧ J s) → J s → (∀ ys s, ys.length = items.length → (∀ y ∈ ys, P y) → J s → Q ys s) → wpR (compL tt cYes elt items l s) Q
  | [], s, _, j, q => q [] s rfl (fun _ h => (by cases h)) j
  | x :: items, s, h, j, q => by
    unfold compL
    obtain ⟨l1, e, hx⟩ := h x (by simp) s j
    rw [e]
    simp only [wpR_bind, wp_cYes, if_true]
    refine hx.imp fun y s1 ⟨py, js⟩ => ?_
    refine comp_inv (fun z hz => h z (by simp [hz])) js fun ys s2 e1 e2 e3 => ?_
    exact q _ s2 (by rw [List.length_cons, List.length_cons, e1]) (fun z hz => by
      rcases List.mem_cons.mp hz with rfl | hz
      · exact py
      · exact e2 z hz) e3
/-- a for loop by an invariant -/
theorem for_inv {tt : Tgt} {b : Sv} {nx bk ct : Loc → Sh → Prop} {rt : T → Sh → Prop} (J : List T → Loc → Sh → Prop) (hd : ∀ l s, J [] l s → nx l s)
    (h : ∀ x items l s, J (x :: items) l s → ∃ l1, setT tt x l = some l1 ∧ wpF (b l1 s) (J items) rt nx (J items)) : ∀ {items : List T} {l : Loc} {s : Sh}, J items l s → wpF (forL tt b items l s) nx rt bk ct
  | [], l, s, j => hd l s j
  | x :: items, l, s, j => by
    obtain ⟨l1, e, w⟩ := h x items l s j
    unfold forL
    rw [e]
    simp only
    cases q : b l1 s with
    | nx l2 s2 => rw [q] at w; exact for_inv J hd h w
    | ct l2 s2 => rw [q] at w; exact for_inv J hd h w
    | bk l2 s2 => rw [q] at w; exact w
    | rt t s2 => rw [q] at w; exact w
    | exc e l2 s2 => rw [q] at w; exact w
    | bad => rw [q] at w; exact w
end TL
/-! the T-layer, 15: from a law's function to its row -/
namespace TL
open PySem PySem.Spec L2
def spLaw (K : PySem.W.Frag) : Sp := fun vs H Q _ => ∃ (a : Addr) (ns : List Int), vs = [.ref a] ∧ SqL K H a (ns.map V.int) ∧ ns.length ≤ 63 ∧ ∀ H', Q (.bl true) H'
theorem law_sp {P : Program} {w : World} {K : PySem.W.Frag} {mg : Str → Option Value} {base : Heap} {CX : CXT} {k : Nat} {f : Addr} {fd : FuncData} {φ : Fn} (F : FnOk P w K mg base CX k f fd ["_law_script"] (spT K false 1 φ)) (h : ∀ ns : List Int, ns.length ≤ 63 → wpR (φ [.scr ns] []) fun t _ => t = .bl true) : FnOk P w K mg base CX k f fd ["_law_script"] (spLaw K) := by
  have conv : ∀ {vs H Q E}, spLaw K vs H Q E → spT K false 1 φ vs H Q E := by
    rintro vs H Q E ⟨a, ns, rfl, hS, hn, q⟩
    refine ⟨rfl, ⟨H, [], fun _ => none⟩, [.scr ns], [], ⟨fun _ _ e => e, fun _ _ e => (by cases e), fun _ => .inr rfl, fun _ _ e => (by simp at e), fun _ _ _ e => (by simp at e), rfl, fun _ _ e => (by simp at e)⟩, ⟨_, _, rfl, ⟨a, rfl, hS, Nat.le_trans hn (by decide)⟩, rfl⟩, ?_⟩
    have := h ns hn
    cases e : φ [.scr ns] [] with
    | bad => rw [e] at this; exact this.elim
    | exc x s => rw [e] at this; exact this.elim
    | ok t s =>
      rw [e] at this
      have ht : t = .bl true := this
      subst ht
      intro v H' G' _ _ r
      have : v = .bl true := r
      rw [this]
      exact q H'
  exact ⟨fun vs H Q E h => F.len vs H Q E (conv h), fun A outer s H args us vs Q E a b c d h => F.run A outer s H args us vs Q E a b c d (conv h)⟩
end TL
set_option maxHeartbeats 2000000
/-! the T-layer, 32: a law that makes lambdas -/
namespace TL
open PySem PySem.Spec PyProof.Rows L2 LamX
end TL
set_option maxHeartbeats 2000000
/-! the T-layer, 33: a, b, *rest = tuple -/
namespace TL
open PySem PySem.Spec PyProof.Rows L2
end TL
namespace TL
open PySem PySem.Spec PyProof.Rows L2
end TL
set_option maxHeartbeats 2000000
/-! the T-layer, 34: a, *b = t; d.get(k, z); xs.index(y) -/
namespace TL
open PySem PySem.Spec PyProof.Rows L2
/-! ### a, .., *rest = e -/
/-! ### d.get(k, z) -/
/-! ### xs.index(y), texts -/
end TL
set_option maxHeartbeats 2000000
/-! the T-layer, 35: sorted(xs, key=def) -/
namespace TL
open PySem PySem.Spec PySem.W PySem.SeqAt PySem.Calls L2 PyProof.Rows
theorem un_but {fs ch : List Addr} {H : Hp} {h h1 h' : Heap} (u : Un fs [] H H h h1) (k : ∀ b o, b ∉ ch → h1.get? b = some o → h'.get? b = some o) (n : ∀ b ∈ ch, h.get? b = none) : Un fs [] H H h h' := by
  have ne : ∀ {b : Addr} {o : Obj}, h.get? b = some o → b ∉ ch := fun {b o} e z => by
    rw [n b z] at e
    cases e
  refine ⟨fun b o e hn hb hx => k b o (ne e) (u.keep b o e hn hb hx), fun b o e hn hb hx => ?_, u.free, fun b o e hx => ?_, u.tups, u.frzs, u.tbls⟩
  · obtain ⟨sl, q⟩ := u.slot b o e hn hb hx
    exact ⟨sl, k b _ (ne e) q⟩
  · obtain ⟨o', q⟩ := u.there b o e hx
    exact ⟨o', k b o' (ne e) q⟩
def kdT (φ : Fn) (t : T) : PyData := toD (keyT1 φ t)
abbrev leKP (φ : Fn) : V × T → V × T → Bool := dataLe false fun b => kdT φ b.2
def sortKOk (φ : Fn) (ts : List T) : Bool := noCels ts && ((ts.all fun t => keyOk φ t) && (ordAllB (ts.map (kdT φ)) && sortOrdB (ts.map (kdT φ))))
def sortKT (φ : Fn) (ts : List T) : List T := ts.mergeSort fun x y => leT (keyT1 φ x) (keyT1 φ y)
def rSortK (X : Cx) (φ : Fn) (fa : Addr) : List V → List V → Hp → VK → Prop := fun xs zs H Q => ∃ (l : Addr) (F : Hp) (al : List Addr) (ts : List T) (vs : List V), xs = [.ref l] ∧ zs = [.ref fa] ∧ FLe F H ∧ SqL X.K H l vs ∧ RepL X.K F al ts vs ∧ sortKOk φ ts = true ∧
  ∀ q, H q = none → Q (.ref q) (upd H q (.lst (((vs.zip ts).mergeSort (leKP φ)).map (·.1))))
section
variable {X : Cx} {CX : CXT} {k : Nat} {f : Addr} {fd : FuncData} {p : Str} {φ : Fn}
theorem cr_sortedKey (hFn : FnOk X.prog X.w X.K X.mg X.base CX k f fd [p] (spT X.K false 1 φ)) (hb : Binds X.K fd [p] []) (hr : Room k X.A.in1.in1) (hu : X.A.units + 160 < cLine)
    (hcx : ∀ outer D s s' e, ¬ CX outer D s (fun _ _ _ => False) e s') : CallRK X (.builtin "sorted") [Str.ofString "key"] (rSortK X φ f) := by
  intro pins s σ H xs zs us ws Q I r1 r2 ⟨l, F, al, ts, vs, e1, e2, hFH, hl, rt, hok, q⟩
  subst e1 e2
  rw [Vals.ref1 r1, Vals.ref1 r2]
  unfold sortKOk at hok
  rw [Bool.and_eq_true, Bool.and_eq_true, Bool.and_eq_true] at hok
  obtain ⟨nc, hk1, hk2, hk3⟩ := hok
  have hal := ordAllB_is hk2
  have hsk := sortOrdB_is hk3
  obtain ⟨its, rv, pl, hz⟩ := I.list hl
  have hlen := RepL.length rt
  have hli := rv.length
  have key : ∀ t ∈ ts, φ [t] [] = .ok (keyT1 φ t) [] ∧ flatT (keyT1 φ t) = true ∧ (kdT φ t).depth ≤ 150 := fun t m => keyOk_spec (List.all_eq_true.mp hk1 t m)
  refine sorted_of_sort pl.isList (by rw [← hli]; exact hz) (ksk_s1 _ _) (fun _ => ksk_l1 _ _) fun E' => ?_
  show wpAny (model X.prog X.w) X.A.in1.in1 (Builtin.«list.sort» ⟨[.ref (s.heap.objs.size + 1)], [(Str.ofString "key", .ref f)]⟩) _ E' { s with heap := copyHeap s.heap its }
  rw [ksk_t1]
  -- the addresses
  have ho := copyHeap_at s.heap its
  have ha : s.heap.objs.size + 1 < (copyHeap s.heap its).objs.size := Heap.lt_size ho
  obtain ⟨c1, ho1⟩ : ∃ e1, ((copyHeap s.heap its).update (s.heap.objs.size + 1) (Obj.mapSeq fun _ => (#[] : Array Value))).get? (s.heap.objs.size + 1) = some (seqObj "list" #[] e1) := ⟨_, get?_update_seq ho fun _ => #[]⟩
  have hkS : (((copyHeap s.heap its).update (s.heap.objs.size + 1) (Obj.mapSeq fun _ => (#[] : Array Value))).push (seqObj "tuple" its.toArray 0)).objs.size = (copyHeap s.heap its).objs.size + 1 := by rw [size_push', Heap.size_update]
  unfold ksk_tree
  refine wpAny_bind (listItems_at ho rfl ?_)
  refine wpAny_bind (listUpdate_at ho rfl ?_ (by rw [List.size_toArray, ← hli]; exact hz) (Nat.zero_le _))
  refine wpAny_bind (seqEpoch_at ho1 rfl ?_)
  refine wpAny_bind (wpAny_newTuple ?_ (by show its.length ≤ _; rw [← hli]; exact hz))
  refine wpAny_bind (wpAny_newList ?_ (Nat.zero_le _))
  refine wpAny_holding ?_
  generalize hS : (((copyHeap s.heap its).update (s.heap.objs.size + 1) (Obj.mapSeq fun _ => (#[] : Array Value))).push (seqObj "tuple" its.toArray 0)).objs.size = S at *
  have aS : S ≠ s.heap.objs.size + 1 := by omega
  have up0 : ∀ b o, s.heap.get? b = some o → (sortingHeap (copyHeap s.heap its) (s.heap.objs.size + 1) its).get? b = some o := fun b o e => sorting_copy_old e
  have fA : FpOk X pins H (s.heap.objs.size + 1) := I.fpOk (Nat.le_succ _) (I.hok.fresh (Nat.le_succ _))
  have szS : s.heap.objs.size ≤ S := by omega
  have fS : FpOk X pins H S := I.fpOk szS (I.hok.fresh szS)
  have nA : s.heap.get? (s.heap.objs.size + 1) = none := Heap.get?_none_of_le (Nat.le_succ _)
  have nS : s.heap.get? S = none := Heap.get?_none_of_le szS
  have kA : X.K.lookup (s.heap.objs.size + 1) = none := by
    cases e : X.K.lookup (s.heap.objs.size + 1) with
    | none => rfl
    | some o => rw [I.kIn _ _ e] at nA; cases nA
  have kS : X.K.lookup S = none := by
    cases e : X.K.lookup S with
    | none => rfl
    | some o => rw [I.kIn _ _ e] at nS; cases nS
  have I0 : Inv X pins σ H { s with heap := sortingHeap (copyHeap s.heap its) (s.heap.objs.size + 1) its } := I.kept (t' := s.toks) up0
  show wpAny (model X.prog X.w) X.A.in1.in1 (ksk_rest (s.heap.objs.size + 1) (.ref f) false its.toArray c1 (.ref S)) _ E' { s with heap := sortingHeap (copyHeap s.heap its) (s.heap.objs.size + 1) its }
  have gS : (sortingHeap (copyHeap s.heap its) (s.heap.objs.size + 1) its).get? S = some (seqObj "list" #[] 0) := by
    rw [← hS]
    exact Heap.get?_push_size _ rfl
  have gA : (sortingHeap (copyHeap s.heap its) (s.heap.objs.size + 1) its).get? (s.heap.objs.size + 1) = some (seqObj "list" #[] c1) := Heap.get?_push_of_some _ (Heap.get?_push_of_some _ ho1)
  unfold ksk_rest
  refine wpAny_bind (wpAny_rule ?_)
  first
    | rw [List.forIn_toArray]
    | (rw [← Array.forIn_toList]; simp only [List.toList_toArray])
    | rw [← Array.forIn_toList]
  have hfsN : ∀ {s' : Shared}, Inv X pins σ H s' → ∀ b ∈ frs X.stack, H b = none := fun {s'} I' => I'.env0.frf
  refine wpAny_bind (ksk_fold (fun i s' => ∃ kA e, Inv X pins σ H s' ∧ s'.os = s.os ∧ Un (frs X.stack) [] H H s.heap s'.heap ∧ s'.heap.get? S = some (seqObj "list" kA e) ∧ s'.heap.get? (s.heap.objs.size + 1) = some (seqObj "list" #[] c1) ∧ EachIs (fun v k => ReadsBut [S, s.heap.objs.size + 1] s'.heap v k) kA.toList ((ts.map (kdT φ)).take i)) its 0 _
    ⟨#[], 0, I0, rfl, Un.kept up0, gS, gA, by rw [List.take_zero]; exact EachIs.nil⟩ ?step ?done)
  case step =>
    rintro j x s' hx ⟨kA', e, I1, hos, U, g1, g2, hk⟩
    simp only [Nat.zero_add] at hk ⊢
    have hj : j < its.length := (List.getElem?_eq_some_iff.mp hx).1
    have hjv : j < vs.length := by omega
    have hjt : j < ts.length := by omega
    obtain ⟨t, et⟩ : ∃ t, ts[j]? = some t := ⟨_, List.getElem?_eq_getElem hjt⟩
    obtain ⟨y, ey, ry⟩ := RepL.get rt et
    obtain ⟨u0, eu0, ru0⟩ := rv.get ey
    rw [hx] at eu0
    cases eu0
    have mt := List.mem_of_getElem? et
    have nct : noCel t = true := by
      have : ∀ (l : List T), noCels l = true → ∀ y ∈ l, noCel y = true := by
        intro l
        induction l with
        | nil => intro _ y hy; cases hy
        | cons a l ih =>
          intro hn y hy
          rw [noCels, Bool.and_eq_true] at hn
          rcases List.mem_cons.mp hy with rfl | hy
          · exact hn.1
          · exact ih hn.2 y hy
      exact this ts nc t mt
    have oD : HOk X.prog X.w (datH F) s'.heap := hok_shrink (fun a o e => ⟨hFH _ _ (datH_some e).1, (datH_some e).2⟩) I1.hok
    have e1 := I1.env0.in1.in1
    have e0 : Env0 X.prog X.w X.K X.mg X.base X.A.in1.in1 X.stack s' (datH F) := ⟨e1.frames, e1.mod, fun b o q => ⟨(e1.bs b o q).1, none_dat hFH (e1.bs b o q).2⟩, e1.bsz, e1.funs, fun b hb => none_dat hFH (e1.frf b hb), oD, e1.bare⟩
    have hz : kA'.size ≤ its.length := by
      have h1 := hk.length
      rw [Array.length_toList, List.length_take] at h1
      omega
    refine wpAny_bind (wpAny_attempt (pure_run (F := F) (al := al) (ts := [t]) (t := keyT1 φ t) (m := false) (vs := [y]) hFn hb hr e0 (fun s' e => hcx _ _ _ _ _) (.cons ru0 .nil) rfl ⟨y, [], rfl, ry, rfl⟩ (by rw [noCels, nct]; rfl) (key t mt).1 fun u yv s2 H' G' lg g rr ru hok un cl => ?_))
    obtain ⟨v', H2, I2, _, hQ⟩ := I1.after (Q := fun _ Hx => Hx = H) ⟨yv, H, cl.os, cl.bare, un_full hFH cl.un, hok_full hFH I1.hok cl.un e1.frf cl.hok, ru, rfl⟩
    subst hQ
    have uS : ∀ b, FpOk X pins H2 b → ∀ o, s'.heap.get? b = some o → s2.heap.get? b = some o := fun b fb o e => cl.un.keep b o e (none_dat hFH fb.1) (fun z => by
      rcases List.mem_cons.mp (I1.stkSub b z) with z | z
      · exact fb.2.1 z
      · exact fb.2.2.1 z) (by simp)
    have gF : ∀ b, FpOk X pins H2 b → (∃ o, s'.heap.get? b = some o) → G'.F b = none := fun b fb ⟨o, e⟩ => by
      cases z : G'.F b with
      | none => rfl
      | some o' =>
        have := g.fh _ _ z
        rw [un.free b o e (none_dat hFH fb.1) (by simp)] at this
        cases this
    have newR : ReadsBut [S, s.heap.objs.size + 1] s2.heap u (kdT φ t) := reads_but (P := X.prog) (w := X.w) (F := G'.F) (al := G'.al) I2.kIn (hok_shrink (fun a o e => ⟨g.fh _ _ (datH_some e).1, (datH_some e).2⟩) hok) (fun b hb => by
      rcases List.mem_cons.mp hb with rfl | hb
      · exact ⟨gF _ fS ⟨_, g1⟩, kS⟩
      · rw [List.mem_singleton.mp hb]; exact ⟨gF _ fA ⟨_, g2⟩, kA⟩) (key t mt).2.1 rr ru
    have g1' := uS _ fS _ g1
    have g2' := uS _ fA _ g2
    have U2 : Un (frs X.stack) [] H2 H2 s.heap s2.heap := U.trans (un_full hFH cl.un)
    have s1 := Heap.SameBut.update s2.heap S (Obj.mapSeq (·.push u))
    obtain ⟨c2, hc2⟩ : ∃ c2, (s2.heap.update S (Obj.mapSeq (·.push u))).get? S = some (seqObj "list" (kA'.push u) c2) := ⟨_, get?_update_seq g1' (·.push u)⟩
    try dsimp only
    refine wpAny_bind (listUpdate_at g1' rfl ?_ (by rw [← hli] at hz; exact Nat.le_trans hz ‹vs.length ≤ sizeLine›) (Nat.le_trans (Nat.le_of_eq (Array.size_push ..)) (Nat.succ_le_succ (by rw [← hli] at hz; exact Nat.le_trans hz ‹vs.length ≤ sizeLine›))))
    have kp : ∀ b o, b ∉ [S] → s2.heap.get? b = some o → (s2.heap.update S (Obj.mapSeq (·.push u))).get? b = some o := fun b o hb e => (s1.2 b (by simpa using hb)).trans e
    have kp2 : ∀ b o, b ∉ [S, s.heap.objs.size + 1] → s2.heap.get? b = some o → (s2.heap.update S (Obj.mapSeq (·.push u))).get? b = some o := fun b o hb e => kp b o (fun z => hb (by simp at z; simp [z])) e
    refine wpAny_pure ⟨rfl, kA'.push u, c2, I2.turnedL (t' := s2.toks) (ch := [S]) kp (fun b hb => by rw [List.mem_singleton.mp hb]; exact fS), cl.os.trans hos, un_but U2 kp (fun b hb => by rw [List.mem_singleton.mp hb]; exact nS), hc2, (s1.2 _ aS.symm).trans g2', ?_⟩
    have ek : (ts.map (kdT φ)).take (j + 1) = (ts.map (kdT φ)).take j ++ [kdT φ t] := by
      rw [List.take_add_one, List.getElem?_map, et]
      simp
    have ea : (kA'.push u).toList = kA'.toList ++ [u] := by simp
    rw [ea, ek]
    refine each_snoc (R := fun (u' : Value) (d : PyData) => ReadsBut [S, s.heap.objs.size + 1] (s2.heap.update S (Obj.mapSeq (·.push u))) u' d) (newR.moved kp2) ?_
    exact hk.mono fun u' d q => (q.tk (tk_un oD un hok)).moved kp2
  case done =>
    rintro s' ⟨kA', e, I1, hos, U, g1, g2, hk⟩
    have e3 : (ts.map (kdT φ)).take (0 + its.length) = ts.map (kdT φ) := List.take_of_length_le (by rw [List.length_map]; omega)
    rw [e3] at hk
    have hk' : EachIs (fun v k => ∃ as, Reads s'.heap v k as) kA'.toList (ts.map (kdT φ)) := hk.mono fun v k q => ⟨[], q.all⟩
    have hsz : kA'.size = its.length := by
      have h1 := hk'.length
      rw [Array.length_toList, List.length_map] at h1
      omega
    have hzi : its.length ≤ sizeLine := by rw [← hli]; exact hz
    try dsimp only
    refine wpAny_bind (listItems_at g1 rfl ?_)
    refine keyH_end (κ := dataKind s'.heap (ts.map (kdT φ))) (h₁ := PySem.W.hideAll s'.heap [S]) (fun b o _ e => PySem.W.of_hideAll _ e) (PySem.W.hideAll_none _ (by simp)) g1 g2 aS
      (SortsAt.ord (s := s') hk' hal hsk fun d hd => ?_) hsz hzi fun h' tk c k3 n3 => ⟨rfl, ?_⟩
    · obtain ⟨t, mt, rfl⟩ := List.mem_map.mp hd
      have := (key t mt).2.2
      show X.A.units + 1 + 1 + (kdT φ t).depth < cLine
      omega
    · have kp : ∀ b o, b ∉ [S, s.heap.objs.size + 1] → s'.heap.get? b = some o → h'.get? b = some o := fun b o hb e => k3 b o (fun z => hb (by simp [z])) (PySem.W.hideAll_get _ e fun z => hb (by simp at z; simp [z]))
      have nb : ∀ b ∈ [S, s.heap.objs.size + 1], s.heap.get? b = none := fun b hb => by
        rcases List.mem_cons.mp hb with rfl | hb
        · exact nS
        · rw [List.mem_singleton.mp hb]; exact nA
      have I3 : Inv X pins σ H { s' with heap := h', toks := tk } := I1.turnedL (t' := tk) (ch := [S, s.heap.objs.size + 1]) kp fun b hb => by
        rcases List.mem_cons.mp hb with rfl | hb
        · exact fS
        · rw [List.mem_singleton.mp hb]; exact fA
      have U3 := un_but U kp nb
      -- the items, sorted
      have eB : EachIs (fun v (b : V × T) => L2.RelV b.1 v) its (vs.zip ts) := by
        have : (vs.zip ts).map (·.1) = vs := by
          rw [List.map_fst_zip]
          omega
        have rv' : Vals ((vs.zip ts).map (·.1)) its := by rw [this]; exact rv
        exact vals_each rv'
      have eK : EachIs (fun v (b : V × T) => ∃ as, Reads s'.heap v (kdT φ b.2) as) kA'.toList (vs.zip ts) := by
        have : (vs.zip ts).map (fun b => kdT φ b.2) = ts.map (kdT φ) := by
          have h1 : (vs.zip ts).map (fun b => kdT φ b.2) = ((vs.zip ts).map (·.2)).map (kdT φ) := by rw [List.map_map]; rfl
          rw [h1, List.map_snd_zip]
          omega
        exact each_of_map (R := fun v d => ∃ as, Reads s'.heap v d as) (fun b : V × T => kdT φ b.2) (by rw [this]; exact hk')
      have out := sortVals_each (κ := dataKind s'.heap (ts.map (kdT φ))) (rev := false) (fun b : V × T => keyToks (kdT φ b.2)) eB (each_and eK fun v b hb rb => by
        obtain ⟨as, rb⟩ := rb
        exact ordKind_some hal (List.mem_map.mpr ⟨b.2, (List.of_mem_zip hb).2, rfl⟩) rb)
      have rout : Vals (((vs.zip ts).mergeSort (leKP φ)).map (·.1)) (sortVals (dataKind s'.heap (ts.map (kdT φ))) false kA'.toList its) := each_vals out
      have lz : (((vs.zip ts).mergeSort (leKP φ)).map (·.1)).length ≤ sizeLine := by
        rw [List.length_map, List.length_mergeSort, List.length_zip]
        omega
      have hn : H (s.heap.objs.size + 1) = none := fA.1
      have hokF : HOk X.prog X.w (upd H (s.heap.objs.size + 1) (.lst (((vs.zip ts).mergeSort (leKP φ)).map (·.1)))) h' := I3.hok.laidN (fun _ _ e => e) hn ⟨lz, _, c, rout, n3⟩
      refine ⟨.ref _, _, ?_, rfl, q _ hn⟩
      refine I.call' (s' := { s' with heap := h', toks := tk }) (ch := []) hos ⟨U3.keep, U3.slot, fun b o e n hx => ?_, U3.there, fun b xs e => ?_, fun b o u e => ?_, fun b ps e => ?_⟩ hokF I3.bare fun b z => absurd z (by simp)
      · rw [upd_ne (fun z => by rw [z, nA] at e; cases e)]; exact n
      · rw [upd_ne (ne_of_none e hn)]; exact e
      · rw [upd_ne (ne_of_none e hn)]; exact e
      · exact ⟨#[], by rw [upd_ne (ne_of_none e hn), e]; simp⟩
end
end TL
namespace TL
open PySem PySem.Spec L2
def eSortK (φ : Fn) (ev : Ev) : Ev := fun l s => (ev l s).bind fun x s1 => match x with
  | .lst ts => if sortKOk φ ts = true then .ok (.lst (sortKT φ ts)) s1 else .bad
  | _ => .bad
section
variable {X : Cx} {W : WX} {CX : CXT} {k : Nat} {φ : Fn} {y q : Str} {e : Expr} {ev : Ev} {p yp kp pos : Pos}
theorem t_sortKey (C : CalP X.prog X.w X.K X.mg X.base CX k y [q] false φ) (hr : Room k X.A.in1.in1) (hu : X.A.units + 160 < cLine) (hcx : ∀ outer D s s' e, ¬ CX outer D s (fun _ _ _ => False) e s')
    (hgy : Gl X y) (hg : Gl X "sorted") (hm : X.mg "sorted" = none) (hv : bootBuiltins "sorted" = some (.builtin "sorted")) (ha : TPE X W e ev)
    (hdy : (y == ("__debug__" : Str)) = false := by decide)
    (hs : starEach [e] X.env = (false, eval e X.env) :: starEach [] X.env := by rfl)
    (he : backTo pos (starEach [e] X.env) = (false, eval e X.env) :: backTo pos (starEach [] X.env) := by rfl) (hpl : (backTo pos (starEach [e] X.env)).any (·.1) = false := by rfl) :
    TPO X W (.Call (.Name "sorted" p) [e] [⟨some "key", .Name y yp, kp⟩] pos) (eSortK φ ev) := by
  obtain ⟨f, fd, F, hmf, hk, hb⟩ := C
  refine PE.weak (pe_callBK (cr_sortedKey F hb hr hu hcx) hg hm hv (pa_cons ha pa_nil (by exact hs)) (pk_cons (pe_glob hgy hmf (v := .ref f) rfl hdy) pk_nil) (by decide) (by decide) he hpl) fun σ H Q ⟨G, loc, sh, ok, pp⟩ => ?_
  show lift X.K W ev σ H (fun x H1 => rSortK X φ f [x] [.ref f] H1 Q)
  refine ⟨G, loc, sh, ok, (post.bind (Rp := rpV X.K) pp).imp ?_⟩
  rintro v H1 ⟨G1, t, s1, l1, ok1, r1, p1⟩
  cases t with
  | lst ts =>
    obtain ⟨l, vs, rfl, h1, h2, h3⟩ := r1
    dsimp only at p1
    by_cases hs : sortKOk φ ts = true
    case neg => rw [if_neg hs] at p1; exact p1.elim
    rw [if_pos hs] at p1
    refine ⟨l, G1.F, G1.al, ts, vs, rfl, rfl, ok1.fh, .of (ok1.fh _ _ h1), h2, hs, ?_⟩
    obtain ⟨q1, q2, q3⟩ := pairs_repL h2
    have m2 := List.map_mergeSort (r := leKP φ) (s := fun x y => leT (keyT1 φ x) (keyT1 φ y)) (f := fun p : V × T => p.2) (l := vs.zip ts) fun a _ b _ => rfl
    rw [q3] at m2
    have rr := repL_pairs (K := X.K) (F := G1.F) (al := G1.al) (L := (vs.zip ts).mergeSort (leKP φ)) fun p hp => (q1 p ((List.mergeSort_perm _ _).mem_iff.mp hp)).1
    rw [m2] at rr
    exact ok1.newLO rr (by show (ts.mergeSort _).length ≤ _; rw [List.length_mergeSort]; exact h3) p1
  | _ => exact p1.elim
end
end TL
set_option maxHeartbeats 2000000
/-! the T-layer, 36: what the head shows of an exception class of the text; raising -/
namespace TL
open PySem PySem.Spec PyProof.Rows L2
/-- .. that lets none out -/
theorem fn_tln {P : Program} {w : World} {K : PySem.W.Frag} {mg : Str → Option Value} {base : Heap} {x qual : Str} {params : Arguments} {body : List Stmt} {scope : Scope} {dvs : List V} {kws : List (Str × V)} {f : Addr} {fd : FuncData} {CX : CXT} {N ps : List Str} {k : Nat} {m : Bool} {sv : Sv} (F : FunD K x qual params body scope dvs kws f fd) (S : FnScope N ps scope)
    (hbody : ∀ (cdv : Value) (A : Around) (outer : List Env) (s : Shared) (H : Hp) (E : XK), Room (k + 3) (A.deeper (envOfC qual scope s.heap.objs.size f cdv)) → Room k (A.deeper (envOfC qual scope s.heap.objs.size f cdv)) → Room k (A.deeper (envOfC qual scope s.heap.objs.size f cdv)).in1 → Room k (A.deeper (envOfC qual scope s.heap.objs.size f cdv)).in1.in1 → TPSs (cxOf CX P w K mg base N qual scope f cdv A outer s H E) W0 m body sv) :
    FnOk P w K mg base CX (k + 4) f fd ps (spT K m ps.length (runB0 m N.length sv)) :=
  fn_tl0 (k := k + 3) F S fun cdv A outer s H E hr => hbody cdv A outer s H E hr (hr.mono (by omega)) (Room.in1 (hr.mono (by omega))) (Room.in1 (Room.in1 (hr.mono (by omega))))
end TL
set_option maxHeartbeats 2000000
/-! the T-layer, 37: the head of a law with exceptions and lambdas: the interpreter's own table is looked at, too -/
namespace TL
open PySem PySem.Spec PyProof.Rows L2
def asY (g : Addr → Option Obj) (n : Nat) : List Addr := He.asD g n ++ [cStatics]
def obsY (n : Nat) (fa : List He.Fa) (fn : List He.DefD) (ts : List He.Tab) (tf : List He.Defn) (ex : PySem.W.Frag → Bool) (g : Addr → Option Obj) : He.AlX :=
  (He.obsT fa fn ts (He.frT g (asY g n)), ex (He.frT g (asY g n)) && He.tabsB g tf (He.frT g (asY g n)))
theorem says_of {as : List Addr} {fa : List He.Fa} {fn : List He.DefD} {ts : List He.Tab} {tf : List He.Defn} {ex : PySem.W.Frag → Bool} {w : World} {h : Heap}
    (e1 : He.obsT fa fn ts (He.frT h.get? as) = He.valT fn ts w) (e2 : (ex (He.frT h.get? as) && He.tabsB h.get? tf (He.frT h.get? as)) = true) : He.SaysX fa fn ts tf ex w h (He.frT h.get? as) := by
  obtain ⟨h1, h2⟩ := He.ba e2
  have key : ∀ p ∈ tf, PySem.W.codeHdIn (He.frT h.get? as) (He.cT (He.frT h.get? as) p).1 (He.cT (He.frT h.get? as) p).2 = true ∧ ∃ o, h.get? (He.cT (He.frT h.get? as) p).2 = some o ∧ He.emptyTab o = true := fun p hp => by
    obtain ⟨h3, h4⟩ := He.ba (List.all_eq_true.mp h2 p hp)
    refine ⟨h3, ?_⟩
    cases q : h.get? (He.cT (He.frT h.get? as) p).2 with
    | none => rw [q] at h4; cases h4
    | some o => rw [q] at h4; exact ⟨o, rfl, h4⟩
  refine ⟨e1, h1, fun p hp => (key p hp).1, fun p hp => ?_, fun p hp => ?_⟩
  · obtain ⟨_, o, q, z⟩ := key p hp
    exact He.frT_none q z
  · obtain ⟨_, o, q, z⟩ := key p hp
    rw [q, He.emptyTab_eq z]
def hookY (n : Nat) (fa : List He.Fa) (fn : List He.DefD) (ts : List He.Tab) (tf : List He.Defn) (ex : PySem.W.Frag → Bool) : PySem.W.Hook where
  α := He.AlX
  obs := fun s => obsY n fa fn ts tf ex s.heap.get?
  val := fun w => He.valX fn ts w
  says := fun w h => ∃ K : PySem.W.Frag, K.In h ∧ He.SaysX fa fn ts tf ex w h K
  of := fun _ _ e => ⟨_, He.frT_in, says_of (congrArg (fun z : He.AlX => z.1) e) (congrArg (fun z : He.AlX => z.2) e)⟩
  keeps := fun _ _ _ ⟨K, hK, c⟩ k => ⟨K, PySem.W.Frag.In.keeps hK k, ⟨c.t, c.more, c.hd, c.out, fun p hp => k _ _ (c.empty p hp)⟩⟩
theorem obsY_eq {n : Nat} {fa : List He.Fa} {fn : List He.DefD} {ts : List He.Tab} {tf : List He.Defn} {ex : PySem.W.Frag → Bool} {g : Addr → Option Obj} {s : Shared} (h : ∀ a, g a = s.heap.get? a) : obsY n fa fn ts tf ex g = (hookY n fa fn ts tf ex).obs s := by
  have e : g = s.heap.get? := funext h
  rw [e] <;> rfl
/-! ### a module's table with text keys -/
end TL
set_option maxHeartbeats 2000000
namespace TL
open PySem PySem.Spec PyProof.Rows L2
end TL
set_option maxHeartbeats 4000000
/-! the T-layer, 39: comprehensions of two clauses -/
namespace TL
open PySem PySem.Spec PyProof.Rows L2
def comp2L (tt : Tgt) (c : Et) (vs1 : List Nat) (it1 : EvL) (tt1 : Tgt) (c1 : Et) (elt : Ev) : List T → Loc → Sh → Res (List T)
  | [], _, s => .ok [] s
  | x :: xs, l, s => match setT tt x l with
    | none => .bad
    | some l1 => (c l1 s).bind fun k s1 => if k then (it1 l1 s1).bind fun items s2 => if noOwn l1 vs1 then (compL tt1 c1 elt items (wipeL l1 vs1) s2).bind fun ys s3 => (comp2L tt c vs1 it1 tt1 c1 elt xs l s3).bind fun zs s4 => .ok (ys ++ zs) s4 else .bad
      else comp2L tt c vs1 it1 tt1 c1 elt xs l s1
def eComp2 (vs : List Nat) (it : EvL) (tt : Tgt) (c : Et) (vs1 : List Nat) (it1 : EvL) (tt1 : Tgt) (c1 : Et) (elt : Ev) : Ev := fun l s => if noOwn l vs then (it l s).bind fun items s1 => (comp2L tt c vs1 it1 tt1 c1 elt items (wipeL l vs) s1).noexc.bind dLst else .bad
end TL
set_option maxHeartbeats 2000000
/-! the T-layer, 40: an own list is given away ahead of a statement that reads it as a value -/
namespace TL
open PySem PySem.Spec PyProof.Rows L2
end TL
set_option maxHeartbeats 2000000
/-! the T-layer, 41: a module's tuple of texts -/
namespace TL
open PySem PySem.Spec PyProof.Rows L2
end TL
/-! the T-layer, 42: a, b, c = x, y, z -/
namespace TL
open PySem PySem.Spec PyProof.Rows L2
end TL
set_option maxHeartbeats 0
namespace TL
open PySem L2
noncomputable def b__law_open : Sv := (sRet (eA dLst (aCons (eA biList (aCons (eSl opSl (eVar 0) oNone (oSome (eC (.int 63)))) aNil)) (aCons (eC (.int 0)) (aCons (eC (.int 0)) (aCons (eC (.int 43)) aNil))))))
noncomputable def b__law_pull : Sv := (sSeq (sIf (cAnd (eT (e2 opLt (e2 opIx (eVar 0) (eC (.int 2))) (eVar 1))) (eT (e2 opLt (e2 opIx (eVar 0) (eC (.int 1))) (eA biLen (aCons (e2 opIx (eVar 0) (eC (.int 0))) aNil))))) (sSeq (sAsg 2 (e2 opIx (e2 opIx (eVar 0) (eC (.int 0))) (e2 opIx (eVar 0) (eC (.int 1))))) (sSeq (sPut 0 (eC (.int 1)) (e2 opAdd (e2 opIx (eVar 0) (eC (.int 1))) (eC (.int 1)))) (sSeq (sPut 0 (eC (.int 2)) (eC (.int 0))) (sIf (eT (e2 opGe (eVar 2) (e2 opPow (eC (.int 10)) (eC (.int 18))))) (sPut 0 (eC (.int 2)) (eVar 2)) (sPut 0 (eC (.int 3)) (e2 opMod (e2 opAdd (e2 opAdd (e2 opMul (e2 opIx (eVar 0) (eC (.int 3))) (eC (.int 69621))) (e2 opMul (e2 opMod (eVar 2) (eC (.int 1000000007))) (eC (.int 39373)))) (eC (.int 29))) (eC (.int 2147483629)))))))) sNil) (sSeq (sIf (eT (e2 opGe (e2 opIx (eVar 0) (eC (.int 2))) (eVar 1))) (sSeq (sAsg 3 (e2 opMod (e2 opIx (eVar 0) (eC (.int 2))) (eVar 1))) (sSeq (sPut 0 (eC (.int 2)) (e2 opFdiv (e2 opIx (eVar 0) (eC (.int 2))) (eVar 1))) (sRet (eVar 3)))) sNil) (sSeq (sPut 0 (eC (.int 3)) (e2 opMod (e2 opAdd (e2 opAdd (e2 opPow (e2 opIx (eVar 0) (eC (.int 3))) (eC (.int 3))) (e2 opMul (e2 opIx (eVar 0) (eC (.int 3))) (eC (.int 40692)))) (eC (.int 1013904243))) (eC (.int 2147483629)))) (sRet (e2 opMod (e2 opAdd (e2 opFdiv (e2 opIx (eVar 0) (eC (.int 3))) (eC (.int 67))) (e2 opMul (e2 opMod (e2 opIx (eVar 0) (eC (.int 3))) (eC (.int 8191))) (eC (.int 31)))) (eVar 1))))))
noncomputable def b__law_any (p__law_pull : Fn) : Sv := (sRet (e2 opIx (eVar 1) (eCall p__law_pull (aCons (eVar 0) (aCons (eA biLen (aCons (eVar 1) aNil)) aNil)))))
noncomputable def b__law_num : Sv := (sRet (eAnd (eA biIsI (aCons (eVar 0) (aCons (eC (.ty "int")) aNil))) (eNot (eA biIsI (aCons (eVar 0) (aCons (eC (.ty "bool")) aNil))))))
noncomputable def b__law_like (p__law_like : Fn) (p__law_num : Fn) : Sv := (sSeq (sIf (eT (e2 opIsN (eVar 1) (eC .non))) (sRet (e2 opIsN (eVar 0) (eC .non))) sNil) (sSeq (sIf (eT (eA biIsI (aCons (eVar 1) (aCons (eC (.ty "bool")) aNil)))) (sRet (eAnd (eA biIsI (aCons (eVar 0) (aCons (eC (.ty "bool")) aNil))) (e2 opEq (eVar 0) (eVar 1)))) sNil) (sSeq (sIf (eT (eA biIsI (aCons (eVar 1) (aCons (eC (.ty "int")) aNil)))) (sRet (eAnd (eCall p__law_num (aCons (eVar 0) aNil)) (e2 opEq (eVar 0) (eVar 1)))) sNil) (sSeq (sIf (eT (eA biIsI (aCons (eVar 1) (aCons (eC (.ty "str")) aNil)))) (sRet (eAnd (eA biIsI (aCons (eVar 0) (aCons (eC (.ty "str")) aNil))) (e2 opEq (eVar 0) (eVar 1)))) sNil) (sSeq (sIf (eT (eA biIsI (aCons (eVar 1) (aCons (eC (.ty "dict")) aNil)))) (sSeq (sIf (cOr (cNot (eT (eA biIsI (aCons (eVar 0) (aCons (eC (.ty "dict")) aNil))))) (eT (e2 opNe (eA biSort (aCons (eVar 0) aNil)) (eA biSort (aCons (eVar 1) aNil))))) (sRet (eC (.bl false))) sNil) (sRet (eA biAll (aCons (eComp [2] (itN 1) (.nm 2) cYes (eCall p__law_like (aCons (e2 opIx (eVar 0) (eVar 2)) (aCons (e2 opIx (eVar 1) (eVar 2)) aNil)))) aNil)))) sNil) (sSeq (sIf (cOr (eT (e2 opNe (eA biIsI (aCons (eVar 1) (aCons (eC (.ty "tuple")) aNil))) (eA biIsI (aCons (eVar 0) (aCons (eC (.ty "tuple")) aNil))))) (eT (e2 opNe (eA biIsI (aCons (eVar 1) (aCons (eC (.ty "list")) aNil))) (eA biIsI (aCons (eVar 0) (aCons (eC (.ty "list")) aNil)))))) (sRet (eC (.bl false))) sNil) (sRet (eAnd (e2 opEq (eA biLen (aCons (eVar 0) aNil)) (eA biLen (aCons (eVar 1) aNil))) (eA biAll (aCons (eComp [3] (itA rg1 (aCons (eA biLen (aCons (eVar 1) aNil)) aNil)) (.nm 3) cYes (eCall p__law_like (aCons (e2 opIx (eVar 0) (eVar 3)) (aCons (e2 opIx (eVar 1) (eVar 3)) aNil)))) aNil))))))))))
noncomputable def b__law_name (p__law_pull : Fn) : Sv := (sSeq (sIf (eT (e2 opEq (eCall p__law_pull (aCons (eVar 0) (aCons (eC (.int 9)) aNil))) (eC (.int 0)))) (sRet (e2 opMul (e2 opIx (eC (.str "abcdefghijklmnopqrstuvwxyz")) (eCall p__law_pull (aCons (eVar 0) (aCons (eC (.int 26)) aNil)))) (e2 opAdd (eC (.int 1)) (eCall p__law_pull (aCons (eVar 0) (aCons (eC (.int 8)) aNil)))))) sNil) (sRet (e2 opIx (eA dLst (aCons (eC (.str "a")) (aCons (eC (.str "b")) (aCons (eC (.str "c")) (aCons (eC (.str "a")) (aCons (eC (.str "b")) (aCons (eC (.str "ab")) aNil))))))) (eCall p__law_pull (aCons (eVar 0) (aCons (eC (.int 6)) aNil))))))
noncomputable def b__law_plain (p__law_any : Fn) (p__law_pull : Fn) : Sv := (sSeq (sAsg 1 (eCall p__law_pull (aCons (eVar 0) (aCons (eC (.int 9)) aNil)))) (sSeq (sIf (eT (e2 opLt (eVar 1) (eC (.int 5)))) (sRet (eIf (eT (e2 opEq (eVar 1) (eC (.int 0)))) (eC .non) (e2 opSub (eCall p__law_pull (aCons (eVar 0) (aCons (eC (.int 6)) aNil))) (eC (.int 1))))) sNil) (sSeq (sAsg 2 (eA dLst (aCons (eC (.str "")) (aCons (eC (.str "a")) (aCons (eC (.str "b")) (aCons (eC (.str "ab")) (aCons (eC (.str "5")) (aCons (eC (.str "x y")) (aCons (eC (.str "zzzzzzzzzzzz")) (aCons (eC (.str " ")) aNil)))))))))) (sSeq (sIf (eT (e2 opEq (eVar 1) (eC (.int 5)))) (sAsg 2 (eA dLst (aCons (e2 opSub (e2 opPow (eC (.int 10)) (eC (.int 29))) (eC (.int 1))) (aCons (e2 opSub (eC (.int 0)) (e2 opPow (eC (.int 10)) (eC (.int 29)))) (aCons (eC (.int 100)) (aCons (e1 opNeg (eC (.int 7))) (aCons (eCall p__law_pull (aCons (eVar 0) (aCons (e2 opPow (eC (.int 10)) (eC (.int 9))) aNil))) aNil))))))) sNil) (sSeq (sIf (eT (e2 opEq (eVar 1) (eC (.int 6)))) (sSeq (sAsg 3 (eCall p__law_any (aCons (eVar 0) (aCons (eA dLst (aCons (eC (.str "whiteoak x")) (aCons (eC (.str "aaaaaaaaaaa")) (aCons (eC (.str "x y x y")) (aCons (eC (.str "0000000000")) aNil))))) aNil)))) (sAsg 2 (eA dLst (aCons (eSl opSl (e2 opAdd (e2 opAdd (eSl opSl (eVar 3) oNone (oSome (eCall p__law_pull (aCons (eVar 0) (aCons (eC (.int 12)) aNil))))) (e2 opIx (eC (.str "abcxyz019 ")) (eCall p__law_pull (aCons (eVar 0) (aCons (eC (.int 10)) aNil))))) (eVar 3)) oNone (oSome (eC (.int 12)))) aNil)))) sNil) (sRet (eCall p__law_any (aCons (eVar 0) (aCons (eVar 2) aNil)))))))))
noncomputable def b__law_value (p__law_pull : Fn) (p__law_value : Fn) (p__law_record : Fn) (p__law_plain : Fn) : Sv := (sSeq (sAsg 2 (eCall p__law_pull (aCons (eVar 0) (aCons (eC (.int 7)) aNil)))) (sSeq (sIf (cOr (eT (e2 opEq (eVar 1) (eC (.int 0)))) (eT (e2 opLt (eVar 2) (eC (.int 4))))) (sRet (eCall p__law_plain (aCons (eVar 0) aNil))) sNil) (sSeq (sIf (eT (e2 opEq (eVar 2) (eC (.int 4)))) (sRet (eCall p__law_record (aCons (eVar 0) (aCons (e2 opSub (eVar 1) (eC (.int 1))) (aCons (eC (.int 3)) aNil))))) sNil) (sRet (eComp [3] (itA rg1 (aCons (eCall p__law_pull (aCons (eVar 0) (aCons (eC (.int 4)) aNil))) aNil)) (.nm 3) cYes (eCall p__law_value (aCons (eVar 0) (aCons (e2 opSub (eVar 1) (eC (.int 1))) aNil))))))))
noncomputable def b__law_record (p__law_pull : Fn) (p__law_name : Fn) (p__law_value : Fn) : Sv := (sSeq (sAsgO 3 (eC (.dct []))) (sSeq (sFor (itA rg1 (aCons (eCall p__law_pull (aCons (eVar 0) (aCons (e2 opAdd (eVar 2) (eC (.int 1))) aNil))) aNil)) (.nm 4) (sPut 3 (eCall p__law_name (aCons (eVar 0) aNil)) (eCall p__law_value (aCons (eVar 0) (aCons (eVar 1) aNil))))) (sRetV 3)))
noncomputable def b_copied_s (p_copied : Fn) : Sv := (sSeq (sIf (eT (eA biIsI (aCons (eVar 0) (aCons (eC (.ty "tuple")) aNil)))) (sRet (eA biTuple (aCons (eComp [1] (itN 0) (.nm 1) cYes (eCall p_copied (aCons (eVar 1) aNil))) aNil))) sNil) (sSeq (sIf (eT (eA biIsI (aCons (eVar 0) (aCons (eC (.ty "list")) aNil)))) (sRet (eShare (eComp [1] (itN 0) (.nm 1) cYes (eCall p_copied (aCons (eVar 1) aNil))))) sNil) (sSeq (sIf (eT (eA biIsI (aCons (eVar 0) (aCons (eC (.ty "dict")) aNil)))) (sRet (eShare (eDComp [2] (itN 0) (.nm 2) cYes (eVar 2) (eCall p_copied (aCons (e2 opIx (eVar 0) (eVar 2)) aNil))))) sNil) (sRet (eVar 0)))))
noncomputable def b__law_wreck_s (p__law_wreck : Fn) : Sv := (sIf (eT (eA biIsI (aCons (eVar 0) (aCons (eC (.ty "list")) aNil)))) (sSeq (sForC 0 (.nm 1) (sDrop (eCall p__law_wreck (aCons (eVar 1) aNil)))) (sSeq (sMth 0 mAppend (aCons (eC (.int 0)) aNil)) (sMth 0 mReverse aNil))) (sIf (eT (eA biIsI (aCons (eVar 0) (aCons (eC (.ty "tuple")) aNil)))) (sForC 0 (.nm 1) (sDrop (eCall p__law_wreck (aCons (eVar 1) aNil)))) (sIf (eT (eA biIsI (aCons (eVar 0) (aCons (eC (.ty "dict")) aNil)))) (sSeq (sFor (itV (eA biSortC (aCons (eVar 0) aNil))) (.nm 2) (sDrop (eCall p__law_wreck (aCons (e2 opIx (eVar 0) (eVar 2)) aNil)))) (sPut 0 (eC (.str "q")) (eC (.int 1)))) sNil)))
noncomputable def b_rank (p_rank : Fn) : Sv := (sSeq (sIf (eT (e2 opIsN (eVar 0) (eC .non))) (sRet (eA dTup (aCons (eC (.int 0)) (aCons (eC (.int 0)) aNil)))) sNil) (sSeq (sIf (eT (eA biIsI (aCons (eVar 0) (aCons (eC (.ty "int")) aNil)))) (sRet (eA dTup (aCons (eC (.int 1)) (aCons (eVar 0) aNil)))) sNil) (sSeq (sIf (eT (eA biIsI (aCons (eVar 0) (aCons (eC (.ty "str")) aNil)))) (sRet (eA dTup (aCons (eC (.int 2)) (aCons (eVar 0) aNil)))) sNil) (sSeq (sIf (eT (eA biIsI (aCons (eVar 0) (aCons (eC (.ty "list")) aNil)))) (sRet (eA dTup (aCons (eC (.int 3)) (aCons (eA biTuple (aCons (eComp [1] (itN 0) (.nm 1) cYes (eCall p_rank (aCons (eVar 1) aNil))) aNil)) aNil)))) sNil) (sRet (eA dTup (aCons (eC (.int 4)) (aCons (eA biTuple (aCons (eComp [2] (itV (eA biSort (aCons (eVar 0) aNil))) (.nm 2) cYes (eA dTup (aCons (eVar 2) (aCons (eCall p_rank (aCons (e2 opIx (eVar 0) (eVar 2)) aNil)) aNil)))) aNil)) aNil))))))))
noncomputable def b__law_rank (p__law_rank : Fn) : Sv := (sSeq (sIf (eT (e2 opIsN (eVar 0) (eC .non))) (sRet (eA dTup (aCons (eC (.int 0)) (aCons (eC (.int 0)) aNil)))) sNil) (sSeq (sIf (eT (eA biIsI (aCons (eVar 0) (aCons (eC (.ty "int")) aNil)))) (sRet (eA dTup (aCons (eC (.int 1)) (aCons (eVar 0) aNil)))) sNil) (sSeq (sIf (eT (eA biIsI (aCons (eVar 0) (aCons (eC (.ty "str")) aNil)))) (sRet (eA dTup (aCons (eC (.int 2)) (aCons (eVar 0) aNil)))) sNil) (sSeq (sIf (eT (eIsT ["list", "tuple"] (eVar 0))) (sRet (eA dTup (aCons (eC (.int 3)) (aCons (eA biTuple (aCons (eComp [1] (itN 0) (.nm 1) cYes (eCall p__law_rank (aCons (eVar 1) aNil))) aNil)) aNil)))) sNil) (sRet (eA dTup (aCons (eC (.int 4)) (aCons (eA biTuple (aCons (eComp [2] (itV (eA biSort (aCons (eVar 0) aNil))) (.nm 2) cYes (eA dTup (aCons (eVar 2) (aCons (eCall p__law_rank (aCons (e2 opIx (eVar 0) (eVar 2)) aNil)) aNil)))) aNil)) aNil))))))))
end TL
/-! the T-layer, 43: enumerate(xs), zip(xs, ys) -/
namespace TL
open PySem PySem.Spec PyProof.Rows L2
end TL
/-! the T-layer, 44: own lists and dicts read without being frozen -/
namespace TL
open PySem PySem.Spec PyProof.Rows L2
/-! ### x in own -/
/-! ### len(own) -/
end TL
set_option maxHeartbeats 0
namespace TL
open PySem L2
noncomputable def b_key_rank (p_rank : Fn) : Sv := (sRet (eIf (eT (eA biIsI (aCons (eVar 0) (aCons (eC (.ty "tuple")) aNil)))) (eCall p_rank (aCons (eA biList (aCons (eVar 0) aNil)) aNil)) (eCall p_rank (aCons (eVar 0) aNil))))
noncomputable def b_entry_rank (p_key_rank : Fn) : Sv := (sSeq (sAsgT (.tp [1, 2]) (eVar 0)) (sRet (eA dTup (aCons (eA biTuple (aCons (eComp [3] (itN 1) (.nm 3) cYes (eCall p_key_rank (aCons (eVar 3) aNil))) aNil)) (aCons (eVar 2) aNil)))))
noncomputable def b__law_entry_rank (p__law_rank : Fn) : Sv := (sRet (eA dTup (aCons (eA biTuple (aCons (eComp [1] (itV (e2 opIx (eVar 0) (eC (.int 0)))) (.nm 1) cYes (eCall p__law_rank (aCons (eVar 1) aNil))) aNil)) (aCons (e2 opIx (eVar 0) (eC (.int 1))) aNil))))
noncomputable def b__law_key (p__law_value : Fn) : Sv := (sRet (eA biTuple (aCons (eComp [2] (itA rg1 (aCons (eVar 1) aNil)) (.nm 2) cYes (eCall p__law_value (aCons (eVar 0) (aCons (eC (.int 1)) aNil)))) aNil)))
noncomputable def b_row_rank (p_entry_rank : Fn) : Sv := (sSeq (sAsgT (.tp [1, 2, 3]) (eVar 0)) (sRet (eA dTup (aCons (eVar 1) (aCons (eCall p_entry_rank (aCons (eA dTup (aCons (eVar 2) (aCons (eVar 3) aNil))) aNil)) aNil)))))
noncomputable def b__law_row_rank (p__law_entry_rank : Fn) : Sv := (sRet (e2 opAdd (eA dTup (aCons (e2 opIx (eVar 0) (eC (.int 0))) aNil)) (eCall p__law_entry_rank (aCons (eSl opSl (eVar 0) (oSome (eC (.int 1))) oNone) aNil))))
end TL
/-! the T-layer, 45: zip(xs, ys, strict=True) of two lists of one length -/
namespace TL
open PySem PySem.Spec PyProof.Rows L2
open PySem.Sem (wp)
/-! ### the turns of it -/
/-! ### over trees -/
end TL
set_option maxHeartbeats 0
namespace TL
open PySem L2
end TL
/-! the T-layer, 46: sets of texts: made by a comprehension, sorted -/
namespace TL
open PySem PySem.Spec L2 PyProof.Rows
/-! ### the set of texts at a place: its members in some order -/
def keyS (v : Value) : Str := match v with
  | .str x _ => x
  | _ => ⟨#[]⟩
def SetS (P : Program) (w : World) (h : Heap) (a : Addr) (l : List Str) : Prop :=
  ∃ o es ep t, h.get? a = some o ∧ o.ExactSet ∧ o.data = .set es ep t ∧ ElemsOf (strKind P w) es.toList ∧ (es.toList.map fun e => keyS e.2).Perm l ∧ l.Nodup ∧
    l.length < scanBound ∧ t.fits es.size = true ∧ Ris t.place.toList ∧ (w.params.followText "set-order" = true ∨ t.led = true)
section
variable {P : Program} {w : World} {h h' : Heap} {a : Addr} {l : List Str}
theorem SetS.at (R : SetS P w h a l) (k : ∀ o, h.get? a = some o → h'.get? a = some o) : SetS P w h' a l := by
  obtain ⟨o, es, ep, t, ho, r⟩ := R
  exact ⟨o, es, ep, t, k o ho, r⟩
theorem keyS_is {k : Str} {v : Value} (h : (strKind P w).is k v = true) : keyS v = k := by
  obtain ⟨t, rfl⟩ := Value.isStrOf_shape (x := k) (v := v) h
  rfl
theorem str_is (k : Str) (tk : Tok) : (strKind P w).is k (.str k tk) = true := by
  show Value.isStrOf k (.str k tk) = true
  simp [Value.isStrOf]
theorem elems_key {es : List (Int × Value)} (g : ElemsOf (strKind P w) es) (k : Str) : k ∈ es.map (fun e => keyS e.2) ↔ ∃ e ∈ es, (strKind P w).is k e.2 = true := by
  rw [List.mem_map]
  refine ⟨fun ⟨e, he, q⟩ => ⟨e, he, ?_⟩, fun ⟨e, he, q⟩ => ⟨e, he, keyS_is q⟩⟩
  obtain ⟨⟨k', z, _⟩, _⟩ := g e he
  rw [← q, keyS_is z]
  exact z
theorem SetS.fresh : SetS P w (h.push { cls := .type "set", dict := none, data := .set #[] 0 (.fresh 0 0 (!w.params.followText "set-order")) }) h.objs.size [] :=
  ⟨_, #[], 0, _, Heap.get?_push_size _ rfl, ⟨rfl, rfl, rfl⟩, rfl, (fun e he => by simp at he), List.Perm.refl _, List.nodup_nil, by decide, by rfl, List.Pairwise.nil, by
    show _ ∨ (!w.params.followText "set-order") = true
    cases w.params.followText "set-order"
    · exact .inr rfl
    · exact .inl rfl⟩
end
/-- one more -/
def addS (l : List Str) (k : Str) : List Str := if k ∈ l then l else k :: l
section
variable {P : Program} {w : World} {A : Around} {E : Value → Shared → Prop} {s : Shared} {a : Addr} {l : List Str}
/-- the laid table stored, and laid anew where it is too full -/
theorem storeS {g : Bool → Sem Unit} (hg : ∀ (b : Bool) (s₁ : Shared) (Q' : Unit → Shared → Prop), Q' () s₁ → wpAny (model P w) A (g b) Q' E s₁)
    {o : Obj} {es es1 : Array (Int × Value)} {ep : Nat} {t t2 : SetTable} {l1 : List Str} (ho : s.heap.get? a = some o) (hex : o.ExactSet) (hd : o.data = .set es ep t)
    (g1 : ElemsOf (strKind P w) es1.toList) (p1 : (es1.toList.map fun e => keyS e.2).Perm l1) (n1 : l1.Nodup) (b1 : l1.length < scanBound) (f2 : t2.fits es1.size = true)
    (r2 : Ris t2.place.toList) (d2 : w.params.followText "set-order" = true ∨ t2.led = true) {wasDummy : Bool} {R : Option Bool → Shared → Prop}
    (hR : ∀ h', Heap.SameBut a s.heap h' → SetS P w h' a l1 → R (some true) { s with heap := h' }) :
    wpAny (model P w) A (do
        storeSet a es1 t2
        if (!wasDummy && t2.tooFull) = true then do
            g (relayAll t2 es1 (SetTable.grown es1.size)).2.2
            storeSet a (relayAll t2 es1 (SetTable.grown es1.size)).1 (relayAll t2 es1 (SetTable.grown es1.size)).2.1
            pure (some true)
          else pure (some true)) R E s := by
  have sz : es1.size < scanBound := by
    have := p1.length_eq
    rw [List.length_map, Array.length_toList] at this
    omega
  refine wpAny_bind (wpAny_storeSet_of ho hd ?_ (fits_of_scanBound sz))
  have o1 := PpSet.storeB_at (es' := es1) (t' := t2) ho hd
  have k1 := Heap.SameBut.update s.heap a (Obj.putSet es1 t2)
  by_cases c : (!wasDummy && t2.tooFull) = true
  · rw [if_pos c]
    have pm := relayAll_perm t2 es1 (SetTable.grown es1.size)
    have sz2 : (relayAll t2 es1 (SetTable.grown es1.size)).1.size = es1.size := by rw [← Array.length_toList, pm.length_eq, Array.length_toList]
    refine wpAny_bind (hg _ _ _ (wpAny_bind (wpAny_storeSet_of o1 rfl (wpAny_pure (hR _ (k1.trans (Heap.SameBut.update _ a _)) ?_)) (fits_of_scanBound (by rw [sz2]; exact sz)))))
    refine ⟨_, _, _, _, PpSet.storeB_at o1 rfl, hex, rfl, g1.perm pm, (pm.map _).trans p1, n1, b1, relayAll_fits t2 es1 _, relayAll_ris t2 es1 _, d2.imp id fun z => ?_⟩
    rw [relayAll_led]
    exact z
  · rw [if_neg c]
    exact wpAny_pure (hR _ k1 ⟨_, es1, _, t2, o1, hex, rfl, g1, p1, n1, b1, f2, r2, d2⟩)
theorem putS {k : Str} {tk : Tok} {Q : Bool → Shared → Prop} (R : SetS P w s.heap a l) (room : l.length + 1 < scanBound)
    (hQ : ∀ b h', Heap.SameBut a s.heap h' → SetS P w h' a (addS l k) → Q b { s with heap := h' }) : wpAny (model P w) A (setAddHashed a (.str k tk) ((strKind P w).hash k)) Q E s := by
  obtain ⟨o, es, ep, t, ho, hex, hd, g, pm, nd, hb, hf, hr, hl⟩ := R
  have sz : es.size < scanBound := by
    have := pm.length_eq
    rw [List.length_map, Array.length_toList] at this
    omega
  have hgw : ∀ (b : Bool) (s₁ : Shared) (Q' : Unit → Shared → Prop), Q' () s₁ → wpAny (model P w) A (match b with | true => rule "set.scan.the-table-gave-way" | false => pure ()) Q' E s₁ :=
    fun b s₁ Q' q => by cases b <;> first | exact wpAny_pure q | exact wpAny_rule q
  unfold setAddHashed setAddHashedIn
  refine wpAny_holding (wpAny_bind (wpAny_setState_of ho hd hf ?_))
  dsimp only
  rw [byScan_of (x := .str k tk) rfl sz g]
  simp only [↓reduceIte]
  unfold setAddByScan
  refine wpAny_bind (wpAny_bind (wpAny_rule (wpAny_bind (wpAny_setScan_of (str_is k tk) ho hd hf g ?_))))
  cases hfi : List.findIdx? (fun e => (strKind P w).is k e.2) es.toList with
  | some j =>
    obtain ⟨hj, pj, _⟩ := List.findIdx?_eq_some_iff_getElem.mp hfi
    have hk : k ∈ l := pm.mem_iff.mp ((elems_key g k).mpr ⟨es.toList[j], List.getElem_mem hj, pj⟩)
    have e : addS l k = l := if_pos hk
    exact wpAny_pure (wpAny_pure (hQ false s.heap (Heap.SameBut.refl a s.heap) (by rw [e]; exact ⟨o, es, ep, t, ho, hex, hd, g, pm, nd, hb, hf, hr, hl⟩)))
  | none =>
    have hk : k ∉ l := fun z => by
      obtain ⟨e, he, q⟩ := (elems_key g k).mp (pm.mem_iff.mpr z)
      have c := List.findIdx?_eq_none_iff.mp hfi e he
      rw [q] at c
      cases c
    have e : addS l k = k :: l := if_neg hk
    rw [e] at hQ
    dsimp only
    have lp := layNew_perm t es ((strKind P w).hash k) (.str k tk)
    have lf := layNew_fits t es ((strKind P w).hash k) (.str k tk)
    have lr := layNew_ris t es ((strKind P w).hash k) (.str k tk) hr
    have ll := layNew_led t es ((strKind P w).hash k) (.str k tk)
    generalize layNew t es ((strKind P w).hash k) (.str k tk) = Z at lp lf lr ll ⊢
    obtain ⟨es1, t1, wasDummy, gave⟩ := Z
    dsimp only at lp lf lr ll ⊢
    have g1 : ElemsOf (strKind P w) es1.toList := by
      rw [Array.toList_push] at lp
      exact (ElemsOf.push g (k := k) (x := .str k tk) (str_is k tk) rfl).perm lp
    have p1 : (es1.toList.map fun e => keyS e.2).Perm (k :: l) := by
      rw [Array.toList_push] at lp
      refine (lp.map _).trans ?_
      rw [List.map_append]
      exact (List.perm_append_singleton _ _).trans (List.Perm.cons k pm)
    have n1 : (k :: l).Nodup := List.nodup_cons.mpr ⟨hk, nd⟩
    have d1 : w.params.followText "set-order" = true ∨ t1.led = true := hl.imp id fun z => by rw [ll]; exact z
    refine wpAny_bind (hgw _ _ _ ?_)
    split
    · refine wpAny_bind ?_
      rw [hashByValue_scannable 8 (x := .str k tk) rfl]
      refine wpAny_pure (storeS (l1 := k :: l) (fun b s₁ Q' q => by cases b <;> first | exact wpAny_pure q | exact wpAny_rule q) ho hex hd g1 p1 n1 room ?_ ?_ ?_ fun h' sb r => wpAny_pure (hQ true h' sb r))
      · first | (split <;> first | exact lf | exact SetTable.fits_plain_off lf) | exact lf
      · first | (split <;> exact lr) | exact lr
      · first | (split <;> exact d1) | exact d1
    · refine wpAny_bind (wpAny_pure ?_)
      simp only [↓reduceIte]
      exact storeS (l1 := k :: l) (fun b s₁ Q' q => by cases b <;> first | exact wpAny_pure q | exact wpAny_rule q) ho hex hd g1 p1 n1 room lf lr d1 fun h' sb r => wpAny_pure (hQ true h' sb r)
/-- a.add(k) -/
theorem callAddS {k : Str} {tk : Tok} {Q : Value → Shared → Prop} (R : SetS P w s.heap a l) (room : l.length + 1 < scanBound)
    (hQ : ∀ h', Heap.SameBut a s.heap h' → SetS P w h' a (addS l k) → Q .none { s with heap := h', toks := s.toks + 1 }) : wpAny (model P w) A (call (.builtin "set.add") [.ref a, .str k tk]) Q E s := by
  obtain ⟨o, es, ep, t, ho, hex, hd, r⟩ := id R
  refine wpAny_call_entry F.slot_set_add ⟨o, ho, hex.1⟩ F.entry_set_add ?_ (F.args_set_add_2 _ _)
  unfold Builtin.«set.add» Builtin.Frozenset.oneOther
  simp only [List.isEmpty_nil, bind_assoc]
  unfold Builtin.Frozenset.addrOf setAdd
  refine wpAny_bind (wpAny_pure (wpAny_bind (wpAny_pure (wpAny_bind (wpAny_holding (wpAny_bind ((strKind P w).pyHash (str_is k tk) (putS (s := { s with toks := s.toks + 1 }) R room fun b h' sb r => ?_))))))))
  show wpAny _ _ (ret Value.none) _ _ _
  exact wpAny_pure ⟨_, rfl, hQ h' sb r⟩
end
/-- as a tracked thing -/
def SetSO (P : Program) (w : World) (a : Addr) (l : List Str) : HO := .ext fun h => SetS P w h a l
theorem SetSO.new {P : Program} {w : World} {H : Hp} {h : Heap} {a : Addr} {l : List Str} (R : SetS P w h a l) : ObjOk P w H h a (SetSO P w a l) := by
  have ⟨o, _, _, _, ho, _⟩ := R
  exact ⟨R, ⟨o, ho⟩, fun h1 h2 p k => SetS.at p k⟩
section
variable {X : Cx}
theorem SetSO.get {pins : List (Addr × Obj)} {σ : L2.St} {H : Hp} {s : Shared} {a : Addr} {l : List Str} (I : Inv X pins σ H s) (ha : H a = some (SetSO X.prog X.w a l)) : SetS X.prog X.w s.heap a l := (I.hok a _ ha).1
theorem SetSO.add {pins : List (Addr × Obj)} {σ : L2.St} {H : Hp} {s : Shared} {E : Value → Shared → Prop} {D : Addr} {l : List Str} {k : Str} {u : Value} {Q : Value → Shared → Prop} (I : Inv X pins σ H s) (hu : RelV (.str k) u) (hD : H D = some (SetSO X.prog X.w D l)) (room : l.length + 1 < scanBound)
    (h : ∀ s', Inv X pins σ (upd H D (SetSO X.prog X.w D (addS l k))) s' → Q .none s') : wpAny (model X.prog X.w) X.A (call (.builtin "set.add") [.ref D, u]) Q E s := by
  obtain ⟨tk, rfl⟩ := hu
  refine callAddS (SetSO.get I hD) room fun h' sb new => ?_
  have he : ∃ u, h'.get? D = some u := by
    have ⟨o, _, _, _, ho, _⟩ := new
    exact ⟨o, ho⟩
  exact h _ (I.write (e := D) (t' := s.toks + 1) (by rw [hD]; trivial) (.inl rfl) (fun b u hb hu => (sb.2 b hb).trans hu) he (SetSO.new new))
end
end TL
/-! the T-layer, 47: sorted({elt for target in iter if ..}) of texts -/
namespace TL
open PySem PySem.Spec L2 PyProof.Rows
/-! ### sorted(a set of texts) -/
/-! ### the set comprehension of texts; D is the new set -/
/-! ### the two together -/
def AccOk (l : List Str) : Prop := l.length < scanBound ∧ ∀ b ∈ l, b.length ≤ sizeLine
theorem AccOk.nil : AccOk [] := ⟨by decide, fun _ h => (by cases h)⟩
theorem AccOk.le {l : List Str} (h : AccOk l) : l.length ≤ sizeLine := by
  have h1 := h.1
  have h2 : scanBound = 4096 := rfl
  rw [sizeLine_eq]
  omega
theorem AccOk.add {l : List Str} {k : Str} (h : AccOk l) (hk : k.length ≤ sizeLine) (hz : l.length + 1 < scanBound) : AccOk (addS l k) := by
  unfold addS
  split
  · exact h
  · refine ⟨by simpa using hz, fun b hb => ?_⟩
    rcases List.mem_cons.mp hb with rfl | hb
    · exact hk
    · exact h.2 b hb
end TL
/-! the T-layer, 48: xs[::-1] of a list -/
namespace TL
open PySem PySem.Spec L2
def opRev : T → Sh → Res T
  | .lst xs, s => .ok (.lst xs.reverse) s
  | _, _ => .bad
section
variable {X : Cx} {W : WX} {e : Expr} {ev : Ev} {k : Nat} {p1 p2 p3 pos : Pos}
theorem rev_core {K : PySem.W.Frag} {W : WX} {G : Gh} {loc : Loc} {sh : Sh} {σ : L2.St} {H : Hp} {x : V} {t : T} {Q : VK} (ok : Ok K G loc sh σ H) (rx : rep K G t x) (p : post (fun G H t v => OwnR K G loc σ H t v) K W G loc σ (opRev t sh) Q) :
    ∃ a xs, x = .ref a ∧ SqL K H a xs ∧ ∀ p, H p = none → Q (.ref p) (upd H p (.lst xs.reverse)) := by
  cases t with
  | lst xs =>
    obtain ⟨a, vs, rfl, h1, r1, hz⟩ := ok.hl rx
    exact ⟨a, vs, rfl, .of h1, ok.newLO (RepL.reverse r1) (by rw [List.length_reverse]; exact hz) p⟩
  | _ => exact p.elim
theorem t_revO (ha : TPE X W e ev) : TPO X W (.Subscript e (.Slice none none (some (.UnaryOp .USub (.Constant (.int 1) k p1) p2)) p3) pos) (e1 opRev ev) := PE.weak (pe_revL ha) fun σ H Q ⟨G, loc, sh, ok, p⟩ => by
  refine ⟨G, loc, sh, ok, (post.bind (Rp := rpV X.K) p).imp ?_⟩
  rintro v H1 ⟨G1, t, s1, l1, ok1, r1, p1⟩
  exact rev_core ok1 r1 p1
theorem t_rev (ha : TPE X W e ev) : TPE X W (.Subscript e (.Slice none none (some (.UnaryOp .USub (.Constant (.int 1) k p1) p2)) p3) pos) (e1 opRev ev) := PE.weak (t_revO ha) fun σ H Q ⟨G, loc, sh, ok, p⟩ => by
  refine ⟨G, loc, sh, ok, ?_⟩
  cases q : e1 opRev ev loc sh with
  | ok t s =>
    rw [q] at p
    intro v H' G' le ok' o
    obtain ⟨G2, l2, ok2, r⟩ := OwnR.freeze ok' o
    exact p v H' G2 (le.trans l2) ok2 r
  | exc x s => rw [q] at p; exact p
  | bad => rw [q] at p; exact p
end
end TL
set_option maxHeartbeats 0
namespace TL
open PySem L2
end TL
/-! the T-layer, 49: is, is not of two truth values -/
namespace TL
open PySem PySem.Spec L2
end TL
/-! the T-layer, 50: an expression that reads alone and tells something flat: it may read what is shared, and what the frame alone has, as plain trees -/
namespace TL
open PySem PySem.Spec L2
def mapO {α : Type} (f : T → Option T) (g : α → T) (h : α → T → α) : List α → Option (List α)
  | [] => some []
  | x :: xs => match f (g x), mapO f g h xs with
    | some y, some ys => some (h x y :: ys)
    | _, _ => none
/-- a tree with the shared things' contents in their places -/
def viewT (s : Sh) : Nat → T → Option T
  | 0, _ => none
  | n + 1, .cel k => match s[k]? with
    | some (.lst xs) => (mapO (viewT s n) id (fun _ y => y) xs).map T.lst
    | some (.dct kvs) => (mapO (viewT s n) (·.2) (fun p y => (p.1, y)) kvs).map T.dct
    | some (.ins C fs) => (mapO (viewT s n) (·.2) (fun p y => (p.1, y)) fs).map (T.obj C)
    | _ => none
  | n + 1, .lst xs => (mapO (viewT s n) id (fun _ y => y) xs).map T.lst
  | n + 1, .tup xs => (mapO (viewT s n) id (fun _ y => y) xs).map T.tup
  | n + 1, .dct kvs => (mapO (viewT s n) (·.2) (fun p y => (p.1, y)) kvs).map T.dct
  | n + 1, .obj C fs => (mapO (viewT s n) (·.2) (fun p y => (p.1, y)) fs).map (T.obj C)
  | _ + 1, t => some t
abbrev viewN : Nat := 100
def viewS (s : Sh) : Slot → Slot
  | .no => .no
  | .t x => match viewT s viewN x with
    | some y => .t y
    | none => .no
  | .own x => match viewT s viewN x with
    | some y => .t y
    | none => .no
def viewL (s : Sh) (l : Loc) : Loc := l.map (viewS s)
def flat1 : T → Bool
  | .non => true
  | .bl _ => true
  | .int _ => true
  | .str _ => true
  | _ => false
def cView (c : Et) : Et := fun l s => match c (viewL s l) [] with
  | .ok r [] => .ok r s
  | _ => .bad
section
variable {K : PySem.W.Frag} {G : Gh} {loc : Loc} {sh : Sh} {σ : L2.St} {H : Hp}
theorem repL_view {n : Nat} (ih : ∀ t y v, viewT sh n t = some y → Rep K G.F G.al t v → Rep K H [] y v) : ∀ (xs ys : List T) (vs : List V), mapO (viewT sh n) id (fun _ y => y) xs = some ys → RepL K G.F G.al xs vs → RepL K H [] ys vs ∧ ys.length = xs.length
  | [], ys, vs, e, r => by
    cases e
    exact ⟨r, rfl⟩
  | x :: xs, ys, vs, e, r => by
    obtain ⟨v, q, rfl, r1, r2⟩ := r
    unfold mapO at e
    split at e
    · rename_i y zs e1 e2
      cases e
      obtain ⟨h1, h2⟩ := repL_view ih xs zs q e2 r2
      exact ⟨⟨v, q, rfl, ih _ _ _ e1 r1, h1⟩, by rw [List.length_cons, List.length_cons, h2]⟩
    · cases e
theorem repD_view {n : Nat} (ih : ∀ t y v, viewT sh n t = some y → Rep K G.F G.al t v → Rep K H [] y v) : ∀ (xs ys : List (Key × T)) (vs : List (Key × V)), mapO (viewT sh n) (·.2) (fun p y => (p.1, y)) xs = some ys → RepD K G.F G.al xs vs → RepD K H [] ys vs ∧ ys.map (·.1) = xs.map (·.1)
  | [], ys, vs, e, r => by
    cases e
    exact ⟨r, rfl⟩
  | (k, x) :: xs, ys, vs, e, r => by
    obtain ⟨v, q, rfl, r1, r2⟩ := r
    unfold mapO at e
    split at e
    · rename_i y zs e1 e2
      cases e
      obtain ⟨h1, h2⟩ := repD_view ih xs zs q e2 r2
      exact ⟨⟨v, q, rfl, ih _ _ _ e1 r1, h1⟩, by rw [List.map_cons, List.map_cons, h2]⟩
    · cases e
theorem repF_view {n : Nat} (ih : ∀ t y v, viewT sh n t = some y → Rep K G.F G.al t v → Rep K H [] y v) : ∀ (xs ys : List (Str × T)) (vs : List (Str × V)), mapO (viewT sh n) (·.2) (fun p y => (p.1, y)) xs = some ys → RepFs K G.F G.al xs vs → RepFs K H [] ys vs
  | [], ys, vs, e, r => by
    cases e
    exact r
  | (k, x) :: xs, ys, vs, e, r => by
    obtain ⟨v, q, rfl, r1, r2⟩ := r
    unfold mapO at e
    split at e
    · rename_i y zs e1 e2
      cases e
      exact ⟨v, q, rfl, ih _ _ _ e1 r1, repF_view ih xs zs q e2 r2⟩
    · cases e
theorem dok_keys {xs ys : List (Key × T)} (h : DOk xs) (e : ys.map (·.1) = xs.map (·.1)) : DOk ys := by
  have hl : ys.length = xs.length := by
    have := congrArg List.length e
    simpa using this
  refine ⟨by rw [hl]; exact h.1, fun p hp => ?_⟩
  have : p.1 ∈ xs.map (·.1) := by rw [← e]; exact List.mem_map.mpr ⟨p, hp, rfl⟩
  obtain ⟨q, hq, e1⟩ := List.mem_map.mp this
  rw [← e1]
  exact h.2 q hq
theorem rep_view (ok : Gok K G sh H) : ∀ (n : Nat) (t y : T) (v : V), viewT sh n t = some y → Rep K G.F G.al t v → Rep K H [] y v := by
  intro n
  induction n with
  | zero => intro t y v e; cases e
  | succ n ih =>
    intro t y v e r
    cases t with
    | lst xs =>
      obtain ⟨a, vs, rfl, h1, h2, h3⟩ := r
      unfold viewT at e
      obtain ⟨ys, e1, rfl⟩ := Option.map_eq_some_iff.mp e
      obtain ⟨k1, k2⟩ := repL_view ih xs ys vs e1 h2
      exact ⟨a, vs, rfl, ok.fh _ _ h1, k1, by rw [k2]; exact h3⟩
    | tup xs =>
      obtain ⟨a, vs, rfl, h1, h2, h3⟩ := r
      unfold viewT at e
      obtain ⟨ys, e1, rfl⟩ := Option.map_eq_some_iff.mp e
      obtain ⟨k1, k2⟩ := repL_view ih xs ys vs e1 h2
      exact ⟨a, vs, rfl, SqT.fle ok.fh h1, k1, by rw [k2]; exact h3⟩
    | dct kvs =>
      obtain ⟨a, vs, rfl, h1, h2, h3⟩ := r
      unfold viewT at e
      obtain ⟨ys, e1, rfl⟩ := Option.map_eq_some_iff.mp e
      obtain ⟨k1, k2⟩ := repD_view ih kvs ys vs e1 h2
      exact ⟨a, vs, rfl, FLe.rd ok.fh h1, k1, dok_keys h3 k2⟩
    | cel k =>
      obtain ⟨a, rfl, ha⟩ := r
      unfold viewT at e
      split at e
      · rename_i xs es
        obtain ⟨b, hb, vs, h1, h2, h3⟩ := ok.shr k _ es
        rw [ha] at hb
        cases hb
        obtain ⟨ys, e1, rfl⟩ := Option.map_eq_some_iff.mp e
        obtain ⟨k1, k2⟩ := repL_view ih xs ys vs e1 h2
        exact ⟨a, vs, rfl, h1, k1, by rw [k2]; exact h3⟩
      · rename_i kvs es
        obtain ⟨b, hb, vs, h1, h2, h3⟩ := ok.shr k _ es
        rw [ha] at hb
        cases hb
        obtain ⟨ys, e1, rfl⟩ := Option.map_eq_some_iff.mp e
        obtain ⟨k1, k2⟩ := repD_view ih kvs ys vs e1 h2
        exact ⟨a, vs, rfl, .inl h1, k1, dok_keys h3 k2⟩
      · rename_i C fs es
        obtain ⟨b, hb, dx, fv, h1, h2, _⟩ := ok.shr k _ es
        rw [ha] at hb
        cases hb
        obtain ⟨ys, e1, rfl⟩ := Option.map_eq_some_iff.mp e
        exact ⟨a, dx, fv, rfl, h1, repF_view ih fs ys fv e1 h2⟩
      · cases e
    | scr ns =>
      cases e
      obtain ⟨a, rfl, h1, h2⟩ := r
      exact ⟨a, rfl, SqL.fle ok.fh h1, h2⟩
    | obj C fs =>
      obtain ⟨a, dx, fv, rfl, h1, h2⟩ := r
      unfold viewT at e
      obtain ⟨ys, e1, rfl⟩ := Option.map_eq_some_iff.mp e
      exact ⟨a, dx, fv, rfl, ok.fh _ _ h1, repF_view ih fs ys fv e1 h2⟩
    | _ => cases e; exact r
/-- the ghost in which all that stands stands still -/
def Gall (H : Hp) : Gh := ⟨H, [], fun _ => none⟩
theorem Loc.at_map (f : Slot → Slot) (h : f .no = .no) (l : Loc) (i : Nat) : Loc.at (l.map f) i = f (l.at i) := by
  unfold Loc.at
  rw [List.getElem?_map]
  cases l[i]? with
  | none => exact h.symm
  | some s => rfl
theorem Ok.all_still (ok : Ok K G loc sh σ H) : Ok K (Gall H) (viewL sh loc) [] σ H := by
  have e0 : ∀ (k : Nat) (a : Addr), (Gall H).al[k]? ≠ some a := fun k a h => by cases (show (none : Option Addr) = some a from h)
  refine ⟨⟨(fun a o h => h), (fun a o h => by cases (show (none : Option HO) = some o from h)), (fun a => .inr rfl), (fun k a h => absurd h (e0 k a)), (fun i j a h => absurd h (e0 i a)), rfl, (fun k o h => by cases (show (none : Option SO) = some o from h))⟩, (by unfold viewL; rw [List.length_map]; exact ok.len), (fun i => ?_), (fun i j x y a ne ei ej => ?_)⟩
  · unfold viewL
    rw [Loc.at_map (viewS sh) rfl]
    have hs := ok.sl i
    cases e : loc.at i with
    | no => trivial
    | t x =>
      rw [e] at hs
      obtain ⟨v, h1, h2⟩ := hs
      show slotOk K (Gall H) H (match viewT sh viewN x with | some y => Slot.t y | none => Slot.no) _
      cases q : viewT sh viewN x with
      | none => trivial
      | some y => exact ⟨v, h1, rep_view ok.toGok viewN x y v q h2⟩
    | own x =>
      rw [e] at hs
      obtain ⟨a, h1, h2, h3, h4, h5⟩ := hs
      show slotOk K (Gall H) H (match viewT sh viewN x with | some y => Slot.t y | none => Slot.no) _
      cases q : viewT sh viewN x with
      | none => trivial
      | some y =>
        refine ⟨.ref a, h1, ?_⟩
        cases x with
        | lst xs =>
          obtain ⟨vs, k1, k2, k3⟩ := h5
          unfold viewT at q
          obtain ⟨ys, e1, rfl⟩ := Option.map_eq_some_iff.mp q
          obtain ⟨j1, j2⟩ := repL_view (rep_view ok.toGok _) xs ys vs e1 k2
          exact ⟨a, vs, rfl, k1, j1, by rw [j2]; exact k3⟩
        | dct kvs =>
          obtain ⟨vs, k1, k2, k3⟩ := h5
          unfold viewT at q
          obtain ⟨ys, e1, rfl⟩ := Option.map_eq_some_iff.mp q
          obtain ⟨j1, j2⟩ := repD_view (rep_view ok.toGok _) kvs ys vs e1 k2
          exact ⟨a, vs, rfl, .inl k1, j1, dok_keys k3 j2⟩
        | _ => exact h5.elim
  · have no : ∀ (i : Nat) (x : T), (viewL sh loc).at i ≠ .own x := fun i x z => by
      unfold viewL at z
      rw [Loc.at_map (viewS sh) rfl] at z
      cases e : loc.at i with
      | no => rw [e] at z; cases z
      | t y =>
        rw [e] at z
        have z : (match viewT sh viewN y with | some y => Slot.t y | none => Slot.no) = Slot.own x := z
        split at z <;> cases z
      | own y =>
        rw [e] at z
        have z : (match viewT sh viewN y with | some y => Slot.t y | none => Slot.no) = Slot.own x := z
        split at z <;> cases z
    exact absurd ei (no i x)
theorem Sha.same {H' : Hp} {a : Addr} {t : T} (e : ∀ o, H a = some o → H' a = some o) (h : Sha K G H a t) : Sha K G H' a t := by
  cases t with
  | lst xs => obtain ⟨vs, h1, h2, h3⟩ := h; exact ⟨vs, e _ h1, h2, h3⟩
  | dct kvs => obtain ⟨vs, h1, h2, h3⟩ := h; exact ⟨vs, e _ h1, h2, h3⟩
  | _ => exact h.elim
/-- all that stood stands: what held holds -/
theorem Ok.still (ok : Ok K G loc sh σ H) {H' : Hp} (k : ∀ a o, H a = some o → H' a = some o) : Ok K G loc sh σ H' := by
  refine ⟨⟨fun a o h => k _ _ (ok.fh _ _ h), fun a o h => k _ _ (ok.bh _ _ h), ok.dis, ok.alf, ok.ali, ok.all, fun i o h => ?_⟩, ok.len, fun i => ?_, ok.sep⟩
  · obtain ⟨a, h1, h2⟩ := ok.shr i o h
    refine ⟨a, h1, ?_⟩
    cases o with
    | lst xs => exact Sha.same (t := .lst xs) (fun o => k a o) h2
    | dct kvs => exact Sha.same (t := .dct kvs) (fun o => k a o) h2
    | ins C fs =>
      obtain ⟨dx, fv, q1, q2, q3, q4⟩ := h2
      exact ⟨dx, fv, k _ _ q1, q2, k _ _ q3, q4⟩
    | tab d q =>
      obtain ⟨q1, ps, q2, q3⟩ := h2
      exact ⟨q1, ps, k _ _ q2, q3⟩
  · have hs := ok.sl i
    cases e : loc.at i with
    | no => trivial
    | t x => rw [e] at hs; exact hs
    | own x =>
      rw [e] at hs
      obtain ⟨a, h1, h2, h3, h4, h5⟩ := hs
      exact ⟨a, h1, h2, h3, h4, Sha.same (fun o => k a o) h5⟩
theorem rep_flat {r : T} {v : V} {G' : Gh} (h : flat1 r = true) (q : rep K G' r v) : rep K G r v := by
  cases r with
  | non => exact q
  | bl b => exact q
  | int i => exact q
  | str x => exact q
  | _ => cases h
end
section
variable {X : Cx} {W : WX} {e : Expr} {ev : Ev} {c : Et}
theorem tt_view (h : TPT X W0 e c) : TPT X W e (cView c) := PT.weak h fun σ H Q ⟨G, loc, sh, ok, p⟩ => by
  refine ⟨Gall H, viewL sh loc, [], ok.all_still, ?_⟩
  unfold cView at p
  split at p
  · rename_i r er
    rw [er]
    intro v H' G' le ok' rv
    exact p v H' G (GLe.refl _) (ok.still fun a o ha => ok'.fh _ _ (le.f a o ha)) rv
  · exact p.elim
end
end TL
/-! the T-layer, 51: d.clear() -/
namespace TL
open PySem PySem.Spec L2
end TL
set_option maxHeartbeats 0
namespace TL
open PySem L2
end TL
/-! the T-layer, 52: an expression that reads as in a view and hands back new shared things -/
namespace TL
open PySem PySem.Spec L2
mutual
/-- flat things, shared ones, tuples of such -/
def closT : T → Bool
  | .non => true
  | .bl _ => true
  | .int _ => true
  | .str _ => true
  | .cel _ => true
  | .tup xs => closTs xs
  | _ => false
def closTs : List T → Bool
  | [] => true
  | x :: xs => closT x && closTs xs
end
def closTd : List (Key × T) → Bool
  | [] => true
  | (_, x) :: xs => closT x && closTd xs
def closS : SO → Bool
  | .lst xs => closTs xs
  | .dct kvs => closTd kvs
  | _ => false
theorem noOwn_viewT (s : Sh) (l : Loc) (i : Nat) (x : T) : (viewL s l).at i ≠ .own x := fun z => by
  unfold viewL at z
  rw [Loc.at_map (viewS s) rfl] at z
  cases e : l.at i with
  | no => rw [e] at z; cases z
  | t y =>
    rw [e] at z
    have z : (match viewT s viewN y with | some y => Slot.t y | none => Slot.no) = Slot.own x := z
    split at z <;> cases z
  | own y =>
    rw [e] at z
    have z : (match viewT s viewN y with | some y => Slot.t y | none => Slot.no) = Slot.own x := z
    split at z <;> cases z
/-! ### the ghost in which all that the frame may touch stands still -/
def stillH (G : Gh) (H : Hp) : Hp := fun a => match G.B a with
  | none => H a
  | some _ => none
theorem stillH_of {G : Gh} {H : Hp} {a : Addr} (h : G.B a = none) : stillH G H a = H a := by
  unfold stillH
  rw [h]
theorem still_b {G : Gh} {H : Hp} {a : Addr} {o : HO} (h : stillH G H a = some o) : G.B a = none ∧ H a = some o := by
  unfold stillH at h
  split at h
  · rename_i e; exact ⟨e, h⟩
  · cases h
def Gsome (G : Gh) (H : Hp) : Gh := ⟨stillH G H, [], G.B⟩
section
variable {K : PySem.W.Frag} {G : Gh} {loc : Loc} {sh : Sh} {σ : L2.St} {H : Hp}
theorem Gok.fB (ok : Gok K G sh H) {a : Addr} {o : HO} (h : G.F a = some o) : G.B a = none := by
  rcases ok.dis a with z | z
  · rw [z] at h; cases h
  · exact z
theorem Sha.eqH {G' : Gh} {H' : Hp} {a : Addr} {t : T} (eF : G'.F = G.F) (eA : G'.al = G.al) (e : H' a = H a) (h : Sha K G H a t) : Sha K G' H' a t := by
  cases t with
  | lst xs => obtain ⟨vs, h1, h2, h3⟩ := h; exact ⟨vs, e.trans h1, by rw [eF, eA]; exact h2, h3⟩
  | dct kvs => obtain ⟨vs, h1, h2, h3⟩ := h; exact ⟨vs, e.trans h1, by rw [eF, eA]; exact h2, h3⟩
  | _ => exact h.elim
theorem Ok.free (ok : Ok K G loc sh σ H) : Ok K ⟨G.F, G.al, fun _ => none⟩ loc sh σ (stillH G H) := by
  refine ⟨⟨(fun a o h => ?_), (fun a o h => by cases (show (none : Option HO) = some o from h)), (fun a => .inr rfl), (fun k a h => ⟨(ok.alf k a h).1, rfl⟩), ok.ali, ok.all, (fun k o h => ?_)⟩, ok.len, (fun i => ?_), ok.sep⟩
  · have h : G.F a = some o := h
    rw [stillH_of (ok.fB h)]
    exact ok.fh a o h
  · obtain ⟨a, h1, h2⟩ := ok.shr k o h
    have e := stillH_of (H := H) (ok.alf k a h1).2
    refine ⟨a, h1, ?_⟩
    cases o with
    | lst xs => exact Sha.eqH (t := .lst xs) rfl rfl e h2
    | dct kvs => exact Sha.eqH (t := .dct kvs) rfl rfl e h2
    | ins C fs =>
      obtain ⟨dx, fv, q1, q2, q3, q4, q5, q6⟩ := h2
      exact ⟨dx, fv, e.trans q1, q2, (stillH_of q5).trans q3, q4, rfl, q6⟩
    | tab d q =>
      obtain ⟨q1, ps, q2, q3⟩ := h2
      exact ⟨q1, ps, e.trans q2, q3⟩
  · have hs := ok.sl i
    cases e : loc.at i with
    | no => trivial
    | t x => rw [e] at hs; exact hs
    | own x =>
      rw [e] at hs
      obtain ⟨a, h1, h2, h3, h4, h5⟩ := hs
      exact ⟨a, h1, h2, rfl, h4, Sha.eqH rfl rfl (stillH_of h3) h5⟩
theorem Ok.some_still (ok : Ok K G loc sh σ H) : Ok K (Gsome G H) (viewL sh loc) [] σ H := by
  have z := ok.free.all_still
  have e0 : ∀ (k : Nat) (a : Addr), (Gsome G H).al[k]? ≠ some a := fun k a h => by cases (show (none : Option Addr) = some a from h)
  refine ⟨⟨(fun a o h => (still_b h).2), ok.bh, (fun a => ?_), (fun k a h => absurd h (e0 k a)), (fun i j a h => absurd h (e0 i a)), rfl, (fun k o h => by cases (show (none : Option SO) = some o from h))⟩, z.len, (fun i => ?_), (fun i j x y a ne ei ej => ?_)⟩
  · cases h : G.B a with
    | none => exact .inr h
    | some o =>
      refine .inl ?_
      show stillH G H a = none
      unfold stillH
      rw [h]
  · have hs := z.sl i
    cases e : (viewL sh loc).at i with
    | no => trivial
    | t x => rw [e] at hs; exact hs
    | own x =>
      exfalso
      have := noOwn_viewT sh loc i
      rw [e] at this
      exact this x rfl
  · exact absurd ei (noOwn_viewT sh loc i x)
end
/-! ### back, with the new shared things -/
open Classical in
/-- what stood for trees, and what is new or a tuple -/
noncomputable def backF (G G' : Gh) (H : Hp) : Hp := fun a => match G.F a with
  | some o => some o
  | none => if H a = none ∨ ∃ vs, Rd H a (.tup vs) then G'.F a else none
noncomputable def Gback (G G' : Gh) (H : Hp) : Gh := ⟨backF G G' H, G.al ++ G'.al, G.B⟩
section
variable {K : PySem.W.Frag} {G G' : Gh} {loc : Loc} {sh sh' : Sh} {σ : L2.St} {H H' : Hp}
theorem backF_old {a : Addr} {o : HO} (h : G.F a = some o) : backF G G' H a = some o := by
  unfold backF
  rw [h]
theorem backF_some {a : Addr} {o : HO} (h : backF G G' H a = some o) : G.F a = some o ∨ (G.F a = none ∧ (H a = none ∨ ∃ vs, Rd H a (.tup vs)) ∧ G'.F a = some o) := by
  unfold backF at h
  split at h
  · rename_i u e
    cases h
    exact .inl e
  · rename_i e
    split at h
    · rename_i c
      exact .inr ⟨e, c, h⟩
    · cases h
theorem backF_none {a : Addr} {u : HO} (h : G.F a = none) (e : H a = some u) (nt : ∀ vs, u ≠ .tup vs) (nz : ∀ o vs, u ≠ .frz o (.tup vs)) : backF G G' H a = none := by
  cases q : backF G G' H a with
  | none => rfl
  | some o =>
    exfalso
    rcases backF_some q with z | ⟨_, z | ⟨vs, z⟩, _⟩
    · rw [h] at z; cases z
    · rw [e] at z; cases z
    · rcases z with z | ⟨od, z⟩
      · rw [e] at z; cases z; exact nt vs rfl
      · rw [e] at z; cases z; exact nz od vs rfl
/-- what the frame may not touch, and what stood still -/
theorem kept_all (ok : Ok K G loc sh σ H) {loc' : Loc} (le : GLe (Gsome G H) G') (ok' : Ok K G' loc' sh' σ H') {a : Addr} {o : HO} (h : H a = some o) : H' a = some o := by
  cases hb : G.B a with
  | none => exact ok'.fh a o (le.f a o ((stillH_of hb).trans h))
  | some u =>
    have e := ok.bh a u hb
    rw [h] at e
    cases e
    exact ok'.bh a o (by rw [le.b]; exact hb)
theorem cell_shape (ok : Gok K G sh H) {k : Nat} {a : Addr} (h : G.al[k]? = some a) : ∃ u, H a = some u ∧ (∀ vs, u ≠ .tup vs) ∧ ∀ o vs, u ≠ .frz o (.tup vs) := by
  have hk : k < sh.length := by
    rw [← ok.all]
    exact (List.getElem?_eq_some_iff.mp h).1
  obtain ⟨b, hb, hs⟩ := ok.shr k _ (List.getElem?_eq_getElem hk)
  rw [h] at hb
  cases hb
  cases hx : sh[k] with
  | lst xs => rw [hx] at hs; obtain ⟨vs, h1, _⟩ := hs; exact ⟨_, h1, (fun _ z => nomatch z), (fun _ _ z => nomatch z)⟩
  | dct xs => rw [hx] at hs; obtain ⟨vs, h1, _⟩ := hs; exact ⟨_, h1, (fun _ z => nomatch z), (fun _ _ z => nomatch z)⟩
  | ins C fs => rw [hx] at hs; obtain ⟨dx, fv, h1, _⟩ := hs; exact ⟨_, h1, (fun _ z => nomatch z), (fun _ _ z => nomatch z)⟩
  | tab d q => rw [hx] at hs; obtain ⟨_, ps, h1, _⟩ := hs; exact ⟨_, h1, (fun _ z => nomatch z), (fun _ _ z => nomatch z)⟩
theorem back_sqT (ok : Gok K G sh H) (le : GLe (Gsome G H) G') (ok' : Gok K G' sh' H') : ∀ a vs, SqT K G'.F a vs → SqT K (Gback G G' H).F a vs := fun a vs h => by
  have up : ∀ u, G'.F a = some u → (u = .tup vs ∨ ∃ od, u = .frz od (.tup vs)) → backF G G' H a = some u := fun u e c => by
    cases hg : G.F a with
    | some o =>
      -- it stood for a tree already
      rw [backF_old hg]
      have hh := ok.fh a o hg
      have := le.f a o ((stillH_of (ok.fB hg)).trans hh)
      rw [e] at this
      exact this.symm
    | none =>
      unfold backF
      rw [hg]
      have c2 : H a = none ∨ ∃ vs, Rd H a (.tup vs) := by
        cases hh : H a with
        | none => exact .inl rfl
        | some w =>
          have hb : G'.B a = none := ok'.fB e
          have hb : G.B a = none := by rw [le.b] at hb; exact hb
          have := le.f a w ((stillH_of hb).trans hh)
          rw [e] at this
          cases this
          refine .inr ⟨vs, ?_⟩
          rcases c with rfl | ⟨od, rfl⟩
          · exact .inl hh
          · exact .inr ⟨od, hh⟩
      exact (if_pos c2).trans e
  rcases h with (h | ⟨od, h⟩) | h
  · exact .inl (.inl (up _ h (.inl rfl)))
  · exact .inl (.inr ⟨od, up _ h (.inr ⟨od, rfl⟩)⟩)
  · exact .inr h
end
end TL
/-! the T-layer, 53: sets of things that are told apart by a key (tuples of numbers and texts): any kind of key -/
namespace TL
open PySem PySem.Spec L2 PyProof.Rows
/-- objects that stand in a set by a key -/
structure SKd (P : Program) (w : World) (κ : Type) [DecidableEq κ] where
  is : Heap → κ → Addr → Prop
  hash : κ → Int
  draws : κ → Nat
  inj : ∀ {h : Heap} {x y : κ} {a : Addr}, is h x a → is h y a → x = y
  stay : ∀ {h h' : Heap} {x : κ} {a : Addr}, is h x a → (∀ o, h.get? a = some o → h'.get? a = some o) → is h' x a
  nset : ∀ {h : Heap} {x : κ} {a : Addr} {o : Obj} {es : Array (Int × Value)} {ep : Nat} {t : SetTable}, is h x a → h.get? a = some o → o.data ≠ .set es ep t
  hashed : ∀ {A : Around} {E : Value → Shared → Prop} {s : Shared} {x : κ} {a : Addr} {Q : Int → Shared → Prop}, A.units < cLine → is s.heap x a → Q (hash x) { s with toks := s.toks + draws x } → wpAny (model P w) A (pyHash (.ref a)) Q E s
  same : ∀ {A : Around} {E : Value → Shared → Prop} {s : Shared} {x y : κ} {a b : Addr} {Q : Bool → Shared → Prop}, A.units < cLine → is s.heap x a → is s.heap y b → Q (decide (x = y)) s → wpAny (model P w) A (eqBool (.ref a) (.ref b)) Q E s
  calm : ∀ {A : Around} {E : Value → Shared → Prop} {s : Shared} {x : κ} {a : Addr} {Q : Bool → Shared → Prop}, is s.heap x a → Q true s → wpAny (model P w) A (eqIsQuiet 8 (.ref a)) Q E s
  noCls : ∀ {A : Around} {E : Value → Shared → Prop} {s : Shared} {x : κ} {a : Addr} {Q : Bool → Shared → Prop}, is s.heap x a → Q false s → wpAny (model P w) A (ofAClassStatement 8 (.ref a)) Q E s
  byVal : ∀ {A : Around} {E : Value → Shared → Prop} {s : Shared} {x : κ} {a : Addr} {Q : Bool → Shared → Prop}, is s.heap x a → (∀ b, Q b s) → wpAny (model P w) A (hashByValue 8 (.ref a)) Q E s
/-- the way of a hash through a table, step by step -/
abbrev wayP (m : Nat) (h : Int) (c : Nat) : SetTable.Probe := nth m (runAt m (SetTable.bits h % (m + 1)) (SetTable.bits h)) c
theorem wayP_add (m : Nat) (h : Int) (c q : Nat) : nth m (wayP m h c) q = wayP m h (c + q) := (nth_add m c _ q).symm
theorem wayP_dm (m : Nat) (h : Int) : ∀ c, (wayP m h c).dummy = none := by
  have all : ∀ (c : Nat) (p : SetTable.Probe), p.dummy = none → (nth m p c).dummy = none := fun c => by
    induction c with
    | zero => exact fun _ q => q
    | succ c ih => exact fun p q => ih _ (by unfold adv; split <;> exact q)
  exact fun c => all c _ rfl
section
variable {P : Program} {w : World} {κ : Type} [DecidableEq κ] (D : SKd P w κ)
def SKd.row (p : Addr × κ) : Int × Value := (D.hash p.2, Value.ref p.1)
def SKd.hs (L : List (Addr × κ)) : List Int := L.map fun p => D.hash p.2
/-- at a stands the set of the objects of L -/
structure SKd.Tb (h : Heap) (a : Addr) (L : List (Addr × κ)) (es : Array (Int × Value)) (ep : Nat) (t : SetTable) : Prop where
  ob : ∃ o, h.get? a = some o ∧ o.ExactSet ∧ o.data = .set es ep t
  rw_ : es.toList = L.map D.row
  tab : TabOk t (D.hs L)
  nd : (L.map (·.2)).Nodup
  mem : ∀ p ∈ L, D.is h p.2 p.1
  ld : w.params.followText "set-order" = true ∨ t.led = true
  room : L.length * 5 < t.mask * 3
  few : L.length < 64
end
section
variable {P : Program} {w : World} {κ : Type} [DecidableEq κ] {D : SKd P w κ} {A : Around} {E : Value → Shared → Prop} {s : Shared} {a : Addr} {L : List (Addr × κ)} {es : Array (Int × Value)} {ep : Nat} {t : SetTable}
theorem rows_size (h : es.toList = L.map D.row) : es.size = L.length := by
  rw [← Array.length_toList, h, List.length_map]
theorem SKd.Tb.plc (R : D.Tb s.heap a L es ep t) : t.place.size = L.length := by
  have := R.tab.sz
  unfold SKd.hs at this
  rwa [List.length_map] at this
theorem SKd.Tb.fits (R : D.Tb s.heap a L es ep t) : t.fits es.size = true := by
  have z1 := R.plc
  have z2 := rows_size R.rw_
  have z3 := R.room
  simp only [SetTable.fits, SetTable.fill, R.tab.dm, Bool.and_eq_true, beq_iff_eq, decide_eq_true_eq]
  refine ⟨by omega, ?_⟩
  show t.place.size + 0 ≤ t.mask
  omega
theorem SKd.Tb.rowAt (R : D.Tb s.heap a L es ep t) {i : Nat} {p : Addr × κ} (h : L[i]? = some p) : es[i]? = some (D.row p) := by
  rw [← Array.getElem?_toList, R.rw_, List.getElem?_map, h]
  rfl
theorem SKd.Tb.hAt (R : D.Tb s.heap a L es ep t) {i : Nat} {p : Addr × κ} (h : L[i]? = some p) : ((es[i]?.map (·.1)).getD 0) = D.hash p.2 := by
  rw [R.rowAt h]
  rfl
/-- the place of the i-th row -/
theorem SKd.Tb.row_of (R : D.Tb s.heap a L es ep t) {i j : Nat} (h : t.place.toList[i]? = some j) : ∃ p, L[i]? = some p := by
  have h1 := (List.getElem?_eq_some_iff.mp h).1
  rw [Array.length_toList, R.plc] at h1
  exact ⟨_, List.getElem?_eq_getElem h1⟩
/-- asking whether a search shows the table: it doesn't -/
theorem SKd.unseen {x : Addr} {k : κ} (hx : D.is s.heap k x) {Q : Bool → Shared → Prop} {ys : List Value} (hy : ∀ y ∈ ys, ∃ k c, y = Value.ref c ∧ D.is s.heap k c) (h : Q false s) : wpAny (model P w) A (searchCouldBeSeen (.ref x) ys) Q E s := by
  unfold searchCouldBeSeen
  refine wpAny_bind (wpAny_forIn_list _ (fun rest r s' => r.1 = none ∧ s' = s ∧ ∀ y ∈ rest, y ∈ ys) _ (fun v rest r s' ⟨e1, e2, e3⟩ => ?_) (fun r s' ⟨e1, e2, _⟩ => ?_) _ _ ⟨rfl, rfl, fun y hy => hy⟩)
  · subst e2
    obtain ⟨k', c, rfl, hc⟩ := hy v (e3 v List.mem_cons_self)
    have on : ∀ y ∈ rest, y ∈ ys := fun y hy => e3 y (List.mem_cons_of_mem _ hy)
    by_cases z : (x == c || (carriedByValue (.ref x) && carriedByValue (.ref c))) = true
    · exact wp_if_pos z (wpAny_pure ⟨rfl, rfl, on⟩)
    · refine wp_if_neg z (wpAny_bind (D.calm hx ?_))
      simp only [Bool.not_true, Bool.false_eq_true, if_false]
      refine wpAny_bind (D.calm hc ?_)
      simp only [Bool.not_true, Bool.false_eq_true, if_false]
      refine wpAny_bind (D.noCls hx ?_)
      simp only [Bool.false_eq_true, if_false]
      refine wpAny_bind (D.noCls hc ?_)
      simp only [Bool.false_eq_true, if_false]
      exact wpAny_pure ⟨rfl, rfl, on⟩
  · obtain ⟨r1, r2⟩ := r
    subst e2
    dsimp only at e1
    subst e1
    exact wpAny_pure h
/-- one candidate looked at -/
theorem SKd.Tb.cand (R : D.Tb s.heap a L es ep t) {x : Addr} {k : κ} (hx : D.is s.heap k x) (hu : A.units < cLine) {f i j : Nat} {p : Addr × κ} {nx : SetTable.Probe} {Q : SetFound → Shared → Prop} (hp : L[i]? = some p) (hj : t.place.toList[i]? = some j)
    (yes : p.2 = k → Q (.there none) s) (no : p.2 ≠ k → wpAny (model P w) A (setSearchFrom a (.ref x) (D.hash k) true f (some nx)) Q E s) :
    wpAny (model P w) A (do
      if !t.led then
        if ← searchCouldBeSeen (.ref x) ((es.filter (·.1 == D.hash k)).toList.map (·.2)) then unsupported "set:the-search-would-show-the-table"
      searchRest a (.ref x) (D.hash k) true f es t j i nx) Q E s := by
  obtain ⟨o, ho, hex, hd⟩ := R.ob
  have main : wpAny (model P w) A (searchRest a (.ref x) (D.hash k) true f es t j i nx) Q E s := by
    unfold searchRest
    rw [R.rowAt hp]
    dsimp only [SKd.row]
    refine wpAny_bind (wpAny_holding (D.same hu (R.mem p (List.mem_of_getElem? hp)) hx (wpAny_bind (wpAny_setState_of ho hd R.fits ?_))))
    dsimp only
    by_cases e : p.2 = k
    · exact wp_if_pos (by simp [e]) (wpAny_pure (yes e))
    · refine wp_if_neg (by simp [e]) ?_
      try refine wpAny_bind (wpAny_pure ?_)
      rw [sameMem]
      dsimp only
      simp only [if_true, slot_live R.tab.ris hj, R.rowAt hp, SKd.row]
      refine wpAny_bind (wpAny_isSame_ref_self (wpAny_bind (wpAny_pure ?_)))
      simp only [if_true]
      exact wp_if_neg (by simp [e]) (no e)
  by_cases z : t.led = true
  · refine wp_if_neg (by simp [z]) ?_
    try refine wpAny_bind (wpAny_pure ?_)
    exact main
  · refine wp_if_pos (by simp [z]) (wpAny_bind (SKd.unseen hx (fun y hy => ?_) ?_))
    · obtain ⟨e, he, rfl⟩ := List.mem_map.mp hy
      have he' : e ∈ es.toList := by
        have : e ∈ es ∧ e.1 = D.hash k := by simpa using he
        simpa using this.1
      rw [R.rw_] at he'
      obtain ⟨q, hq, rfl⟩ := List.mem_map.mp he'
      exact ⟨q.2, q.1, rfl, R.mem q hq⟩
    · refine wp_if_neg (by decide) ?_
      try refine wpAny_bind (wpAny_pure ?_)
      exact main
/-- the search, c steps gone; K is the first free place on the way -/
theorem SKd.Tb.from_ (R : D.Tb s.heap a L es ep t) {x : Addr} {k : κ} (hx : D.is s.heap k x) (hu : A.units < cLine) {K : Nat} (hKf : K < 10 * SetTable.turns t.mask) (hK : way t.mask (D.hash k) K ∉ t.place.toList) (hb : ∀ c, c < K → way t.mask (D.hash k) c ∈ t.place.toList)
    {Q : SetFound → Shared → Prop} (yes : k ∈ L.map (·.2) → Q (.there none) s) (no : k ∉ L.map (·.2) → Q (.free (way t.mask (D.hash k) K) false) s) :
    ∀ (n c f : Nat) (st : Option SetTable.Probe), K - c = n → n < f → c ≤ K → st.getD (t.probeStart (D.hash k)) = wayP t.mask (D.hash k) c → (∀ (i : Nat) p, L[i]? = some p → p.2 = k → ∃ c', c ≤ c' ∧ c' < K ∧ t.place.toList[i]? = some (way t.mask (D.hash k) c')) →
      wpAny (model P w) A (setSearchFrom a (.ref x) (D.hash k) true f st) Q E s := by
  intro n
  induction n using Nat.strongRecOn with
  | ind n ih =>
    intro c f st hn hf hc hst hre
    obtain ⟨f, rfl⟩ : ∃ g, f = g + 1 := ⟨f - 1, by omega⟩
    obtain ⟨o, ho, hex, hd⟩ := R.ob
    rw [setSearchFrom_succ]
    refine wpAny_bind (wpAny_setState_of ho hd R.fits ?_)
    dsimp only
    refine wp_if_neg (by unfold SetTable.gaveWay; rw [mask_odd R.tab.mok]; decide) ?_
    try refine wpAny_bind (wpAny_pure ?_)
    -- where a row of this key stands it is not passed
    have missed : ∀ {q : Nat}, (∀ k' i', k' < q → t.place.toList[i']? = some (L2.nth t.mask (wayP t.mask (D.hash k) c) k').j → ((es[i']?.map (fun r : Int × Value => r.1)).getD 0) ≠ D.hash k) → ∀ (i : Nat) (p : Addr × κ), L[i]? = some p → p.2 = k → ∀ c', c ≤ c' → c' < c + q → t.place.toList[i]? ≠ some (way t.mask (D.hash k) c') :=
      fun hno i p hp hk c' g1 g2 he => hno (c' - c) i (by omega) (by rw [wayP_add, show c + (c' - c) = c' by omega]; exact he) (by rw [R.hAt hp, hk])
    rcases go_spec t R.tab.ris R.tab.dm (fun i => (es[i]?.map (·.1)).getD 0) (D.hash k) (10 * SetTable.turns t.mask) (K - c) (wayP t.mask (D.hash k) c) (wayP_dm _ _ _) (by omega)
      (fun q hq => by rw [wayP_add]; exact hb (c + q) (by omega)) (by rw [wayP_add, show c + (K - c) = K by omega]; exact hK) with ⟨q, i, hq, hi, hh, hno, hpr⟩ | ⟨hno, hpr⟩
    · rw [wayP_add] at hi
      rw [show t.probe (fun i => (es[i]?.map (·.1)).getD 0) (D.hash k) (st.getD (t.probeStart (D.hash k))) = some (.candidate (way t.mask (D.hash k) (c + q)) i (wayP t.mask (D.hash k) (c + (q + 1)))) by rw [hst]; rw [wayP_add, wayP_add] at hpr; exact hpr]
      obtain ⟨p, hp⟩ := R.row_of hi
      refine R.cand hx hu hp hi (fun e => yes (List.mem_map.mpr ⟨p, List.mem_of_getElem? hp, e⟩)) fun ne => ?_
      refine ih (K - (c + (q + 1))) (by omega) (c + (q + 1)) f _ rfl (by omega) (by omega) rfl fun i' p' hp' hk' => ?_
      obtain ⟨c', g1, g2, g3⟩ := hre i' p' hp' hk'
      refine ⟨c', Nat.le_of_not_lt fun lt => ?_, g2, g3⟩
      rcases Nat.lt_or_ge c' (c + q) with z | z
      · exact missed (q := q) hno i' p' hp' hk' c' g1 z g3
      · have e : c' = c + q := by omega
        subst e
        have z1 := slot_live R.tab.ris hi
        rw [slot_live R.tab.ris g3] at z1
        injection z1 with z1
        subst z1
        rw [hp] at hp'
        cases hp'
        exact ne hk'
    · rw [show t.probe (fun i => (es[i]?.map (·.1)).getD 0) (D.hash k) (st.getD (t.probeStart (D.hash k))) = some (.empty (way t.mask (D.hash k) K) none) by rw [hst]; rw [wayP_add, show c + (K - c) = K by omega] at hpr; exact hpr]
      refine wpAny_pure (no fun hm => ?_)
      obtain ⟨p, hp, hk⟩ := List.mem_map.mp hm
      obtain ⟨i, hi⟩ := List.mem_iff_getElem?.mp hp
      obtain ⟨c', g1, g2, g3⟩ := hre i p hi hk
      exact missed (q := K - c) hno i p hi hk c' g1 (by omega) g3
/-- the search -/
theorem SKd.Tb.search (R : D.Tb s.heap a L es ep t) {x : Addr} {k : κ} (hx : D.is s.heap k x) (hu : A.units < cLine) {Q : SetFound → Shared → Prop} (yes : k ∈ L.map (·.2) → Q (.there none) s)
    (no : ∀ K, k ∉ L.map (·.2) → way t.mask (D.hash k) K ∉ t.place.toList → (∀ c, c < K → way t.mask (D.hash k) c ∈ t.place.toList) → Q (.free (way t.mask (D.hash k) K) false) s) : wpAny (model P w) A (setSearch a (.ref x) (D.hash k) true) Q E s := by
  have hr := R.room
  obtain ⟨K, hKf, hK, hb⟩ := R.tab.first (by unfold SKd.hs; rw [List.length_map]; omega) (D.hash k)
  have most : 10 * SetTable.turns t.mask < 100000 := by
    unfold SetTable.turns
    rcases R.tab.mok with e | e | e <;> omega
  unfold setSearch
  refine R.from_ hx hu hKf hK hb yes (fun n => no K n hK hb) K 0 100000 none rfl (by omega) (Nat.zero_le _) rfl fun i p hp hk => ?_
  have hl := (List.getElem?_eq_some_iff.mp hp).1
  have hj := List.getElem?_eq_getElem (l := t.place.toList) (i := i) (by rw [Array.length_toList, R.plc]; exact hl)
  obtain ⟨c, z1, z2⟩ := R.tab.before hK (i := i) (h := D.hash k) (by unfold SKd.hs; rw [List.getElem?_map, hp, ← hk]; rfl) hj
  exact ⟨c, Nat.zero_le _, z1, by rw [hj, z2]⟩
end
end TL
/-! the T-layer, 54: a thing put into a set; set(xs) -/
namespace TL
open PySem PySem.Spec L2 PyProof.Rows
section
variable {P : Program} {w : World} {κ : Type} [DecidableEq κ] {D : SKd P w κ} {A : Around} {E : Value → Shared → Prop} {s : Shared} {a : Addr} {L : List (Addr × κ)} {es : Array (Int × Value)} {ep : Nat} {t : SetTable}
/-- a member is not the set, and stays when the set changes -/
theorem SKd.other {h h' : Heap} {k : κ} {b : Addr} {o : Obj} (hb : D.is h k b) (ho : h.get? a = some o) (hd : o.data = .set es ep t) (sb : Heap.SameBut a h h') : D.is h' k b :=
  D.stay hb fun u hu => (sb.2 b fun e => D.nset hb (e ▸ ho) hd).trans hu
/-- rows picked by an order of their places -/
theorem SKd.picked (he : es.toList = L.map D.row) : ∀ is : List Nat, (∀ i ∈ is, i < L.length) → ∃ L2, is.filterMap (fun i => es[i]?) = L2.map D.row ∧ L2 = is.filterMap (fun i => L[i]?) ∧ D.hs L2 = is.map fun i => (es.map (·.1)).getD i 0
  | [], _ => ⟨[], rfl, rfl, rfl⟩
  | i :: is, hi => by
    obtain ⟨L2, h1, h2, h3⟩ := SKd.picked he is fun j hj => hi j (List.mem_cons_of_mem _ hj)
    have hl : L[i]? = some (L[i]'(hi i List.mem_cons_self)) := List.getElem?_eq_getElem _
    have hx : es[i]? = some (D.row (L[i]'(hi i List.mem_cons_self))) := by rw [← Array.getElem?_toList, he, List.getElem?_map, hl]; rfl
    refine ⟨L[i]'(hi i List.mem_cons_self) :: L2, ?_, ?_, ?_⟩
    · rw [List.filterMap_cons_some hx, h1, List.map_cons]
    · rw [List.filterMap_cons_some hl, ← h2]
    · rw [List.map_cons, ← h3]
      have : (es.map (·.1)).getD i 0 = D.hash (L[i]'(hi i List.mem_cons_self)).2 := by
        rw [Array.getD_eq_getD_getElem?, Array.getElem?_map, hx]
        rfl
      rw [this]
      rfl
theorem range_picks {α : Type} (L : List α) : (List.range L.length).filterMap (fun i => L[i]?) = L := by
  have go : ∀ n, n ≤ L.length → (List.range n).filterMap (fun i => L[i]?) = L.take n := fun n => by
    induction n with
    | zero => exact fun _ => rfl
    | succ n ih =>
      intro h
      have e : L[n]? = some L[n] := List.getElem?_eq_getElem h
      rw [List.range_succ, List.filterMap_append, ih (Nat.le_of_succ_le h), List.take_succ, e, List.filterMap_cons_some e]
      rfl
  rw [go _ (Nat.le_refl _), List.take_length]
/-- the table laid anew, greater -/
theorem SKd.relay {o : Obj} (ho : s.heap.get? a = some o) (hex : o.ExactSet) (hd : o.data = .set es ep t) (he : es.toList = L.map D.row) (hz : t.place.size = es.size) (hdm : t.dummies = #[]) (hfl : es.size ≤ t.mask) (nd : (L.map (·.2)).Nodup) (mem : ∀ p ∈ L, D.is s.heap p.2 p.1)
    (ld : w.params.followText "set-order" = true ∨ t.led = true) (few : L.length < 64) {wanted M : Nat} (hw : SetTable.sizeAbove wanted - 1 = M) (hM : MaskOk M) (hw2 : SetTable.sizeAbove wanted ≤ 128) (hn : L.length * 5 < M * 3) {Q : Unit → Shared → Prop}
    (q : ∀ h' L' es' ep' t', Heap.SameBut a s.heap h' → D.Tb h' a L' es' ep' t' → L'.Perm L → Q () { s with heap := h' }) : wpAny (model P w) A (setRelay a wanted) Q E s := by
  have hl : es.size = L.length := rows_size he
  obtain ⟨t', ord, e, pm, T, em, el, epl, ed⟩ := relaid_ok t (hs := es.map (·.1)) (wanted := wanted) hw hM (by rw [Array.size_map, hl]; omega)
  rw [Array.size_map, hl] at pm
  obtain ⟨L2, r1, r2, r3⟩ := SKd.picked he ord.toList fun i hi => List.mem_range.mp (pm.mem_iff.mp hi)
  have p2 : L2.Perm L := by
    rw [r2]
    have := pm.filterMap fun i => L[i]?
    rwa [range_picks] at this
  have r1' : (ord.filterMap (es[·]?)).toList = L2.map D.row := by
    rw [Array.toList_filterMap]
    exact r1
  have sz : (ord.filterMap (es[·]?)).size = es.size := by
    rw [rows_size r1', p2.length_eq, hl]
  rw [← r3] at T
  rw [setRelay_eq]
  refine wpAny_bind (wpAny_setState_of ho hd ?_ ?_)
  · simp only [SetTable.fits, SetTable.fill, hdm, Bool.and_eq_true, beq_iff_eq, decide_eq_true_eq]
    refine ⟨by omega, ?_⟩
    show t.place.size + 0 ≤ t.mask
    omega
  dsimp only
  refine wp_if_neg (by rw [sizeLine_eq]; omega) ?_
  try refine wpAny_bind (wpAny_pure ?_)
  rw [e]
  dsimp only
  refine wpAny_bind (wp_if_neg (by rw [sz]; simp) ?_)
  try refine wpAny_bind (wpAny_pure ?_)
  refine wpAny_pure ?_
  dsimp only
  have sb : Heap.SameBut a s.heap (s.heap.update a (Obj.putSet (ord.filterMap (es[·]?)) t')) := Heap.SameBut.update ..
  exact wpAny_storeSet_of ho hd (q _ L2 _ (ep + 1) t' sb ⟨⟨_, store_at ho hd, ⟨hex.1, hex.2.1, hex.2.2⟩, rfl⟩, r1', T, (p2.map (·.2)).nodup_iff.mpr nd, fun p hp => SKd.other (mem p (p2.mem_iff.mp hp)) ho hd sb, ld.imp id fun z => el.trans z,
    by rw [p2.length_eq, em]; exact hn, by rw [p2.length_eq]; exact few⟩ p2) (by rw [sz, hl, sizeLine_eq]; omega)
/-- one put in -/
theorem SKd.Tb.add (R : D.Tb s.heap a L es ep t) {x : Addr} {k : κ} (hx : D.is s.heap k x) (hu : A.units < cLine) (hf : L.length + 1 < 64) {Q : Bool → Shared → Prop}
    (q : ∀ b h' L' es' ep' t', Heap.SameBut a s.heap h' → D.Tb h' a L' es' ep' t' → (k ∈ L.map (·.2) → L' = L) → (k ∉ L.map (·.2) → L'.Perm ((x, k) :: L)) → Q b { s with heap := h' }) : wpAny (model P w) A (setAddHashed a (.ref x) (D.hash k)) Q E s := by
  obtain ⟨o, ho, hex, hd⟩ := R.ob
  have hl : es.size = L.length := rows_size R.rw_
  have hr := R.room
  unfold setAddHashed
  rw [show (100000 : Nat) = 99999 + 1 from rfl, setAddHashedIn_succ]
  refine wpAny_holding (wpAny_bind (wpAny_setState_of ho hd R.fits ?_))
  dsimp only
  refine wp_if_neg (by simp [byScan, Value.scannable]) ?_
  try refine wpAny_bind (wpAny_pure ?_)
  refine wpAny_bind (R.search hx hu (fun hm => ?_) fun K hm hK hb => ?_)
  · exact wpAny_pure (q false s.heap L es ep t (Heap.SameBut.refl a s.heap) R (fun _ => rfl) fun z => (z hm).elim)
  dsimp only
  refine wpAny_bind (wpAny_setState_of ho hd R.fits ?_)
  dsimp only
  have pt := R.tab.put hK hb
  generalize SetTable.put t (way t.mask (D.hash k) K) = tp at pt ⊢
  obtain ⟨t1, j⟩ := tp
  dsimp only at pt ⊢
  obtain ⟨rfl, q2, q3, q4, q5, q6, _, _, q9⟩ := pt
  -- whether it is hashed by value: the layout doesn't mind
  suffices rest : ∀ t2 : SetTable, t2 = t1 ∨ t2 = { t1 with plain := false } → wpAny (model P w) A (do
      storeSet a (SetTable.insertAt es (SetTable.below t.place (way t.mask (D.hash k) K)) (D.hash k, Value.ref x)) t2
      if t2.tooFull = true then setRelay a (SetTable.grown (es.size + 1))
      pure true) Q E s by
    have both : ∀ b : Bool, (if b = true then t1 else { t1 with plain := false }) = t1 ∨ (if b = true then t1 else { t1 with plain := false }) = { t1 with plain := false } := fun b => by cases b <;> simp
    by_cases hp : t1.plain = true
    · first
        | (refine wpAny_bind ?_; refine wp_if_pos hp ?_; refine D.byVal hx fun b => ?_)
        | refine wp_if_pos hp (wpAny_bind (D.byVal hx fun b => ?_))
      have := rest _ (both b)
      simpa using this
    · first
        | (refine wpAny_bind ?_; refine wp_if_neg hp ?_; refine wpAny_pure ?_)
        | refine wp_if_neg hp (wpAny_bind (wpAny_pure ?_))
      have := rest _ (both true)
      simpa using this
  intro t2 ht2
  have e2 : t2.mask = t1.mask ∧ t2.led = t1.led ∧ t2.fill = t1.fill ∧ t2.tooFull = t1.tooFull ∧ t2.place = t1.place ∧ t2.dummies = t1.dummies := by rcases ht2 with rfl | rfl <;> exact ⟨rfl, rfl, rfl, rfl, rfl, rfl⟩
  have tab2 : ∀ hs, TabOk t1 hs → TabOk t2 hs := fun hs T => by rcases ht2 with rfl | rfl <;> exact ⟨T.ris, T.dm, T.sz, T.mok, T.bd, T.reach⟩
  generalize SetTable.below t.place (way t.mask (D.hash k) K) = j at q2 q3 ⊢
  have lh : (D.hs L).length = L.length := List.length_map ..
  rw [lh] at q2 q9
  have pm : (L.take j ++ (x, k) :: L.drop j).Perm ((x, k) :: L) := by
    have := List.perm_middle (a := (x, k)) (l₁ := L.take j) (l₂ := L.drop j)
    rwa [List.take_append_drop] at this
  have hes : (SetTable.insertAt es j (D.hash k, Value.ref x)).toList = (L.take j ++ (x, k) :: L.drop j).map D.row := by
    rw [SetTable.toList_insertAt, R.rw_, List.map_append, List.map_cons, List.map_take, List.map_drop]
    rfl
  have q3' : TabOk t2 (D.hs (L.take j ++ (x, k) :: L.drop j)) := by
    have e : D.hs (L.take j ++ (x, k) :: L.drop j) = (D.hs L).take j ++ D.hash k :: (D.hs L).drop j := by
      unfold SKd.hs
      rw [List.map_append, List.map_cons, List.map_take, List.map_drop]
    rw [e]
    exact tab2 _ q3
  have nd1 : ((L.take j ++ (x, k) :: L.drop j).map (·.2)).Nodup := (pm.map (·.2)).nodup_iff.mpr (List.nodup_cons.mpr ⟨hm, R.nd⟩)
  have ln : (L.take j ++ (x, k) :: L.drop j).length = L.length + 1 := pm.length_eq
  have ze := rows_size hes
  generalize SetTable.insertAt es j (D.hash k, Value.ref x) = es1 at hes ze ⊢
  generalize L.take j ++ (x, k) :: L.drop j = L1 at *
  refine wpAny_bind (wpAny_storeSet_of ho hd ?_ (by rw [ze, ln, sizeLine_eq]; omega))
  have sb : Heap.SameBut a s.heap (s.heap.update a (Obj.putSet es1 t2)) := Heap.SameBut.update ..
  have o1 := store_at (es' := es1) (t' := t2) ho hd
  generalize s.heap.update a (Obj.putSet es1 t2) = h1 at sb o1 ⊢
  have mem1 : ∀ p ∈ L1, D.is h1 p.2 p.1 := fun p hp => by
    rcases List.mem_cons.mp (pm.mem_iff.mp hp) with rfl | hp
    · exact SKd.other hx ho hd sb
    · exact SKd.other (R.mem p hp) ho hd sb
  have ld1 : w.params.followText "set-order" = true ∨ t2.led = true := R.ld.imp id fun z => e2.2.1.trans (q5.trans z)
  by_cases full : t2.tooFull = true
  · have more : (L.length + 1) * 5 ≥ t1.mask * 3 := by
      rw [e2.2.2.2.1] at full
      unfold SetTable.tooFull at full
      rw [decide_eq_true_eq, q9] at full
      exact full
    rw [q4] at more
    have two : (t.mask = 7 ∧ L.length = 4) ∨ (t.mask = 31 ∧ L.length = 18) := by
      rcases R.tab.mok with e | e | e <;> rw [e] at more hr
      · exact .inl ⟨e, by omega⟩
      · exact .inr ⟨e, by omega⟩
      · omega
    have place1 : t2.place.size = es1.size := by
      have := q3'.sz
      unfold SKd.hs at this
      rw [List.length_map] at this
      rw [this, ze]
    have go : ∀ M, SetTable.sizeAbove (SetTable.grown (L.length + 1)) - 1 = M → MaskOk M → SetTable.sizeAbove (SetTable.grown (L.length + 1)) ≤ 128 → (L.length + 1) * 5 < M * 3 →
        wpAny (model P w) A (setRelay a (SetTable.grown (es.size + 1))) (fun _ s' => wpAny (model P w) A (pure true) Q E s') E { s with heap := h1 } := fun M z1 z2 z3 z4 => by
      rw [hl]
      refine SKd.relay (D := D) (s := { s with heap := h1 }) o1 ⟨hex.1, hex.2.1, hex.2.2⟩ rfl hes place1 q3'.dm (by rw [ze, ln, e2.1, q4]; rcases two with ⟨e, e2⟩ | ⟨e, e2⟩ <;> omega) nd1 mem1 ld1 (by omega) z1 z2 z3 (by rw [ln]; exact z4) fun h2 L2 es2 ep2 t2 sb2 R2 pm2 => ?_
      exact wpAny_pure (q true h2 L2 es2 ep2 t2 (sb.trans sb2) R2 (fun z => (hm z).elim) fun _ => pm2.trans pm)
    first
      | (refine wpAny_bind ?_; refine wp_if_pos (by simp [full]) ?_)
      | (refine wp_if_pos (by simp [full]) ?_; refine wpAny_bind ?_)
    rcases two with ⟨_, e2⟩ | ⟨_, e2⟩
    · exact go 31 (by rw [e2, size_20]) (.inr (.inl rfl)) (by rw [e2, size_20]; decide) (by omega)
    · exact go 127 (by rw [e2, size_76]) (.inr (.inr rfl)) (by rw [e2, size_76]; decide) (by omega)
  · first
      | refine wp_if_neg (by simp [full]) ?_
      | (refine wpAny_bind ?_; refine wp_if_neg (by simp [full]) ?_; refine wpAny_pure ?_)
    refine wpAny_pure (q true h1 L1 es1 (ep + 1) t2 sb ⟨⟨_, o1, ⟨hex.1, hex.2.1, hex.2.2⟩, rfl⟩, hes, q3', nd1, mem1, ld1, ?_, by omega⟩ (fun z => (hm z).elim) fun _ => pm)
    rw [e2.2.2.2.1] at full
    unfold SetTable.tooFull at full
    rw [decide_eq_true_eq, q9] at full
    rw [e2.1]
    omega
end
end TL
/-! the T-layer, 55: set(xs) of a list, whatever it gathers -/
namespace TL
open PySem PySem.Spec L2 PyProof.Rows
abbrev setFresh (w : World) : Obj := { cls := .type "set", dict := none, data := .set #[] 0 (.fresh 0 0 (!w.params.followText "set-order")) }
end TL
/-! the T-layer, 56: sets of tuples of numbers and texts: set(xs), sorted(..), len(..) of it -/
namespace TL
open PySem PySem.Spec L2 PyProof.Rows
/-! ### the set as a tracked thing -/
section
variable {P : Program} {w : World} {κ : Type} [DecidableEq κ] (D : SKd P w κ)
structure SKd.T0 (h : Heap) (a : Addr) (L : List (Addr × κ)) : Prop where
  ex : ∃ (es : Array (Int × Value)) (ep : Nat) (t : SetTable), (∃ o, h.get? a = some o ∧ o.ExactSet ∧ o.data = .set es ep t) ∧ es.toList = L.map D.row ∧ TabOk t (D.hs L) ∧ (L.map (·.2)).Nodup ∧
    (w.params.followText "set-order" = true ∨ t.led = true) ∧ L.length * 5 < t.mask * 3 ∧ L.length < 64
variable {D}
theorem SKd.T0.at_ {h h' : Heap} {a : Addr} {L : List (Addr × κ)} (R : D.T0 h a L) (k : ∀ o, h.get? a = some o → h'.get? a = some o) : D.T0 h' a L := by
  obtain ⟨es, ep, t, ⟨o, ho, r⟩, q⟩ := R.ex
  exact ⟨es, ep, t, ⟨o, k o ho, r⟩, q⟩
theorem SKd.Tb.at_ {h h' : Heap} {a : Addr} {L : List (Addr × κ)} {es : Array (Int × Value)} {ep : Nat} {t : SetTable} (R : D.Tb h a L es ep t) (k : ∀ o, h.get? a = some o → h'.get? a = some o) (m : ∀ p ∈ L, D.is h' p.2 p.1) : D.Tb h' a L es ep t := by
  obtain ⟨o, ho, r⟩ := R.ob
  exact ⟨⟨o, k o ho, r⟩, R.rw_, R.tab, R.nd, m, R.ld, R.room, R.few⟩
theorem SKd.fresh {h : Heap} {a : Addr} (ho : h.get? a = some (setFresh w)) : D.Tb h a [] #[] 0 (.fresh 0 0 (!w.params.followText "set-order")) where
  ob := ⟨_, ho, ⟨rfl, rfl, rfl⟩, rfl⟩
  rw_ := rfl
  tab := ⟨List.Pairwise.nil, rfl, rfl, .inl rfl, fun x hx => (by cases hx), fun i h j hi => (by simp [SKd.hs] at hi)⟩
  nd := List.nodup_nil
  mem := fun p hp => (by cases hp)
  ld := by
    show _ ∨ (!w.params.followText "set-order") = true
    cases w.params.followText "set-order"
    · exact .inr rfl
    · exact .inl rfl
  room := (by decide : 0 * 5 < 7 * 3)
  few := (by decide : 0 < 64)
/-- what the set has of the first items -/
structure Has (ks L : List (Addr × κ)) : Prop where
  sub : ∀ p ∈ L, p ∈ ks
  all : ∀ p ∈ ks, p.2 ∈ L.map (·.2)
  len : L.length ≤ ks.length
theorem Has.nil : Has ([] : List (Addr × κ)) [] := ⟨fun _ h => (by cases h), fun _ h => (by cases h), Nat.le_refl _⟩
theorem Has.more {ks L L' : List (Addr × κ)} (g : Has ks L) {x : Addr × κ} (pm : L'.Perm (x :: L)) : Has (ks ++ [x]) L' := by
  refine ⟨fun p hp => ?_, fun p hp => ?_, by have := g.len; rw [pm.length_eq]; simp; omega⟩
  · rcases List.mem_cons.mp (pm.mem_iff.mp hp) with e | z
    · exact List.mem_append_right _ (by rw [e]; exact List.mem_singleton.mpr rfl)
    · exact List.mem_append_left _ (g.sub p z)
  · rw [(pm.map (·.2)).mem_iff, List.map_cons]
    rcases List.mem_append.mp hp with z | z
    · exact List.mem_cons_of_mem _ (g.all p z)
    · rw [List.mem_singleton.mp z]; exact List.mem_cons_self
end
end TL
/-! the T-layer, 57: sorted(set(xs)), len(set(xs)), xs a list of tuples of numbers and texts -/
namespace TL
open PySem PySem.Spec L2 PyProof.Rows PySem.W PySem.SeqAt
def keyD : Key → PyData
  | .inl i => .int i
  | .inr x => .str x
def tupD (k : List Key) : PyData := .tuple (k.map keyD)
def leK (x y : List Key) : Bool := !PySem.W.dataLt (tupD y) (tupD x)
end TL
/-! the T-layer, 58: sorted(set(xs)), len(set(xs)) as expressions -/
namespace TL
open PySem PySem.Spec L2 PyProof.Rows
def tupT (k : List Key) : T := .tup (k.map keyT)
def key1 : T → Option Key
  | .int i => some (.inl i)
  | .str x => some (.inr x)
  | _ => none
def keys1 : List T → Option (List Key)
  | [] => some []
  | x :: xs => match key1 x, keys1 xs with
    | some k, some ks => some (k :: ks)
    | _, _ => none
def tkeys : List T → Option (List (List Key))
  | [] => some []
  | .tup xs :: r => match keys1 xs, tkeys r with
    | some k, some ks => some (k :: ks)
    | _, _ => none
  | _ => none
def nubK : List (List Key) → List (List Key)
  | [] => []
  | k :: ks => if (ks.any fun y => decide (y = k)) = true then nubK ks else k :: nubK ks
theorem nubK_in {k : List Key} {ks : List (List Key)} : (ks.any fun y => decide (y = k)) = true ↔ k ∈ ks := by
  rw [List.any_eq_true]
  exact ⟨fun ⟨y, h, e⟩ => of_decide_eq_true e ▸ h, fun h => ⟨k, h, by simp⟩⟩
def sortK (ks : List (List Key)) : List (List Key) := ks.mergeSort leK
/-! two tuples that stand in no order are alike -/
/-! ### the expressions -/
def opSortSet : List T → Sh → Res T
  | [.lst xs], s => match tkeys xs with
    | some ks => if ks.length < 64 ∧ ordAllB (ks.map tupD) = true ∧ sortOrdB (ks.map tupD) = true then .ok (.lst ((sortK (nubK ks)).map tupT)) s else .bad
    | none => .bad
  | _, _ => .bad
theorem Has.mem {ks L : List (Addr × List Key)} (g : Has ks L) (x : List Key) : x ∈ L.map (·.2) ↔ x ∈ ks.map (·.2) := by
  constructor
  · intro h
    obtain ⟨p, hp, rfl⟩ := List.mem_map.mp h
    exact List.mem_map.mpr ⟨p, g.sub p hp, rfl⟩
  · intro h
    obtain ⟨p, hp, rfl⟩ := List.mem_map.mp h
    exact g.all p hp
def eSortSet (ea : Ev) : Ev := fun l s => (ea l s).bind fun x s1 => opSortSet [x] s1
end TL
/-! the T-layer, 59: a set comprehension, whatever it gathers (printed by wip/tools/mk59.py) -/
namespace TL
open PySem PySem.Spec L2 PyProof.Rows
end TL
/-! the T-layer, 60: sorted({elt for target in iter if ..}) of tuples of numbers and texts (printed by wip/tools/mk60.py) -/
namespace TL
open PySem PySem.Spec L2 PyProof.Rows
/-- one more -/
def addK (l : List (List Key)) (k : List Key) : List (List Key) := if (l.any fun y => decide (y = k)) = true then l else k :: l
def elK : T → Option (List Key)
  | .tup xs => keys1 xs
  | _ => none
/-- what stands in the set -/
structure MemK (K : PySem.W.Frag) (G : Gh) (L : List (Addr × List Key)) (acc : List (List Key)) : Prop where
  pm : (L.map (·.2)).Perm acc
  mem : ∀ p ∈ L, Rep K G.F G.al (tupT p.2) (.ref p.1)
  few : acc.length < 64
theorem MemK.nil {K : PySem.W.Frag} {G : Gh} : MemK K G [] [] := ⟨.nil, fun _ h => (by cases h), by decide⟩
theorem MemK.len {K : PySem.W.Frag} {G : Gh} {L : List (Addr × List Key)} {acc : List (List Key)} (m : MemK K G L acc) : L.length = acc.length := by
  have := m.pm.length_eq
  rwa [List.length_map] at this
theorem MemK.le {K : PySem.W.Frag} {G G' : Gh} {L : List (Addr × List Key)} {acc : List (List Key)} (m : MemK K G L acc) (l : GLe G G') : MemK K G' L acc := ⟨m.pm, fun p h => Rep.mono l.f l.a _ _ (m.mem p h), m.few⟩
theorem MemK.add {K : PySem.W.Frag} {G : Gh} {L L' : List (Addr × List Key)} {acc : List (List Key)} {a : Addr} {k : List Key} (m : MemK K G L acc) (r : Rep K G.F G.al (tupT k) (.ref a)) (c1 : k ∈ L.map (·.2) → L' = L) (c2 : k ∉ L.map (·.2) → L'.Perm ((a, k) :: L)) (hz : acc.length + 1 < 64 := by assumption) : MemK K G L' (addK acc k) := by
  unfold addK
  by_cases h : k ∈ L.map (·.2)
  · rw [c1 h, if_pos (nubK_in.mpr (m.pm.mem_iff.mp h))]
    exact m
  · rw [if_neg fun z => h (m.pm.mem_iff.mpr (nubK_in.mp z))]
    refine ⟨((c2 h).map (fun p : Addr × List Key => p.2)).trans (m.pm.cons k), fun p hp => ?_, by simpa using hz⟩
    rcases List.mem_cons.mp ((c2 h).mem_iff.mp hp) with rfl | hp
    · exact r
    · exact m.mem p hp
def scompK (tt : Tgt) (c : Et) (elt : Ev) : List T → Loc → Sh → List (List Key) → Res (List (List Key))
  | [], _, s, acc => .ok acc s
  | x :: xs, l, s, acc => match setT tt x l with
    | none => .bad
    | some l1 => (c l1 s).bind fun k s1 => if k = true then (elt l1 s1).bind fun y s2 => match elK y with
        | some t => if acc.length + 1 < 64 then scompK tt c elt xs l s2 (addK acc t) else .bad
        | none => .bad
      else scompK tt c elt xs l s1 acc
def endSK (ks : List (List Key)) (s : Sh) : Res T := if ordAllB (ks.map tupD) = true ∧ sortOrdB (ks.map tupD) = true then .ok (.lst ((sortK ks).map tupT)) s else .bad
def eSortSK (vs : List Nat) (it : EvL) (tt : Tgt) (c : Et) (elt : Ev) : Ev := fun l s => if noOwn l vs then (it l s).bind fun items s1 => (scompK tt c elt items (wipeL l vs) s1 []).noexc.bind endSK else .bad
end TL
/-! the T-layer, 61: e.append(..) and the like, e a shared list that an expression hands over -/
namespace TL
open PySem PySem.Spec L2
end TL
/-! the T-layer, 62: () as a default -/
namespace TL
open PySem PySem.Spec L2
end TL
/-! the T-layer, 63: x == e, x != e, x a list or dict of this frame's own -/
namespace TL
open PySem PySem.Spec L2
end TL
set_option maxHeartbeats 0
namespace TL
open PySem L2
end TL
/-! the T-layer, 64: instances of own classes: their fields read and stored -/
namespace TL
open PySem PySem.Spec PyProof.Rows L2
/-- an instance: its class, its fields -/
def insOf : T → Sh → Option (Str × List (Str × T))
  | .cel k, s => match s[k]? with
    | some (.ins C fs) => some (C, fs)
    | _ => none
  | .obj C fs, _ => some (C, fs)
  | _, _ => none
/-- e.f, of an instance of one of the classes Cs -/
def opFld (Cs : List Str) (f : Str) : T → Sh → Res T := fun t s => match insOf t s with
  | some (C, fs) => if C ∈ Cs then (match fs.lookup f with
    | some x => .ok x s
    | none => .bad) else .bad
  | none => .bad
def eFld (Cs : List Str) (f : Str) (ev : Ev) : Ev := fun l s => (ev l s).bind (opFld Cs f)
def putT (f : Str) (v : T) : List (Str × T) → List (Str × T)
  | [] => [(f, v)]
  | (g, x) :: r => if g = f then (g, v) :: r else (g, x) :: putT f v r
/-- e.f = v -/
def sFldT (Cs : List Str) (f : Str) (eo ev : Ev) : Sv := sE ev fun x => sE eo fun o l s => match o with
  | .cel k => match s[k]? with
    | some (.ins C fs) => if C ∈ Cs ∧ fs.length < 1000 then .nx l (s.set k (.ins C (putT f x fs))) else .bad
    | _ => .bad
  | _ => .bad
/-- what of the text a class must have to be made, read, asked -/
structure ClsP (K : PySem.W.Frag) (x : Str) : Prop where
  cl : Cls K (He.ga K x)
  mks : PySem.W.makesIn K (He.ga K x) = true
  kp : PySem.W.keepIn K (.ref (He.ga K x)) = true
  ca : PySem.W.findIn K (.ref (He.ga K x)) "__class__" = some (some (.builtin "object.__class__"))
  cn : PySem.W.specialIn K (.builtin "object.__class__") "__get__" = some (some (.builtin "getset_descriptor.__get__"))
  ct : PySem.W.takesIn K (.builtin "object.__class__") = some true
  cm : PySem.W.mroIn K (He.ga K x) (.type "object") = some true
def clsB (K : PySem.W.Frag) (x : Str) : Bool := PySem.W.plainGet K (He.ga K x) Str.empty && (PySem.W.hasDictIn K (He.ga K x) && (PySem.W.plainOver K (He.ga K x) && (decide (PySem.W.findIn K (.ref (He.ga K x)) "__setattr__" = some (some (.builtin "object.__setattr__"))) &&
  (PySem.W.makesIn K (He.ga K x) && (PySem.W.keepIn K (.ref (He.ga K x)) && (decide (PySem.W.findIn K (.ref (He.ga K x)) "__class__" = some (some (.builtin "object.__class__"))) && (decide (PySem.W.specialIn K (.builtin "object.__class__") "__get__" = some (some (.builtin "getset_descriptor.__get__"))) &&
  (decide (PySem.W.takesIn K (.builtin "object.__class__") = some true) && decide (PySem.W.mroIn K (He.ga K x) (.type "object") = some true)))))))))
theorem clsB_ok {K : PySem.W.Frag} {x : Str} (h : clsB K x = true) : ClsP K x := by
  obtain ⟨h1, h⟩ := Bool.and_eq_true_iff.mp h
  obtain ⟨h2, h⟩ := Bool.and_eq_true_iff.mp h
  obtain ⟨h3, h⟩ := Bool.and_eq_true_iff.mp h
  obtain ⟨h4, h⟩ := Bool.and_eq_true_iff.mp h
  obtain ⟨h5, h⟩ := Bool.and_eq_true_iff.mp h
  obtain ⟨h6, h⟩ := Bool.and_eq_true_iff.mp h
  obtain ⟨h7, h⟩ := Bool.and_eq_true_iff.mp h
  obtain ⟨h8, h⟩ := Bool.and_eq_true_iff.mp h
  obtain ⟨h9, h10⟩ := Bool.and_eq_true_iff.mp h
  exact ⟨⟨h1, h2, h3, of_decide_eq_true h4⟩, h5, h6, of_decide_eq_true h7, of_decide_eq_true h8, of_decide_eq_true h9, of_decide_eq_true h10⟩
def noatB (K : PySem.W.Frag) (x f : Str) : Bool := decide (PySem.W.findIn K (.ref (He.ga K x)) f = some none)
theorem noatB_ok {K : PySem.W.Frag} {x f : Str} (h : noatB K x f = true) : NoAttr K (He.ga K x) f := by
  unfold NoAttr
  unfold noatB at h
  exact of_decide_eq_true h
def methB (K : PySem.W.Frag) (x m : Str) : Bool := decide (PySem.W.findIn K (.ref (He.ga K x)) m = some (some (.ref (He.ma K (He.ga K x) m)))) && (PySem.W.isFn K (.ref (He.ma K (He.ga K x) m)) && PySem.W.keepIn K (.ref (He.ma K (He.ga K x) m)))
theorem methB_ok {K : PySem.W.Frag} {x m : Str} (h : methB K x m = true) : Meth K (He.ga K x) m (He.ma K (He.ga K x) m) := by
  obtain ⟨h1, h⟩ := Bool.and_eq_true_iff.mp h
  obtain ⟨h2, h3⟩ := Bool.and_eq_true_iff.mp h
  exact ⟨of_decide_eq_true h1, h2, h3⟩
section
variable {K : PySem.W.Frag} {G : Gh} {loc : Loc} {sh : Sh} {σ : L2.St} {H : Hp}
theorem ins_at (ok : Gok K G sh H) {t : T} {v : V} {C : Str} {fs : List (Str × T)} (r : rep K G t v) (e : insOf t sh = some (C, fs)) : ∃ a dx fv, v = .ref a ∧ H a = some (.ins (He.ga K C) dx fv) ∧ RepFs K G.F G.al fs fv := by
  cases t with
  | cel k =>
    obtain ⟨a, rfl, ha⟩ := r
    cases es : sh[k]? with
    | none => simp [insOf, es] at e
    | some so =>
      cases so with
      | ins C' fs' =>
        have e' : C' = C ∧ fs' = fs := by simpa [insOf, es] using e
        obtain ⟨rfl, rfl⟩ := e'
        obtain ⟨b, hb, dx, fv, h1, h2, _⟩ := ok.shr _ _ es
        rw [ha] at hb
        cases hb
        exact ⟨a, dx, fv, rfl, h1, h2⟩
      | _ => simp [insOf, es] at e
  | obj C' fs' =>
    cases e
    obtain ⟨a, dx, fv, rfl, h1, h2⟩ := r
    exact ⟨a, dx, fv, rfl, ok.fh _ _ h1, h2⟩
  | _ => cases e
theorem repFs_none {F : Hp} {al : List Addr} {f : Str} : ∀ {fs : List (Str × T)} {vs : List (Str × V)}, RepFs K F al fs vs → fs.lookup f = none → vs.lookup f = none
  | [], _, h, _ => by cases h; rfl
  | (g, x) :: fs, vs, h, e => by
    obtain ⟨v, r, rfl, h1, h2⟩ := h
    cases q : (f == g) with
    | true => simp [List.lookup, q] at e
    | false =>
      have e' : fs.lookup f = none := by simpa [List.lookup, q] using e
      have := repFs_none h2 e'
      simpa [List.lookup, q] using this
theorem repFs_put {F : Hp} {al : List Addr} {f : Str} {t : T} {v : V} (r : Rep K F al t v) : ∀ {fs : List (Str × T)} {vs : List (Str × V)}, RepFs K F al fs vs → RepFs K F al (putT f t fs) (putF f v vs)
  | [], _, h => by cases h; exact ⟨v, [], rfl, r, rfl⟩
  | (g, x) :: fs, vs, h => by
    obtain ⟨w, q, rfl, h1, h2⟩ := h
    unfold putT putF
    by_cases e : g = f
    · rw [if_pos e, if_pos e]; exact ⟨v, q, rfl, r, h2⟩
    · rw [if_neg e, if_neg e]; exact ⟨w, _, rfl, h1, repFs_put r h2⟩
theorem repFs_length {F : Hp} {al : List Addr} : ∀ {fs : List (Str × T)} {vs : List (Str × V)}, RepFs K F al fs vs → vs.length = fs.length
  | [], _, h => by cases h; rfl
  | (_, _) :: fs, _, h => by
    obtain ⟨w, q, rfl, _, h2⟩ := h
    rw [List.length_cons, List.length_cons, repFs_length h2]
end
section
variable {X : Cx} {W : WX} {m : Bool} {Cs : List Str} {o e : Expr} {ev eo : Ev} {f : Str} {pos p' : Pos}
theorem t_fld (hc : ∀ C ∈ Cs, Cls X.K (He.ga X.K C) ∧ NoAttr X.K (He.ga X.K C) f) (he : TPE X W e ev) (hb : attributeBase e f X.env (eval e X.env) = eval e X.env := by rfl) : TPE X W (.Attribute e f pos) (eFld Cs f ev) := PE.weak (pe_fld he hb) fun σ H Q ⟨G, loc, sh, ok, p⟩ => by
  refine ⟨G, loc, sh, ok, (post.bind (Rp := rpV X.K) p).imp ?_⟩
  rintro x H1 ⟨G1, t, s1, l1, ok1, r1, p1⟩
  unfold opFld at p1
  cases e1 : insOf t s1 with
  | none => rw [e1] at p1; exact p1.elim
  | some q =>
    obtain ⟨C, fs⟩ := q
    rw [e1] at p1
    dsimp only at p1
    by_cases hC : C ∈ Cs
    · rw [if_pos hC] at p1
      cases e2 : fs.lookup f with
      | none => rw [e2] at p1; exact p1.elim
      | some y =>
        rw [e2] at p1
        obtain ⟨a, dx, fv, rfl, h1, h2⟩ := ins_at ok1.toGok r1 e1
        obtain ⟨v, hv, rv⟩ := repFs_lookup h2 e2
        exact ⟨a, _, dx, fv, v, rfl, h1, (hc C hC).1, (hc C hC).2, hv, p1 v H1 G1 (GLe.refl _) ok1 rv⟩
    · rw [if_neg hC] at p1; exact p1.elim
theorem ts_fld (hc : ∀ C ∈ Cs, Cls X.K (He.ga X.K C) ∧ NoAttr X.K (He.ga X.K C) f) (ho : TPE X W o eo) (he : TPE X W e ev) (hs : swapsWith e (some (.Attribute o f p')) pos.line X.env = pure false := by rfl) : TPS X W m (.Assign [.Attribute o f p'] e pos) (sFldT Cs f eo ev) := PS.weak (ps_fld ho he hs) fun D σ H ⟨G, loc, sh, ok, p⟩ => by
  refine ⟨G, loc, sh, ok, (postS.val (Rp := rpV X.K) p).imp ?_⟩
  rintro y H1 ⟨G1, ty, s1, l1, ok1, r1, p1⟩
  refine ⟨G1, loc, s1, ok1, (postS.val (Rp := rpV X.K) p1).imp ?_⟩
  rintro x H2 ⟨G2, t, s2, l2, ok2, r2, p2⟩
  cases t with
  | cel k =>
    dsimp only at p2
    cases es : s2[k]? with
    | none => rw [es] at p2; exact p2.elim
    | some so =>
      rw [es] at p2
      cases so with
      | ins C fs =>
        dsimp only at p2
        by_cases hC : C ∈ Cs ∧ fs.length < 1000
        · rw [if_pos hC] at p2
          obtain ⟨a, rfl, ha⟩ := r2
          obtain ⟨b, hb, dx, fv, h1, h2, h3, h4, h5, h6⟩ := ok2.shr _ _ es
          rw [ha] at hb
          cases hb
          refine ⟨a, _, dx, fv, rfl, h1, (hc C hC.1).1, (hc C hC.1).2, by rw [repFs_length h2]; exact hC.2, ?_⟩
          have ne : dx ≠ a := fun z => by rw [z, h1] at h3; cases h3
          exact p2 _ _ G2 (GLe.refl _) (ok2.mutC ha es (fun z q => by rw [h1] at q; cases q) ⟨dx, _, upd_same, repFs_put (rep_le l2 r1) h2, (upd_ne ne).trans h3, h4, h5, h6⟩)
        · rw [if_neg hC] at p2; exact p2.elim
      | _ => exact p2.elim
  | _ => exact p2.elim
end
end TL
/-! the T-layer, 65: instances of own classes: methods called, instances made -/
namespace TL
open PySem PySem.Spec PyProof.Rows L2
/-- the def of an instance's method, by its class -/
def mthOf (tbl : List (Str × Fn)) (m : Str) (t : T) (s : Sh) : Option Fn := match insOf t s with
  | some (C, fs) => if (fs.lookup m).isNone = true then tbl.lookup C else none
  | none => none
/-- o.m(..); dts: the defaults behind -/
def eMth (tbl : List (Str × Fn)) (m : Str) (dts : List T) (eo : Ev) (eL : EvL) : Ev := fun l s => (eo l s).bind fun o s1 => match mthOf tbl m o s1 with
  | some φ => (eL l s1).bind fun ts s2 => φ (o :: (ts ++ dts)) s2
  | none => .bad
/-- C(..) -/
def eMake (C : Str) (φ : Fn) (dts : List T) (eL : EvL) : Ev := fun l s => (eL l s).bind fun ts s1 => (φ (.cel s1.length :: (ts ++ dts)) (s1 ++ [.ins C []])).bind fun r s2 => match r with
  | .non => .ok (.cel s1.length) s2
  | _ => .bad
/-- the facts of a method that is called: n arguments are written, self among them -/
def CalM (P : Program) (w : World) (K : PySem.W.Frag) (mg : Str → Option Value) (base : Heap) (CX : CXT) (k : Nat) (C m : Str) (md : Bool) (n : Nat) (dts : List T) (φ : Fn) : Prop :=
  ∃ f fd ps, FnOk P w K mg base CX k f fd ps (spT K md ps.length φ) ∧ Cls K (He.ga K C) ∧ Meth K (He.ga K C) m f ∧ ∃ ds dvs, Binds K fd ps ds ∧ Vals dvs ds ∧ (∀ F al, RepL K F al dts dvs) ∧ n + dts.length = ps.length
/-- .. of a class that is called -/
def CalC (P : Program) (w : World) (K : PySem.W.Frag) (mg : Str → Option Value) (base : Heap) (CX : CXT) (k : Nat) (C : Str) (n : Nat) (dts : List T) (φ : Fn) : Prop :=
  ∃ f fd ps, FnOk P w K mg base CX k f fd ps (spT K false ps.length φ) ∧ Mk K (He.ga K C) f ∧ mg C = some (.ref (He.ga K C)) ∧ ∃ ds dvs, Binds K fd ps ds ∧ Vals dvs ds ∧ (∀ F al, RepL K F al dts dvs) ∧ n + dts.length = ps.length
section
variable {X : Cx} {W : WX} {CX : CXT} {k n n' : Nat} {md : Bool} {tbl : List (Str × Fn)} {C m : Str} {φ : Fn} {x : Str} {p pos apos : Pos} {o e : Expr} {es : List Expr} {eo : Ev} {eL : EvL} {dts : List T} {E : L2.St → XK} {ta : TE} {t : TA}
theorem call_at {pins : List (Addr × Obj)} {σ : L2.St} {H : Hp} {s : Shared} {Q : VK} {vs : List V} {us : List Value} {f : Addr} {fd : FuncData} {ps : List Str} {sp : Sp} {ds : List Value} {dvs : List V} {Eσ : XK} (F : FnOk X.prog X.w X.K X.mg X.base CX k f fd ps sp) (hr : Room k X.A) (hb : Binds X.K fd ps ds) (hd : Vals dvs ds) (hx : PassesAt CX X σ Eσ)
    (I : Inv X pins σ H s) (r : Vals vs us) (q : sp (vs ++ dvs) H Q Eσ) : wpAny (model X.prog X.w) X.A (call (.ref f) us) (EP X pins σ Q) X.xe s := by
  have r2 := Vals.append r hd
  have hl : (us ++ ds).length = ps.length := by rw [← r2.length]; exact F.len _ _ _ _ q
  exact wpAny_call (codeAny_mono (run_fnA F hr (hb s us I.kIn hl) hx I r2 q) fun r s' h => h)
/-- what is asked of an instance and its method -/
def MthAt (X : Cx) (CX : CXT) (k : Nat) (m : Str) (x : V) (H : Hp) (R : Sp → List V → Prop) : Prop :=
  ∃ a C dx fs f fd ps sp ds dvs, x = V.ref a ∧ H a = some (.ins C dx fs) ∧ Cls X.K C ∧ Meth X.K C m f ∧ FnOk X.prog X.w X.K X.mg X.base CX k f fd ps sp ∧ Binds X.K fd ps ds ∧ Vals dvs ds ∧ fs.lookup m = none ∧ R sp dvs
theorem pe_mthA0 {pl : Sem Bool} (he : PE X o ta) (hr : Room k X.A) (hx : ∀ σ, PassesAt CX X σ (E σ))
    (ht : eval (.Call (.Attribute o m apos) [] [] pos) X.env = (do
      let ov ← eval o X.env
      standAt apos.atName
      let (f, first) ← holding [ov] (getMethod ov m pl)
      callWith pos f first (backTo pos (starEach [] X.env)) (backToKw pos (keywordEach [] X.env))) := by rfl) :
    PE X (.Call (.Attribute o m apos) [] [] pos) (fun σ H Q => ta σ H fun x H1 => MthAt X CX k m x H1 fun sp dvs => sp (x :: dvs) H1 Q (E σ)) := by
  refine ⟨fun pins s σ H Q I h => ?_⟩
  refine PySem.W.methodCall_KW (pl := pl) (thn (he.run pins s σ H _ I h) fun u s1 ⟨x, H1, I1, rx, a, C, dx, fs, f, fd, ps, sp, ds, dvs, ex, ea, c, hm, F, hb, hd, l, q⟩ => ?_) ht
  subst ex
  obtain rfl : u = Value.ref a := rx
  refine getmeth_ok I1 ea c hm l ?_
  exact PySem.W.callWith_K0 (first := [.ref a]) I1.kIn hm.kp (call_at (us := [.ref a]) (vs := [.ref a]) F hr hb hd (hx σ) I1 (.cons rfl .nil) q)
theorem lookup_mem {α : Type} {C : Str} {y : α} : ∀ {l : List (Str × α)}, l.lookup C = some y → (C, y) ∈ l
  | [], h => by simp at h
  | (D, z) :: l, h => by
    by_cases e : C = D
    · subst e
      have : z = y := by simpa [List.lookup] using h
      subst this
      exact List.mem_cons_self
    · have eb : (C == D) = false := by simpa using e
      have h' : l.lookup C = some y := by simpa [List.lookup, eb] using h
      exact List.mem_cons_of_mem _ (lookup_mem h')
theorem mth_at {G : Gh} {sh : Sh} {H : Hp} (ok : Gok X.K G sh H) {o : T} {v : V} (ro : rep X.K G o v) (e : mthOf tbl m o sh = some φ) (ht : ∀ q ∈ tbl, CalM X.prog X.w X.K X.mg X.base CX k q.1 m md n dts q.2) {R : Sp → List V → Prop}
    (h : ∀ ps dvs, n + dts.length = ps → (∀ F al, RepL X.K F al dts dvs) → R (spT X.K md ps φ) dvs) : MthAt X CX k m v H R := by
  unfold mthOf at e
  cases e1 : insOf o sh with
  | none => rw [e1] at e; cases e
  | some q =>
    obtain ⟨C, fs⟩ := q
    rw [e1] at e
    dsimp only at e
    by_cases hn : (fs.lookup m).isNone = true
    · rw [if_pos hn] at e
      obtain ⟨a, dx, fv, rfl, h1, h2⟩ := ins_at ok ro e1
      obtain ⟨f, fd, ps, F, c, hm, ds, dvs, hb, hd, hdt, hln⟩ := ht _ (lookup_mem e)
      refine ⟨a, _, dx, fv, f, fd, ps, _, ds, dvs, rfl, h1, c, hm, F, hb, hd, repFs_none h2 (Option.isNone_iff_eq_none.mp hn), h _ dvs hln hdt⟩
    · rw [if_neg hn] at e; cases e
theorem t_mth0 {pl : Sem Bool} (ht : ∀ q ∈ tbl, CalM X.prog X.w X.K X.mg X.base CX k q.1 m md n dts q.2) (hr : Room k X.A) (hx : ∀ σ, PassesAt CX X σ (WE W σ)) (ho : TPE X W o eo) (hn : 1 = n := by rfl)
    (hev : eval (.Call (.Attribute o m apos) [] [] pos) X.env = (do
      let ov ← eval o X.env
      standAt apos.atName
      let (f, first) ← holding [ov] (getMethod ov m pl)
      callWith pos f first (backTo pos (starEach [] X.env)) (backToKw pos (keywordEach [] X.env))) := by rfl) :
    TPR X W md (.Call (.Attribute o m apos) [] [] pos) (eMth tbl m dts eo aNil) := PE.weak (pe_mthA0 ho hr hx hev) fun σ H Q ⟨G, loc, sh, ok, p⟩ => by
  refine ⟨G, loc, sh, ok, (post.bind (Rp := rpV X.K) p).imp ?_⟩
  rintro v H1 ⟨G1, ot, s1, l1, ok1, r1, p1⟩
  cases em : mthOf tbl m ot s1 with
  | none => rw [em] at p1; exact p1.elim
  | some φ =>
    rw [em] at p1
    dsimp only at p1
    refine mth_at ok1.toGok r1 em ht fun ps dvs hps hdt => ?_
    have q := call_core ok1 (RepL.cons r1 (hdt _ _)) (show post (rpM X.K md loc σ) X.K W G1 loc σ (φ (ot :: dts) s1) Q from p1)
    have : (ot :: dts).length = ps := by
      rw [List.length_cons, ← hps, ← hn]
      omega
    rw [this] at q
    exact q
/-- C(..) is run -/
theorem run_mkA {Ca : Addr} {f : Addr} {fd : FuncData} {ps : List Str} {sp : Sp} {ds : List Value} {dvs : List V} {pins : List (Addr × Obj)} {σ : L2.St} {H : Hp} {s : Shared} {Q : VK} {us : List Value} {vs : List V} {Eσ : XK} (M : Mk X.K Ca f) (F : FnOk X.prog X.w X.K X.mg X.base CX k f fd ps sp) (hr : Room (k + 1) X.A) (hb : Binds X.K fd ps ds) (hd : Vals dvs ds)
    (hx : PassesAt CX X σ Eσ) (I : Inv X pins σ H s) (r : Vals vs us)
    (h : ∀ x dx, H x = none → H dx = none → dx ≠ x → sp (.ref x :: (vs ++ dvs)) (upd (upd H dx (.own x)) x (.ins Ca dx [])) (fun v H2 => v = .non ∧ Q (.ref x) H2) Eσ) :
    wpAny (model X.prog X.w) X.A (call (.ref Ca) us) (EP X pins σ Q) X.xe s := by
  have hq := h (s.heap.objs.size + 1) s.heap.objs.size (I.hok.fresh (Nat.le_succ _)) (I.hok.fresh (Nat.le_refl _)) (Nat.ne_of_lt (Nat.lt_succ_self _))
  have I2 := Inv.made (C := Ca) I
  have r2 : Vals (V.ref (s.heap.objs.size + 1) :: (vs ++ dvs)) (Value.ref (s.heap.objs.size + 1) :: (us ++ ds)) := .cons rfl (r.append hd)
  have hl : (Value.ref (s.heap.objs.size + 1) :: us ++ ds).length = ps.length := by
    have e := r2.length
    rw [F.len _ _ _ _ hq] at e
    exact e.symm
  refine wpAny_call (make_map (f := f) I.kIn M.makes M.init (beq_iff_eq.mp M.fn) (codeAny_mono (F.run _ X.stack _ _ ⟨Value.ref (s.heap.objs.size + 1) :: us, []⟩ (Value.ref (s.heap.objs.size + 1) :: (us ++ ds)) _ _ Eσ (hr.make Ca us [])
    (I2.env0.make Ca us []) (hb _ (Value.ref (s.heap.objs.size + 1) :: us) I2.kIn hl) r2 hq) fun r s' hq' => ?_))
  cases r with
  | error e => exact hx pins _ _ e s' I2 hq'
  | ok fl =>
    cases fl with
    | ret u =>
      obtain ⟨v, H', I3, rv, ev, q3⟩ := I2.after hq'
      subst ev
      exact ⟨rv, ⟨V.ref (s.heap.objs.size + 1), H', I3, rfl, q3⟩⟩
    | next => exact False.elim hq'
    | brk => exact False.elim hq'
    | cont => exact False.elim hq'
/-- a new instance among the shared things -/
theorem Ok.shareI {K : PySem.W.Frag} {G : Gh} {loc : Loc} {sh : Sh} {σ : L2.St} {H : Hp} (ok : Ok K G loc sh σ H) {x dx : Addr} (hx : H x = none) (hdx : H dx = none) (ne : dx ≠ x) (C : Str) :
    ∃ G', GLe G G' ∧ Ok K G' loc (sh ++ [.ins C []]) σ (upd (upd H dx (.own x)) x (.ins (He.ga K C) dx [])) ∧ rep K G' (.cel sh.length) (.ref x) := by
  have hx1 : upd H dx (.own x) x = none := (upd_ne ne.symm).trans hx
  have ok1 : Ok K G loc sh σ (upd H dx (.own x)) := ok.grow hdx
  have ok2 : Ok K G loc sh σ (upd (upd H dx (.own x)) x (.ins (He.ga K C) dx [])) := ok1.grow hx1
  have le : GLe G { G with al := G.al ++ [x] } := ⟨FLe.refl _, ale_snoc _ _, rfl⟩
  have h2x : upd (upd H dx (.own x)) x (.ins (He.ga K C) dx []) x = some (.ins (He.ga K C) dx []) := upd_same
  have h2d : upd (upd H dx (.own x)) x (.ins (He.ga K C) dx []) dx = some (.own x) := (upd_ne ne).trans upd_same
  have na : ∀ y, upd (upd H dx (.own x)) x (.ins (He.ga K C) dx []) x ≠ some (.own y) := fun y e => by rw [h2x] at e; cases e
  refine ⟨_, le, ⟨⟨ok2.fh, ok2.bh, ok2.dis, fun k b h => ?_, fun i j b h1 h2 => ?_, ?_, fun k u h => ?_⟩, ok2.len, fun i => ?_, ok2.sep⟩, x, rfl, ?_⟩
  · rcases snoc_get h with h | ⟨_, rfl⟩
    · exact ok2.alf k b h
    · exact ⟨ok.freeF hx, ok.freeB hx⟩
  · rcases snoc_get h1 with g1 | ⟨e1, e2⟩
    · rcases snoc_get h2 with g2 | ⟨e3, e4⟩
      · exact ok2.ali i j b g1 g2
      · exact (ok.freeA hx i (by rw [← e4]; exact g1)).elim
    · rcases snoc_get h2 with g2 | ⟨e3, e4⟩
      · exact (ok.freeA hx j (by rw [← e2]; exact g2)).elim
      · rw [e1, e3]
  · show (G.al ++ [x]).length = (sh ++ [SO.ins C []]).length
    rw [List.length_append, List.length_append, ok.all]
    rfl
  · rcases snoc_get h with h | ⟨rfl, rfl⟩
    · obtain ⟨b, h1, h2⟩ := ok2.shr k u h
      refine ⟨b, le.a _ _ h1, ?_⟩
      refine h2.le le rfl fun dy hd => ⟨hd, id, fun q k' h' => ?_⟩
      rcases snoc_get h' with h' | ⟨_, rfl⟩
      · exact q k' h'
      · exact na _ hd
    · refine ⟨x, ?_, dx, [], h2x, rfl, h2d, ok.freeF hdx, ok.freeB hdx, fun j z => ?_⟩
      · show (G.al ++ [x])[sh.length]? = some x
        rw [← ok.all]
        simp
      · rcases snoc_get z with z | ⟨_, z⟩
        · exact ok.freeA hdx j z
        · exact ne z
  · have hs := ok.sl i
    refine (ok2.sl i).le le fun b y es eo _ _ n3 _ => ⟨rfl, ‹_›, fun k h => ?_⟩
    rcases snoc_get h with h | ⟨_, rfl⟩
    · exact n3 k h
    · rw [es] at hs
      obtain ⟨b', e', _, _, _, h4⟩ := hs
      rw [eo] at e'
      obtain ⟨o', eo'⟩ := h4.there
      cases e'
      rw [hx] at eo'
      cases eo'
  · show (G.al ++ [x])[sh.length]? = some x
    rw [← ok.all]
    simp
theorem make_core {G : Gh} {loc : Loc} {sh : Sh} {σ : L2.St} {H : Hp} (ok : Ok X.K G loc sh σ H) {ts : List T} {vs : List V} {Q : VK} (r : repL X.K G ts vs)
    (p : post (rpV X.K) X.K W G loc σ ((φ (.cel sh.length :: ts) (sh ++ [.ins C []])).bind fun r s2 => match r with
      | .non => .ok (.cel sh.length) s2
      | _ => .bad) Q) : ∀ x dx, H x = none → H dx = none → dx ≠ x → spT X.K false (ts.length + 1) φ (.ref x :: vs) (upd (upd H dx (.own x)) x (.ins (He.ga X.K C) dx [])) (fun v H2 => v = .non ∧ Q (.ref x) H2) (WE W σ) := by
  intro x dx hx hdx ne
  obtain ⟨G1, l1, ok1, r1⟩ := ok.shareI hx hdx ne C
  refine call_core (m := false) (ts := .cel sh.length :: ts) ok1 (RepL.cons r1 (repL_le l1 r)) ?_
  refine (post.bind (Rp := rpV X.K) (post.le l1 p)).imp ?_
  rintro v H2 ⟨G2, t, s2, l2, ok2, r2, p2⟩
  cases t with
  | non => cases r2; exact ⟨rfl, p2 _ H2 G2 (GLe.refl _) ok2 (rep_le l2 r1)⟩
  | _ => exact p2.elim
theorem t_make (hc : CalC X.prog X.w X.K X.mg X.base CX k C n dts φ) (hr : Room (k + 1) X.A) (hx : ∀ σ, PassesAt CX X σ (WE W σ)) (hg : Gl X C) (ha : TPA X W (e :: es) eL) (hl : ALen eL n') (hn : n' + 1 = n := by rfl)
    (hdb : (C == ("__debug__" : Str)) = false := by decide) (he : starEach (e :: es) X.env = (false, eval e X.env) :: starEach es X.env := by rfl) (hpl : (backTo pos (starEach es X.env)).any (·.1) = false := by rfl) :
    TPE X W (.Call (.Name C p) (e :: es) [] pos) (eMake C φ dts eL) := by
  obtain ⟨f, fd, ps, F, M, hm, ds, dvs, hb, hd, hdt, hln⟩ := hc
  refine ⟨fun pins s σ H Q I ⟨G, loc, sh, ok, p⟩ => ?_⟩
  refine wpAny_Call_Name_kw (ld_glob I hg hm ?_ hdb)
  refine PySem.W.callWith_K (h₀ := X.base) I.ok.mod.kin M.kp (thn (ha.run pos pins s σ H _ I ⟨G, loc, sh, ok, post.bindok (Rp := rpL X.K) p⟩) fun us s1 ⟨vs, H1, I1, r, G1, ts, s2, e2, l1, ok1, r1, p1⟩ => ⟨I1.kIn, ?_⟩) he hpl
  refine run_mkA M F hr hb hd (hx σ) I1 r ?_
  have q := make_core (W := W) (C := C) (φ := φ) ok1 (RepL.append r1 (hdt _ _)) p1
  have : (ts ++ dts).length + 1 = ps.length := by
    rw [List.length_append, hl _ _ _ _ e2, ← hln, ← hn]
    omega
  rw [this] at q
  exact q
end
end TL
/-! the T-layer, 66: == of a dict and a thing of another kind (printed by wip/tools/mk66.py) -/
namespace PySem.SeqAt
open AutoSeq1 (wpAny_loadPart')
open MeetsSeq MeetsSeq2 MeetsSeq3 SeqRoads2
/-- a dict's object -/
def DObj (s : Shared) (l : Addr) : Prop := ∃ es ep, s.heap.get? l = some { cls := .type "dict", data := .dict es ep }
theorem DObj.ty {s : Shared} {l : Addr} (h : DObj s l) : s.TypeIs (.ref l) "dict" := by
  obtain ⟨es, ep, h⟩ := h
  exact ⟨_, h, rfl⟩
theorem DObj.of {prog : Program} {w : World} {K : Type} [DecidableEq K] {knd : KeyKind prog w K} {s : Shared} {l : Addr} {kvs : List (K × Value)} (h : s.heap.DictOf knd l kvs) : DObj s l := by
  obtain ⟨⟨c, d, dt, sl⟩, es, ep, ho, ⟨h1, h2, h3⟩, hd, _⟩ := h
  simp only at h1 h2 h3 hd
  subst h1 h2 h3 hd
  exact ⟨es, ep, ho⟩
theorem dict_eq_declines (l : Addr) (x : Value) (T : String) (hs : isSubtype (.type T) (.type "dict") = pure false) :
    Meets (Builtin.«dict.__eq__» ⟨[.ref l, x], []⟩) (fun _ R s => s.TypeIs (.ref l) "dict" ∧ s.TypeIs x T ∧ R (.ok (.ret .notImplemented)) s) :=
  .of_wp fun prog w A R s h => by
    obtain ⟨hT, hx, h⟩ := h
    show wpAny _ _ (Builtin.Dict.dictSlotArgs "__eq__" ⟨[.ref l, x], []⟩ >>= _) _ _ s
    refine wpAny_bind ?_
    unfold Builtin.Dict.dictSlotArgs
    refine wpAny_bind (wpAny_notOrdered_dict hT ?_)
    show wpAny _ _ (pure (Value.ref l, x)) _ _ s
    refine wpAny_pure ?_
    refine wpAny_bind (wpAny_isInstance (T := T) hx hs ?_)
    simp only [Bool.not_false, if_true]
    refine wpAny_bind (wpAny_rule ?_)
    first
      | exact wpAny_pure ⟨_, rfl, h⟩
      | exact wpAny_bind (wpAny_pure (wpAny_pure ⟨_, rfl, h⟩))
theorem bool_eq_declines_dict (b : Bool) (l : Addr) (es : Array DictEntry) (ep : Nat) :
    Meets (Builtin.«int.__eq__» ⟨[.bool b, .ref l], []⟩) (fun _ R s => s.heap.get? l = some { cls := .type "dict", data := .dict es ep } ∧ R (.ok (.ret .notImplemented)) s) :=
  .of_wp fun prog w A R s h => by
    obtain ⟨hp, g, d, tk, os⟩ := s
    obtain ⟨hl, h⟩ := h
    have f1 := F.sub_dict_list
    have f2 := F.sub_dict_tuple
    have f3 := F.sub_dict_int
    have f4 := F.sub_dict_str
    wp_walk using wpAny_loadPart' hl, wpAny_load hl
    exact ⟨_, rfl, h⟩
theorem int_eq_declines_dict (b : Int) (u : Tok) (l : Addr) (es : Array DictEntry) (ep : Nat) :
    Meets (Builtin.«int.__eq__» ⟨[.int b u, .ref l], []⟩) (fun _ R s => s.heap.get? l = some { cls := .type "dict", data := .dict es ep } ∧ R (.ok (.ret .notImplemented)) s) :=
  .of_wp fun prog w A R s h => by
    obtain ⟨hp, g, d, tk, os⟩ := s
    obtain ⟨hl, h⟩ := h
    have f1 := F.sub_dict_list
    have f2 := F.sub_dict_tuple
    have f3 := F.sub_dict_int
    have f4 := F.sub_dict_str
    wp_walk using wpAny_loadPart' hl, wpAny_load hl
    exact ⟨_, rfl, h⟩
theorem str_eq_declines_dict (b : Str) (u : Tok) (l : Addr) (es : Array DictEntry) (ep : Nat) :
    Meets (Builtin.«str.__eq__» ⟨[.str b u, .ref l], []⟩) (fun _ R s => s.heap.get? l = some { cls := .type "dict", data := .dict es ep } ∧ R (.ok (.ret .notImplemented)) s) :=
  .of_wp fun prog w A R s h => by
    obtain ⟨hp, g, d, tk, os⟩ := s
    obtain ⟨hl, h⟩ := h
    have f1 := F.sub_dict_list
    have f2 := F.sub_dict_tuple
    have f3 := F.sub_dict_int
    have f4 := F.sub_dict_str
    wp_walk using wpAny_loadPart' hl, wpAny_load hl
    exact ⟨_, rfl, h⟩
theorem list_eq_declines_dict (b : Addr) (items : Array Value) (n : Nat) (dd : Option Addr) (sl : Array (Option Value)) (l : Addr) (es : Array DictEntry) (ep : Nat) :
    Meets (Builtin.«list.__eq__» ⟨[.ref b, .ref l], []⟩) (fun _ R s => s.heap.get? b = some { cls := .type "list", dict := dd, data := .seq items n, slots := sl } ∧ s.heap.get? l = some { cls := .type "dict", data := .dict es ep } ∧ R (.ok (.ret .notImplemented)) s) :=
  .of_wp fun prog w A R s h => by
    obtain ⟨hp, g, d, tk, os⟩ := s
    obtain ⟨hb, hl, h⟩ := h
    have f1 := F.sub_dict_list
    have f2 := F.sub_dict_tuple
    have f3 := F.sub_dict_int
    have f4 := F.sub_dict_str
    wp_walk using wpAny_loadPart' hl, wpAny_load hl, wpAny_loadPart' hb
    exact ⟨_, rfl, h⟩
theorem tuple_eq_declines_dict (b : Addr) (items : Array Value) (n : Nat) (dd : Option Addr) (sl : Array (Option Value)) (l : Addr) (es : Array DictEntry) (ep : Nat) :
    Meets (Builtin.«tuple.__eq__» ⟨[.ref b, .ref l], []⟩) (fun _ R s => s.heap.get? b = some { cls := .type "tuple", dict := dd, data := .seq items n, slots := sl } ∧ s.heap.get? l = some { cls := .type "dict", data := .dict es ep } ∧ R (.ok (.ret .notImplemented)) s) :=
  .of_wp fun prog w A R s h => by
    obtain ⟨hp, g, d, tk, os⟩ := s
    obtain ⟨hb, hl, h⟩ := h
    have f1 := F.sub_dict_list
    have f2 := F.sub_dict_tuple
    have f3 := F.sub_dict_int
    have f4 := F.sub_dict_str
    wp_walk using wpAny_loadPart' hl, wpAny_load hl, wpAny_loadPart' hb
    exact ⟨_, rfl, h⟩
section
variable {A : Around} {s : Shared}
theorem EqAt.dict_none {l : Addr} (hl : DObj s l) (hu : A.units < cLine) : EqAt A s (.ref l) (.none) false := fun prog w E Q h => by
  have ht := hl.ty
  obtain ⟨es, ep, ho⟩ := hl
  unfold eqBool
  refine wpAny_holding ?_
  refine wpAny_ite_split (fun hab => absurd (eq_of_beq hab) nofun) (fun _ => ?_)
  refine wpAny_bind (rc_eq_decline_or (k := false) ht rfl (by decide) F.sub_NoneType_dict F.slot_dict_eq F.slot_NoneType_eq_refl
    (fun _ hq => call_meets F.slot_dict_eq ht F.entry_dict_eq (F.args_dict_eq_2 _ _) (dict_eq_declines l (.none) "NoneType" F.sub_NoneType_dict) ⟨ht, rfl, hq⟩)
    (fun _ hq => call_gives F.slot_NoneType_eq_refl rfl F.entry_NoneType_eq (F.args_NoneType_eq_2 _ _) (NoneType___eq___none_ref_0 l) hq)
    (fun _ hq => wpAny_of_eq (rfl : isSame (.ref l) (.none) = pure false) hq) (.inr hu) (wpAny_truthy_bool h))
theorem EqAt.none_dict {l : Addr} (hl : DObj s l) (hu : A.units < cLine) : EqAt A s (.none) (.ref l) false := fun prog w E Q h => by
  have ht := hl.ty
  obtain ⟨es, ep, ho⟩ := hl
  unfold eqBool
  refine wpAny_holding ?_
  refine wpAny_ite_split (fun hab => absurd (eq_of_beq hab) nofun) (fun _ => ?_)
  refine wpAny_bind (rc_eq_decline_or (k := false) rfl ht (by decide) F.sub_dict_NoneType F.slot_NoneType_eq F.slot_dict_eq_refl
    (fun _ hq => call_gives F.slot_NoneType_eq rfl F.entry_NoneType_eq (F.args_NoneType_eq_2 _ _) (NoneType___eq___none_ref_0 l) hq)
    (fun _ hq => call_meets F.slot_dict_eq_refl ht F.entry_dict_eq (F.args_dict_eq_2 _ _) (dict_eq_declines l (.none) "NoneType" F.sub_NoneType_dict) ⟨ht, rfl, hq⟩)
    (fun _ hq => wpAny_of_eq (rfl : isSame (.none) (.ref l) = pure false) hq) (.inr hu) (wpAny_truthy_bool h))
theorem EqAt.dict_bool {l : Addr} (b : Bool) (hl : DObj s l) (hu : A.units < cLine) : EqAt A s (.ref l) (.bool b) false := fun prog w E Q h => by
  have ht := hl.ty
  obtain ⟨es, ep, ho⟩ := hl
  unfold eqBool
  refine wpAny_holding ?_
  refine wpAny_ite_split (fun hab => absurd (eq_of_beq hab) nofun) (fun _ => ?_)
  refine wpAny_bind (rc_eq_decline_or (k := false) ht rfl (by decide) F.sub_bool_dict F.slot_dict_eq F.slot_bool_eq_refl
    (fun _ hq => call_meets F.slot_dict_eq ht F.entry_dict_eq (F.args_dict_eq_2 _ _) (dict_eq_declines l (.bool b) "bool" F.sub_bool_dict) ⟨ht, rfl, hq⟩)
    (fun _ hq => call_meets F.slot_bool_eq_refl rfl F.entry_int_eq (F.args_int_eq_2 _ _) (bool_eq_declines_dict b l es ep) ⟨ho, hq⟩)
    (fun _ hq => wpAny_of_eq (rfl : isSame (.ref l) (.bool b) = pure false) hq) (.inr hu) (wpAny_truthy_bool h))
theorem EqAt.bool_dict {l : Addr} (b : Bool) (hl : DObj s l) (hu : A.units < cLine) : EqAt A s (.bool b) (.ref l) false := fun prog w E Q h => by
  have ht := hl.ty
  obtain ⟨es, ep, ho⟩ := hl
  unfold eqBool
  refine wpAny_holding ?_
  refine wpAny_ite_split (fun hab => absurd (eq_of_beq hab) nofun) (fun _ => ?_)
  refine wpAny_bind (rc_eq_decline_or (k := false) rfl ht (by decide) F.sub_dict_bool F.slot_bool_eq F.slot_dict_eq_refl
    (fun _ hq => call_meets F.slot_bool_eq rfl F.entry_int_eq (F.args_int_eq_2 _ _) (bool_eq_declines_dict b l es ep) ⟨ho, hq⟩)
    (fun _ hq => call_meets F.slot_dict_eq_refl ht F.entry_dict_eq (F.args_dict_eq_2 _ _) (dict_eq_declines l (.bool b) "bool" F.sub_bool_dict) ⟨ht, rfl, hq⟩)
    (fun _ hq => wpAny_of_eq (rfl : isSame (.bool b) (.ref l) = pure false) hq) (.inr hu) (wpAny_truthy_bool h))
theorem EqAt.dict_int {l : Addr} (b : Int) (u : Tok) (hl : DObj s l) (hu : A.units < cLine) : EqAt A s (.ref l) (.int b u) false := fun prog w E Q h => by
  have ht := hl.ty
  obtain ⟨es, ep, ho⟩ := hl
  unfold eqBool
  refine wpAny_holding ?_
  refine wpAny_ite_split (fun hab => absurd (eq_of_beq hab) nofun) (fun _ => ?_)
  refine wpAny_bind (rc_eq_decline_or (k := false) ht (typeIs_int s b u) (by decide) F.sub_int_dict F.slot_dict_eq F.slot_int_eq_refl
    (fun _ hq => call_meets F.slot_dict_eq ht F.entry_dict_eq (F.args_dict_eq_2 _ _) (dict_eq_declines l (.int b u) "int" F.sub_int_dict) ⟨ht, (typeIs_int s b u), hq⟩)
    (fun _ hq => call_meets F.slot_int_eq_refl (typeIs_int s b u) F.entry_int_eq (F.args_int_eq_2 _ _) (int_eq_declines_dict b u l es ep) ⟨ho, hq⟩)
    (fun _ hq => wpAny_of_eq (rfl : isSame (.ref l) (.int b u) = pure false) hq) (.inr hu) (wpAny_truthy_bool h))
theorem EqAt.int_dict {l : Addr} (b : Int) (u : Tok) (hl : DObj s l) (hu : A.units < cLine) : EqAt A s (.int b u) (.ref l) false := fun prog w E Q h => by
  have ht := hl.ty
  obtain ⟨es, ep, ho⟩ := hl
  unfold eqBool
  refine wpAny_holding ?_
  refine wpAny_ite_split (fun hab => absurd (eq_of_beq hab) nofun) (fun _ => ?_)
  refine wpAny_bind (rc_eq_decline_or (k := false) (typeIs_int s b u) ht (by decide) F.sub_dict_int F.slot_int_eq F.slot_dict_eq_refl
    (fun _ hq => call_meets F.slot_int_eq (typeIs_int s b u) F.entry_int_eq (F.args_int_eq_2 _ _) (int_eq_declines_dict b u l es ep) ⟨ho, hq⟩)
    (fun _ hq => call_meets F.slot_dict_eq_refl ht F.entry_dict_eq (F.args_dict_eq_2 _ _) (dict_eq_declines l (.int b u) "int" F.sub_int_dict) ⟨ht, (typeIs_int s b u), hq⟩)
    (fun _ hq => wpAny_of_eq (rfl : isSame (.int b u) (.ref l) = pure false) hq) (.inr hu) (wpAny_truthy_bool h))
theorem EqAt.dict_str {l : Addr} (b : Str) (u : Tok) (hl : DObj s l) (hu : A.units < cLine) : EqAt A s (.ref l) (.str b u) false := fun prog w E Q h => by
  have ht := hl.ty
  obtain ⟨es, ep, ho⟩ := hl
  unfold eqBool
  refine wpAny_holding ?_
  refine wpAny_ite_split (fun hab => absurd (eq_of_beq hab) nofun) (fun _ => ?_)
  refine wpAny_bind (rc_eq_decline_or (k := false) ht (typeIs_str s b u) (by decide) F.sub_str_dict F.slot_dict_eq F.slot_str_eq_refl
    (fun _ hq => call_meets F.slot_dict_eq ht F.entry_dict_eq (F.args_dict_eq_2 _ _) (dict_eq_declines l (.str b u) "str" F.sub_str_dict) ⟨ht, (typeIs_str s b u), hq⟩)
    (fun _ hq => call_meets F.slot_str_eq_refl (typeIs_str s b u) F.entry_str_eq (F.args_str_eq_2 _ _) (str_eq_declines_dict b u l es ep) ⟨ho, hq⟩)
    (fun _ hq => wpAny_of_eq (rfl : isSame (.ref l) (.str b u) = pure false) hq) (.inr hu) (wpAny_truthy_bool h))
theorem EqAt.str_dict {l : Addr} (b : Str) (u : Tok) (hl : DObj s l) (hu : A.units < cLine) : EqAt A s (.str b u) (.ref l) false := fun prog w E Q h => by
  have ht := hl.ty
  obtain ⟨es, ep, ho⟩ := hl
  unfold eqBool
  refine wpAny_holding ?_
  refine wpAny_ite_split (fun hab => absurd (eq_of_beq hab) nofun) (fun _ => ?_)
  refine wpAny_bind (rc_eq_decline_or (k := false) (typeIs_str s b u) ht (by decide) F.sub_dict_str F.slot_str_eq F.slot_dict_eq_refl
    (fun _ hq => call_meets F.slot_str_eq (typeIs_str s b u) F.entry_str_eq (F.args_str_eq_2 _ _) (str_eq_declines_dict b u l es ep) ⟨ho, hq⟩)
    (fun _ hq => call_meets F.slot_dict_eq_refl ht F.entry_dict_eq (F.args_dict_eq_2 _ _) (dict_eq_declines l (.str b u) "str" F.sub_str_dict) ⟨ht, (typeIs_str s b u), hq⟩)
    (fun _ hq => wpAny_of_eq (rfl : isSame (.str b u) (.ref l) = pure false) hq) (.inr hu) (wpAny_truthy_bool h))
theorem EqAt.dict_list {l b : Addr} {items : Array Value} (hl : DObj s l) (hb : s.heap.IsList b items) (hu : A.units < cLine) : EqAt A s (.ref l) (.ref b) false := by
  have ht := hl.ty
  obtain ⟨es, ep, ho⟩ := hl
  obtain ⟨⟨cls, dd, data, sl⟩, ho2, hc, n, hd⟩ := id hb
  simp only at hc hd
  subst hc hd
  have ht2 : s.TypeIs (.ref b) "list" := ⟨_, ho2, rfl⟩
  have hne : l ≠ b := fun z => by
    subst z
    rw [ho] at ho2
    have := congrArg (fun o => o.map (·.cls)) ho2
    simp at this
  refine .of_refs hne fun prog w E Q h => ?_
  exact rc_eq_decline_or (k := false) ht ht2 (by decide) F.sub_list_dict F.slot_dict_eq F.slot_list_eq_refl
    (fun _ hq => call_meets F.slot_dict_eq ht F.entry_dict_eq (F.args_dict_eq_2 _ _) (dict_eq_declines l (.ref b) "list" F.sub_list_dict) ⟨ht, ht2, hq⟩)
    (fun _ hq => call_meets F.slot_list_eq_refl ht2 F.entry_list_eq (F.args_list_eq_2 _ _) (list_eq_declines_dict b items n dd sl l es ep) ⟨ho2, ho, hq⟩)
    (fun _ hq => wpAny_isSame_ref_other hne ho ho2 (by simp) hq) (.inr hu) h
theorem EqAt.list_dict {l b : Addr} {items : Array Value} (hl : DObj s l) (hb : s.heap.IsList b items) (hu : A.units < cLine) : EqAt A s (.ref b) (.ref l) false := by
  have ht := hl.ty
  obtain ⟨es, ep, ho⟩ := hl
  obtain ⟨⟨cls, dd, data, sl⟩, ho2, hc, n, hd⟩ := id hb
  simp only at hc hd
  subst hc hd
  have ht2 : s.TypeIs (.ref b) "list" := ⟨_, ho2, rfl⟩
  have hne : b ≠ l := fun z => by
    subst z
    rw [ho] at ho2
    have := congrArg (fun o => o.map (·.cls)) ho2
    simp at this
  refine .of_refs hne fun prog w E Q h => ?_
  exact rc_eq_decline_or (k := false) ht2 ht (by decide) F.sub_dict_list F.slot_list_eq F.slot_dict_eq_refl
    (fun _ hq => call_meets F.slot_list_eq ht2 F.entry_list_eq (F.args_list_eq_2 _ _) (list_eq_declines_dict b items n dd sl l es ep) ⟨ho2, ho, hq⟩)
    (fun _ hq => call_meets F.slot_dict_eq_refl ht F.entry_dict_eq (F.args_dict_eq_2 _ _) (dict_eq_declines l (.ref b) "list" F.sub_list_dict) ⟨ht, ht2, hq⟩)
    (fun _ hq => wpAny_isSame_ref_other' hne ho2 ho (by simp) hq) (.inr hu) h
theorem EqAt.dict_tuple {l b : Addr} {items : Array Value} (hl : DObj s l) (hb : s.heap.IsTuple b items) (hu : A.units < cLine) : EqAt A s (.ref l) (.ref b) false := by
  have ht := hl.ty
  obtain ⟨es, ep, ho⟩ := hl
  obtain ⟨⟨cls, dd, data, sl⟩, ho2, hc, n, hd⟩ := id hb
  simp only at hc hd
  subst hc hd
  have ht2 : s.TypeIs (.ref b) "tuple" := ⟨_, ho2, rfl⟩
  have hne : l ≠ b := fun z => by
    subst z
    rw [ho] at ho2
    have := congrArg (fun o => o.map (·.cls)) ho2
    simp at this
  refine .of_refs hne fun prog w E Q h => ?_
  exact rc_eq_decline_or (k := false) ht ht2 (by decide) F.sub_tuple_dict F.slot_dict_eq F.slot_tuple_eq_refl
    (fun _ hq => call_meets F.slot_dict_eq ht F.entry_dict_eq (F.args_dict_eq_2 _ _) (dict_eq_declines l (.ref b) "tuple" F.sub_tuple_dict) ⟨ht, ht2, hq⟩)
    (fun _ hq => call_meets F.slot_tuple_eq_refl ht2 F.entry_tuple_eq (F.args_tuple_eq_2 _ _) (tuple_eq_declines_dict b items n dd sl l es ep) ⟨ho2, ho, hq⟩)
    (fun _ hq => wpAny_isSame_ref_other hne ho ho2 (by simp) hq) (.inr hu) h
theorem EqAt.tuple_dict {l b : Addr} {items : Array Value} (hl : DObj s l) (hb : s.heap.IsTuple b items) (hu : A.units < cLine) : EqAt A s (.ref b) (.ref l) false := by
  have ht := hl.ty
  obtain ⟨es, ep, ho⟩ := hl
  obtain ⟨⟨cls, dd, data, sl⟩, ho2, hc, n, hd⟩ := id hb
  simp only at hc hd
  subst hc hd
  have ht2 : s.TypeIs (.ref b) "tuple" := ⟨_, ho2, rfl⟩
  have hne : b ≠ l := fun z => by
    subst z
    rw [ho] at ho2
    have := congrArg (fun o => o.map (·.cls)) ho2
    simp at this
  refine .of_refs hne fun prog w E Q h => ?_
  exact rc_eq_decline_or (k := false) ht2 ht (by decide) F.sub_dict_tuple F.slot_tuple_eq F.slot_dict_eq_refl
    (fun _ hq => call_meets F.slot_tuple_eq ht2 F.entry_tuple_eq (F.args_tuple_eq_2 _ _) (tuple_eq_declines_dict b items n dd sl l es ep) ⟨ho2, ho, hq⟩)
    (fun _ hq => call_meets F.slot_dict_eq_refl ht F.entry_dict_eq (F.args_dict_eq_2 _ _) (dict_eq_declines l (.ref b) "tuple" F.sub_tuple_dict) ⟨ht, ht2, hq⟩)
    (fun _ hq => wpAny_isSame_ref_other' hne ho2 ho (by simp) hq) (.inr hu) h
end
end PySem.SeqAt
/-! the T-layer, 67: ==, in of nested data, dicts among them -/
namespace PySem.SeqAt
open AutoSeq1 (wpAny_loadPart')
open MeetsSeq MeetsSeq2 MeetsSeq3 SeqRoads2
section
variable {prog : Program} {w : World}
/-! three walks along the library's own (EqAt), each item's == known in one model -/
theorem tuple_eqIn (l b : Addr) (items items2 : Array Value) (n n2 : Nat) (dd dd2 : Option Addr) (sl sl2 : Array (Option Value)) (e : Nat → Bool) :
    MeetsIn prog w (Builtin.«tuple.__eq__» ⟨[.ref l, .ref b], []⟩)
      (fun A R s => s.heap.get? l = some { cls := .type "tuple", dict := dd, data := .seq items n, slots := sl } ∧ s.heap.get? b = some { cls := .type "tuple", dict := dd2, data := .seq items2 n2, slots := sl2 } ∧
        (∀ j (h1 : j < items.size) (h2 : j < items2.size), EqP prog w A.in1 s items[j] items2[j] (e j)) ∧
        R (.ok (.ret (.bool ((List.range (min items.size items2.size)).all e && items.size == items2.size)))) s) :=
  .of_wp fun A R s h => by
    obtain ⟨hp, g, d, tk, os⟩ := s; obtain ⟨hl, hb, he, h⟩ := h
    have f2 := AutoSeq1.sub_tuple_tuple
    have hZ : (items.toList.zip items2.toList).length = min items.size items2.size := by simp
    wp_walk using wpAny_loadPart' hl, wpAny_loadPart' hb, wpAny_forIn_list _ (fun rest b s' => b.1 = none ∧ s' = ⟨hp, g, d, tk, os⟩ ∧ ∃ i, rest = (items.toList.zip items2.toList).drop i ∧
      R (.ok (.ret (.bool (((List.range (min items.size items2.size)).drop i).all e && items.size == items2.size)))) ⟨hp, g, d, tk, os⟩) _
    case turn =>
      rintro ⟨y, x⟩ rest b s' ⟨hb', rfl, i, hz, hR⟩
      have hlt : i < (items.toList.zip items2.toList).length := by
        rcases Nat.lt_or_ge i (items.toList.zip items2.toList).length with h' | h'
        · exact h'
        · rw [List.drop_of_length_le h'] at hz; cases hz
      have hm : i < min items.size items2.size := hZ ▸ hlt
      have h1 : i < items.size := Nat.lt_of_lt_of_le hm (Nat.min_le_left _ _)
      have h2 : i < items2.size := Nat.lt_of_lt_of_le hm (Nat.min_le_right _ _)
      rw [List.drop_eq_getElem_cons hlt] at hz
      injection hz with hyx hrest
      have hy : y = items[i] := by have := congrArg Prod.fst hyx; simpa using this
      have hx : x = items2[i] := by have := congrArg Prod.snd hyx; simpa using this
      subst hy hx
      have hd : (List.range (min items.size items2.size)).drop i = i :: (List.range (min items.size items2.size)).drop (i + 1) := by simp [List.drop_eq_getElem_cons, hm]
      rw [hd, List.all_cons] at hR
      refine wpAny_bind (he i h1 h2 _ _ ?_)
      cases hy : e i with
      | true =>
        rw [hy] at hR
        wp_walk
        exact ⟨rfl, rfl, i + 1, hrest, by simpa using hR⟩
      | false =>
        rw [hy] at hR
        wp_walk
        exact ⟨_, rfl, by simpa using hR⟩
    case fin =>
      rintro ⟨b1, b2⟩ s' ⟨hb', rfl, i, hz, hR⟩
      simp only at hb'
      subst hb'
      have hge : min items.size items2.size ≤ i := by
        rcases Nat.lt_or_ge i (items.toList.zip items2.toList).length with h' | h'
        · rw [List.drop_eq_getElem_cons h'] at hz; cases hz
        · exact hZ ▸ h'
      rw [List.drop_of_length_le (by simpa using hge)] at hR
      wp_walk
      exact ⟨_, rfl, by simpa [Builtin.Tuple.tupleCompareSizes] using hR⟩
    case h =>
      exact ⟨rfl, rfl, 0, rfl, by simpa using h⟩
theorem rcP_tuples {A : Around} {s : Shared} {l b : Addr} {items items2 : Array Value} {e : Nat → Bool} (hl : s.heap.IsTuple l items) (hb : s.heap.IsTuple b items2) (hu : A.units < cLine)
    (he : ∀ j (h1 : j < items.size) (h2 : j < items2.size), EqP prog w A.in1 s items[j] items2[j] (e j)) (E Q : Value → Shared → Prop) (h : Q (.bool ((List.range (min items.size items2.size)).all e && items.size == items2.size)) s) : wpAny (model prog w) A (richCompare .Eq (.ref l) (.ref b)) Q E s := by
  obtain ⟨⟨cls, dd, data, sl⟩, ho, hc, n, hd⟩ := id hl
  obtain ⟨⟨cls2, dd2, data2, sl2⟩, ho2, hc2, n2, hd2⟩ := id hb
  simp only at hc hd hc2 hd2
  subst hc hd hc2 hd2
  have ta : s.TypeIs (.ref l) "tuple" := ⟨_, ho, rfl⟩
  have tb : s.TypeIs (.ref b) "tuple" := ⟨_, ho2, rfl⟩
  exact wpAny_richCompare_same_room (op := .Eq) ta tb F.slot_tuple_eq (call_meetsIn F.slot_tuple_eq ta F.entry_tuple_eq (F.args_tuple_eq_2 _ _) (tuple_eqIn l b items items2 n n2 dd dd2 sl sl2 e)
    ⟨ho, ho2, he, show Value.bool ((List.range (min items.size items2.size)).all e && items.size == items2.size) ≠ Value.notImplemented ∧ Q (.bool ((List.range (min items.size items2.size)).all e && items.size == items2.size)) s from ⟨(fun x => nomatch x), h⟩⟩) hu
theorem contains_loopIn (l : Addr) (items : Array Value) (n : Nat) (dd : Option Addr) (sl : Array (Option Value)) (x : Value) (e : Nat → Bool) (k : Nat) :
    ∀ i : Nat, items.size - i = k → MeetsIn prog w (Builtin.«list.__contains__.loop» ⟨[.ref l, x, rawInt i], []⟩)
      (fun A R s => s.heap.get? l = some { cls := .type "list", dict := dd, data := .seq items n, slots := sl } ∧ (∀ j (h : j < items.size), EqP prog w A.in1 s items[j] x (e j)) ∧ R (.ok (.ret (.bool (((List.range items.size).drop i).any e)))) s) := by
  induction k with
  | zero =>
    intro i hk A R s h
    obtain ⟨hp, g, d, tk, os⟩ := s; obtain ⟨hl, he, h⟩ := h
    wp_walk using wpAny_loadPart' hl
    have hi : items[((i : Nat) : Int).toNat]? = none := by simp; omega
    have hd : (List.range items.size).drop i = [] := by simp; omega
    rw [hd] at h
    rw [hi]
    wp_walk
    exact h
  | succ k ih =>
    intro i hk A R s h
    obtain ⟨hp, g, d, tk, os⟩ := s; obtain ⟨hl, he, h⟩ := h
    wp_walk using wpAny_loadPart' hl
    have hlt : i < items.size := by omega
    have hi : items[((i : Nat) : Int).toNat]? = some items[i] := by simp [hlt]
    have hd : (List.range items.size).drop i = i :: (List.range items.size).drop (i + 1) := by simp [List.drop_eq_getElem_cons, hlt]
    rw [hd, List.any_cons] at h
    rw [hi]
    refine wpAny_bind (he _ hlt _ _ ?_)
    cases hb : e i with
    | true =>
      rw [hb] at h
      wp_walk
      exact h
    | false =>
      rw [hb] at h
      have hc : ((i : Int) + 1) = ((i + 1 : Nat) : Int) := by push_cast; rfl
      wp_walk
      rw [hc]
      exact ⟨plainId_quiet plain_contains_loop _, codeAny_builtin entry_contains_loop (by
        rw [Around.under_plainId plain_contains_loop _]
        exact ih (i + 1) (by omega) A R _ ⟨hl, he, by simpa using h⟩)⟩
theorem list_containsIn (l : Addr) (items : Array Value) (n : Nat) (dd : Option Addr) (sl : Array (Option Value)) (x : Value) (e : Nat → Bool) :
    MeetsIn prog w (Builtin.«list.__contains__» ⟨[.ref l, x], []⟩)
      (fun A R s => s.heap.get? l = some { cls := .type "list", dict := dd, data := .seq items n, slots := sl } ∧ (∀ j (h : j < items.size), EqP prog w A.in1 s items[j] x (e j)) ∧ R (.ok (.ret (.bool ((List.range items.size).any e)))) s) := by
  intro A R s h
  obtain ⟨hp, g, d, tk, os⟩ := s; obtain ⟨hl, he, h⟩ := h
  wp_walk using wpAny_loadPart' hl
  exact ⟨plainId_quiet plain_contains_loop _, codeAny_builtin entry_contains_loop (by
    rw [Around.under_plainId plain_contains_loop _]
    exact contains_loopIn l items n dd sl x e _ 0 rfl A R _ ⟨hl, he, by simpa using h⟩)⟩
theorem containsP {A : Around} {s : Shared} {l : Addr} {items : Array Value} {x : Value} {E : Value → Shared → Prop} {Q : Bool → Shared → Prop} (e : Nat → Bool) (hl : s.heap.IsList l items) (he : ∀ j (h : j < items.size), EqP prog w A.in1 s items[j] x (e j))
    (h : Q ((List.range items.size).any e) s) : wpAny (model prog w) A (contains (.ref l) x) Q E s := by
  obtain ⟨⟨cls, dd, data, sl⟩, ho, hc, n, hd⟩ := id hl
  simp only at hc hd
  subst hc hd
  have ta : s.TypeIs (.ref l) "list" := ⟨_, ho, rfl⟩
  refine wpAny_contains_slot ta F.slot_list_contains (wpAny_mono (call_meetsIn (Q := fun v s' => ∃ b, v = .bool b ∧ Q b s') F.slot_list_contains ta F.entry_list_contains (F.args_list_contains_2 _ _) (list_containsIn l items n dd sl x e) ⟨ho, he, _, rfl, h⟩) (fun v s' hv => ?_) fun _ _ e => e)
  obtain ⟨b, rfl, hq⟩ := hv
  exact wpAny_truthy_bool hq
end
end PySem.SeqAt
namespace TL
open PySem PySem.Spec PyProof.Rows L2
mutual
/-- nested data -/
def xT : T → Bool
  | .non => true
  | .bl _ => true
  | .int _ => true
  | .str _ => true
  | .lst xs => xTs xs
  | .tup xs => xTs xs
  | .dct kvs => xTd kvs
  | _ => false
def xTs : List T → Bool
  | [] => true
  | x :: xs => xT x && xTs xs
def xTd : List (Key × T) → Bool
  | [] => true
  | (_, x) :: xs => xT x && xTd xs
end
mutual
def dpX : T → Nat
  | .lst xs => dpXs xs + 1
  | .tup xs => dpXs xs + 1
  | .dct kvs => dpXd kvs + 1
  | _ => 1
def dpXs : List T → Nat
  | [] => 0
  | x :: xs => max (dpX x) (dpXs xs)
def dpXd : List (Key × T) → Nat
  | [] => 0
  | (_, x) :: xs => max (dpX x) (dpXd xs)
end
mutual
/-- == of nested data -/
def eqX : T → T → Bool
  | .lst xs, .lst ys => eqXs xs ys
  | .tup xs, .tup ys => eqXs xs ys
  | .dct xs, .dct ys => (xs.length == ys.length) && eqXd xs ys
  | .non, .non => true
  | .bl a, .bl b => a == b
  | .bl a, .int b => (if a then 1 else 0) == b
  | .int a, .bl b => a == (if b then 1 else 0)
  | .int a, .int b => a == b
  | .str a, .str b => a == b
  | _, _ => false
def eqXs : List T → List T → Bool
  | [], [] => true
  | x :: xs, y :: ys => eqX x y && eqXs xs ys
  | _, _ => false
def eqXd : List (Key × T) → List (Key × T) → Bool
  | [], _ => true
  | (k, x) :: xs, ys => (match dgetT ys k with
    | some y => eqX x y
    | none => false) && eqXd xs ys
end
theorem eqXs_range : ∀ xs ys : List T, eqXs xs ys = ((List.range (min xs.length ys.length)).all (fun j => eqX (xs.getD j .non) (ys.getD j .non)) && xs.length == ys.length)
  | [], [] => by simp [eqXs]
  | [], y :: ys => by simp [eqXs]
  | x :: xs, [] => by simp [eqXs]
  | x :: xs, y :: ys => by
    have ih := eqXs_range xs ys
    have hm : min (x :: xs).length (y :: ys).length = min xs.length ys.length + 1 := by simp only [List.length_cons]; omega
    rw [eqXs, ih, hm, List.range_succ_eq_map, List.all_cons, List.all_map]
    have e1 : ((x :: xs).length == (y :: ys).length) = (xs.length == ys.length) := by
      simp only [List.length_cons]
      rw [Bool.eq_iff_iff]
      simp
    rw [e1]
    simp only [List.getD_cons_zero, Bool.and_assoc]
    congr 1
def unV : Value → Option V
  | .none => some .non
  | .bool b => some (.bl b)
  | .int i _ => some (.int i)
  | .str x _ => some (.str x)
  | .bytes b _ => some (.byt b)
  | .float b _ => some (.flt b)
  | .ref a => some (.ref a)
  | .type n => some (.ty n)
  | _ => none
theorem unV_of {a : V} {u : Value} (h : L2.RelV a u) : unV u = some a := by
  cases a with
  | non => cases (show u = Value.none from h); rfl
  | bl b => cases (show u = Value.bool b from h); rfl
  | int i => obtain ⟨t, e⟩ := (show ∃ t, u = Value.int i t from h); cases e; rfl
  | str x => obtain ⟨t, e⟩ := (show ∃ t, u = Value.str x t from h); cases e; rfl
  | byt b => obtain ⟨t, e⟩ := (show ∃ t, u = Value.bytes b t from h); cases e; rfl
  | flt b => obtain ⟨t, e⟩ := (show ∃ t, u = Value.float b t from h); cases e; rfl
  | ref a => cases (show u = Value.ref a from h); rfl
  | ty n => cases (show u = Value.type n from h); rfl
theorem relV_fun {a b : V} {u : Value} (h : L2.RelV a u) (k : L2.RelV b u) : a = b := by
  have e := unV_of h
  rw [unV_of k] at e
  exact (Option.some.inj e).symm
theorem vals_fun : ∀ {xs ys : List V} {us : List Value}, Vals xs us → Vals ys us → xs = ys
  | _, _, _, .nil, .nil => rfl
  | _, _, _, .cons a b, .cons c d => by rw [relV_fun a c, vals_fun b d]
end TL
/-! the T-layer, 68: == of nested data holds in the heap -/
namespace TL
open PySem PySem.Spec PyProof.Rows L2
theorem valV_mem : ∀ {kv : List (Key × V)}, (kv.map (·.1)).Nodup → ∀ p ∈ kv, valV kv p.1 = some p.2
  | [], _, p, h => by cases h
  | (k, v) :: kv, nd, p, h => by
    rw [List.map_cons, List.nodup_cons] at nd
    rcases List.mem_cons.mp h with rfl | h
    · simp [valV]
    · have ne : k ≠ p.1 := fun e => nd.1 (by rw [e]; exact List.mem_map.mpr ⟨p, h, rfl⟩)
      have := valV_mem nd.2 p h
      unfold valV at this ⊢
      rw [List.find?_cons_of_neg (by simpa using ne)]
      exact this
theorem rd_fun {F : Hp} {a : Addr} {k1 k2 : List (Key × V)} (h1 : Rd F a (.dK k1)) (h2 : Rd F a (.dK k2)) : k1 = k2 := by
  rcases h1 with h1 | ⟨o1, h1⟩ <;> rcases h2 with h2 | ⟨o2, h2⟩ <;> (rw [h1] at h2; cases h2)
  all_goals rfl
section
variable {X : Cx} {pins : List (Addr × Obj)} {σ : L2.St} {H : Hp} {s : Shared} {F : Hp} {al : List Addr}
theorem at_lst (I : Inv X pins σ H s) (f : FLe F H) {a : Addr} {vs : List V} (h : F a = some (.lst vs)) : ∃ its : List Value, Vals vs its ∧ s.heap.IsList a its.toArray := by
  obtain ⟨its, r, p, _⟩ := I.list (SqL.of (K := X.K) (f _ _ h))
  exact ⟨its, r, p.isList⟩
theorem at_tup (I : Inv X pins σ H s) (f : FLe F H) {a : Addr} {vs : List V} (h : SqT X.K F a vs) : ∃ its : List Value, Vals vs its ∧ s.heap.IsTuple a its.toArray := by
  obtain ⟨its, r, p, _⟩ := I.tuple (SqT.fle f h)
  exact ⟨its, r, p⟩
theorem at_dct (I : Inv X pins σ H s) (f : FLe F H) {a : Addr} {kv : List (Key × V)} (h : Rd F a (.dK kv)) : (a == sysModules) = false ∧ ∃ va, KV kv va ∧ s.heap.DictOf (mixKind X.prog X.w) a va := by
  obtain ⟨_, y, va, r, d⟩ := dk_rd I.hok (FLe.rd f h)
  exact ⟨y, va, r, d⟩
theorem tup_fun {h : Heap} {a : Addr} {i1 i2 : Array Value} (h1 : h.IsTuple a i1) (h2 : h.IsTuple a i2) : i1 = i2 := by
  obtain ⟨o, e, _, n, d⟩ := h1
  obtain ⟨o2, e2, _, n2, d2⟩ := h2
  rw [e] at e2
  cases e2
  rw [d] at d2
  cases d2
  rfl
theorem ne_dl {a : Addr} {its : Array Value} (hd : SeqAt.DObj s a) (hl : s.heap.IsList a its) : False := by
  obtain ⟨es, ep, e⟩ := hd
  obtain ⟨o, e2, c, _⟩ := hl
  rw [e] at e2
  cases e2
  have c : Value.type "dict" = _ := c
  injection c with c
  exact absurd c (by decide)
theorem ne_dt {a : Addr} {its : Array Value} (hd : SeqAt.DObj s a) (hl : s.heap.IsTuple a its) : False := by
  obtain ⟨es, ep, e⟩ := hd
  obtain ⟨o, e2, c, _⟩ := hl
  rw [e] at e2
  cases e2
  have c : Value.type "dict" = _ := c
  injection c with c
  exact absurd c (by decide)
theorem kv_keys {kv : List (Key × V)} {va : List (Key × Value)} (r : KV kv va) : kv.map (·.1) = va.map (·.1) := by
  unfold KV at r
  induction r with
  | nil => rfl
  | cons h _ ih => rw [List.map_cons, List.map_cons, h.1, ih]
theorem nd_of {kv : List (Key × V)} {va : List (Key × Value)} (r : KV kv va) {a : Addr} (d : s.heap.DictOf (mixKind X.prog X.w) a va) : (kv.map (·.1)).Nodup := by
  obtain ⟨_, _, _, _, _, _, _, _, nd⟩ := d
  rw [kv_keys r]
  exact nd
mutual
/-- two trees of one thing are equal -/
theorem eqX_same (I : Inv X pins σ H s) (f : FLe F H) : ∀ (t u : T) (v : V), xT t = true → xT u = true → Rep X.K F al t v → Rep X.K F al u v → eqX t u = true
  | .non, u, v, _, hu, r, q => by
    cases (show v = V.non from r)
    cases u with
    | non => rfl
    | bl b => cases q
    | int i => cases q
    | str x => obtain ⟨e, _⟩ := q; cases e
    | lst xs => obtain ⟨_, _, e, _⟩ := q; cases e
    | tup xs => obtain ⟨_, _, e, _⟩ := q; cases e
    | dct xs => obtain ⟨_, _, e, _⟩ := q; cases e
    | _ => cases hu
  | .bl b, u, v, _, hu, r, q => by
    cases (show v = V.bl b from r)
    cases u with
    | non => cases q
    | bl b' => cases q; simp [eqX]
    | int i => cases q
    | str x => obtain ⟨e, _⟩ := q; cases e
    | lst xs => obtain ⟨_, _, e, _⟩ := q; cases e
    | tup xs => obtain ⟨_, _, e, _⟩ := q; cases e
    | dct xs => obtain ⟨_, _, e, _⟩ := q; cases e
    | _ => cases hu
  | .int i, u, v, _, hu, r, q => by
    cases (show v = V.int i from r)
    cases u with
    | non => cases q
    | bl b => cases q
    | int j => cases q; simp [eqX]
    | str x => obtain ⟨e, _⟩ := q; cases e
    | lst xs => obtain ⟨_, _, e, _⟩ := q; cases e
    | tup xs => obtain ⟨_, _, e, _⟩ := q; cases e
    | dct xs => obtain ⟨_, _, e, _⟩ := q; cases e
    | _ => cases hu
  | .str x, u, v, _, hu, r, q => by
    obtain ⟨e0, _⟩ := r
    subst e0
    cases u with
    | non => cases q
    | bl b => cases q
    | int j => cases q
    | str y => obtain ⟨e, _⟩ := q; cases e; simp [eqX]
    | lst xs => obtain ⟨_, _, e, _⟩ := q; cases e
    | tup xs => obtain ⟨_, _, e, _⟩ := q; cases e
    | dct xs => obtain ⟨_, _, e, _⟩ := q; cases e
    | _ => cases hu
  | .lst xs, u, v, ht, hu, r, q => by
    obtain ⟨a, vs, e0, h1, h2, _⟩ := r
    subst e0
    obtain ⟨its, _, p1⟩ := at_lst I f h1
    cases u with
    | non => cases q
    | bl b => cases q
    | int j => cases q
    | str y => obtain ⟨e, _⟩ := q; cases e
    | lst ys =>
      obtain ⟨b, ws, e, k1, k2, _⟩ := q
      cases e
      rw [h1] at k1
      cases k1
      rw [eqX]
      exact eqXs_same I f xs ys vs ht hu h2 k2
    | tup ys =>
      obtain ⟨b, ws, e, k1, k2, _⟩ := q
      cases e
      obtain ⟨its', _, p2⟩ := at_tup I f k1
      exact (SeqAt.ne_of_list_tuple p1 p2 rfl).elim
    | dct ys =>
      obtain ⟨b, ws, e, k1, k2, _⟩ := q
      cases e
      obtain ⟨_, va, _, d⟩ := at_dct I f k1
      exact (ne_dl (SeqAt.DObj.of d) p1).elim
    | _ => cases hu
  | .tup xs, u, v, ht, hu, r, q => by
    obtain ⟨a, vs, e0, h1, h2, _⟩ := r
    subst e0
    obtain ⟨its, rv, p1⟩ := at_tup I f h1
    cases u with
    | non => cases q
    | bl b => cases q
    | int j => cases q
    | str y => obtain ⟨e, _⟩ := q; cases e
    | lst ys =>
      obtain ⟨b, ws, e, k1, k2, _⟩ := q
      cases e
      obtain ⟨its', _, p2⟩ := at_lst I f k1
      exact (SeqAt.ne_of_list_tuple p2 p1 rfl).elim
    | tup ys =>
      obtain ⟨b, ws, e, k1, k2, _⟩ := q
      cases e
      obtain ⟨its', rw', p2⟩ := at_tup I f k1
      have ei := tup_fun p1 p2
      have ei' : its = its' := by simpa using ei
      subst ei'
      have := vals_fun rv rw'
      subst this
      rw [eqX]
      exact eqXs_same I f xs ys vs ht hu h2 k2
    | dct ys =>
      obtain ⟨b, ws, e, k1, k2, _⟩ := q
      cases e
      obtain ⟨_, va, _, d⟩ := at_dct I f k1
      exact (ne_dt (SeqAt.DObj.of d) p1).elim
    | _ => cases hu
  | .dct xs, u, v, ht, hu, r, q => by
    obtain ⟨a, kv, e0, h1, h2, _⟩ := r
    subst e0
    obtain ⟨_, va, ra, d⟩ := at_dct I f h1
    cases u with
    | non => cases q
    | bl b => cases q
    | int j => cases q
    | str y => obtain ⟨e, _⟩ := q; cases e
    | lst ys =>
      obtain ⟨b, ws, e, k1, k2, _⟩ := q
      cases e
      obtain ⟨its', _, p2⟩ := at_lst I f k1
      exact (ne_dl (SeqAt.DObj.of d) p2).elim
    | tup ys =>
      obtain ⟨b, ws, e, k1, k2, _⟩ := q
      cases e
      obtain ⟨its', _, p2⟩ := at_tup I f k1
      exact (ne_dt (SeqAt.DObj.of d) p2).elim
    | dct ys =>
      obtain ⟨b, ws, e, k1, k2, _⟩ := q
      cases e
      have := rd_fun h1 k1
      subst this
      rw [eqX, Bool.and_eq_true]
      exact ⟨by rw [beq_iff_eq, ← RepD.length h2, ← RepD.length k2], eqXd_same I f xs ys kv kv ht hu h2 k2 (valV_mem (nd_of ra d))⟩
    | _ => cases hu
  | .cel _, _, _, ht, _, _, _ => by cases ht
  | .glo _, _, _, ht, _, _, _ => by cases ht
  | .ty _, _, _, ht, _, _, _ => by cases ht
  | .scr _, _, _, ht, _, _, _ => by cases ht
  | .obj _ _, _, _, ht, _, _, _ => by cases ht
theorem eqXs_same (I : Inv X pins σ H s) (f : FLe F H) : ∀ (xs ys : List T) (vs : List V), xTs xs = true → xTs ys = true → RepL X.K F al xs vs → RepL X.K F al ys vs → eqXs xs ys = true
  | [], ys, vs, _, _, r, q => by
    cases (show vs = [] from r)
    cases ys with
    | nil => rfl
    | cons y ys => obtain ⟨_, _, e, _⟩ := q; cases e
  | x :: xs, ys, vs, hx, hy, r, q => by
    obtain ⟨v, w, e0, r1, r2⟩ := r
    subst e0
    cases ys with
    | nil => cases q
    | cons y ys =>
      obtain ⟨v', w', e, q1, q2⟩ := q
      cases e
      rw [xTs, Bool.and_eq_true] at hx hy
      rw [eqXs, Bool.and_eq_true]
      exact ⟨eqX_same I f x y v hx.1 hy.1 r1 q1, eqXs_same I f xs ys w hx.2 hy.2 r2 q2⟩
theorem eqXd_same (I : Inv X pins σ H s) (f : FLe F H) : ∀ (xs ys : List (Key × T)) (kv kw : List (Key × V)), xTd xs = true → xTd ys = true → RepD X.K F al xs kv → RepD X.K F al ys kw → (∀ p ∈ kv, valV kw p.1 = some p.2) → eqXd xs ys = true
  | [], _, _, _, _, _, _, _, _ => rfl
  | (k, x) :: xs, ys, kv, kw, hx, hy, r, q, hm => by
    obtain ⟨v, w, e0, r1, r2⟩ := r
    subst e0
    rw [xTd, Bool.and_eq_true] at hx
    rw [eqXd, Bool.and_eq_true]
    refine ⟨?_, eqXd_same I f xs ys w kw hx.2 hy r2 q fun p hp => hm p (List.mem_cons_of_mem _ hp)⟩
    have e1 := hm (k, v) List.mem_cons_self
    rcases RepD.get (k := k) q with ⟨_, z⟩ | ⟨t, v', g1, g2, g3⟩
    · rw [z] at e1; cases e1
    · rw [g2] at e1
      cases e1
      rw [g1]
      have ht : xT t = true := by
        unfold dgetT at g1
        obtain ⟨p, hp, rfl⟩ := Option.map_eq_some_iff.mp g1
        have hp := List.mem_of_find?_eq_some hp
        have : ∀ (l : List (Key × T)), xTd l = true → p ∈ l → xT p.2 = true := by
          intro l
          induction l with
          | nil => intro _ h; cases h
          | cons c l ih =>
            intro h hc
            obtain ⟨ck, cx⟩ := c
            rw [xTd, Bool.and_eq_true] at h
            rcases List.mem_cons.mp hc with rfl | hc
            · exact h.1
            · exact ih h.2 hc
        exact this ys hy hp
      exact eqX_same I f x t v hx.1 ht r1 g3
end
theorem xTd_mem {p : Key × T} : ∀ {l : List (Key × T)}, xTd l = true → p ∈ l → xT p.2 = true
  | [], _, h => by cases h
  | (ck, cx) :: l, h, hc => by
    rw [xTd, Bool.and_eq_true] at h
    rcases List.mem_cons.mp hc with rfl | hc
    · exact h.1
    · exact xTd_mem h.2 hc
theorem xTd_get {ys : List (Key × T)} {k : Key} {t : T} (hy : xTd ys = true) (g : dgetT ys k = some t) : xT t = true := by
  unfold dgetT at g
  obtain ⟨p, hp, rfl⟩ := Option.map_eq_some_iff.mp g
  exact xTd_mem hy (List.mem_of_find?_eq_some hp)
theorem xTs_get : ∀ {ys : List T} {j : Nat} {t : T}, xTs ys = true → ys[j]? = some t → xT t = true
  | [], _, _, _, e => by simp at e
  | y :: ys, 0, t, h, e => by
    rw [xTs, Bool.and_eq_true] at h
    simp at e
    subst e
    exact h.1
  | y :: ys, j + 1, t, h, e => by
    rw [xTs, Bool.and_eq_true] at h
    exact xTs_get h.2 (by simpa using e)
end
end TL
/-! the T-layer, 69: ==, in of nested data as expressions -/
namespace TL
open PySem PySem.Spec PyProof.Rows L2
section
variable {X : Cx} {pins : List (Addr × Obj)} {σ : L2.St} {H : Hp} {s : Shared} {F : Hp} {al : List Addr}
/-- == of what stands for t and what stands for u is known -/
def EqIs (X : Cx) (s : Shared) (F : Hp) (al : List Addr) (A : Around) (t u : T) : Prop :=
  ∀ (v w : V) (vv ww : Value), Rep X.K F al t v → Rep X.K F al u w → L2.RelV v vv → L2.RelV w ww → SeqAt.EqP X.prog X.w A s vv ww (eqX t u)
theorem items_at {ts : List T} {vs : List V} {its : List Value} (r : RepL X.K F al ts vs) (q : Vals vs its) {j : Nat} (h : j < its.toArray.size) : ∃ t v, ts[j]? = some t ∧ Rep X.K F al t v ∧ L2.RelV v its.toArray[j] := by
  have h' : j < its.length := by simpa using h
  have hv : j < vs.length := by rw [q.length]; exact h'
  obtain ⟨u, eu, ru⟩ := Vals.get q (List.getElem?_eq_getElem hv)
  obtain ⟨t, et, rt⟩ := RepL.get' r (List.getElem?_eq_getElem hv)
  refine ⟨t, vs[j], et, rt, ?_⟩
  have e2 : its[j]? = some its[j] := List.getElem?_eq_getElem h'
  rw [eu] at e2
  have e3 : u = its[j] := Option.some.inj e2
  subst e3
  simpa using ru
theorem getD_of {ts : List T} {j : Nat} {t : T} (e : ts[j]? = some t) : ts.getD j .non = t := by
  rw [List.getD_eq_getElem?_getD, e]
  rfl
theorem rcx_lst {A : Around} {a b : Addr} {xs ys : List T} {vs ws : List V} {i1 i2 : List Value} (r1 : RepL X.K F al xs vs) (r2 : RepL X.K F al ys ws) (q1 : Vals vs i1) (q2 : Vals ws i2) (p1 : s.heap.IsList a i1.toArray) (p2 : s.heap.IsList b i2.toArray) (hu : A.units < cLine)
    (ih : ∀ (j : Nat) (x y : T), xs[j]? = some x → ys[j]? = some y → EqIs X s F al A.in1 x y) (E Q : Value → Shared → Prop) (q : Q (.bool (eqXs xs ys)) s) : wpAny (model X.prog X.w) A (richCompare .Eq (.ref a) (.ref b)) Q E s := by
  have l1 : i1.length = xs.length := by rw [← q1.length, RepL.length r1]
  have l2 : i2.length = ys.length := by rw [← q2.length, RepL.length r2]
  rw [eqXs_range] at q
  by_cases hl : xs.length = ys.length
  · refine SeqAt.rcP_lists (e := fun j => eqX (xs.getD j .non) (ys.getD j .non)) p1 p2 (by simp [l1, l2, hl]) hu (fun j h1 h2 => ?_) E Q ?_
    · obtain ⟨x, v, e1, rx, rv⟩ := items_at r1 q1 h1
      obtain ⟨y, w, e2, ry, rw'⟩ := items_at r2 q2 h2
      rw [getD_of e1, getD_of e2]
      exact ih j x y e1 e2 v w _ _ rx ry rv rw'
    · have : i1.toArray.size = min xs.length ys.length := by simp [l1, hl]
      rw [this]
      rw [hl] at q ⊢
      simpa using q
  · refine SeqAt.RcAt.lists_lengths p1 p2 (by simp [l1, l2, hl]) hu X.prog X.w E Q ?_
    have : (xs.length == ys.length) = false := by simpa using hl
    rw [this, Bool.and_false] at q
    exact q
theorem rcx_tup {A : Around} {a b : Addr} {xs ys : List T} {vs ws : List V} {i1 i2 : List Value} (r1 : RepL X.K F al xs vs) (r2 : RepL X.K F al ys ws) (q1 : Vals vs i1) (q2 : Vals ws i2) (p1 : s.heap.IsTuple a i1.toArray) (p2 : s.heap.IsTuple b i2.toArray) (hu : A.units < cLine)
    (ih : ∀ (j : Nat) (x y : T), xs[j]? = some x → ys[j]? = some y → EqIs X s F al A.in1 x y) (E Q : Value → Shared → Prop) (q : Q (.bool (eqXs xs ys)) s) : wpAny (model X.prog X.w) A (richCompare .Eq (.ref a) (.ref b)) Q E s := by
  have l1 : i1.length = xs.length := by rw [← q1.length, RepL.length r1]
  have l2 : i2.length = ys.length := by rw [← q2.length, RepL.length r2]
  rw [eqXs_range] at q
  refine SeqAt.rcP_tuples (e := fun j => eqX (xs.getD j .non) (ys.getD j .non)) p1 p2 hu (fun j h1 h2 => ?_) E Q ?_
  · obtain ⟨x, v, e1, rx, rv⟩ := items_at r1 q1 h1
    obtain ⟨y, w, e2, ry, rw'⟩ := items_at r2 q2 h2
    rw [getD_of e1, getD_of e2]
    exact ih j x y e1 e2 v w _ _ rx ry rv rw'
  · have e1 : min i1.toArray.size i2.toArray.size = min xs.length ys.length := by simp [l1, l2]
    have e2 : (i1.toArray.size == i2.toArray.size) = (xs.length == ys.length) := by simp [l1, l2]
    rw [e1, e2]
    exact q
theorem hitsX {A : Around} {kws : List (Key × T)} {ls : List (Key × V)} {vb : List (Key × Value)} (rb : KV ls vb) (rB : RepD X.K F al kws ls) :
    ∀ {kvs : List (Key × T)} {ks : List (Key × V)} {va : List (Key × Value)}, RepD X.K F al kvs ks → KV ks va → (∀ p ∈ kvs, ∀ y, dgetT kws p.1 = some y → EqIs X s F al A p.2 y) → PySem.W.KeqHitsP X.prog X.w A s vb va (eqXd kvs kws)
  | [], ks, va, r, q, _ => by
    cases (show ks = [] from r)
    cases q
    exact .nil
  | (k, x) :: kvs, ks, va, r, q, ih => by
    obtain ⟨v, ks', e0, r1, r2⟩ := r
    subst e0
    cases q with
    | @cons _ c _ va' h t =>
      obtain ⟨h1, h2⟩ := h
      obtain ⟨k', vv⟩ := c
      have h1' : k = k' := h1
      subst h1'
      have rr := rb.val k
      rcases RepD.get (k := k) rB with ⟨g1, g2⟩ | ⟨y, w, g1, g2, g3⟩
      · rw [g2] at rr
        have e : eqXd ((k, x) :: kvs) kws = false := by rw [eqXd, g1]; rfl
        rw [e]
        exact .miss (RelO.none_of rr)
      · rw [g2] at rr
        obtain ⟨ww, ew, rw'⟩ := RelO.some_of rr
        have e : eqXd ((k, x) :: kvs) kws = (eqX x y && eqXd kvs kws) := by rw [eqXd, g1]
        rw [e]
        exact .hit ew (ih (k, x) List.mem_cons_self y g1 v w vv ww r1 g3 h2 rw') (hitsX rb rB r2 t fun p hp => ih p (List.mem_cons_of_mem _ hp))
theorem rcx_dct {A : Around} {a b : Addr} {xs ys : List (Key × T)} {ks ls : List (Key × V)} {va vb : List (Key × Value)} (r1 : RepD X.K F al xs ks) (r2 : RepD X.K F al ys ls) (q1 : KV ks va) (q2 : KV ls vb) (ha : (a == sysModules) = false) (hb : (b == sysModules) = false) (d1 : s.heap.DictOf (mixKind X.prog X.w) a va) (d2 : s.heap.DictOf (mixKind X.prog X.w) b vb) (hu : A.units < cLine)
    (ih : ∀ p ∈ xs, ∀ y, dgetT ys p.1 = some y → EqIs X s F al A.in1 p.2 y) (E Q : Value → Shared → Prop) (q : Q (.bool (eqX (.dct xs) (.dct ys))) s) : wpAny (model X.prog X.w) A (richCompare .Eq (.ref a) (.ref b)) Q E s := by
  refine PySem.W.rcP_dicts (knd := mixKind X.prog X.w) (r := eqXd xs ys) ha hb d1 d2 hu (fun _ => hitsX q2 r2 r1 q1 ih) E Q ?_
  have l1 : va.length = xs.length := by rw [← q1.length, RepD.length r1]
  have l2 : vb.length = ys.length := by rw [← q2.length, RepD.length r2]
  rw [l1, l2]
  rw [eqX] at q
  exact q
theorem eq_flat {A : Around} {t u : T} (ht : flat1 t = true) (hu : flat1 u = true) : EqIs X s F al A t u := by
  intro v w vv ww rt ru rv rw'
  have e : flatV v = true ∧ flatV w = true ∧ eqV v w = eqX t u := by
    cases t with
    | non =>
      cases (show v = V.non from rt)
      cases u with
      | non => cases (show w = V.non from ru); exact ⟨rfl, rfl, by simp [eqV, eqX]⟩
      | bl b => cases (show w = V.bl b from ru); exact ⟨rfl, rfl, by simp [eqV, eqX]⟩
      | int b => cases (show w = V.int b from ru); exact ⟨rfl, rfl, by simp [eqV, eqX]⟩
      | str b => obtain ⟨e, _⟩ := ru; subst e; exact ⟨rfl, rfl, by simp [eqV, eqX]⟩
      | _ => cases hu
    | bl a =>
      cases (show v = V.bl a from rt)
      cases u with
      | non => cases (show w = V.non from ru); exact ⟨rfl, rfl, by simp [eqV, eqX]⟩
      | bl b => cases (show w = V.bl b from ru); exact ⟨rfl, rfl, by simp [eqV, eqX]⟩
      | int b => cases (show w = V.int b from ru); exact ⟨rfl, rfl, by simp [eqV, eqX]⟩
      | str b => obtain ⟨e, _⟩ := ru; subst e; exact ⟨rfl, rfl, by simp [eqV, eqX]⟩
      | _ => cases hu
    | int a =>
      cases (show v = V.int a from rt)
      cases u with
      | non => cases (show w = V.non from ru); exact ⟨rfl, rfl, by simp [eqV, eqX]⟩
      | bl b => cases (show w = V.bl b from ru); exact ⟨rfl, rfl, by simp [eqV, eqX]⟩
      | int b => cases (show w = V.int b from ru); exact ⟨rfl, rfl, by simp [eqV, eqX]⟩
      | str b => obtain ⟨e, _⟩ := ru; subst e; exact ⟨rfl, rfl, by simp [eqV, eqX]⟩
      | _ => cases hu
    | str a =>
      obtain ⟨e, _⟩ := rt
      subst e
      cases u with
      | non => cases (show w = V.non from ru); exact ⟨rfl, rfl, by simp [eqV, eqX]⟩
      | bl b => cases (show w = V.bl b from ru); exact ⟨rfl, rfl, by simp [eqV, eqX]⟩
      | int b => cases (show w = V.int b from ru); exact ⟨rfl, rfl, by simp [eqV, eqX]⟩
      | str b => obtain ⟨e, _⟩ := ru; subst e; exact ⟨rfl, rfl, by simp [eqV, eqX]⟩
      | _ => cases hu
    | _ => cases ht
  obtain ⟨f1, f2, e⟩ := e
  rw [← e]
  exact (eqAt_V rv rw' f1 f2).eqP
/-- a list and a flat thing, .. -/
theorem eq_lf {A : Around} {a : Addr} {its : Array Value} {u : T} {w : V} {ww : Value} (p : s.heap.IsList a its) (hu : A.units < cLine) (hf : flat1 u = true) (ru : Rep X.K F al u w) (rw' : L2.RelV w ww) : SeqAt.EqAt A s (.ref a) ww false ∧ SeqAt.EqAt A s ww (.ref a) false := by
  cases u with
  | non => cases (show w = V.non from ru); cases (show ww = Value.none from rw'); exact ⟨.list_none p hu, .none_list p hu⟩
  | bl b => cases (show w = V.bl b from ru); cases (show ww = Value.bool b from rw'); exact ⟨.list_bool b p hu, .bool_list b p hu⟩
  | int b => cases (show w = V.int b from ru); obtain ⟨t, e⟩ := (show ∃ t, ww = Value.int b t from rw'); subst e; exact ⟨.list_int b t p hu, .int_list b t p hu⟩
  | str b => obtain ⟨e, _⟩ := ru; subst e; obtain ⟨t, e⟩ := (show ∃ t, ww = Value.str b t from rw'); subst e; exact ⟨.list_str b t p hu, .str_list b t p hu⟩
  | _ => cases hf
theorem eq_tf {A : Around} {a : Addr} {its : Array Value} {u : T} {w : V} {ww : Value} (p : s.heap.IsTuple a its) (hu : A.units < cLine) (hf : flat1 u = true) (ru : Rep X.K F al u w) (rw' : L2.RelV w ww) : SeqAt.EqAt A s (.ref a) ww false ∧ SeqAt.EqAt A s ww (.ref a) false := by
  cases u with
  | non => cases (show w = V.non from ru); cases (show ww = Value.none from rw'); exact ⟨.tuple_none p hu, .none_tuple p hu⟩
  | bl b => cases (show w = V.bl b from ru); cases (show ww = Value.bool b from rw'); exact ⟨.tuple_bool b p hu, .bool_tuple b p hu⟩
  | int b => cases (show w = V.int b from ru); obtain ⟨t, e⟩ := (show ∃ t, ww = Value.int b t from rw'); subst e; exact ⟨.tuple_int b t p hu, .int_tuple b t p hu⟩
  | str b => obtain ⟨e, _⟩ := ru; subst e; obtain ⟨t, e⟩ := (show ∃ t, ww = Value.str b t from rw'); subst e; exact ⟨.tuple_str b t p hu, .str_tuple b t p hu⟩
  | _ => cases hf
theorem eq_df {A : Around} {a : Addr} {u : T} {w : V} {ww : Value} (p : SeqAt.DObj s a) (hu : A.units < cLine) (hf : flat1 u = true) (ru : Rep X.K F al u w) (rw' : L2.RelV w ww) : SeqAt.EqAt A s (.ref a) ww false ∧ SeqAt.EqAt A s ww (.ref a) false := by
  cases u with
  | non => cases (show w = V.non from ru); cases (show ww = Value.none from rw'); exact ⟨.dict_none p hu, .none_dict p hu⟩
  | bl b => cases (show w = V.bl b from ru); cases (show ww = Value.bool b from rw'); exact ⟨.dict_bool b p hu, .bool_dict b p hu⟩
  | int b => cases (show w = V.int b from ru); obtain ⟨t, e⟩ := (show ∃ t, ww = Value.int b t from rw'); subst e; exact ⟨.dict_int b t p hu, .int_dict b t p hu⟩
  | str b => obtain ⟨e, _⟩ := ru; subst e; obtain ⟨t, e⟩ := (show ∃ t, ww = Value.str b t from rw'); subst e; exact ⟨.dict_str b t p hu, .str_dict b t p hu⟩
  | _ => cases hf
/-- two references: the same thing, or by their rich comparison -/
theorem eq_ref (I : Inv X pins σ H s) (f : FLe F H) {A : Around} {t u : T} {a b : Addr} (ht : xT t = true) (hu : xT u = true) (rt : Rep X.K F al t (.ref a)) (ru : Rep X.K F al u (.ref b)) (h : ∀ E Q : Value → Shared → Prop, Q (.bool (eqX t u)) s → wpAny (model X.prog X.w) A (richCompare .Eq (.ref a) (.ref b)) Q E s) :
    SeqAt.EqP X.prog X.w A s (.ref a) (.ref b) (eqX t u) := by
  by_cases e : a = b
  · subst e
    rw [eqX_same I f t u _ ht hu rt ru]
    exact (SeqAt.EqAt.same _).eqP
  · exact SeqAt.eqP_refs e h
end
end TL
/-! the T-layer, 70: == and in of nested data -/
namespace TL
open PySem PySem.Spec PyProof.Rows L2
section
variable {X : Cx} {pins : List (Addr × Obj)} {σ : L2.St} {H : Hp} {s : Shared} {F : Hp} {al : List Addr}
mutual
theorem eqx_run (I : Inv X pins σ H s) (f : FLe F H) : ∀ (t u : T) (A : Around), xT t = true → xT u = true → A.units + dpX t < cLine → EqIs X s F al A t u
  | .lst xs, u, A, ht, hx, hu => by
    intro v w vv ww rt ru rv rw'
    have hu0 : A.units < cLine := by omega
    obtain ⟨a, vs, e, h1, r1, _⟩ := id rt
    subst e
    cases (show vv = Value.ref a from rv)
    obtain ⟨i1, q1, p1⟩ := at_lst I f h1
    by_cases hf : flat1 u = true
    · have e : eqX (.lst xs) u = false := by cases u <;> first | rfl | cases hf
      rw [e]
      exact (eq_lf p1 hu0 hf ru rw').1.eqP
    cases u with
    | lst ys =>
      obtain ⟨b, ws, e, h2, r2, _⟩ := id ru
      subst e
      cases (show ww = Value.ref b from rw')
      obtain ⟨i2, q2, p2⟩ := at_lst I f h2
      refine eq_ref I f ht hx rt ru fun E Q q => rcx_lst r1 r2 q1 q2 p1 p2 hu0 (fun j x y ex ey => eqxs_run I f xs A.in1 ht (by show A.units + 1 + dpXs xs < cLine; have : A.units + (dpXs xs + 1) < cLine := hu; omega) j x ex y (xTs_get hx ey)) E Q ?_
      rw [eqX] at q
      exact q
    | tup ys =>
      obtain ⟨b, ws, e, h2, r2, _⟩ := id ru
      subst e
      cases (show ww = Value.ref b from rw')
      obtain ⟨i2, q2, p2⟩ := at_tup I f h2
      exact (SeqAt.EqAt.list_tuple p1 p2 hu0).eqP
    | dct ys =>
      obtain ⟨b, ws, e, h2, r2, _⟩ := id ru
      subst e
      cases (show ww = Value.ref b from rw')
      obtain ⟨_, vb, _, d⟩ := at_dct I f h2
      exact (SeqAt.EqAt.list_dict (SeqAt.DObj.of d) p1 hu0).eqP
    | non => exact absurd rfl hf
    | bl b => exact absurd rfl hf
    | int b => exact absurd rfl hf
    | str b => exact absurd rfl hf
    | _ => cases hx
  | .tup xs, u, A, ht, hx, hu => by
    intro v w vv ww rt ru rv rw'
    have hu0 : A.units < cLine := by omega
    obtain ⟨a, vs, e, h1, r1, _⟩ := id rt
    subst e
    cases (show vv = Value.ref a from rv)
    obtain ⟨i1, q1, p1⟩ := at_tup I f h1
    by_cases hf : flat1 u = true
    · have e : eqX (.tup xs) u = false := by cases u <;> first | rfl | cases hf
      rw [e]
      exact (eq_tf p1 hu0 hf ru rw').1.eqP
    cases u with
    | lst ys =>
      obtain ⟨b, ws, e, h2, r2, _⟩ := id ru
      subst e
      cases (show ww = Value.ref b from rw')
      obtain ⟨i2, q2, p2⟩ := at_lst I f h2
      exact (SeqAt.EqAt.tuple_list p1 p2 hu0).eqP
    | tup ys =>
      obtain ⟨b, ws, e, h2, r2, _⟩ := id ru
      subst e
      cases (show ww = Value.ref b from rw')
      obtain ⟨i2, q2, p2⟩ := at_tup I f h2
      refine eq_ref I f ht hx rt ru fun E Q q => rcx_tup r1 r2 q1 q2 p1 p2 hu0 (fun j x y ex ey => eqxs_run I f xs A.in1 ht (by show A.units + 1 + dpXs xs < cLine; have : A.units + (dpXs xs + 1) < cLine := hu; omega) j x ex y (xTs_get hx ey)) E Q ?_
      rw [eqX] at q
      exact q
    | dct ys =>
      obtain ⟨b, ws, e, h2, r2, _⟩ := id ru
      subst e
      cases (show ww = Value.ref b from rw')
      obtain ⟨_, vb, _, d⟩ := at_dct I f h2
      exact (SeqAt.EqAt.tuple_dict (SeqAt.DObj.of d) p1 hu0).eqP
    | non => exact absurd rfl hf
    | bl b => exact absurd rfl hf
    | int b => exact absurd rfl hf
    | str b => exact absurd rfl hf
    | _ => cases hx
  | .dct xs, u, A, ht, hx, hu => by
    intro v w vv ww rt ru rv rw'
    have hu0 : A.units < cLine := by omega
    obtain ⟨a, vs, e, h1, r1, _⟩ := id rt
    subst e
    cases (show vv = Value.ref a from rv)
    obtain ⟨y1, va, q1, d1⟩ := at_dct I f h1
    by_cases hf : flat1 u = true
    · have e : eqX (.dct xs) u = false := by cases u <;> first | rfl | cases hf
      rw [e]
      exact (eq_df (SeqAt.DObj.of d1) hu0 hf ru rw').1.eqP
    cases u with
    | lst ys =>
      obtain ⟨b, ws, e, h2, r2, _⟩ := id ru
      subst e
      cases (show ww = Value.ref b from rw')
      obtain ⟨i2, q2, p2⟩ := at_lst I f h2
      exact (SeqAt.EqAt.dict_list (SeqAt.DObj.of d1) p2 hu0).eqP
    | tup ys =>
      obtain ⟨b, ws, e, h2, r2, _⟩ := id ru
      subst e
      cases (show ww = Value.ref b from rw')
      obtain ⟨i2, q2, p2⟩ := at_tup I f h2
      exact (SeqAt.EqAt.dict_tuple (SeqAt.DObj.of d1) p2 hu0).eqP
    | dct ys =>
      obtain ⟨b, ws, e, h2, r2, _⟩ := id ru
      subst e
      cases (show ww = Value.ref b from rw')
      obtain ⟨y2, vb, q2, d2⟩ := at_dct I f h2
      exact eq_ref I f ht hx rt ru fun E Q q => rcx_dct r1 r2 q1 q2 y1 y2 d1 d2 hu0 (fun p hp y ey => eqxd_run I f xs A.in1 ht (by show A.units + 1 + dpXd xs < cLine; have : A.units + (dpXd xs + 1) < cLine := hu; omega) p hp y (xTd_get hx ey)) E Q q
    | non => exact absurd rfl hf
    | bl b => exact absurd rfl hf
    | int b => exact absurd rfl hf
    | str b => exact absurd rfl hf
    | _ => cases hx
  | .non, u, A, ht, hx, hu => flatx_run I f .non u A rfl hx (by omega)
  | .bl b, u, A, ht, hx, hu => flatx_run I f (.bl b) u A rfl hx (by omega)
  | .int i, u, A, ht, hx, hu => flatx_run I f (.int i) u A rfl hx (by omega)
  | .str x, u, A, ht, hx, hu => flatx_run I f (.str x) u A rfl hx (by omega)
  | .cel _, _, _, ht, _, _ => by cases ht
  | .glo _, _, _, ht, _, _ => by cases ht
  | .ty _, _, _, ht, _, _ => by cases ht
  | .scr _, _, _, ht, _, _ => by cases ht
  | .obj _ _, _, _, ht, _, _ => by cases ht
theorem eqxs_run (I : Inv X pins σ H s) (f : FLe F H) : ∀ (xs : List T) (A : Around), xTs xs = true → A.units + dpXs xs < cLine → ∀ (j : Nat) (x : T), xs[j]? = some x → ∀ u, xT u = true → EqIs X s F al A x u
  | [], _, _, _, _, _, e => by simp at e
  | x :: xs, A, h, hu, 0, y, e => by
    rw [xTs, Bool.and_eq_true] at h
    rw [dpXs] at hu
    have e : x = y := by simpa using e
    subst e
    exact fun u hx => eqx_run I f x u A h.1 hx (by omega)
  | x :: xs, A, h, hu, j + 1, y, e => by
    rw [xTs, Bool.and_eq_true] at h
    rw [dpXs] at hu
    exact eqxs_run I f xs A h.2 (by omega) j y (by simpa using e)
theorem eqxd_run (I : Inv X pins σ H s) (f : FLe F H) : ∀ (xs : List (Key × T)) (A : Around), xTd xs = true → A.units + dpXd xs < cLine → ∀ p ∈ xs, ∀ u, xT u = true → EqIs X s F al A p.2 u
  | [], _, _, _, _, e => by cases e
  | (k, x) :: xs, A, h, hu, p, hp => by
    rw [xTd, Bool.and_eq_true] at h
    rw [dpXd] at hu
    rcases List.mem_cons.mp hp with e | hp
    · subst e
      exact fun u hx => eqx_run I f x u A h.1 hx (by show A.units + dpX x < cLine; omega)
    · exact eqxd_run I f xs A h.2 (by omega) p hp
theorem flatx_run (I : Inv X pins σ H s) (f : FLe F H) : ∀ (t u : T) (A : Around), flat1 t = true → xT u = true → A.units < cLine → EqIs X s F al A t u := by
  intro t u A ht hx hu
  by_cases hf : flat1 u = true
  · exact eq_flat ht hf
  have e : eqX t u = false := by cases t <;> cases u <;> first | rfl | exact absurd rfl hf | cases ht
  intro v w vv ww rt ru rv rw'
  rw [e]
  cases u with
  | lst ys =>
    obtain ⟨b, ws, e, h2, r2, _⟩ := id ru
    subst e
    cases (show ww = Value.ref b from rw')
    obtain ⟨i2, q2, p2⟩ := at_lst I f h2
    exact (eq_lf p2 hu ht rt rv).2.eqP
  | tup ys =>
    obtain ⟨b, ws, e, h2, r2, _⟩ := id ru
    subst e
    cases (show ww = Value.ref b from rw')
    obtain ⟨i2, q2, p2⟩ := at_tup I f h2
    exact (eq_tf p2 hu ht rt rv).2.eqP
  | dct ys =>
    obtain ⟨b, ws, e, h2, r2, _⟩ := id ru
    subst e
    cases (show ww = Value.ref b from rw')
    obtain ⟨y2, vb, q2, d2⟩ := at_dct I f h2
    exact (eq_df (SeqAt.DObj.of d2) hu ht rt rv).2.eqP
  | non => exact absurd rfl hf
  | bl b => exact absurd rfl hf
  | int b => exact absurd rfl hf
  | str b => exact absurd rfl hf
  | _ => cases hx
end
end
/-- two lists, two tuples, two dicts -/
def twoX : T → T → Bool
  | .lst _, .lst _ => true
  | .tup _, .tup _ => true
  | .dct _, .dct _ => true
  | _, _ => false
def opEqX : T → T → Sh → Res T := fun x y s => if (xT x && xT y && twoX x y && decide (dpX x ≤ 60)) = true then .ok (.bl (eqX x y)) s else .bad
def rEqX (K : PySem.W.Frag) : R2 := fun x y H Q => ∃ F al t u, FLe F H ∧ Rep K F al t x ∧ Rep K F al u y ∧ xT t = true ∧ xT u = true ∧ twoX t u = true ∧ dpX t ≤ 60 ∧ Q (.bl (eqX t u)) H
def opInX (neg : Bool) : T → T → Sh → Res T := fun x y s => match y with
  | .lst ys => if (xT x && xTs ys && decide (dpXs ys ≤ 60)) = true then .ok (.bl (neg ^^ ys.any fun z => eqX z x)) s else .bad
  | _ => .bad
def rInX (K : PySem.W.Frag) (neg : Bool) : R2 := fun x y H Q => ∃ F al t ys, FLe F H ∧ Rep K F al t x ∧ Rep K F al (.lst ys) y ∧ xT t = true ∧ xTs ys = true ∧ dpXs ys ≤ 60 ∧ Q (.bl (neg ^^ ys.any fun z => eqX z t)) H
theorem sv_eqX {K : PySem.W.Frag} : Sv2 K (rEqX K) opEqX := by
  intro W G loc sh σ H x y tx ty Q ok rx ry p
  unfold opEqX at p
  by_cases h : (xT tx && xT ty && twoX tx ty && decide (dpX tx ≤ 60)) = true
  · rw [if_pos h] at p
    rw [Bool.and_eq_true, Bool.and_eq_true, Bool.and_eq_true] at h
    exact ⟨G.F, G.al, tx, ty, ok.fle, rx, ry, h.1.1.1, h.1.1.2, h.1.2, of_decide_eq_true h.2, p _ H G (GLe.refl _) ok rfl⟩
  · rw [if_neg h] at p; exact p.elim
theorem sv_inX {K : PySem.W.Frag} {neg : Bool} : Sv2 K (rInX K neg) (opInX neg) := by
  intro W G loc sh σ H x y tx ty Q ok rx ry p
  unfold opInX at p
  cases ty with
  | lst ys =>
    dsimp only at p
    by_cases h : (xT tx && xTs ys && decide (dpXs ys ≤ 60)) = true
    · rw [if_pos h] at p
      rw [Bool.and_eq_true, Bool.and_eq_true] at h
      exact ⟨G.F, G.al, tx, ys, ok.fle, rx, ry, h.1.1, h.1.2, of_decide_eq_true h.2, p _ H G (GLe.refl _) ok rfl⟩
    · rw [if_neg h] at p; exact p.elim
  | _ => exact p.elim
section
variable {X : Cx}
theorem op_eqX (hu : X.A.units + 64 < cLine) : OpR X (compareOp .Eq) (rEqX X.K) := by
  intro pins s σ H x y v u Q I rx ry ⟨F, al, t, w, f, rt, rw', ht, hw, h2, hd, q⟩
  have q' : EP X pins σ Q (.bool (eqX t w)) s := ⟨.bl _, H, I, rfl, q⟩
  show wpAny (model X.prog X.w) X.A (richCompare .Eq v u) (EP X pins σ Q) X.xe s
  have hu0 : X.A.units < cLine := by omega
  cases t with
  | lst xs =>
    cases w with
    | lst ys =>
      obtain ⟨a, vs, e, h1, r1, _⟩ := rt
      subst e
      obtain ⟨b, ws, e, k1, r2, _⟩ := rw'
      subst e
      cases (show v = Value.ref a from rx)
      cases (show u = Value.ref b from ry)
      obtain ⟨i1, q1, p1⟩ := at_lst I f h1
      obtain ⟨i2, q2, p2⟩ := at_lst I f k1
      refine rcx_lst r1 r2 q1 q2 p1 p2 hu0 (fun j x y ex ey => eqxs_run I f xs X.A.in1 ht (by show X.A.units + 1 + dpXs xs < cLine; have : dpXs xs + 1 ≤ 60 := hd; omega) j x ex y (xTs_get hw ey)) _ _ ?_
      rw [eqX] at q'
      exact q'
    | _ => cases h2
  | tup xs =>
    cases w with
    | tup ys =>
      obtain ⟨a, vs, e, h1, r1, _⟩ := rt
      subst e
      obtain ⟨b, ws, e, k1, r2, _⟩ := rw'
      subst e
      cases (show v = Value.ref a from rx)
      cases (show u = Value.ref b from ry)
      obtain ⟨i1, q1, p1⟩ := at_tup I f h1
      obtain ⟨i2, q2, p2⟩ := at_tup I f k1
      refine rcx_tup r1 r2 q1 q2 p1 p2 hu0 (fun j x y ex ey => eqxs_run I f xs X.A.in1 ht (by show X.A.units + 1 + dpXs xs < cLine; have : dpXs xs + 1 ≤ 60 := hd; omega) j x ex y (xTs_get hw ey)) _ _ ?_
      rw [eqX] at q'
      exact q'
    | _ => cases h2
  | dct xs =>
    cases w with
    | dct ys =>
      obtain ⟨a, vs, e, h1, r1, _⟩ := rt
      subst e
      obtain ⟨b, ws, e, k1, r2, _⟩ := rw'
      subst e
      cases (show v = Value.ref a from rx)
      cases (show u = Value.ref b from ry)
      obtain ⟨y1, va, q1, d1⟩ := at_dct I f h1
      obtain ⟨y2, vb, q2, d2⟩ := at_dct I f k1
      exact rcx_dct r1 r2 q1 q2 y1 y2 d1 d2 hu0 (fun p hp y ey => eqxd_run I f xs X.A.in1 ht (by show X.A.units + 1 + dpXd xs < cLine; have : dpXd xs + 1 ≤ 60 := hd; omega) p hp y (xTd_get hw ey)) _ _ q'
    | _ => cases h2
  | _ => cases w <;> cases h2
theorem any_range (e : T → Bool) : ∀ ys : List T, (List.range ys.length).any (fun j => e (ys.getD j .non)) = ys.any e
  | [] => rfl
  | y :: ys => by
    rw [List.length_cons, List.range_succ_eq_map, List.any_cons, List.any_map, List.any_cons]
    congr 1
    exact any_range e ys
theorem cont_run {neg : Bool} (hu : X.A.units + 64 < cLine) {pins : List (Addr × Obj)} {s : Shared} {σ : L2.St} {H : Hp} {x y : V} {v u : Value} {Q : VK} (I : Inv X pins σ H s) (rx : L2.RelV x v) (ry : L2.RelV y u) (h : rInX X.K neg x y H Q) : wpAny (model X.prog X.w) X.A (contains u v) (fun b s' => EP X pins σ Q (.bool (neg ^^ b)) s') X.xe s := by
  obtain ⟨F, al, t, ys, f, rt, rw', ht, hw, hd, q⟩ := h
  obtain ⟨a, vs, e, h1, r1, _⟩ := rw'
  subst e
  cases (show u = Value.ref a from ry)
  obtain ⟨i1, q1, p1⟩ := at_lst I f h1
  have l1 : i1.toArray.size = ys.length := by simp [← q1.length, RepL.length r1]
  refine SeqAt.containsP (fun j => eqX (ys.getD j .non) t) p1 (fun j h => ?_) ?_
  · obtain ⟨z, w, e1, rz, rv⟩ := items_at r1 q1 h
    rw [getD_of e1]
    exact eqxs_run I f ys X.A.in1 hw (by show X.A.units + 1 + dpXs ys < cLine; omega) j z e1 t ht w x _ _ rz rt rv rx
  · rw [l1, any_range fun z => eqX z t]
    exact ⟨.bl _, H, I, rfl, q⟩
theorem op_notInX (hu : X.A.units + 64 < cLine) : OpR X (compareOp .NotIn) (rInX X.K true) := by
  intro pins s σ H x y v u Q I rx ry h
  show wpAny (model X.prog X.w) X.A (do return Value.bool (!(← contains u v))) (EP X pins σ Q) X.xe s
  refine wpAny_bind (wpAny_mono (cont_run hu I rx ry h) (fun b s' q => wpAny_pure ?_) fun _ _ e => e)
  rw [Bool.true_xor] at q
  exact q
end
end TL
/-! the T-layer, 71: an expression that reads as in a view and hands back a new thing, taken as a plain tree -/
namespace TL
open PySem PySem.Spec PyProof.Rows L2
def eViewV (ev : Ev) : Ev := fun l s => match ev (viewL s l) [] with
  | .ok r s' => if closT r = true ∧ (s'.all closS) = true then (match viewT s' viewN r with
    | some y => .ok y s
    | none => .bad) else .bad
  | _ => .bad
open Classical in
/-- what stood for trees; what is new; the new shared things, frozen -/
noncomputable def frozF (G G' : Gh) (H H' : Hp) : Hp := fun a => if ∃ k : Nat, G'.al[k]? = some a then H' a else backF G G' H a
noncomputable def Gfroz (G G' : Gh) (H H' : Hp) : Gh := ⟨frozF G G' H H', G.al, G.B⟩
section
variable {K : PySem.W.Frag} {G G' : Gh} {loc : Loc} {sh sh' : Sh} {σ : L2.St} {H H' : Hp}
theorem froz_cell {k : Nat} {a : Addr} (h : G'.al[k]? = some a) : frozF G G' H H' a = H' a := by
  unfold frozF
  exact if_pos ⟨k, h⟩
theorem froz_not {a : Addr} (h : ¬ ∃ k : Nat, G'.al[k]? = some a) : frozF G G' H H' a = backF G G' H a := by
  unfold frozF
  exact if_neg h
theorem cell_new (ok : Ok K G loc sh σ H) {loc' : Loc} (le : GLe (Gsome G H) G') (ok' : Ok K G' loc' sh' σ H') {k : Nat} {a : Addr} (h : G'.al[k]? = some a) : H a = none ∧ G.B a = none := by
  obtain ⟨f1, f2⟩ := ok'.alf k a h
  have hb : G.B a = none := by rw [le.b] at f2; exact f2
  refine ⟨?_, hb⟩
  cases hh : H a with
  | none => rfl
  | some o =>
    exfalso
    rw [le.f _ _ ((stillH_of hb).trans hh)] at f1
    cases f1
theorem froz_old (ok : Ok K G loc sh σ H) {loc' : Loc} (le : GLe (Gsome G H) G') (ok' : Ok K G' loc' sh' σ H') {a : Addr} {u : HO} (h : H a = some u) : frozF G G' H H' a = backF G G' H a :=
  froz_not fun ⟨k, z⟩ => by
    have := (cell_new ok le ok' z).1
    rw [h] at this
    cases this
theorem froz_le (ok : Ok K G loc sh σ H) {loc' : Loc} (le : GLe (Gsome G H) G') (ok' : Ok K G' loc' sh' σ H') : GLe G (Gfroz G G' H H') :=
  ⟨fun a o h => (froz_old ok le ok' (ok.fh a o h)).trans (backF_old h), fun k a h => h, rfl⟩
theorem Ok.frozV (ok : Ok K G loc sh σ H) {loc' : Loc} (le : GLe (Gsome G H) G') (ok' : Ok K G' loc' sh' σ H') : Ok K (Gfroz G G' H H') loc sh σ H' := by
  have kept : ∀ {a : Addr} {o : HO}, H a = some o → H' a = some o := fun h => kept_all ok le ok' h
  have hle := froz_le ok le ok'
  have none_of : ∀ {a : Addr} {u : HO}, G.F a = none → H a = some u → (∀ vs, u ≠ .tup vs) → (∀ o vs, u ≠ .frz o (.tup vs)) → frozF G G' H H' a = none := fun h e n1 n2 => (froz_old ok le ok' e).trans (backF_none h e n1 n2)
  refine ⟨⟨(fun a o h => ?_), (fun a o h => kept (ok.bh a o h)), (fun a => ?_), (fun k a h => ?_), ok.ali, ok.all, (fun k o h => ?_)⟩, ok.len, (fun i => ?_), ok.sep⟩
  · have h : frozF G G' H H' a = some o := h
    by_cases c : ∃ k : Nat, G'.al[k]? = some a
    · obtain ⟨k, c⟩ := c
      rw [froz_cell c] at h
      exact h
    · rw [froz_not c] at h
      rcases backF_some h with z | ⟨_, _, z⟩
      · exact kept (ok.fh a o z)
      · exact ok'.fh a o z
  · by_cases c : ∃ k : Nat, G'.al[k]? = some a
    · obtain ⟨k, c⟩ := c
      exact .inr (cell_new ok le ok' c).2
    · show frozF G G' H H' a = none ∨ G.B a = none
      rw [froz_not c]
      cases q : backF G G' H a with
      | none => exact .inl rfl
      | some o =>
        refine .inr ?_
        rcases backF_some q with z | ⟨_, _, z⟩
        · exact ok.fB z
        · have := ok'.fB z
          rw [le.b] at this
          exact this
  · obtain ⟨u, e, n1, n2⟩ := cell_shape ok.toGok h
    obtain ⟨f1, f2⟩ := ok.alf k a h
    exact ⟨none_of f1 e n1 n2, f2⟩
  · obtain ⟨a, h1, h2⟩ := ok.shr k o h
    refine ⟨a, h1, ?_⟩
    cases o with
    | lst xs =>
      obtain ⟨vs, z, _⟩ := id h2
      exact Sha.le (t := .lst xs) hle ((kept z).trans z.symm) h2
    | dct kvs =>
      obtain ⟨vs, z, _⟩ := id h2
      exact Sha.le (t := .dct kvs) hle ((kept z).trans z.symm) h2
    | ins C fs =>
      obtain ⟨dx, fv, q1, q2, q3, q4, q5, q6⟩ := h2
      exact ⟨dx, fv, kept q1, RepFs.mono hle.f hle.a q2, kept q3, none_of q4 q3 (fun _ z => nomatch z) (fun _ _ z => nomatch z), q5, q6⟩
    | tab d q =>
      obtain ⟨q1, ps, q2, q3, q4⟩ := h2
      refine ⟨q1, ps, kept q2, q3, fun pos cv e => ?_⟩
      obtain ⟨c, e1, e2⟩ := q4 pos cv e
      exact ⟨c, e1, hle.f _ _ e2⟩
  · have hs := ok.sl i
    cases e : loc.at i with
    | no => trivial
    | t x =>
      rw [e] at hs
      obtain ⟨v, h1, h2⟩ := hs
      exact ⟨v, h1, rep_le hle h2⟩
    | own x =>
      rw [e] at hs
      obtain ⟨a, h1, h2, h3, h4, h5⟩ := hs
      obtain ⟨u, hu, n1, n2⟩ : ∃ u, H a = some u ∧ (∀ vs, u ≠ .tup vs) ∧ ∀ o vs, u ≠ .frz o (.tup vs) := by
        cases x with
        | lst xs => obtain ⟨vs, z, _⟩ := h5; exact ⟨_, z, (fun _ z => nomatch z), (fun _ _ z => nomatch z)⟩
        | dct xs => obtain ⟨vs, z, _⟩ := h5; exact ⟨_, z, (fun _ z => nomatch z), (fun _ _ z => nomatch z)⟩
        | _ => exact h5.elim
      exact ⟨a, h1, none_of h2 hu n1 n2, h3, h4, Sha.le hle ((kept hu).trans hu.symm) h5⟩
theorem froz_sqT (ok : Ok K G loc sh σ H) {loc' : Loc} (le : GLe (Gsome G H) G') (ok' : Ok K G' loc' sh' σ H') : ∀ a vs, SqT K G'.F a vs → SqT K (frozF G G' H H') a vs := fun a vs h => by
  have up : ∀ {u : HO}, (Gback G G' H).F a = some u → (∃ w, G'.F a = some w) → frozF G G' H H' a = some u := fun {u} e ⟨w, hw⟩ => (froz_not fun ⟨k, z⟩ => by
    rw [(ok'.alf k a z).1] at hw
    cases hw).trans e
  rcases h with h | h
  · have hw : ∃ w, G'.F a = some w := by
      rcases h with h | ⟨o, h⟩ <;> exact ⟨_, h⟩
    rcases back_sqT ok.toGok le ok'.toGok a vs (.inl h) with (z | ⟨o, z⟩) | z
    · exact .inl (.inl (up z hw))
    · exact .inl (.inr ⟨o, up z hw⟩)
    · exact .inr z
  · exact .inr h
theorem repL_froz {n : Nat} {F : Hp} {al : List Addr} (ih : ∀ t y v, closT t = true → viewT sh' n t = some y → Rep K G'.F G'.al t v → Rep K F al y v) : ∀ (xs ys : List T) (vs : List V), closTs xs = true → mapO (viewT sh' n) id (fun _ y => y) xs = some ys → RepL K G'.F G'.al xs vs → RepL K F al ys vs ∧ ys.length = xs.length
  | [], ys, vs, _, e, r => by
    cases e
    exact ⟨r, rfl⟩
  | x :: xs, ys, vs, c, e, r => by
    have c : (closT x && closTs xs) = true := c
    rw [Bool.and_eq_true] at c
    obtain ⟨v, q, rfl, r1, r2⟩ := r
    unfold mapO at e
    split at e
    · rename_i y zs e1 e2
      cases e
      obtain ⟨h1, h2⟩ := repL_froz ih xs zs q c.2 e2 r2
      exact ⟨⟨v, q, rfl, ih _ _ _ c.1 e1 r1, h1⟩, by rw [List.length_cons, List.length_cons, h2]⟩
    · cases e
theorem repD_froz {n : Nat} {F : Hp} {al : List Addr} (ih : ∀ t y v, closT t = true → viewT sh' n t = some y → Rep K G'.F G'.al t v → Rep K F al y v) : ∀ (xs ys : List (Key × T)) (vs : List (Key × V)), closTd xs = true → mapO (viewT sh' n) (·.2) (fun p y => (p.1, y)) xs = some ys → RepD K G'.F G'.al xs vs → RepD K F al ys vs ∧ ys.map (·.1) = xs.map (·.1)
  | [], ys, vs, _, e, r => by
    cases e
    exact ⟨r, rfl⟩
  | (k, x) :: xs, ys, vs, c, e, r => by
    have c : (closT x && closTd xs) = true := c
    rw [Bool.and_eq_true] at c
    obtain ⟨v, q, rfl, r1, r2⟩ := r
    unfold mapO at e
    split at e
    · rename_i y zs e1 e2
      cases e
      obtain ⟨h1, h2⟩ := repD_froz ih xs zs q c.2 e2 r2
      exact ⟨⟨v, q, rfl, ih _ _ _ c.1 e1 r1, h1⟩, by rw [List.map_cons, List.map_cons, h2]⟩
    · cases e
theorem rep_froz (ok : Ok K G loc sh σ H) {loc' : Loc} (le : GLe (Gsome G H) G') (ok' : Ok K G' loc' sh' σ H') (hc : sh'.all closS = true) : ∀ (n : Nat) (t y : T) (v : V), closT t = true → viewT sh' n t = some y → Rep K G'.F G'.al t v → Rep K (frozF G G' H H') G.al y v := by
  intro n
  induction n with
  | zero => intro t y v _ e; cases e
  | succ n ih =>
    intro t y v c e r
    cases t with
    | non => cases e; exact r
    | bl b => cases e; exact r
    | int i => cases e; exact r
    | str x => cases e; exact r
    | tup xs =>
      obtain ⟨a, vs, rfl, h1, h2, h3⟩ := r
      unfold viewT at e
      obtain ⟨ys, e1, rfl⟩ := Option.map_eq_some_iff.mp e
      obtain ⟨k1, k2⟩ := repL_froz ih xs ys vs c e1 h2
      exact ⟨a, vs, rfl, froz_sqT ok le ok' a vs h1, k1, by rw [k2]; exact h3⟩
    | cel k =>
      obtain ⟨a, rfl, ha⟩ := r
      have hF := froz_cell (G := G) (H := H) (H' := H') ha
      cases es : sh'[k]? with
      | none => simp [viewT, es] at e
      | some so =>
        have cs : closS so = true := List.all_eq_true.mp hc so (List.mem_of_getElem? es)
        obtain ⟨b, hb, hs⟩ := ok'.shr k _ es
        rw [ha] at hb
        cases hb
        cases so with
        | lst xs =>
          have e : (mapO (viewT sh' n) id (fun _ y => y) xs).map T.lst = some y := by simpa [viewT, es] using e
          obtain ⟨ys, e1, rfl⟩ := Option.map_eq_some_iff.mp e
          obtain ⟨vs, h1, h2, h3⟩ := hs
          obtain ⟨k1, k2⟩ := repL_froz ih xs ys vs cs e1 h2
          exact ⟨a, vs, rfl, hF.trans h1, k1, by rw [k2]; exact h3⟩
        | dct kvs =>
          have e : (mapO (viewT sh' n) (fun (p : Key × T) => p.2) (fun (p : Key × T) y => (p.1, y)) kvs).map T.dct = some y := by simpa [viewT, es] using e
          obtain ⟨ys, e1, rfl⟩ := Option.map_eq_some_iff.mp e
          obtain ⟨vs, h1, h2, h3⟩ := hs
          obtain ⟨k1, k2⟩ := repD_froz ih kvs ys vs cs e1 h2
          exact ⟨a, vs, rfl, .inl (hF.trans h1), k1, dok_keys h3 k2⟩
        | ins C fs => cases cs
        | tab d q => cases cs
    | _ => cases c
end
section
variable {X : Cx} {W : WX} {e : Expr} {ev : Ev}
theorem t_viewV (h : TPE X W0 e ev) : TPE X W e (eViewV ev) := PE.weak h fun σ H Q ⟨G, loc, sh, ok, p⟩ => by
  refine ⟨Gsome G H, viewL sh loc, [], ok.some_still, ?_⟩
  unfold eViewV at p
  split at p
  · rename_i r s' er
    rw [er]
    by_cases hc : closT r = true ∧ (s'.all closS) = true
    · rw [if_pos hc] at p
      cases ey : viewT s' viewN r with
      | none => rw [ey] at p; exact p.elim
      | some y =>
        rw [ey] at p
        intro v H' G' le ok' rv
        exact p v H' _ (froz_le ok le ok') (ok.frozV le ok') (rep_froz ok le ok' hc.2 viewN r y v hc.1 ey rv)
    · rw [if_neg hc] at p; exact p.elim
  · exact p.elim
end
end TL
/-! the T-layer, 72: instances asked by len(), repr(), str(), ==, isinstance; texts out of numbers -/
namespace TL
open PySem PySem.Spec PyProof.Rows L2
/-! ### names of classes -/
theorem t_cls {X : Cx} {W : WX} {x : Str} {pos : Pos} (hg : Gl X x) (hm : X.mg x = some (.ref (He.ga X.K x))) (hd : (x == ("__debug__" : Str)) = false := by decide) : TPE X W (.Name x pos) (eC (.glo x)) := t_c (pe_glob (v := .ref (He.ga X.K x)) hg hm rfl hd) fun _ _ => rfl
/-! ### isinstance(x, C) -/
/-- what the text says of C against the built-in kinds and the classes Cs -/
def isoB (K : PySem.W.Frag) (C : Str) (Cs : List Str) : Bool := (tyAll.all fun a => decide (PySem.W.kitOne K (.type a) (.ref (He.ga K C)) = some false)) && Cs.all fun D => decide (PySem.W.kitOne K (.ref (He.ga K D)) (.ref (He.ga K C)) = some (decide (D = C)))
def biIsO (C : Str) (Cs : List Str) : List T → Sh → Res T
  | [x, .glo D], s => if D = C then (match tyName x s with
    | some _ => .ok (.bl false) s
    | none => match insOf x s with
      | some (C', _) => if C' ∈ Cs then .ok (.bl (decide (C' = C))) s else .bad
      | none => .bad) else .bad
  | _, _ => .bad
theorem sv_isO {K : PySem.W.Frag} {C : Str} {Cs : List Str} (h : isoB K C Cs = true) (hc : ∀ D ∈ Cs, ClsP K D) : SvL K (rIsi K) (biIsO C Cs) := by
  obtain ⟨h1, h2⟩ := Bool.and_eq_true_iff.mp h
  intro W G loc sh σ H vs ts Q ok r p
  unfold biIsO at p
  split at p
  · rename_i x D
    obtain ⟨v, c, rfl, r1, r2⟩ := RepL.two r
    cases (show c = V.ref (He.ga K D) from r2)
    by_cases hD : D = C
    · rw [if_pos hD] at p
      subst hD
      cases e : tyName x sh with
      | some a =>
        rw [e] at p
        obtain ⟨k1, k2⟩ := ty_of ok r1 e
        exact ⟨v, _, .type a, .ref (He.ga K D), false, rfl, .own _, k1, of_decide_eq_true (List.all_eq_true.mp h1 a k2), p _ H G (GLe.refl _) ok rfl⟩
      | none =>
        rw [e] at p
        dsimp only at p
        cases e2 : insOf x sh with
        | none => rw [e2] at p; exact p.elim
        | some q =>
          obtain ⟨C', fs⟩ := q
          rw [e2] at p
          dsimp only at p
          by_cases hC : C' ∈ Cs
          · rw [if_pos hC] at p
            obtain ⟨a, dx, fv, rfl, i1, _⟩ := ins_at ok.toGok r1 e2
            have P := hc C' hC
            exact ⟨_, _, .ref (He.ga K C'), .ref (He.ga K D), decide (C' = D), rfl, .own _, .base (.ins i1 P.cl P.ca P.cn P.ct P.cm), of_decide_eq_true (List.all_eq_true.mp h2 C' hC), p _ H G (GLe.refl _) ok rfl⟩
          · rw [if_neg hC] at p; exact p.elim
    · rw [if_neg hD] at p; exact p.elim
  · exact p.elim
/-! ### a method called behind a built-in -/
section
variable {X : Cx} {CX : CXT} {k : Nat} {m : Str} {tbl : List (Str × Fn)}
theorem call_un {A : Around} {pins : List (Addr × Obj)} {σ : L2.St} {H : Hp} {s : Shared} {Q : VK} {vs : List V} {us : List Value} {f : Addr} {fd : FuncData} {ps : List Str} {sp : Sp} {ds : List Value} {dvs : List V} {E : XK} (F : FnOk X.prog X.w X.K X.mg X.base CX0 k f fd ps sp) (hr : Room k A) (e0 : Env0 X.prog X.w X.K X.mg X.base A X.stack s H) (hb : Binds X.K fd ps ds) (hd : Vals dvs ds)
    (I : Inv X pins σ H s) (r : Vals vs us) (q : sp (vs ++ dvs) H Q E) : wpAny (model X.prog X.w) A (call (.ref f) us) (EP X pins σ Q) X.xe s := by
  have r2 := Vals.append r hd
  have hl : (us ++ ds).length = ps.length := by rw [← r2.length]; exact F.len _ _ _ _ q
  refine wpAny_call (codeAny_mono (F.run A X.stack s H ⟨us, []⟩ (us ++ ds) (vs ++ dvs) Q E hr e0 (hb s us I.kIn hl) r2 q) fun r s' hq => ?_)
  cases r with
  | error e => exact (show False from hq).elim
  | ok fl =>
    cases fl with
    | ret u => exact I.after hq
    | next => exact False.elim hq
    | brk => exact False.elim hq
    | cont => exact False.elim hq
/-- the def of x's class named m is run with x and more -/
def rOwnM (X : Cx) (k : Nat) (m : Str) (x : V) (more : List V) (H : Hp) (Q : VK) : Prop := MthAt X CX0 k m x H fun sp dvs => ∃ E, sp (x :: (more ++ dvs)) H Q E
theorem ownM_core {K : PySem.W.Frag} {W : WX} {G : Gh} {loc : Loc} {sh : Sh} {σ : L2.St} {H : Hp} {n : Nat} (hK : K = X.K) (ht : ∀ q ∈ tbl, CalM X.prog X.w X.K X.mg X.base CX0 k q.1 m false n [] q.2) (ok : Ok K G loc sh σ H) {o : T} {v : V} {φ : Fn} {ts : List T} {vs : List V} {Q : VK} (hn : ts.length + 1 = n) (ro : rep K G o v) (r : repL K G ts vs) (e : mthOf tbl m o sh = some φ)
    (p : post (rpV K) K W G loc σ (φ (o :: ts) sh) Q) : rOwnM X k m v vs H Q := by
  subst hK
  refine mth_at ok.toGok ro e ht fun ps dvs hps hdt => ⟨WE W σ, ?_⟩
  have hd : dvs = [] := by
    have := hdt (fun _ => none) []
    exact this
  subst hd
  rw [List.append_nil]
  have q := call_core (m := false) ok (RepL.cons ro r) p
  have : (o :: ts).length = ps := by rw [List.length_cons, hn, ← hps]; rfl
  rw [this] at q
  exact q
end
/-! ### len(x) -/
def biLenO (tbl : List (Str × Fn)) : List T → Sh → Res T
  | [x], s => match mthOf tbl "__len__" x s with
    | some φ => (φ [x] s).bind fun r s1 => match r with
      | .int n => if 0 ≤ n ∧ n < 2 ^ 63 then .ok (.int n) s1 else .bad
      | _ => .bad
    | none => .bad
  | _, _ => .bad
def rLenO (X : Cx) (k : Nat) : List V → Hp → VK → Prop := fun xs H Q => ∃ x, xs = [x] ∧ rOwnM X k "__len__" x [] H fun v H2 => ∃ n : Int, v = .int n ∧ 0 ≤ n ∧ n < 2 ^ 63 ∧ Q (.int n) H2
def biStrO (m : Str) (tbl : List (Str × Fn)) : List T → Sh → Res T
  | [x], s => match mthOf tbl m x s with
    | some φ => (φ [x] s).bind fun r s1 => match r with
      | .str y => .ok (.str y) s1
      | _ => .bad
    | none => .bad
  | _, _ => .bad
def rStrO (X : Cx) (m : Str) (k : Nat) : List V → Hp → VK → Prop := fun xs H Q => ∃ x, xs = [x] ∧ rOwnM X k m x [] H fun v H2 => ∃ y : Str, v = .str y ∧ Q (.str y) H2
section
variable {X : Cx} {k : Nat} {tbl : List (Str × Fn)} {m : Str}
theorem cr_lenO (hr : Room (k + 1) X.A) : CallR X (.builtin "len") (rLenO X k) := by
  intro pins s σ H xs us Q I rv ⟨x, e, a, C, dx, fs, f, fd, ps, sp, ds, dvs, ex, ea, c, hm, F, hb, hd, l, E, q⟩
  subst e ex
  obtain ⟨u, rfl, ru⟩ := L2.vals1 rv
  obtain rfl : u = Value.ref a := ru
  obtain ⟨mA, O, _⟩ := ins_get I.hok ea
  obtain ⟨od, J, _⟩ := O.look
  obtain ⟨mm, hF⟩ := I.fr
  refine PySem.W.len_K hF I.ok.mod.kin J hm.at_ hm.fn ?_
  refine wpAny_mono (call_un (us := [.ref a]) (vs := [.ref a]) F hr.in1 I.env0.in1 hb hd I (.cons rfl .nil) q) (fun w s' z => ?_) fun _ _ x => x
  obtain ⟨v, H2, I2, rv2, n, rfl, h0, h1, q2⟩ := z
  obtain ⟨t, rfl⟩ := (show ∃ t, w = Value.int n t from rv2)
  exact ⟨⟨h0, h1⟩, ⟨.int n, H2, I2.tok _, ⟨_, rfl⟩, q2⟩⟩
theorem cr_strO (hr : Room (k + 2) X.A) : CallR X (.type "str") (rStrO X "__str__" k) := by
  intro pins s σ H xs us Q I rv ⟨x, e, a, C, dx, fs, f, fd, ps, sp, ds, dvs, ex, ea, c, hm, F, hb, hd, l, E, q⟩
  subst e ex
  obtain ⟨u, rfl, ru⟩ := L2.vals1 rv
  obtain rfl : u = Value.ref a := ru
  obtain ⟨mA, O, _⟩ := ins_get I.hok ea
  obtain ⟨od, J, _⟩ := O.look
  refine PySem.W.kso_call hr.in1.in1.units0 I.kIn J hm.at_ hm.fn ?_
  refine wpAny_mono (call_un (us := [.ref a]) (vs := [.ref a]) F hr.in1.in1 I.env0.in1.in1 hb hd I (.cons rfl .nil) q) (fun w s' z => ?_) fun _ _ x => x
  obtain ⟨v, H2, I2, rv2, y, rfl, q2⟩ := z
  obtain ⟨t, rfl⟩ := (show ∃ t, w = Value.str y t from rv2)
  exact ⟨.str y, H2, I2, ⟨_, rfl⟩, q2⟩
theorem sv_lenO (ht : ∀ q ∈ tbl, CalM X.prog X.w X.K X.mg X.base CX0 k q.1 "__len__" false 1 [] q.2) : SvL X.K (rLenO X k) (biLenO tbl) := by
  intro W G loc sh σ H vs ts Q ok r p
  unfold biLenO at p
  split at p
  · rename_i x
    obtain ⟨v, rfl, r1⟩ := RepL.one r
    cases e : mthOf tbl "__len__" x sh with
    | none => rw [e] at p; exact p.elim
    | some φ =>
      rw [e] at p
      dsimp only at p
      refine ⟨v, rfl, ownM_core rfl ht ok (ts := []) rfl r1 rfl e ((post.bind (Rp := rpV X.K) p).imp ?_)⟩
      rintro w H1 ⟨G1, t, s1, l1, ok1, r2, p1⟩
      cases t with
      | int n =>
        cases r2
        dsimp only at p1
        by_cases hn : 0 ≤ n ∧ n < 2 ^ 63
        · rw [if_pos hn] at p1
          exact ⟨n, rfl, hn.1, hn.2, p1 _ H1 G1 (GLe.refl _) ok1 rfl⟩
        · rw [if_neg hn] at p1; exact p1.elim
      | _ => exact p1.elim
  · exact p.elim
theorem sv_strO (ht : ∀ q ∈ tbl, CalM X.prog X.w X.K X.mg X.base CX0 k q.1 m false 1 [] q.2) : SvL X.K (rStrO X m k) (biStrO m tbl) := by
  intro W G loc sh σ H vs ts Q ok r p
  unfold biStrO at p
  split at p
  · rename_i x
    obtain ⟨v, rfl, r1⟩ := RepL.one r
    cases e : mthOf tbl m x sh with
    | none => rw [e] at p; exact p.elim
    | some φ =>
      rw [e] at p
      dsimp only at p
      refine ⟨v, rfl, ownM_core rfl ht ok (ts := []) rfl r1 rfl e ((post.bind (Rp := rpV X.K) p).imp ?_)⟩
      rintro w H1 ⟨G1, t, s1, l1, ok1, r2, p1⟩
      cases t with
      | str y =>
        obtain ⟨rfl, hy⟩ := r2
        exact ⟨y, rfl, p1 _ H1 G1 (GLe.refl _) ok1 ⟨rfl, hy⟩⟩
      | _ => exact p1.elim
  · exact p.elim
end
/-! ### x == y, x an instance -/
/-- no class of the text stands ahead of C's own == -/
def eqoB (K : PySem.W.Frag) (C : Str) (Cs : List Str) : Bool := (tyAll.all fun a => PySem.W.notFirst K (He.ga K C) (.type a)) && Cs.all fun D => PySem.W.notFirst K (He.ga K C) (.ref (He.ga K D))
def opEqO (C : Str) (Cs : List Str) (φ : Fn) : T → T → Sh → Res T := fun x y s => match mthOf [(C, φ)] "__eq__" x s with
  | some φ => (match tyName y s with
    | some _ => φ [x, y] s
    | none => match insOf y s with
      | some (D, _) => if D ∈ Cs then φ [x, y] s else .bad
      | none => .bad)
  | none => .bad
def rEqO (X : Cx) (k : Nat) : R2 := fun x y H Q => ∃ t, TyX X.K H y t ∧ MthAt X CX0 k "__eq__" x H fun sp dvs => (∀ a D dx fs, x = V.ref a → H a = some (.ins D dx fs) → PySem.W.notFirst X.K D t = true) ∧ ∃ E, sp (x :: ([y] ++ dvs)) H Q E
section
variable {X : Cx} {k : Nat} {C : Str} {Cs : List Str} {φ : Fn}
theorem op_eqO (hr : Room k X.A) : OpR X (compareOp .Eq) (rEqO X k) := by
  intro pins s σ H x y v u Q I rx ry ⟨t, ty, a, D, dx, fs, f, fd, ps, sp, ds, dvs, ex, ea, c, hm, F, hb, hd, l, hn, E, q⟩
  subst ex
  obtain rfl : v = Value.ref a := rx
  obtain ⟨P, Z, hP, _⟩ := kit_of I ry ty
  obtain ⟨mA, O, _⟩ := ins_get I.hok ea
  obtain ⟨od, J, _⟩ := O.look
  obtain ⟨mm, hF⟩ := I.fr
  show wpAny (model X.prog X.w) X.A (richCompare .Eq (.ref a) u) (EP X pins σ Q) X.xe s
  refine PySem.W.cmp_K (op := .Eq) (tb := t) hr.units0 hF I.ok.mod.kin J (Z.ty _ _ I.kIn hP) (hn a D dx fs rfl ea) hm.at_ hm.fn ?_
  refine wpAny_mono (call_un (us := [.ref a, u]) (vs := [.ref a, y]) F hr I.env0 hb hd I (.cons rfl (.cons ry .nil)) q) (fun w s' z => ?_) fun _ _ x => x
  obtain ⟨z', H', I', rz, qz⟩ := z
  exact SlX.cmpback rz ⟨z', H', I', rz, qz⟩
theorem sv_eqO (hc : ∀ D ∈ Cs, ClsP X.K D) (hq : eqoB X.K C Cs = true) (ht : CalM X.prog X.w X.K X.mg X.base CX0 k C "__eq__" false 2 [] φ) : Sv2 X.K (rEqO X k) (opEqO C Cs φ) := by
  obtain ⟨h1, h2⟩ := Bool.and_eq_true_iff.mp hq
  intro W G loc sh σ H x y tx ty Q ok rx ry p
  unfold opEqO at p
  cases e : mthOf [(C, φ)] "__eq__" tx sh with
  | none => rw [e] at p; exact p.elim
  | some ψ =>
    rw [e] at p
    dsimp only at p
    have hins : ∃ fs, insOf tx sh = some (C, fs) := by
      unfold mthOf at e
      cases e1 : insOf tx sh with
      | none => rw [e1] at e; cases e
      | some q =>
        obtain ⟨C', fs⟩ := q
        rw [e1] at e
        dsimp only at e
        by_cases hl : (fs.lookup ("__eq__" : Str)).isNone = true
        · rw [if_pos hl] at e
          have := lookup_mem e
          rw [List.mem_singleton] at this
          cases this
          exact ⟨fs, rfl⟩
        · rw [if_neg hl] at e; cases e
    obtain ⟨fs, hins⟩ := hins
    obtain ⟨a, dx, fv, hv, i1, _⟩ := ins_at ok.toGok rx hins
    have key : ∀ t, TyX X.K H y t → PySem.W.notFirst X.K (He.ga X.K C) t = true → post (rpV X.K) X.K W G loc σ (ψ [tx, ty] sh) Q → rEqO X k x y H Q := by
      intro t hty hn p
      refine ⟨t, hty, ?_⟩
      obtain ⟨a', D, dx', fs', f, fd, ps, sp, ds, dvs, ex, ea, c, hm, F, hb, hd, l, q⟩ := ownM_core (tbl := [(C, φ)]) rfl (fun q hq => by cases List.mem_singleton.mp hq; exact ht) ok (ts := [ty]) rfl rx (RepL.cons ry RepL.nil) e p
      refine ⟨a', D, dx', fs', f, fd, ps, sp, ds, dvs, ex, ea, c, hm, F, hb, hd, l, fun b D' dy gs eb hb' => ?_, q⟩
      rw [hv] at eb
      cases eb
      rw [i1] at hb'
      cases hb'
      exact hn
    cases et : tyName ty sh with
    | some b =>
      rw [et] at p
      obtain ⟨k1, k2⟩ := ty_of ok ry et
      exact key _ k1 (List.all_eq_true.mp h1 b k2) p
    | none =>
      rw [et] at p
      dsimp only at p
      cases e2 : insOf ty sh with
      | none => rw [e2] at p; exact p.elim
      | some q =>
        obtain ⟨D, gs⟩ := q
        rw [e2] at p
        dsimp only at p
        by_cases hD : D ∈ Cs
        · rw [if_pos hD] at p
          obtain ⟨b, dy, gv, rfl, j1, _⟩ := ins_at ok.toGok ry e2
          have P := hc D hD
          exact key _ (.base (.ins j1 P.cl P.ca P.cn P.ct P.cm)) (List.all_eq_true.mp h2 D hD) p
        · rw [if_neg hD] at p; exact p.elim
end
/-! ### str(i), f'..' -/
def biStrI : List T → Sh → Res T
  | [.int i], s => if i.natAbs.log2 < 1920 ∧ (toString i : Str).length ≤ sizeLine then .ok (.str (toString i)) s else .bad
  | _, _ => .bad
theorem sv_strI {K : PySem.W.Frag} : SvL K (fun xs H Q => ∃ i, xs = [.int i] ∧ i.natAbs.log2 < 1920 ∧ Q (.str (toString i)) H) biStrI := by
  intro W G loc sh σ H vs ts Q ok r p
  unfold biStrI at p
  split at p
  · rename_i i
    obtain ⟨v, rfl, r1⟩ := RepL.one r
    cases (show v = V.int i from r1)
    by_cases h : i.natAbs.log2 < 1920 ∧ (toString i : Str).length ≤ sizeLine
    · rw [if_pos h] at p
      exact ⟨i, rfl, h.1, p _ H G (GLe.refl _) ok ⟨rfl, h.2⟩⟩
    · rw [if_neg h] at p; exact p.elim
  · exact p.elim
def opFmt : T → Sh → Res T
  | .str y, s => .ok (.str y) s
  | .int i, s => if i.natAbs.log2 < 1920 ∧ (toString i : Str).length ≤ sizeLine then .ok (.str (toString i)) s else .bad
  | _, _ => .bad
def eFmt (ev : Ev) : Ev := fun l s => (ev l s).bind opFmt
def joinEv : List Ev → Str → Ev
  | [], acc, _, s => .ok (.str acc) s
  | e :: es, acc, l, s => (e l s).bind fun x s1 => match x with
    | .str y => if (acc ++ y).length ≤ sizeLine then joinEv es (acc ++ y) l s1 else .bad
    | _ => .bad
def eJoin (evs : List Ev) : Ev := joinEv evs Str.empty
section
variable {X : Cx} {W : WX} {e v1 v2 : Expr} {ev : Ev} {es rest : List Expr} {evs : List Ev} {pos : Pos}
theorem t_fmt (he : TPE X W e ev) : TPE X W (.FormattedValue e (-1) none pos) (eFmt ev) := PE.weak (pe_fmt he) fun σ H Q ⟨G, loc, sh, ok, p⟩ => by
  refine ⟨G, loc, sh, ok, (post.bind (Rp := rpV X.K) p).imp ?_⟩
  rintro x H1 ⟨G1, t, s1, l1, ok1, r1, p1⟩
  cases t with
  | str y =>
    obtain ⟨rfl, hy⟩ := r1
    exact .inl ⟨y, rfl, hy, p1 _ H1 G1 (GLe.refl _) ok1 ⟨rfl, hy⟩⟩
  | int i =>
    cases r1
    unfold opFmt at p1
    by_cases h : i.natAbs.log2 < 1920 ∧ (toString i : Str).length ≤ sizeLine
    · dsimp only at p1
      rw [if_pos h] at p1
      exact .inr ⟨i, rfl, h.1, p1 _ H1 G1 (GLe.refl _) ok1 ⟨rfl, h.2⟩⟩
    · dsimp only at p1
      rw [if_neg h] at p1; exact p1.elim
  | _ => exact p1.elim
abbrev TPJ (X : Cx) (W : WX) (es : List Expr) (evs : List Ev) : Prop := PJ X es (evs.map fun ev => lift X.K W ev)
theorem tj_nil : TPJ X W [] [] := .nil
theorem tj_cons (he : TPE X W e ev) (hr : TPJ X W es evs) : TPJ X W (e :: es) (ev :: evs) := .cons he hr
theorem joins_core {σ : L2.St} {loc : Loc} {Q : VK} : ∀ (evs : List Ev) (acc : Str) (G : Gh) (sh : Sh) (H : Hp), acc.length ≤ sizeLine → Ok X.K G loc sh σ H → post (rpV X.K) X.K W G loc σ (joinEv evs acc loc sh) Q → tJs (evs.map fun ev => lift X.K W ev) acc σ H fun out H1 => Q (.str out) H1
  | [], acc, G, sh, H, ha, ok, p => p _ H G (GLe.refl _) ok ⟨rfl, ha⟩
  | ev :: evs, acc, G, sh, H, ha, ok, p => by
    refine ⟨G, loc, sh, ok, (post.bind (Rp := rpV X.K) p).imp ?_⟩
    rintro x H1 ⟨G1, t, s1, l1, ok1, r1, p1⟩
    cases t with
    | str y =>
      obtain ⟨rfl, hy⟩ := r1
      dsimp only at p1
      by_cases h : (acc ++ y).length ≤ sizeLine
      · rw [if_pos h] at p1
        exact ⟨y, rfl, h, joins_core evs (acc ++ y) G1 s1 H1 h ok1 p1⟩
      · rw [if_neg h] at p1; exact p1.elim
    | _ => exact p1.elim
theorem t_join (h : TPJ X W (v1 :: v2 :: rest) evs) : TPE X W (.JoinedStr (v1 :: v2 :: rest) pos) (eJoin evs) := PE.weak (pe_joined h) fun σ H Q ⟨G, loc, sh, ok, p⟩ => joins_core evs Str.empty G sh H (Nat.zero_le _) ok p
end
end TL
/-! the T-layer, 73: a def that only reads and tells something flat, called with what its arguments show -/
namespace TL
open PySem PySem.Spec PyProof.Rows L2
theorem mt1 {α : Type} {P : α → Prop} {q : α} (h : P q) : ∀ x ∈ [q], P x := fun x hx => by
  cases List.mem_singleton.mp hx
  exact h
def eCallV (φ : Fn) (a : EvL) : Ev := fun l s => (a l s).bind fun ts s1 => match mapO (viewT s1 viewN) id (fun _ y => y) ts with
  | some ys => (match φ ys [] with
    | .ok r _ => if flat1 r = true then .ok r s1 else .bad
    | _ => .bad)
  | none => .bad
section
variable {X : Cx} {W : WX} {CX : CXT} {k n : Nat} {ps : List Str} {φ : Fn} {x : Str} {p pos : Pos} {e : Expr} {es : List Expr} {eL : EvL}
theorem t_callV (C : CalP X.prog X.w X.K X.mg X.base CX k x ps false φ) (hr : Room k X.A) (hx : ∀ σ, PassesAt CX X σ (WE W σ)) (hg : Gl X x)
    (ha : TPA X W (e :: es) eL) (hl : ALen eL n) (hn : n = ps.length := by rfl) (hdb : (x == ("__debug__" : Str)) = false := by decide) (he : starEach (e :: es) X.env = (false, eval e X.env) :: starEach es X.env := by rfl) (hpl : (backTo pos (starEach es X.env)).any (·.1) = false := by rfl) :
    TPE X W (.Call (.Name x p) (e :: es) [] pos) (eCallV φ eL) := by
  obtain ⟨f, fd, F, hm, hk, hb⟩ := C
  refine PE.weak (pe_callD F hr hg hm hk hb .nil hx ha hdb he hpl) fun σ H Q ⟨G, loc, sh, ok, p⟩ => ?_
  refine ⟨G, loc, sh, ok, (post.bindok (Rp := rpL X.K) p).imp ?_⟩
  rintro vs H1 ⟨G1, ts, s1, e1, l1, ok1, r1, p1⟩
  rw [List.append_nil]
  cases ev : mapO (viewT s1 viewN) id (fun _ y => y) ts with
  | none => rw [ev] at p1; exact p1.elim
  | some ys =>
    rw [ev] at p1
    obtain ⟨k1, k2⟩ := repL_view (rep_view ok1.toGok viewN) ts ys vs ev r1
    dsimp only at p1
    have q := call_core (m := false) (W := W) (φ := φ) (Q := Q) ok1.all_still (show repL X.K (Gall H1) ys vs from k1) (by
      cases er : φ ys [] with
      | bad => rw [er] at p1; exact p1.elim
      | exc x s => rw [er] at p1; exact p1.elim
      | ok r s' =>
        rw [er] at p1
        dsimp only at p1
        by_cases hf : flat1 r = true
        · rw [if_pos hf] at p1
          intro v H' G' le ok' rv
          exact p1 v H' G1 (GLe.refl _) (ok1.still fun a o ha => ok'.fh _ _ (le.f a o ha)) (rep_flat hf rv)
        · rw [if_neg hf] at p1; exact p1.elim)
    have : ys.length = ps.length := by rw [k2, hl _ _ _ _ e1, hn]
    rw [this] at q
    exact q
end
end TL
set_option maxHeartbeats 0
namespace TL
open PySem L2
noncomputable def b__law_copy_s (p__law_copy : Fn) : Sv := (sSeq (sIf (eT (eA biIsI (aCons (eVar 0) (aCons (eC (.ty "list")) aNil)))) (sRet (eShare (eComp [1] (itN 0) (.nm 1) cYes (eCall p__law_copy (aCons (eVar 1) aNil))))) sNil) (sSeq (sIf (eT (eA biIsI (aCons (eVar 0) (aCons (eC (.ty "tuple")) aNil)))) (sRet (eA biTuple (aCons (eComp [1] (itN 0) (.nm 1) cYes (eCall p__law_copy (aCons (eVar 1) aNil))) aNil))) sNil) (sSeq (sIf (eT (eA biIsI (aCons (eVar 0) (aCons (eC (.ty "dict")) aNil)))) (sRet (eShare (eA biDict (aCons (eComp [2] (itN 0) (.nm 2) cYes (eA dTup (aCons (eVar 2) (aCons (eCall p__law_copy (aCons (e2 opIx (eVar 0) (eVar 2)) aNil)) aNil)))) aNil)))) sNil) (sRet (eVar 0)))))
noncomputable def b__law_some_rows_n (p__law_pull : Fn) (p__law_key : Fn) (p__law_any : Fn) : Sv := (sSeq (sAsgO 1 (eA dLst aNil)) (sSeq (sFor (itA rg1 (aCons (eCall p__law_pull (aCons (eVar 0) (aCons (eC (.int 10)) aNil))) aNil)) (.nm 2) (sSeq (sAsg 3 (eA dTup (aCons (eCall p__law_any (aCons (eVar 0) (aCons (eA dLst (aCons (eC (.str "a")) (aCons (eC (.str "b")) (aCons (eC (.str "ab")) aNil)))) aNil))) (aCons (eCall p__law_key (aCons (eVar 0) (aCons (e2 opAdd (eC (.int 1)) (eCall p__law_pull (aCons (eVar 0) (aCons (eC (.int 2)) aNil)))) aNil))) (aCons (e2 opAdd (eC (.int 1)) (eCall p__law_pull (aCons (eVar 0) (aCons (eC (.int 9)) aNil)))) aNil))))) (sIf (cView (eT (e2 (opInX true) (eVar 3) (eVar 1)))) (sMth 1 mAppend (aCons (eVar 3) aNil)) sNil))) (sRetV 1)))
noncomputable def b_law_k18 (p_Paper___str__ : Fn) (p_Paper___init__ : Fn) (p_Paper___len__ : Fn) (p_Paper___eq__ : Fn) (p_Paper_turned_about : Fn) (p_Paper_come : Fn) (p_Paper_gone : Fn) (p__law_like : Fn) (p__law_wreck : Fn) (p__law_row_rank : Fn) (p__law_copy : Fn) (p__law_some_rows : Fn) (p__law_open : Fn) : Sv := (sSeq (sAsg 1 (eShare (eCall p__law_open (aCons (eVar 0) aNil)))) (sSeq (sFor (itA rg1 (aCons (eC (.int 3)) aNil)) (.nm 2) (sSeq (sAsg 3 (eA dLst (aCons (eCall p__law_some_rows (aCons (eVar 1) aNil)) (aCons (eCall p__law_some_rows (aCons (eVar 1) aNil)) aNil)))) (sSeq (sAsg 4 (eCall p__law_copy (aCons (eVar 3) aNil))) (sSeq (sAsg 5 (eMake "Paper" p_Paper___init__ [] (aCons (e2 opIx (eVar 4) (eC (.int 0))) (aCons (e2 opIx (eVar 4) (eC (.int 1))) aNil)))) (sSeq (sIf (cNot (eT (eCallV p__law_like (aCons (eVar 4) (aCons (eVar 3) aNil))))) (sRet (eC (.bl false))) sNil) (sSeq (sDrop (eCall p__law_wreck (aCons (eVar 4) aNil))) (sSeq (sAsg 6 (eA dLst (aCons (eSortK p__law_row_rank (e2 opIx (eVar 3) (eC (.int 0)))) (aCons (eSortK p__law_row_rank (e2 opIx (eVar 3) (eC (.int 1)))) aNil)))) (sSeq (sFor (itA rg1 (aCons (eC (.int 2)) aNil)) (.nm 7) (sSeq (sAsg 8 (eShare (eA dLst (aCons (eMth [("Paper", p_Paper_gone)] "gone" [] (eVar 5) aNil) (aCons (eMth [("Paper", p_Paper_come)] "come" [] (eVar 5) aNil) aNil))))) (sSeq (sIf (cOr (cNot (eT (eCallV p__law_like (aCons (eVar 8) (aCons (eVar 6) aNil))))) (eT (e2 opNe (eA (biLenO [("Paper", p_Paper___len__)]) (aCons (eVar 5) aNil)) (e2 opAdd (eA biLen (aCons (e2 opIx (eVar 3) (eC (.int 0))) aNil)) (eA biLen (aCons (e2 opIx (eVar 3) (eC (.int 1))) aNil)))))) (sRet (eC (.bl false))) sNil) (sDrop (eCall p__law_wreck (aCons (eVar 8) aNil)))))) (sSeq (sIf (eT (e2 opNe (eA (biStrO "__str__" [("Paper", p_Paper___str__)]) (aCons (eVar 5) aNil)) (e2 opAdd (e2 opAdd (e2 opAdd (eC (.str "-")) (eA biStrI (aCons (eA biLen (aCons (e2 opIx (eVar 3) (eC (.int 0))) aNil)) aNil))) (eC (.str " +"))) (eA biStrI (aCons (eA biLen (aCons (e2 opIx (eVar 3) (eC (.int 1))) aNil)) aNil))))) (sRet (eC (.bl false))) sNil) (sSeq (sAsg 9 (eMth [("Paper", p_Paper_turned_about)] "turned_about" [] (eVar 5) aNil)) (sSeq (sIf (cOr (cNot (eT (eCallV p__law_like (aCons (eA dLst (aCons (eMth [("Paper", p_Paper_gone)] "gone" [] (eVar 9) aNil) (aCons (eMth [("Paper", p_Paper_come)] "come" [] (eVar 9) aNil) aNil))) (aCons (e1 opRev (eVar 6)) aNil))))) (cNot (eT (e2 (opEqO "Paper" ["Paper"] p_Paper___eq__) (eMth [("Paper", p_Paper_turned_about)] "turned_about" [] (eVar 9) aNil) (eVar 5))))) (sRet (eC (.bl false))) sNil) (sIf (cOr (cNot (eT (e2 (opEqO "Paper" ["Paper"] p_Paper___eq__) (eVar 5) (eMake "Paper" p_Paper___init__ [] (aCons (e1 opRev (e2 opIx (eVar 3) (eC (.int 0)))) (aCons (e1 opRev (e2 opIx (eVar 3) (eC (.int 1)))) aNil)))))) (cOr (eT (e2 opNe (e2 (opEqO "Paper" ["Paper"] p_Paper___eq__) (eVar 5) (eVar 9)) (e2 opEqX (e2 opIx (eVar 6) (eC (.int 0))) (e2 opIx (eVar 6) (eC (.int 1)))))) (eT (e2 (opEqO "Paper" ["Paper"] p_Paper___eq__) (eVar 5) (eVar 6))))) (sRet (eC (.bl false))) sNil)))))))))))) (sRet (eAnd (e2 opEq (eA (biLenO [("Paper", p_Paper___len__)]) (aCons (eMake "Paper" p_Paper___init__ [] (aCons (eA dLst aNil) (aCons (eA dLst aNil) aNil))) aNil)) (eC (.int 0))) (e2 opEq (eA (biStrO "__str__" [("Paper", p_Paper___str__)]) (aCons (eMake "Paper" p_Paper___init__ [] (aCons (eA dLst aNil) (aCons (eA dLst aNil) aNil))) aNil)) (eC (.str "-0 +0")))))))
noncomputable def b_Paper___init__ (p_copied : Fn) (p_row_rank : Fn) : Sv := (sSeq (sFldT ["Paper"] "less" (eVar 0) (eSortK p_row_rank (eViewV (eCall p_copied (aCons (eVar 1) aNil))))) (sFldT ["Paper"] "more" (eVar 0) (eSortK p_row_rank (eViewV (eCall p_copied (aCons (eVar 2) aNil))))))
noncomputable def b_Paper___len__ : Sv := (sRet (eA biLen (aCons (e2 opAdd (eFld ["Paper"] "less" (eVar 0)) (eFld ["Paper"] "more" (eVar 0))) aNil)))
noncomputable def b_Paper___eq__ : Sv := (sRet (eAnd (eA (biIsO "Paper" ["Paper"]) (aCons (eVar 1) (aCons (eC (.glo "Paper")) aNil))) (eAnd (e2 opEqX (eFld ["Paper"] "less" (eVar 0)) (eFld ["Paper"] "less" (eVar 1))) (e2 opEqX (eFld ["Paper"] "more" (eVar 0)) (eFld ["Paper"] "more" (eVar 1))))))
noncomputable def b_Paper___str__ : Sv := (sRet (eJoin [(eC (.str "-")), (eFmt (eA biLen (aCons (eFld ["Paper"] "less" (eVar 0)) aNil))), (eC (.str " +")), (eFmt (eA biLen (aCons (eFld ["Paper"] "more" (eVar 0)) aNil)))]))
noncomputable def b_Paper_gone (p_copied : Fn) : Sv := (sRet (eCall p_copied (aCons (eFld ["Paper"] "less" (eVar 0)) aNil)))
noncomputable def b_Paper_come (p_copied : Fn) : Sv := (sRet (eCall p_copied (aCons (eFld ["Paper"] "more" (eVar 0)) aNil)))
noncomputable def b_Paper_turned_about (p_Paper___init__ : Fn) : Sv := (sRet (eMake "Paper" p_Paper___init__ [] (aCons (eFld ["Paper"] "more" (eVar 0)) (aCons (eFld ["Paper"] "less" (eVar 0)) aNil))))
end TL
set_option maxHeartbeats 0
namespace LK18
open PySem L2 TL
structure Tab where
  copied : Fn
  rank : Fn
  key_rank : Fn
  entry_rank : Fn
  row_rank : Fn
  _law_open : Fn
  _law_pull : Fn
  _law_any : Fn
  _law_num : Fn
  _law_like : Fn
  _law_copy : Fn
  _law_rank : Fn
  _law_name : Fn
  _law_plain : Fn
  _law_value : Fn
  _law_record : Fn
  _law_entry_rank : Fn
  _law_key : Fn
  _law_row_rank : Fn
  _law_wreck : Fn
  _law_some_rows : Fn
  law : Fn
  Paper___init__ : Fn
  Paper___len__ : Fn
  Paper___eq__ : Fn
  Paper___str__ : Fn
  Paper_gone : Fn
  Paper_come : Fn
  Paper_turned_about : Fn
noncomputable def F : Nat → Tab
  | 0 => ⟨badFn, badFn, badFn, badFn, badFn, badFn, badFn, badFn, badFn, badFn, badFn, badFn, badFn, badFn, badFn, badFn, badFn, badFn, badFn, badFn, badFn, badFn, badFn, badFn, badFn, badFn, badFn, badFn, badFn⟩
  | n + 1 => ⟨runB0 false 3 (b_copied_s (F n).copied),
    runB0 false 3 (b_rank (F n).rank),
    runB0 false 1 (b_key_rank (F n).rank),
    runB0 false 4 (b_entry_rank (F n).key_rank),
    runB0 false 4 (b_row_rank (F n).entry_rank),
    runB0 true 1 (b__law_open),
    runB0 false 4 (b__law_pull),
    runB0 false 2 (b__law_any (F n)._law_pull),
    runB0 false 1 (b__law_num),
    runB0 false 4 (b__law_like (F n)._law_like (F n)._law_num),
    runB0 false 3 (b__law_copy_s (F n)._law_copy),
    runB0 false 3 (b__law_rank (F n)._law_rank),
    runB0 false 1 (b__law_name (F n)._law_pull),
    runB0 false 4 (b__law_plain (F n)._law_any (F n)._law_pull),
    runB0 false 4 (b__law_value (F n)._law_pull (F n)._law_value (F n)._law_record (F n)._law_plain),
    runB0 false 5 (b__law_record (F n)._law_pull (F n)._law_name (F n)._law_value),
    runB0 false 2 (b__law_entry_rank (F n)._law_rank),
    runB0 false 3 (b__law_key (F n)._law_value),
    runB0 false 1 (b__law_row_rank (F n)._law_entry_rank),
    runB0 false 3 (b__law_wreck_s (F n)._law_wreck),
    runB0 false 4 (b__law_some_rows_n (F n)._law_pull (F n)._law_key (F n)._law_any),
    runB0 false 10 (b_law_k18 (F n).Paper___str__ (F n).Paper___init__ (F n).Paper___len__ (F n).Paper___eq__ (F n).Paper_turned_about (F n).Paper_come (F n).Paper_gone (F n)._law_like (F n)._law_wreck (F n)._law_row_rank (F n)._law_copy (F n)._law_some_rows (F n)._law_open),
    runB0 false 3 (b_Paper___init__ (F n).copied (F n).row_rank),
    runB0 false 1 (b_Paper___len__),
    runB0 false 2 (b_Paper___eq__),
    runB0 false 1 (b_Paper___str__),
    runB0 false 1 (b_Paper_gone (F n).copied),
    runB0 false 1 (b_Paper_come (F n).copied),
    runB0 false 1 (b_Paper_turned_about (F n).Paper___init__)⟩
end LK18
/-! plain Lean over the T-layer, 1: operators, the drawing -/
namespace TL
open PySem PySem.Spec L2
section
variable {R : T → Sh → Prop} {s : Sh}
@[simp] theorem p_addI (i j : Int) : opAdd (.int i) (.int j) s = .ok (.int (i + j)) s := rfl
@[simp] theorem p_subI (i j : Int) : opSub (.int i) (.int j) s = .ok (.int (i - j)) s := rfl
@[simp] theorem p_mulI (i j : Int) : opMul (.int i) (.int j) s = if cMul i j = true then .ok (.int (i * j)) s else .bad := rfl
@[simp] theorem p_modI (i j : Int) : opMod (.int i) (.int j) s = if cMod i j = true then .ok (.int (i.fmod j)) s else .bad := rfl
@[simp] theorem p_fdivI (i j : Int) : opFdiv (.int i) (.int j) s = if cDiv i j = true then .ok (.int (i.fdiv j)) s else .bad := rfl
@[simp] theorem p_powI (i j : Int) : opPow (.int i) (.int j) s = if cPow i j = true then .ok (.int (i ^ j.toNat)) s else .bad := rfl
@[simp] theorem p_ltI (i j : Int) : opLt (.int i) (.int j) s = .ok (.bl (decide (i < j))) s := rfl
@[simp] theorem p_leI (i j : Int) : opLe (.int i) (.int j) s = .ok (.bl (decide (i ≤ j))) s := rfl
@[simp] theorem p_gtI (i j : Int) : opGt (.int i) (.int j) s = .ok (.bl (decide (j < i))) s := rfl
@[simp] theorem p_geI (i j : Int) : opGe (.int i) (.int j) s = .ok (.bl (decide (j ≤ i))) s := rfl
@[simp] theorem p_leS (i j : Str) : opLe (.str i) (.str j) s = .ok (.bl (!ltS j i)) s := rfl
@[simp] theorem p_negI (i : Int) : opNeg (.int i) s = .ok (.int (-i)) s := rfl
@[simp] theorem p_isN (x : T) : opIsN x .non s = .ok (.bl (isNonT x)) s := by cases x <;> rfl
@[simp] theorem p_notN (x : T) : opNotN x .non s = .ok (.bl (!isNonT x)) s := by cases x <;> rfl
@[simp] theorem p_ixL (xs : List T) (i : Int) : wpR (opIx (.lst xs) (.int i) s) R = ∃ t, atI xs i = some t ∧ R t s := by
  show wpR (match atI xs i with | some t => .ok t s | none => .bad) R = _
  cases h : atI xs i <;> simp
@[simp] theorem p_ixT (xs : List T) (i : Int) : wpR (opIx (.tup xs) (.int i) s) R = ∃ t, atI xs i = some t ∧ R t s := by
  show wpR (match atI xs i with | some t => .ok t s | none => .bad) R = _
  cases h : atI xs i <;> simp
@[simp] theorem p_ixS (z : Str) (i : Int) : wpR (opIx (.str z) (.int i) s) R = ∃ c, atI z.cps.toList i = some c ∧ R (.str ⟨#[c]⟩) s := by
  show wpR (match atI z.cps.toList i with | some c => .ok (.str ⟨#[c]⟩) s | none => .bad) R = _
  cases h : atI z.cps.toList i <;> simp
@[simp] theorem p_ixD (kvs : List (Key × T)) (x : Str) : wpR (opIx (.dct kvs) (.str x) s) R = ∃ t, dgetT kvs (.inr x) = some t ∧ R t s := by
  show wpR (match dgetT kvs (.inr x) with | some t => .ok t s | none => .bad) R = _
  cases h : dgetT kvs (.inr x) <;> simp
@[simp] theorem p_ixC (xs : List T) (r : Sh) (i : Int) : wpR (opIx (.cel 0) (.int i) (.lst xs :: r)) R = ∃ t, atI xs i = some t ∧ R t (.lst xs :: r) := by
  show wpR (match atI xs i with | some t => .ok t (.lst xs :: r) | none => .bad) R = _
  cases h : atI xs i <;> simp
@[simp] theorem p_len (x : T) : wpR (biLen [x] s) R = ∃ n, lenT x s = some n ∧ R (.int n) s := by
  show wpR (match lenT x s with | some n => .ok (.int n) s | none => .bad) R = _
  cases h : lenT x s <;> simp
@[simp] theorem p_lenL (xs : List T) : lenT (.lst xs) s = some xs.length := rfl
@[simp] theorem p_lenT (xs : List T) : lenT (.tup xs) s = some xs.length := rfl
@[simp] theorem p_lenS (xs : Str) : lenT (.str xs) s = some xs.length := rfl
@[simp] theorem p_lenD (xs : List (Key × T)) : lenT (.dct xs) s = some xs.length := rfl
theorem atI_nat {α : Type} {xs : List α} {i : Int} (h0 : 0 ≤ i) (h1 : i < xs.length) : ∃ t, atI xs i = some t ∧ xs[i.toNat]? = some t ∧ t ∈ xs := by
  have h : i.toNat < xs.length := by omega
  refine ⟨xs[i.toNat], ?_, List.getElem?_eq_getElem h, List.getElem_mem h⟩
  unfold atI ixN
  rw [if_pos h0, if_pos h1]
  show xs[i.toNat]? = _
  exact List.getElem?_eq_getElem h
@[simp] theorem at4_0 {α : Type} (a b c d : α) : atI [a, b, c, d] 0 = some a := rfl
@[simp] theorem at4_1 {α : Type} (a b c d : α) : atI [a, b, c, d] 1 = some b := rfl
@[simp] theorem at4_2 {α : Type} (a b c d : α) : atI [a, b, c, d] 2 = some c := rfl
@[simp] theorem at4_3 {α : Type} (a b c d : α) : atI [a, b, c, d] 3 = some d := rfl
theorem put4 {l : Loc} {nx bk ct : Loc → Sh → Prop} {rt : T → Sh → Prop} {a b c d v : T} {r : Sh} (hl : l.at 0 = .t (.cel 0)) (k : Int) (xs : List T) (hk : putOwn (.lst [a, b, c, d]) (.int k) v = some (.lst xs)) :
    wpF (sPutK 0 v (.int k) l (.lst [a, b, c, d] :: r)) nx rt bk ct = nx l (.lst xs :: r) := by
  unfold sPutK
  rw [hl]
  simp only [List.getElem?_cons_zero, soT]
  rw [hk]
  rfl
@[simp] theorem put4_1 {l : Loc} {nx bk ct : Loc → Sh → Prop} {rt : T → Sh → Prop} {a b c d v : T} {r : Sh} : wpF (sPutK 0 v (.int 1) (.t (.cel 0) :: l) (.lst [a, b, c, d] :: r)) nx rt bk ct = nx (.t (.cel 0) :: l) (.lst [a, v, c, d] :: r) := put4 rfl 1 _ rfl
@[simp] theorem put4_2 {l : Loc} {nx bk ct : Loc → Sh → Prop} {rt : T → Sh → Prop} {a b c d v : T} {r : Sh} : wpF (sPutK 0 v (.int 2) (.t (.cel 0) :: l) (.lst [a, b, c, d] :: r)) nx rt bk ct = nx (.t (.cel 0) :: l) (.lst [a, b, v, d] :: r) := put4 rfl 2 _ rfl
@[simp] theorem put4_3 {l : Loc} {nx bk ct : Loc → Sh → Prop} {rt : T → Sh → Prop} {a b c d v : T} {r : Sh} : wpF (sPutK 0 v (.int 3) (.t (.cel 0) :: l) (.lst [a, b, c, d] :: r)) nx rt bk ct = nx (.t (.cel 0) :: l) (.lst [a, b, c, v] :: r) := put4 rfl 3 _ rfl
@[simp] theorem slotMut_c (k : Nat) : slotMut (.t (.cel k)) = true := rfl
end
theorem st1 (a : T) (n : Nat) : startL (n + 1) [a] = .t a :: List.replicate n .no := by simp [startL]
theorem st2 (a b : T) (n : Nat) : startL (n + 2) [a, b] = .t a :: .t b :: List.replicate n .no := by simp [startL]
theorem st3 (a b c : T) (n : Nat) : startL (n + 3) [a, b, c] = .t a :: .t b :: .t c :: List.replicate n .no := by simp [startL]
/-! ### the drawing -/
def dr (ns : List Int) (at_ c d : Int) : SO := .lst [.lst (ns.map T.int), .int at_, .int c, .int d]
/-- a drawing list stands first, behind it rest -/
def Dr (rest s : Sh) : Prop := ∃ ns at_ c d, s = dr ns at_ c d :: rest ∧ ns.length ≤ 63 ∧ 0 ≤ at_ ∧ 0 ≤ d ∧ d < 2147483629
/-- a number below top is drawn -/
def PullOk (φ : Fn) : Prop := ∀ (rest s : Sh) (top : Int) (R : T → Sh → Prop), Dr rest s → 0 < top → top < 1073741824 → (∀ r s, Dr rest s → 0 ≤ r → r < top → R (.int r) s) → wpR (φ [.cel 0, .int top] s) R
theorem fmod_pos (i : Int) {j : Int} (h : 0 < j) : 0 ≤ i.fmod j ∧ i.fmod j < j := ⟨Int.fmod_nonneg_of_pos i h, Int.fmod_lt_of_pos i h⟩
theorem cMul_r (i j : Int) (h : -(2 ^ 64) < j ∧ j < 2 ^ 64) : cMul i j = true := by
  unfold cMul
  rw [Bool.or_eq_true, Bool.and_eq_true, Bool.and_eq_true, decide_eq_true_eq, decide_eq_true_eq, decide_eq_true_eq, decide_eq_true_eq]
  exact .inr h
theorem cMod_p {i j : Int} (h : 0 < j) : cMod i j = true := by
  unfold cMod
  simp
  omega
theorem cDiv_p {i j : Int} (h : 0 < j) (h2 : j < 1073741824) : cDiv i j = true := by
  unfold cDiv
  simp
  omega
theorem open_ok {ns : List Int} {R : T → Sh → Prop} {s : Sh} (h : ns.length ≤ 63) (q : R (.lst [.lst (ns.map T.int), .int 0, .int 0, .int 43]) s) : wpR (runB0 true 1 b__law_open [.scr ns] s) R := by
  have e : cutA ns none (some 63) = ns := by
    unfold cutA
    show (ns.drop 0).take (min (63 : Int).toNat ns.length - 0) = ns
    have : min (63 : Int).toNat ns.length - 0 = ns.length := by
      show min 63 ns.length - 0 = ns.length
      omega
    rw [this]
    simp
  have h4 : (4 : Nat) ≤ sizeLine := by decide
  simp [b__law_open, st1, opSl, e, biList]
  exact ⟨h4, q⟩
def PullMid (top : Int) (ns : List Int) (rest : Sh) (l : Loc) (s : Sh) : Prop := ∃ at2 c2 d2 x2 x3, l = [.t (.cel 0), .t (.int top), x2, x3] ∧ s = dr ns at2 c2 d2 :: rest ∧ 0 ≤ at2 ∧ 0 ≤ d2 ∧ d2 < 2147483629
theorem pull_ok : PullOk (runB0 false 4 b__law_pull) := by
  intro rest s top R ⟨ns, at_, c, d, e, hn, ha, hd0, hd1⟩ h0 h1 q
  subst e
  have m2 : ∀ (i : Int), cMul i 69621 = true := fun i => cMul_r i _ (by decide)
  have m3 : ∀ (i : Int), cMul i 39373 = true := fun i => cMul_r i _ (by decide)
  have m4 : ∀ (i : Int), cMul i 40692 = true := fun i => cMul_r i _ (by decide)
  have m5 : ∀ (i : Int), cMul i 31 = true := fun i => cMul_r i _ (by decide)
  have d1 : ∀ (i : Int), cMod i 1000000007 = true := fun i => cMod_p (by decide)
  have d2 : ∀ (i : Int), cMod i 2147483629 = true := fun i => cMod_p (by decide)
  have d3 : ∀ (i : Int), cMod i 8191 = true := fun i => cMod_p (by decide)
  have d4 : ∀ (i : Int), cMod i top = true := fun i => cMod_p h0
  have d5 : ∀ (i : Int), cDiv i top = true := fun i => cDiv_p h0 h1
  have d6 : ∀ (i : Int), cDiv i 67 = true := fun i => cDiv_p (by decide) (by decide)
  have p1 : cPow 10 18 = true := by decide
  -- the end of the walk, from any state
  have fin : ∀ (l : Loc) (at2 c2 d2' : Int), 0 ≤ at2 → 0 ≤ d2' → d2' < 2147483629 → ∀ (x2 x3 : Slot), wpF ((sSeq (sIf (eT (e2 opGe (e2 opIx (eVar 0) (eC (.int 2))) (eVar 1))) (sSeq (sAsg 3 (e2 opMod (e2 opIx (eVar 0) (eC (.int 2))) (eVar 1))) (sSeq (sPut 0 (eC (.int 2)) (e2 opFdiv (e2 opIx (eVar 0) (eC (.int 2))) (eVar 1))) (sRet (eVar 3)))) sNil) (sSeq (sPut 0 (eC (.int 3)) (e2 opMod (e2 opAdd (e2 opAdd (e2 opPow (e2 opIx (eVar 0) (eC (.int 3))) (eC (.int 3))) (e2 opMul (e2 opIx (eVar 0) (eC (.int 3))) (eC (.int 40692)))) (eC (.int 1013904243))) (eC (.int 2147483629)))) (sRet (e2 opMod (e2 opAdd (e2 opFdiv (e2 opIx (eVar 0) (eC (.int 3))) (eC (.int 67))) (e2 opMul (e2 opMod (e2 opIx (eVar 0) (eC (.int 3))) (eC (.int 8191))) (eC (.int 31)))) (eVar 1))))) [.t (.cel 0), .t (.int top), x2, x3] (dr ns at2 c2 d2' :: rest)) (fun _ s => False ∨ R .non s) R (fun _ _ => False) (fun _ _ => False) := by
    intro l at2 c2 dd h2 h3 h4 x2 x3
    have p2 : cPow dd 3 = true := by
      unfold cPow
      simp
      omega
    simp only [dr, wp_sSeq, wp_sIf, wp_eT, wp_e2, wp_eVar, wp_eC, vAt_0, vAt_s, p_ixC, at4_2, Option.some.injEq, exists_eq_left', p_geI, wpR_ok, truB_bl, decide_eq_true_eq]
    by_cases hc : top ≤ c2
    · rw [if_pos hc]
      simp [d4, d5]
      exact q _ _ ⟨ns, _, _, _, rfl, hn, h2, h3, h4⟩ (fmod_pos _ h0).1 (fmod_pos _ h0).2
    · rw [if_neg hc]
      simp [d2, d3, d4, d6, p2, m4, m5]
      exact q _ _ ⟨ns, _, _, _, rfl, hn, h2, (fmod_pos _ (by decide)).1, (fmod_pos _ (by decide)).2⟩ (fmod_pos _ h0).1 (fmod_pos _ h0).2
  rw [wp_runB0]
  unfold b__law_pull
  rw [st2, wp_sSeq]
  refine wpF.imp (nx := PullMid top ns rest) (rt := fun _ _ => False) (bk := fun _ _ => False) (ct := fun _ _ => False) ?_ ?_ (fun _ _ h => h.elim) (fun _ _ h => h.elim) (fun _ _ h => h.elim)
  · rw [wp_sIf]
    simp only [dr, List.replicate, wp_cAnd, wp_eT, wp_e2, wp_eVar, wp_eC, vAt_0, vAt_s, p_ixC, at4_2, at4_1, at4_0, Option.some.injEq, exists_eq_left', p_ltI, wpR_ok, truB_bl, decide_eq_true_eq, wp_eA, wp_aCons, wp_aNil, p_len, p_lenL, List.length_map]
    have base : PullMid top ns rest [.t (.cel 0), .t (.int top), .no, .no] (.lst [.lst (ns.map T.int), .int at_, .int c, .int d] :: rest) := ⟨at_, c, d, _, _, rfl, rfl, ha, hd0, hd1⟩
    by_cases h1 : c < top
    · rw [if_pos h1]
      by_cases h2 : at_ < (ns.length : Int)
      · rw [if_pos h2]
        obtain ⟨t, e1, e2, _⟩ := atI_nat (xs := ns.map T.int) ha (by rw [List.length_map]; exact h2)
        rw [List.getElem?_map] at e2
        obtain ⟨n, e3, rfl⟩ := Option.map_eq_some_iff.mp e2
        simp [e1, p1]
        by_cases h3 : 1000000000000000000 ≤ n
        · rw [if_pos h3]
          exact ⟨_, _, _, _, _, rfl, rfl, by omega, hd0, hd1⟩
        · rw [if_neg h3]
          simp [m2, m3, d1, d2]
          exact ⟨_, _, _, _, _, rfl, rfl, by omega, (fmod_pos _ (by decide)).1, (fmod_pos _ (by decide)).2⟩
      · rw [if_neg h2]; exact base
    · rw [if_neg h1]; exact base
  · rintro l s ⟨at2, c2, d2', x2, x3, rfl, rfl, q1, q2, q3⟩
    refine (fin [] at2 c2 d2' q1 q2 q3 x2 x3).imp (fun _ _ h => ?_) (fun _ _ h => h) (fun _ _ h => h) (fun _ _ h => h)
    rcases h with h | h
    · exact h.elim
    · exact ⟨rfl, h⟩
end TL
/-! plain Lean over the T-layer, 2: data; like, copy, any -/
namespace TL
open PySem PySem.Spec L2
/-! ### data -/
/-- a text as a key -/
def KeyT (k : Key) : Prop := ∃ z, k = Sum.inr z ∧ z.length ≤ 100000
mutual
def DV : T → Prop
  | .non => True
  | .bl _ => True
  | .int _ => True
  | .str x => x.length ≤ 100000
  | .lst xs => xs.length ≤ 100000 ∧ DVs xs
  | .tup xs => xs.length ≤ 100000 ∧ DVs xs
  | .dct kvs => kvs.length < 64 ∧ (kvs.map (·.1)).Nodup ∧ DVd kvs
  | _ => False
def DVs : List T → Prop
  | [] => True
  | x :: xs => DV x ∧ DVs xs
def DVd : List (Key × T) → Prop
  | [] => True
  | (k, x) :: r => KeyT k ∧ DV x ∧ DVd r
end
mutual
def dep : T → Nat
  | .lst xs => deps xs + 1
  | .tup xs => deps xs + 1
  | .dct kvs => depd kvs + 1
  | _ => 0
def deps : List T → Nat
  | [] => 0
  | x :: xs => max (dep x) (deps xs)
def depd : List (Key × T) → Nat
  | [] => 0
  | (_, x) :: r => max (dep x) (depd r)
end
theorem DVs.mem : ∀ {xs : List T}, DVs xs → ∀ x ∈ xs, DV x
  | [], _, _, h => by cases h
  | y :: ys, d, x, h => by
    rcases List.mem_cons.mp h with rfl | h
    · exact d.1
    · exact DVs.mem d.2 x h
theorem DVs.of : ∀ {xs : List T}, (∀ x ∈ xs, DV x) → DVs xs
  | [], _ => trivial
  | y :: ys, h => ⟨h y (by simp), DVs.of fun x hx => h x (by simp [hx])⟩
theorem DVd.mem : ∀ {xs : List (Key × T)}, DVd xs → ∀ p ∈ xs, KeyT p.1 ∧ DV p.2
  | [], _, _, h => by cases h
  | (k, y) :: ys, d, x, h => by
    rcases List.mem_cons.mp h with rfl | h
    · exact ⟨d.1, d.2.1⟩
    · exact DVd.mem d.2.2 x h
theorem DVd.of : ∀ {xs : List (Key × T)}, (∀ p ∈ xs, KeyT p.1 ∧ DV p.2) → DVd xs
  | [], _ => trivial
  | (k, y) :: ys, h => ⟨(h (k, y) (by simp)).1, (h (k, y) (by simp)).2, DVd.of fun x hx => h x (by simp [hx])⟩
theorem deps_mem : ∀ {xs : List T} {x : T}, x ∈ xs → dep x ≤ deps xs
  | [], _, h => by cases h
  | y :: ys, x, h => by
    unfold deps
    rcases List.mem_cons.mp h with rfl | h
    · exact Nat.le_max_left _ _
    · exact Nat.le_trans (deps_mem h) (Nat.le_max_right _ _)
theorem depd_mem : ∀ {xs : List (Key × T)} {p : Key × T}, p ∈ xs → dep p.2 ≤ depd xs
  | [], _, h => by cases h
  | (k, y) :: ys, x, h => by
    unfold depd
    rcases List.mem_cons.mp h with rfl | h
    · exact Nat.le_max_left _ _
    · exact Nat.le_trans (depd_mem h) (Nat.le_max_right _ _)
theorem deps_le : ∀ {xs : List T} {n : Nat}, (∀ x ∈ xs, dep x ≤ n) → deps xs ≤ n
  | [], _, _ => Nat.zero_le _
  | y :: ys, n, h => by
    unfold deps
    exact Nat.max_le.mpr ⟨h y (by simp), deps_le fun x hx => h x (by simp [hx])⟩
theorem depd_le : ∀ {xs : List (Key × T)} {n : Nat}, (∀ p ∈ xs, dep p.2 ≤ n) → depd xs ≤ n
  | [], _, _ => Nat.zero_le _
  | (k, y) :: ys, n, h => by
    unfold depd
    exact Nat.max_le.mpr ⟨h (k, y) (by simp), depd_le fun x hx => h x (by simp [hx])⟩
theorem dget_mem {kvs : List (Key × T)} {p : Key × T} (nd : (kvs.map (·.1)).Nodup) (h : p ∈ kvs) : dgetT kvs p.1 = some p.2 := by
  induction kvs with
  | nil => cases h
  | cons q r ih =>
    rw [List.map_cons, List.nodup_cons] at nd
    rcases List.mem_cons.mp h with rfl | h
    · simp [dgetT]
    · have : q.1 ≠ p.1 := fun e => nd.1 (by rw [e]; exact List.mem_map.mpr ⟨p, h, rfl⟩)
      have e : dgetT (q :: r) p.1 = dgetT r p.1 := by simp [dgetT, this]
      rw [e]
      exact ih nd.2 h
theorem keyStrs_of : ∀ {kvs : List (Key × T)}, DVd kvs → ∃ ks, keyStrs kvs = some ks
  | [], _ => ⟨[], rfl⟩
  | (k, x) :: r, h => by
    obtain ⟨z, rfl, _⟩ := h.1
    obtain ⟨ks, e⟩ := keyStrs_of h.2.2
    exact ⟨z :: ks, by simp [keyStrs, e]⟩
/-! ### isinstance, == -/
section
variable {R : T → Sh → Prop} {s : Sh}
@[simp] theorem p_isI (x : T) (n : String) : wpR (biIsI [x, .ty n] s) R = ∃ a, tyName x s = some a ∧ tyKn n = true ∧ R (.bl (isTy a n)) s := by
  show wpR (match tyName x s with | some a => if tyKn n then .ok (.bl (isTy a n)) s else .bad | none => .bad) R = _
  cases h : tyName x s with
  | none => simp
  | some a => by_cases k : tyKn n = true <;> simp [k]
@[simp] theorem tn_non : tyName .non s = some "NoneType" := rfl
@[simp] theorem tn_bl (b : Bool) : tyName (.bl b) s = some "bool" := rfl
@[simp] theorem tn_int (b : Int) : tyName (.int b) s = some "int" := rfl
@[simp] theorem tn_str (b : Str) : tyName (.str b) s = some "str" := rfl
@[simp] theorem tn_lst (b : List T) : tyName (.lst b) s = some "list" := rfl
@[simp] theorem tn_tup (b : List T) : tyName (.tup b) s = some "tuple" := rfl
@[simp] theorem tn_dct (b : List (Key × T)) : tyName (.dct b) s = some "dict" := rfl
@[simp] theorem kn_int : tyKn "int" = true := by decide
@[simp] theorem kn_bool : tyKn "bool" = true := by decide
@[simp] theorem kn_str : tyKn "str" = true := by decide
@[simp] theorem kn_list : tyKn "list" = true := by decide
@[simp] theorem kn_tuple : tyKn "tuple" = true := by decide
@[simp] theorem kn_dict : tyKn "dict" = true := by decide
@[simp] theorem nn_non : isNonT .non = true := rfl
@[simp] theorem nn_bl (b : Bool) : isNonT (.bl b) = false := rfl
@[simp] theorem nn_int (b : Int) : isNonT (.int b) = false := rfl
@[simp] theorem nn_str (b : Str) : isNonT (.str b) = false := rfl
@[simp] theorem nn_lst (b : List T) : isNonT (.lst b) = false := rfl
@[simp] theorem nn_tup (b : List T) : isNonT (.tup b) = false := rfl
@[simp] theorem nn_dct (b : List (Key × T)) : isNonT (.dct b) = false := rfl
theorem eqT_refl (x : T) (h : plainT x = true) : eqT x x = true := by
  unfold eqT
  exact SeqAt.eqv_refl_plain _ (plain_toD x h)
end
section
variable {R : T → Sh → Prop} {s : Sh}
@[simp] theorem eqI (i j : Int) : opEq (.int i) (.int j) s = .ok (.bl (decide (i = j))) s := by
  have e : eqOk (.int i) (.int j) = true := by simp [eqOk, plainT, toD, PyData.depth]
  have h : opEq (.int i) (.int j) s = if eqOk (.int i) (.int j) then Res.ok (T.bl (false ^^ eqT (.int i) (.int j))) s else Res.bad := rfl
  rw [h, if_pos e, Bool.false_xor]
  unfold eqT
  have : PyData.eqv (toD (.int i)) (toD (.int j)) = decide (i = j) := by
    show (i == j) = decide (i = j)
    rw [Bool.eq_iff_iff]
    simp
  rw [this]
@[simp] theorem eqB (i j : Bool) : opEq (.bl i) (.bl j) s = .ok (.bl (i == j)) s := by
  have e : eqOk (.bl i) (.bl j) = true := by simp [eqOk, plainT, toD, PyData.depth]
  have h : opEq (.bl i) (.bl j) s = if eqOk (.bl i) (.bl j) then Res.ok (T.bl (false ^^ eqT (.bl i) (.bl j))) s else Res.bad := rfl
  rw [h, if_pos e, Bool.false_xor]
  rfl
@[simp] theorem neB (i j : Bool) : opNe (.bl i) (.bl j) s = .ok (.bl (!(i == j))) s := by
  have e : eqOk (.bl i) (.bl j) = true := by simp [eqOk, plainT, toD, PyData.depth]
  have h : opNe (.bl i) (.bl j) s = if eqOk (.bl i) (.bl j) then Res.ok (T.bl (true ^^ eqT (.bl i) (.bl j))) s else Res.bad := rfl
  rw [h, if_pos e, Bool.true_xor]
  rfl
@[simp] theorem eqS (i j : Str) : opEq (.str i) (.str j) s = .ok (.bl (i == j)) s := by
  have e : eqOk (.str i) (.str j) = true := by simp [eqOk, plainT, toD, PyData.depth]
  have h : opEq (.str i) (.str j) s = if eqOk (.str i) (.str j) then Res.ok (T.bl (false ^^ eqT (.str i) (.str j))) s else Res.bad := rfl
  rw [h, if_pos e, Bool.false_xor]
  rfl
theorem plainTs_strs : ∀ ks : List Str, plainTs (ks.map T.str) = true
  | [] => rfl
  | k :: ks => by
    show (plainT (.str k) && plainTs (ks.map T.str)) = true
    rw [plainTs_strs ks]
    rfl
theorem depth_strs : ∀ ks : List Str, PyData.depthAll (toDs (ks.map T.str)) ≤ 1
  | [] => Nat.zero_le _
  | k :: ks => by
    show max _ _ ≤ 1
    exact Nat.max_le.mpr ⟨by simp [toD, PyData.depth], depth_strs ks⟩
/-- two like lists of texts -/
theorem ne_strs (ks : List Str) : opNe (.lst (ks.map T.str)) (.lst (ks.map T.str)) s = .ok (.bl false) s := by
  have e : eqOk (.lst (ks.map T.str)) (.lst (ks.map T.str)) = true := by
    have := depth_strs ks
    simp only [eqOk, plainT, plainTs_strs, toD, Bool.true_and, decide_eq_true_eq]
    simp [PyData.depth]
    omega
  have h2 : eqT (.lst (ks.map T.str)) (.lst (ks.map T.str)) = true := eqT_refl _ (plainTs_strs ks)
  show (if (ks.map T.str).length ≠ (ks.map T.str).length then Res.ok (T.bl true) s else if (ks.map T.str).isEmpty then Res.ok (T.bl (!true)) s else if eqOk (.lst (ks.map T.str)) (.lst (ks.map T.str)) then Res.ok (T.bl (true ^^ eqT (.lst (ks.map T.str)) (.lst (ks.map T.str)))) s else Res.bad) = _
  rw [if_neg (by simp), if_pos e, h2]
  split <;> rfl
end
/-! ### _law_num, _law_like, _law_copy -/
def NumOk (φ : Fn) : Prop := ∀ (i : Int) (s : Sh) (R : T → Sh → Prop), R (.bl true) s → wpR (φ [.int i] s) R
theorem num_ok : NumOk (runB0 false 1 b__law_num) := by
  intro i s R q
  simp [b__law_num, st1, isTy, q]
def LikeOk (n : Nat) (φ : Fn) : Prop := ∀ (t : T) (s : Sh) (R : T → Sh → Prop), DV t → dep t < n → R (.bl true) s → wpR (φ [t, t] s) R
theorem like0 (φ : Fn) : LikeOk 0 φ := fun _ _ _ _ h _ => absurd h (Nat.not_lt_zero _)
theorem all_true (n : Nat) {α : Type} (xs : List α) (s : Sh) (R : T → Sh → Prop) (q : R (.bl true) s) : wpR (biAll [.lst (xs.map fun _ => T.bl true)] s) R := by
  have : blsOf (xs.map fun _ => T.bl true) = some (xs.map fun _ => true) := by
    have := blsOf_map (xs.map fun _ => true)
    rw [List.map_map] at this
    exact this
  show wpR (match blsOf (xs.map fun _ => T.bl true) with | some bs => Res.ok (.bl (bs.all id)) s | none => .bad) R
  rw [this]
  have h : (xs.map fun _ => true).all id = true := by simp
  show R (.bl ((xs.map fun _ => true).all id)) s
  rw [h]
  exact q
theorem rg1_int {n : Int} {s : Sh} (h : 0 ≤ n) (h2 : n ≤ 100000) : rg1 [.int n] s = .ok (rangeT 0 n.toNat) s := by
  show (if -(2 ^ 62) ≤ n ∧ n < 2 ^ 62 then Res.ok (rangeT 0 n.toNat) s else .bad) = _
  rw [if_pos (by omega)]
theorem rg1_nat {n : Nat} {s : Sh} (h : n ≤ 100000) : rg1 [.int (n : Int)] s = .ok (rangeT 0 n) s := by
  have := rg1_int (n := (n : Int)) (s := s) (Int.natCast_nonneg n) (by omega)
  rwa [Int.toNat_natCast] at this
theorem len_size {n : Nat} (h : n ≤ 100000) : n ≤ sizeLine := Nat.le_trans h (by decide)
theorem len_size64 {n : Nat} (h : n < 64) : n ≤ sizeLine := Nat.le_trans (Nat.le_of_lt h) (by decide)
theorem like_step {n : Nat} {φ ψ : Fn} (h : LikeOk n φ) (hn : NumOk ψ) : LikeOk (n + 1) (runB0 false 4 (b__law_like φ ψ)) := by
  intro t s R d hd q
  have seq : ∀ (xs : List T), xs.length ≤ 100000 → DVs xs → deps xs < n → ∀ (l : Loc) (t : T), (t = .lst xs ∨ t = .tup xs) → wpR (compL (.nm 3) cYes (eCall φ (aCons (e2 opIx (eVar 0) (eVar 3)) (aCons (e2 opIx (eVar 1) (eVar 3)) aNil))) (rangeT 0 xs.length) [.t t, .t t, .no, .no] s) fun ys s => ys.length ≤ sizeLine ∧ wpR (biAll [.lst ys] s) R := by
    intro xs hl hx hdx l t ht
    refine comp_map (f := fun _ => .bl true) (fun x hx' R' q' => ?_) ?_
    · obtain ⟨k, hk, rfl⟩ := List.mem_map.mp hx'
      have hk := List.mem_range.mp hk
      obtain ⟨y, e1, _, hy⟩ := atI_nat (xs := xs) (i := (k : Int)) (by omega) (by omega)
      have key : wpR (φ [y, y] s) R' := h y s R' (hx.mem y hy) (by have := deps_mem hy; omega) q'
      rcases ht with rfl | rfl <;> simpa [e1] using key
    · refine ⟨by simp [rangeT]; exact len_size hl, all_true 0 _ s R q⟩
  cases t with
  | non => simp [b__law_like, st2, q]
  | bl b => simp [b__law_like, st2, isTy, q]
  | int i =>
    simp [b__law_like, st2, isTy]
    exact hn i s _ (by simpa using q)
  | str x => simp [b__law_like, st2, isTy, q]
  | lst xs =>
    obtain ⟨d1, d2⟩ := d
    have hr := rg1_nat (s := s) (n := xs.length) d1
    simp [b__law_like, st2, isTy, hr, List.replicate, noOwn, wipeL]
    exact seq xs d1 d2 (by unfold dep at hd; omega) [] _ (.inl rfl)
  | tup xs =>
    obtain ⟨d1, d2⟩ := d
    have hr := rg1_nat (s := s) (n := xs.length) d1
    simp [b__law_like, st2, isTy, hr, List.replicate, noOwn, wipeL]
    exact seq xs d1 d2 (by unfold dep at hd; omega) [] _ (.inr rfl)
  | dct kvs =>
    obtain ⟨d1, d2, d3⟩ := d
    obtain ⟨ks, ek⟩ := keyStrs_of d3
    have hl : ks.length < 64 := by rw [keyStrs_len ek]; exact d1
    have hs : biSort [.dct kvs] s = .ok (.lst ((sortS ks).map T.str)) s := by
      unfold biSort
      simp only [ek]
      rw [if_pos hl]
    simp [b__law_like, st2, isTy, hs, ne_strs, List.replicate, noOwn, wipeL, itemsN]
    have e : kvs.map (fun p => keyT p.1) = kvs.map (fun p => keyT p.1) := rfl
    refine comp_map (f := fun _ => .bl true) (fun x hx' R' q' => ?_) ?_
    · obtain ⟨p, hp, rfl⟩ := List.mem_map.mp hx'
      obtain ⟨⟨z, ez, lz⟩, dp⟩ := d3.mem p hp
      have e1 := dget_mem d2 hp
      rw [ez] at e1
      have key : wpR (φ [p.2, p.2] s) R' := h p.2 s R' dp (by have := depd_mem hp; unfold dep at hd; omega) q'
      rw [ez]
      simpa [keyT, e1] using key
    · refine ⟨by simp; exact len_size64 d1, ?_⟩
      rw [List.map_map]
      exact all_true 0 _ s R q
  | _ => exact d.elim
end TL
/-! plain Lean over the T-layer, 3: copies, the drawing of values -/
namespace TL
open PySem PySem.Spec L2
/-! ### walks over a dict's names, over a list -/
/-! ### _law_copy -/
theorem merge_new {kvs acc : List (Key × T)} (nd : ((acc ++ kvs).map (·.1)).Nodup) : mergeT acc kvs = acc ++ kvs := by
  induction kvs generalizing acc with
  | nil => simp [mergeT]
  | cons p r ih =>
    have h : (acc.any fun kv => decide (kv.1 = p.1)) = false := by
      rw [List.any_eq_false]
      intro q hq e
      have e := of_decide_eq_true e
      rw [List.map_append, List.nodup_append] at nd
      exact nd.2.2 q.1 (List.mem_map.mpr ⟨q, hq, rfl⟩) p.1 (by simp) e
    have e : dputT acc p.1 p.2 = acc ++ [p] := by
      unfold dputT
      rw [h]
      simp
    show mergeT (dputT acc p.1 p.2) r = _
    rw [e, ih (by rw [List.append_assoc]; exact nd), List.append_assoc]
    rfl
/-! ### _law_any, _law_name, _law_plain -/
def AnyOk (φ : Fn) : Prop := ∀ (rest s : Sh) (xs : List T) (R : T → Sh → Prop), Dr rest s → 0 < xs.length → xs.length ≤ 100000 → (∀ x ∈ xs, ∀ s, Dr rest s → R x s) → wpR (φ [.cel 0, .lst xs] s) R
theorem any_ok {φ : Fn} (h : PullOk φ) : AnyOk (runB0 false 2 (b__law_any φ)) := by
  intro rest s xs R d h0 h1 q
  simp [b__law_any, st2]
  refine h rest s _ _ d (by omega) (by omega) fun r s' d' r0 r1 => ?_
  obtain ⟨t, e1, _, hm⟩ := atI_nat r0 r1
  simp [e1]
  exact q t hm s' d'
end TL
/-! plain Lean over the T-layer, 4: names, plain values, values, records drawn -/
namespace TL
open PySem PySem.Spec L2
/-- a, b, .. z -/
abbrev low (c : Nat) : Prop := 97 ≤ c ∧ c ≤ 122
/-- a sign of a text -/
abbrev sgn (c : Nat) : Prop := low c ∨ (48 ≤ c ∧ c ≤ 57) ∨ c = 32
def NameT (x : Str) : Prop := 0 < x.length ∧ x.length ≤ 8 ∧ ∀ c ∈ x.cps.toList, low c
def TextT (x : Str) : Prop := x.length ≤ 12 ∧ ∀ c ∈ x.cps.toList, sgn c
def NameOk (φ : Fn) : Prop := ∀ (rest s : Sh) (R : T → Sh → Prop), Dr rest s → (∀ x s, Dr rest s → NameT x → R (.str x) s) → wpR (φ [.cel 0] s) R
section
variable {R : T → Sh → Prop} {s : Sh}
theorem p_mulS (x : Str) (n : Int) (h0 : 0 ≤ n) (h1 : n ≤ 1000) (h2 : x.length ≤ 1000) : opMul (.str x) (.int n) s = .ok (.str ⟨(List.replicate n.toNat x.cps.toList).flatten.toArray⟩) s := if_pos ⟨h0, h1, h2⟩
end
theorem low_abc : ∀ c ∈ ("abcdefghijklmnopqrstuvwxyz" : Str).cps.toList, low c := by
  have : (("abcdefghijklmnopqrstuvwxyz" : Str).cps.toList.all fun c => decide (97 ≤ c ∧ c ≤ 122)) = true := by decide +kernel
  intro c hc
  exact of_decide_eq_true (List.all_eq_true.mp this c hc)
def nmB (x : Str) : Bool := decide (0 < x.length) && decide (x.length ≤ 8) && x.cps.toList.all fun c => decide (97 ≤ c ∧ c ≤ 122)
theorem nmB_is {x : Str} (h : nmB x = true) : NameT x := by
  unfold nmB at h
  rw [Bool.and_eq_true, Bool.and_eq_true] at h
  exact ⟨of_decide_eq_true h.1.1, of_decide_eq_true h.1.2, fun c hc => of_decide_eq_true (List.all_eq_true.mp h.2 c hc)⟩
def txB (x : Str) : Bool := decide (x.length ≤ 12) && x.cps.toList.all fun c => decide ((97 ≤ c ∧ c ≤ 122) ∨ (48 ≤ c ∧ c ≤ 57) ∨ c = 32)
theorem txB_is {x : Str} (h : txB x = true) : TextT x := by
  unfold txB at h
  rw [Bool.and_eq_true] at h
  exact ⟨of_decide_eq_true h.1, fun c hc => of_decide_eq_true (List.all_eq_true.mp h.2 c hc)⟩
theorem flat_rep (c : Nat) : ∀ m : Nat, (List.replicate m [c]).flatten = List.replicate m c
  | 0 => rfl
  | m + 1 => by rw [List.replicate_succ, List.flatten_cons, flat_rep c m]; rfl
/-- an item of a written list -/
theorem ix_of {xs : List T} {i : Int} {R : T → Sh → Prop} {s : Sh} (h0 : 0 ≤ i) (h1 : i < xs.length) (q : ∀ x ∈ xs, R x s) : wpR (opIx (.lst xs) (.int i) s) R := by
  rw [p_ixL]
  obtain ⟨t, e, _, hm⟩ := atI_nat h0 h1
  exact ⟨t, e, q t hm⟩
theorem name_ok {φ : Fn} (h : PullOk φ) : NameOk (runB0 false 1 (b__law_name φ)) := by
  intro rest s R d q
  simp [b__law_name, st1]
  refine h rest s 9 _ d (by decide) (by decide) fun r s1 d1 _ _ => ?_
  simp
  by_cases hr : r = 0
  · rw [if_pos hr]
    refine h rest s1 26 _ d1 (by decide) (by decide) fun r s2 d2 r0 r1 => ?_
    obtain ⟨c, e1, _, hm⟩ := atI_nat (xs := ("abcdefghijklmnopqrstuvwxyz" : Str).cps.toList) r0 (by
      have : (("abcdefghijklmnopqrstuvwxyz" : Str).cps.toList.length : Int) = 26 := by decide +kernel
      omega)
    simp [e1]
    refine h rest s2 8 _ d2 (by decide) (by decide) fun k s3 d3 k0 k1 => ?_
    have l1 : (⟨#[c]⟩ : Str).length = 1 := rfl
    simp
    rw [p_mulS _ _ (by omega) (by omega) (by rw [l1]; decide)]
    obtain ⟨m, rfl⟩ := Int.eq_ofNat_of_zero_le k0
    have e2 : (1 + (m : Int)).toNat = m + 1 := by omega
    simp only [wpR_ok]
    refine q _ s3 d3 ?_
    rw [e2]
    show NameT ⟨(List.replicate (m + 1) [c]).flatten.toArray⟩
    rw [flat_rep]
    have e4 : (⟨(List.replicate (m + 1) c).toArray⟩ : Str).length = m + 1 := by
      show ((List.replicate (m + 1) c).toArray).size = m + 1
      simp
    refine ⟨by rw [e4]; omega, by rw [e4]; omega, fun x hx => ?_⟩
    have hx' : x ∈ List.replicate (m + 1) c := by simpa using hx
    rw [List.eq_of_mem_replicate hx']
    exact low_abc c hm
  · rw [if_neg hr]
    have h6 : (6 : Nat) ≤ sizeLine := by decide
    simp [h6]
    refine h rest s1 6 _ d1 (by decide) (by decide) fun k s3 d3 k0 k1 => ?_
    refine ix_of k0 k1 fun t hm => ?_
    simp only [List.mem_cons, List.not_mem_nil, or_false] at hm
    rcases hm with rfl | rfl | rfl | rfl | rfl | rfl <;> exact q _ s3 d3 (nmB_is (by decide +kernel))
/-- None, a number, a text -/
def PlainT (t : T) : Prop := t = .non ∨ (∃ i : Int, t = .int i ∧ i.natAbs < 10 ^ 30) ∨ ∃ x, t = .str x ∧ TextT x
def PlainOk (φ : Fn) : Prop := ∀ (rest s : Sh) (R : T → Sh → Prop), Dr rest s → (∀ t s, Dr rest s → PlainT t → R t s) → wpR (φ [.cel 0] s) R
theorem p_addS (x y : Str) (s : Sh) (h : x.length + y.length ≤ sizeLine) : opAdd (.str x) (.str y) s = .ok (.str (x ++ y)) s := if_pos h
theorem cps_app (x y : Str) : (x ++ y).cps.toList = x.cps.toList ++ y.cps.toList := by
  show (x.cps ++ y.cps).toList = _
  simp
theorem cutS_mem {z : Str} {lo hi : Option Int} {c : Nat} (h : c ∈ (cutS z lo hi).cps.toList) : c ∈ z.cps.toList := by
  unfold cutS at h
  have h' := List.mem_of_mem_take (by simpa using h : c ∈ (z.cps.toList.drop _).take _)
  exact List.mem_of_mem_drop h'
theorem cutS_len12 (z : Str) : (cutS z none (some 12)).length ≤ 12 := by
  unfold cutS
  show (((z.cps.toList.drop _).take _).toArray).size ≤ 12
  rw [List.size_toArray, List.length_take]
  have : HT.sIx z.length z.length (some 12) ≤ 12 := by
    show (min (12 : Int).toNat z.length) ≤ 12
    exact Nat.min_le_left _ _
  omega
theorem plain_ok {φ ψ : Fn} (h : PullOk φ) (ha : AnyOk ψ) : PlainOk (runB0 false 4 (b__law_plain ψ φ)) := by
  intro rest s R d q
  have any : ∀ (xs : List T) (s : Sh), Dr rest s → 0 < xs.length → xs.length ≤ 100000 → (∀ x ∈ xs, PlainT x) → wpR (ψ [.cel 0, .lst xs] s) R := fun xs s d h0 h1 hp => ha rest s xs R d h0 h1 fun x hx s' d' => q x s' d' (hp x hx)
  have hI : ∀ i : Int, i.natAbs < 10 ^ 30 → PlainT (.int i) := fun i hi => .inr (.inl ⟨i, rfl, hi⟩)
  have hS : ∀ x : Str, txB x = true → PlainT (.str x) := fun x hx => .inr (.inr ⟨x, rfl, txB_is hx⟩)
  have h8 : (8 : Nat) ≤ sizeLine := by decide
  have h5 : (5 : Nat) ≤ sizeLine := by decide
  have h4 : (4 : Nat) ≤ sizeLine := by decide
  have h1 : (1 : Nat) ≤ sizeLine := by decide
  have c29 : cPow 10 29 = true := by decide
  have c9 : cPow 10 9 = true := by decide
  simp [b__law_plain, st1, List.replicate]
  refine h rest s 9 _ d (by decide) (by decide) fun r s1 d1 r0 r1 => ?_
  simp
  by_cases hr : r < 5
  · rw [if_pos hr]
    by_cases hz : r = 0
    · rw [if_pos hz]; exact q _ s1 d1 (.inl rfl)
    · rw [if_neg hz]
      refine h rest s1 6 _ d1 (by decide) (by decide) fun k s2 d2 k0 k1 => ?_
      simp
      exact q _ s2 d2 (hI _ (by omega))
  · rw [if_neg hr]
    simp [h8]
    by_cases h5' : r = 5
    · subst h5'
      simp [c29, c9]
      refine h rest s1 _ _ d1 (by decide) (by decide) fun k s2 d2 k0 k1 => ?_
      simp [h5]
      refine any _ s2 d2 (by simp) (by simp) fun x hx => ?_
      simp only [List.mem_cons, List.not_mem_nil, or_false] at hx
      rcases hx with rfl | rfl | rfl | rfl | rfl
      · exact hI _ (by decide)
      · exact hI _ (by decide)
      · exact hI _ (by decide)
      · exact hI _ (by decide)
      · exact hI _ (by omega)
    · rw [if_neg h5']
      by_cases h6 : r = 6
      · rw [if_pos h6]
        simp [h4]
        refine ha rest s1 _ _ d1 (by simp) (by simp) fun x hx s2 d2 => ?_
        have hx' : ∃ z, x = .str z ∧ txB z = true := by
          simp only [List.mem_cons, List.not_mem_nil, or_false] at hx
          rcases hx with rfl | rfl | rfl | rfl <;> exact ⟨_, rfl, by decide +kernel⟩
        obtain ⟨z, rfl, hz⟩ := hx'
        have hz := txB_is hz
        simp [opSl]
        refine h rest s2 12 _ d2 (by decide) (by decide) fun k s3 d3 k0 k1 => ?_
        simp [opSl]
        refine h rest s3 10 _ d3 (by decide) (by decide) fun j s4 d4 j0 j1 => ?_
        obtain ⟨c, e1, _, hm⟩ := atI_nat (xs := ("abcxyz019 " : Str).cps.toList) j0 (by
          have : (("abcxyz019 " : Str).cps.toList.length : Int) = 10 := by decide +kernel
          omega)
        have hc : sgn c := (txB_is (x := "abcxyz019 ") (by decide +kernel)).2 c hm
        simp [e1]
        have l1 : (⟨#[c]⟩ : Str).length = 1 := rfl
        have l2 := cutS_len z none (some k)
        have l3 := hz.1
        have l30 : (30 : Nat) ≤ sizeLine := by decide
        rw [p_addS _ _ _ (by rw [l1]; omega)]
        simp
        rw [p_addS _ _ _ (by rw [str_app_len, l1]; omega)]
        simp [h1]
        refine any _ s4 d4 (by simp) (by simp) fun x hx => ?_
        simp only [List.mem_cons, List.not_mem_nil, or_false] at hx
        subst hx
        refine .inr (.inr ⟨_, rfl, cutS_len12 _, fun c' hc' => ?_⟩)
        have := cutS_mem hc'
        rw [cps_app, cps_app, List.mem_append, List.mem_append] at this
        rcases this with (h' | h') | h'
        · exact hz.2 c' (cutS_mem h')
        · have : c' = c := by simpa using h'
          rw [this]; exact hc
        · exact hz.2 c' h'
      · rw [if_neg h6]
        refine any _ s1 d1 (by simp) (by simp) fun x hx => ?_
        simp only [List.mem_cons, List.not_mem_nil, or_false] at hx
        rcases hx with rfl | rfl | rfl | rfl | rfl | rfl | rfl | rfl <;> exact hS _ (by decide +kernel)
end TL
/-! plain Lean over the T-layer, 5: values without bools and tuples; values and records drawn -/
namespace TL
open PySem PySem.Spec L2
mutual
/-- no bool, no tuple in it -/
def nb : T → Bool
  | .non => true
  | .int _ => true
  | .str _ => true
  | .lst xs => nbs xs
  | .dct kvs => nbd kvs
  | _ => false
def nbs : List T → Bool
  | [] => true
  | x :: xs => nb x && nbs xs
def nbd : List (Key × T) → Bool
  | [] => true
  | (_, x) :: r => nb x && nbd r
end
theorem nbs_mem : ∀ {xs : List T}, nbs xs = true → ∀ x ∈ xs, nb x = true
  | [], _, _, h => by cases h
  | y :: ys, d, x, h => by
    have d' : (nb y && nbs ys) = true := d
    rw [Bool.and_eq_true] at d'
    rcases List.mem_cons.mp h with rfl | h
    · exact d'.1
    · exact nbs_mem d'.2 x h
theorem nbs_of : ∀ {xs : List T}, (∀ x ∈ xs, nb x = true) → nbs xs = true
  | [], _ => rfl
  | y :: ys, h => by
    show (nb y && nbs ys) = true
    rw [h y (by simp), nbs_of fun x hx => h x (by simp [hx])]
    rfl
theorem nbd_mem : ∀ {xs : List (Key × T)}, nbd xs = true → ∀ p ∈ xs, nb p.2 = true
  | [], _, _, h => by cases h
  | (k, y) :: ys, d, x, h => by
    have d' : (nb y && nbd ys) = true := d
    rw [Bool.and_eq_true] at d'
    rcases List.mem_cons.mp h with rfl | h
    · exact d'.1
    · exact nbd_mem d'.2 x h
theorem nbd_of : ∀ {xs : List (Key × T)}, (∀ p ∈ xs, nb p.2 = true) → nbd xs = true
  | [], _ => rfl
  | (k, y) :: ys, h => by
    show (nb y && nbd ys) = true
    rw [h (k, y) (by simp), nbd_of fun x hx => h x (by simp [hx])]
    rfl
/-- a value: data without bools and tuples, of depth d at most -/
structure JV (d : Nat) (t : T) : Prop where
  dv : DV t
  nb : TL.nb t = true
  dp : dep t ≤ d
theorem JV.mono {d e : Nat} {t : T} (h : JV d t) (l : d ≤ e) : JV e t := ⟨h.dv, h.nb, Nat.le_trans h.dp l⟩
theorem jv_plain {t : T} (h : PlainT t) : JV 0 t := by
  rcases h with rfl | ⟨i, rfl, _⟩ | ⟨x, rfl, h⟩
  · exact ⟨trivial, rfl, Nat.le_refl _⟩
  · exact ⟨trivial, rfl, Nat.le_refl _⟩
  · exact ⟨Nat.le_trans h.1 (by decide), rfl, Nat.le_refl _⟩
theorem jv_lst {d : Nat} {xs : List T} (hl : xs.length ≤ 100000) (h : ∀ x ∈ xs, JV d x) : JV (d + 1) (.lst xs) :=
  ⟨⟨hl, DVs.of fun x hx => (h x hx).dv⟩, nbs_of fun x hx => (h x hx).nb, Nat.succ_le_succ (deps_le fun x hx => (h x hx).dp)⟩
theorem jv_dct {d : Nat} {kvs : List (Key × T)} (hl : kvs.length < 64) (nd : (kvs.map (·.1)).Nodup) (h : ∀ p ∈ kvs, KeyT p.1 ∧ JV d p.2) : JV (d + 1) (.dct kvs) :=
  ⟨⟨hl, nd, DVd.of fun p hp => ⟨(h p hp).1, (h p hp).2.dv⟩⟩, nbd_of fun p hp => (h p hp).2.nb, Nat.succ_le_succ (depd_le fun p hp => (h p hp).2.dp)⟩
theorem JV.lst {d : Nat} {xs : List T} (h : JV d (.lst xs)) : ∀ x ∈ xs, JV (d - 1) x := fun x hx =>
  ⟨h.dv.2.mem x hx, nbs_mem h.nb x hx, by have := deps_mem hx; have h2 := h.dp; unfold dep at h2; omega⟩
theorem JV.dct {d : Nat} {kvs : List (Key × T)} (h : JV d (.dct kvs)) : ∀ p ∈ kvs, KeyT p.1 ∧ JV (d - 1) p.2 := fun p hp =>
  ⟨(h.dv.2.2.mem p hp).1, (h.dv.2.2.mem p hp).2, nbd_mem h.nb p hp, by have := depd_mem hp; have h2 := h.dp; unfold dep at h2; omega⟩
/-! ### putting into a dict -/
theorem dput_mem {kvs : List (Key × T)} {k : Key} {v : T} {p : Key × T} (h : p ∈ dputT kvs k v) : p ∈ kvs ∨ p = (k, v) := by
  unfold dputT at h
  split at h
  · obtain ⟨q, hq, e⟩ := List.mem_map.mp h
    by_cases c : q.1 = k
    · rw [if_pos c] at e; right; rw [← e, c]
    · rw [if_neg c] at e; left; rw [← e]; exact hq
  · rcases List.mem_append.mp h with h | h
    · exact .inl h
    · exact .inr (by simpa using h)
theorem dput_keys (kvs : List (Key × T)) (k : Key) (v : T) : (k ∈ kvs.map (·.1) ∧ (dputT kvs k v).map (·.1) = kvs.map (·.1)) ∨ (k ∉ kvs.map (·.1) ∧ (dputT kvs k v).map (·.1) = kvs.map (·.1) ++ [k]) := by
  have e : (kvs.any fun kv => decide (kv.1 = k)) = true ↔ k ∈ kvs.map (·.1) := by
    rw [List.any_eq_true, List.mem_map]
    constructor
    · rintro ⟨p, hp, h⟩; exact ⟨p, hp, of_decide_eq_true h⟩
    · rintro ⟨p, hp, h⟩; exact ⟨p, hp, decide_eq_true h⟩
  unfold dputT
  by_cases c : (kvs.any fun kv => decide (kv.1 = k)) = true
  · refine .inl ⟨e.mp c, ?_⟩
    rw [if_pos c, List.map_map]
    apply List.map_congr_left
    intro p _
    show (if p.1 = k then (p.1, v) else p).1 = p.1
    split <;> rfl
  · refine .inr ⟨fun h => c (e.mpr h), ?_⟩
    rw [if_neg c, List.map_append]
    rfl
theorem dput_nd {kvs : List (Key × T)} {k : Key} {v : T} (h : (kvs.map (·.1)).Nodup) : ((dputT kvs k v).map (·.1)).Nodup := by
  rcases dput_keys kvs k v with ⟨_, e⟩ | ⟨c, e⟩
  · rw [e]; exact h
  · rw [e, List.nodup_append]
    refine ⟨h, by simp, fun a ha b hb => ?_⟩
    have : b = k := by simpa using hb
    rw [this]
    intro e
    exact c (e ▸ ha)
/-- a name put into a growing record -/
theorem own_put {kvs : List (Key × T)} {x : Str} {v : T} {l : Loc} {s : Sh} {i : Nat} {nx bk ct : Loc → Sh → Prop} {rt : T → Sh → Prop} (e : l.at i = .own (.dct kvs)) (h : kvs.length < sizeLine) (q : nx (l.set i (.own (.dct (dputT kvs (.inr x) v)))) s) : wpF (sPutK i v (.str x) l s) nx rt bk ct := by
  unfold sPutK
  rw [e]
  have : putOwn (.dct kvs) (.str x) v = some (.dct (dputT kvs (.inr x) v)) := by
    show (if kvs.length < sizeLine then some _ else none) = _
    rw [if_pos h]
  simp only [this]
  exact q
/-! ### _law_value, _law_record -/
def ValueOk (n : Nat) (φ : Fn) : Prop := ∀ (rest s : Sh) (b : Nat) (R : T → Sh → Prop), Dr rest s → b < n → (∀ t s, Dr rest s → JV b t → R t s) → wpR (φ [.cel 0, .int b] s) R
def RecordOk (n : Nat) (φ : Fn) : Prop := ∀ (rest s : Sh) (b wide : Nat) (R : T → Sh → Prop), Dr rest s → b < n → wide ≤ 60 → (∀ kvs s, Dr rest s → JV (b + 1) (.dct kvs) → kvs.length ≤ wide → R (.dct kvs) s) → wpR (φ [.cel 0, .int b, .int wide] s) R
theorem value0 (φ : Fn) : ValueOk 0 φ := fun _ _ _ _ _ h _ => absurd h (Nat.not_lt_zero _)
theorem record0 (φ : Fn) : RecordOk 0 φ := fun _ _ _ _ _ _ h _ _ => absurd h (Nat.not_lt_zero _)
theorem value_step {n : Nat} {φ ψ χ ρ : Fn} (h : PullOk φ) (hp : PlainOk ρ) (hv : ValueOk n ψ) (hr : RecordOk n χ) : ValueOk (n + 1) (runB0 false 4 (b__law_value φ ψ χ ρ)) := by
  intro rest s b R d hb q
  simp [b__law_value, st2, List.replicate]
  refine h rest s 7 _ d (by decide) (by decide) fun r s1 d1 r0 r1 => ?_
  simp
  have pl : wpR (ρ [.cel 0] s1) R := hp rest s1 R d1 fun t s2 d2 ht => q t s2 d2 ((jv_plain ht).mono (Nat.zero_le _))
  by_cases hz : b = 0
  · rw [if_pos hz]; exact pl
  · rw [if_neg hz]
    by_cases h4 : r < 4
    · rw [if_pos h4]; exact pl
    · rw [if_neg h4]
      have eb : (b : Int) - 1 = ((b - 1 : Nat) : Int) := by omega
      by_cases h5 : r = 4
      · rw [if_pos h5]
        rw [eb]
        exact hr rest s1 (b - 1) 3 R d1 (by omega) (by decide) fun kvs s2 d2 hk _ => q _ s2 d2 (hk.mono (by omega))
      · rw [if_neg h5]
        simp [noOwn, wipeL]
        refine h rest s1 4 _ d1 (by decide) (by decide) fun k s2 d2 k0 k1 => ?_
        simp [rg1_int k0 (show k ≤ 100000 by omega)]
        refine comp_inv (P := JV (b - 1)) (J := Dr rest) (fun x hx s3 d3 => ⟨_, rfl, ?_⟩) d2 fun ys s3 hl hy d3 => ?_
        · simp
          rw [eb]
          exact hv rest s3 (b - 1) _ d3 (by omega) fun t s4 d4 ht => ⟨ht, d4⟩
        · have hl' : ys.length ≤ 100000 := by
            rw [hl]
            simp [rangeT]
            omega
          exact ⟨len_size hl', q _ s3 d3 ((jv_lst hl' hy).mono (by omega))⟩
def RecJ (rest : Sh) (b wide : Nat) (items : List T) (l : Loc) (s : Sh) : Prop := Dr rest s ∧ ∃ kvs y, l = [.t (.cel 0), .t (.int b), .t (.int wide), .own (.dct kvs), y] ∧ JV (b + 1) (.dct kvs) ∧ kvs.length + items.length ≤ wide
theorem record_step {n : Nat} {φ ψ χ : Fn} (h : PullOk φ) (hn : NameOk χ) (hv : ValueOk (n + 1) ψ) : RecordOk (n + 1) (runB0 false 5 (b__law_record φ χ ψ)) := by
  intro rest s b wide R d hb hw q
  simp [b__law_record, st3, List.replicate]
  refine h rest s _ _ d (by omega) (by omega) fun k s1 d1 k0 k1 => ?_
  simp [rg1_int k0 (show k ≤ 100000 by omega)]
  refine for_inv (J := RecJ rest b wide) ?_ ?_ ?_
  · rintro l s2 ⟨d2, kvs, y, rfl, hj, hl⟩
    exact ⟨_, rfl, q kvs s2 d2 hj (by simpa using hl)⟩
  · rintro x items l s2 ⟨d2, kvs, y, rfl, hj, hl⟩
    refine ⟨_, rfl, ?_⟩
    simp
    refine hv rest s2 b _ d2 hb fun t s3 d3 ht => ?_
    refine ⟨rfl, ?_⟩
    refine hn rest s3 _ d3 fun z s4 d4 hz => ?_
    rw [List.length_cons] at hl
    refine own_put rfl (Nat.lt_of_lt_of_le (show kvs.length < 64 by omega) (by decide)) ⟨d4, _, _, rfl, ?_, ?_⟩
    · refine jv_dct ?_ (dput_nd hj.dv.2.1) fun p hp => ?_
      · have := dputT_length kvs (Sum.inr z) t; omega
      · rcases dput_mem hp with hp | rfl
        · exact hj.dct p hp
        · exact ⟨⟨z, rfl, Nat.le_trans hz.2.1 (by decide)⟩, ht⟩
    · have := dputT_length kvs (Sum.inr z) t; omega
  · refine ⟨d1, [], .no, rfl, jv_dct (by decide) (by simp) fun p hp => (by cases hp), ?_⟩
    simp [rangeT]
    omega
end TL
/-! plain Lean over the T-layer, 6: kinds of values, depth, size -/
namespace TL
open PySem PySem.Spec L2
/-! ### names and texts -/
def nB (x : Str) : Bool := decide (1 ≤ x.length) && (decide (x.length ≤ 8) && x.cps.toList.all fun c => decide (c ∈ ("abcdefghijklmnopqrstuvwxyz" : Str).cps.toList))
def sB (x : Str) : Bool := decide (x.length ≤ 12) && x.cps.toList.all fun c => decide (c ∈ ("abcdefghijklmnopqrstuvwxyz0123456789 " : Str).cps.toList)
section
variable {R : T → Sh → Prop} {s : Sh}
@[simp] theorem in_sign (c : Nat) (y : Str) : opIn (.str ⟨#[c]⟩) (.str y) s = .ok (.bl (decide (c ∈ y.cps.toList))) s := by
  show Res.ok (T.bl (false ^^ inStr ⟨#[c]⟩ y)) s = _
  rw [Bool.false_xor]
  rfl
end
/-! ### is_name, is_plain and the law's own -/
/-- is_plain -/
def plB : T → Bool
  | .str x => sB x
  | .lst _ => false
  | .dct _ => false
  | _ => true
end TL
/-! plain Lean over the T-layer, 7: is_value, depth, size -/
namespace TL
open PySem PySem.Spec L2
def keyB : Key → Bool
  | .inr x => nB x
  | .inl _ => false
mutual
def vok : T → Bool
  | .str x => sB x
  | .lst xs => voks xs
  | .dct kvs => vokd kvs
  | _ => true
def voks : List T → Bool
  | [] => true
  | x :: xs => vok x && voks xs
def vokd : List (Key × T) → Bool
  | [] => true
  | (k, x) :: r => (keyB k && vok x) && vokd r
end
theorem voks_all : ∀ xs : List T, voks xs = xs.all vok
  | [] => rfl
  | x :: xs => by
    show (vok x && voks xs) = _
    rw [voks_all xs, List.all_cons]
theorem vokd_all : ∀ xs : List (Key × T), vokd xs = xs.all fun p => keyB p.1 && vok p.2
  | [] => rfl
  | (k, x) :: xs => by
    show ((keyB k && vok x) && vokd xs) = _
    rw [vokd_all xs, List.all_cons]
theorem nb_lst {xs : List T} (h : nb (.lst xs) = true) : nbs xs = true := h
theorem nb_dct {xs : List (Key × T)} (h : nb (.dct xs) = true) : nbd xs = true := h
/-! ### the law's own word of it -/
/-! ### what is within, depth, size -/
mutual
def szT : T → Nat
  | .lst xs => szs xs
  | .dct kvs => szd kvs
  | _ => 0
def szs : List T → Nat
  | [] => 0
  | x :: xs => (1 + szT x) + szs xs
def szd : List (Key × T) → Nat
  | [] => 0
  | (_, x) :: xs => (1 + szT x) + szd xs
end
mutual
def dpT : T → Nat
  | .lst xs => dps xs
  | .dct kvs => dpd kvs
  | _ => 0
def dps : List T → Nat
  | [] => 0
  | x :: xs => max (1 + dpT x) (dps xs)
def dpd : List (Key × T) → Nat
  | [] => 0
  | (_, x) :: xs => max (1 + dpT x) (dpd xs)
end
end TL
/-! plain Lean over the T-layer, 8: extent, documents, spoilt values, chains -/
namespace TL
open PySem PySem.Spec L2
theorem comp_mapT {tt : Tgt} {elt : Ev} {l : Loc} {s : Sh} {α : Type} {g : α → T} {f : α → T} {Q : List T → Sh → Prop} : ∀ {items : List α}, (∀ x ∈ items, ∃ l1, setT tt (g x) l = some l1 ∧ ∀ R : T → Sh → Prop, R (f x) s → wpR (elt l1 s) R) → Q (items.map f) s → wpR (compL tt cYes elt (items.map g) l s) Q
  | [], _, q => q
  | x :: items, h, q => by
    rw [List.map_cons]
    unfold compL
    obtain ⟨l1, e, hx⟩ := h x (by simp)
    rw [e]
    simp only [wpR_bind, wp_cYes, if_true]
    refine hx _ ?_
    exact comp_mapT (Q := fun ys s => Q (f x :: ys) s) (fun y hy => h y (by simp [hy])) q
def ext (t : T) : T := .tup [.int (szT t), .int (dpT t)]
/-! ### is_document -/
/-! ### _law_spoilt_value -/
theorem sort_mem {ks : List Str} {x : Str} (h : x ∈ sortS ks) : x ∈ ks := (List.mergeSort_perm ks lebS).mem_iff.mp h
theorem sort_len (ks : List Str) : (sortS ks).length = ks.length := (List.mergeSort_perm ks lebS).length_eq
theorem keyStrs_mem {kvs : List (Key × T)} {ks : List Str} (h : keyStrs kvs = some ks) {x : Str} (hx : x ∈ ks) : ∃ p ∈ kvs, p.1 = Sum.inr x := by
  have : Sum.inr x ∈ kvs.map (·.1) := by rw [keyStrs_map h]; exact List.mem_map.mpr ⟨x, hx, rfl⟩
  obtain ⟨p, hp, e⟩ := List.mem_map.mp this
  exact ⟨p, hp, e⟩
end TL
/-! plain Lean over the T-layer, 9: chains; the law k01 -/
namespace TL
open PySem PySem.Spec L2
/-! ### steps of a law -/
/-! ### the law -/
end TL
/-! plain Lean over the T-layer, 10: ranks of values -/
namespace TL
open PySem PySem.Spec PySem.SeqAt L2
/-! ### data that can be compared -/
def CmpD (P : PyData → Prop) : Prop := ∀ x y, P x → P y → ∃ k, ordD x y = some k
theorem cmp_seq {P : PyData → Prop} (h : CmpD P) : ∀ xs ys : List PyData, (∀ x ∈ xs, P x) → (∀ y ∈ ys, P y) → ∃ k, ordDs xs ys = some k
  | [], [], _, _ => ⟨false, by simp [ordDs]⟩
  | [], _ :: _, _, _ => ⟨true, by simp [ordDs]⟩
  | _ :: _, [], _, _ => ⟨false, by simp [ordDs]⟩
  | x :: xs, y :: ys, hx, hy => by
    by_cases e : PyData.eqv x y = true
    · obtain ⟨k, hk⟩ := cmp_seq h xs ys (fun z hz => hx z (by simp [hz])) (fun z hz => hy z (by simp [hz]))
      exact ⟨k, by simp [ordDs, e, hk]⟩
    · obtain ⟨k, hk⟩ := h x y (hx x (by simp)) (hy y (by simp))
      exact ⟨k, by simp [ordDs, e, hk]⟩
theorem pair_ord {a b c d : PyData} (h1 : PyData.eqv a c = false → ∃ k, ordD a c = some k) (h2 : PyData.eqv a c = true → ∃ k, ordD b d = some k) : ∃ k, ordD (.tuple [a, b]) (.tuple [c, d]) = some k := by
  cases e : PyData.eqv a c with
  | false =>
    obtain ⟨k, hk⟩ := h1 e
    exact ⟨k, by simp [ordD, ordDs, e, hk]⟩
  | true =>
    obtain ⟨k, hk⟩ := h2 e
    by_cases e2 : PyData.eqv b d = true
    · exact ⟨false, by simp [ordD, ordDs, e, e2]⟩
    · exact ⟨k, by simp [ordD, ordDs, e, e2, hk]⟩
theorem eqv_int {i j : Int} (h : PyData.eqv (.int i) (.int j) = true) : i = j := by simpa [PyData.eqv] using h
/-- what ranks are -/
def RkP : Nat → PyData → Prop
  | 0, _ => False
  | n + 1, d => (∃ i j : Int, d = .tuple [.int i, .int j] ∧ i < 2) ∨ (∃ z, d = .tuple [.int 2, .str z]) ∨ (∃ xs, d = .tuple [.int 3, .tuple xs] ∧ ∀ x ∈ xs, RkP n x) ∨ ∃ rs, d = .tuple [.int 4, .tuple rs] ∧ ∀ r ∈ rs, ∃ z x, r = .tuple [.str z, x] ∧ RkP n x
theorem cmp_int (i j : Int) : ∃ k, ordD (.int i) (.int j) = some k := ⟨_, rfl⟩
theorem cmp_str (i j : Str) : ∃ k, ordD (.str i) (.str j) = some k := ⟨_, rfl⟩
theorem cmp_rk : ∀ n, CmpD (RkP n)
  | 0 => fun _ _ h _ => h.elim
  | n + 1 => by
    have ih := cmp_rk n
    have rows : CmpD fun r => ∃ z x, r = .tuple [.str z, x] ∧ RkP n x := by
      rintro _ _ ⟨z, x, rfl, hx⟩ ⟨w, y, rfl, hy⟩
      exact pair_ord (fun _ => cmp_str _ _) fun _ => ih _ _ hx hy
    rintro _ _ (⟨i, j, rfl, hi⟩ | ⟨z, rfl⟩ | ⟨xs, rfl, hxs⟩ | ⟨rs, rfl, hrs⟩) (⟨i', j', rfl, hi'⟩ | ⟨z', rfl⟩ | ⟨xs', rfl, hxs'⟩ | ⟨rs', rfl, hrs'⟩)
    all_goals refine pair_ord (fun _ => cmp_int _ _) fun e => ?_
    · exact cmp_int _ _
    · have := eqv_int e; omega
    · have := eqv_int e; omega
    · have := eqv_int e; omega
    · have := eqv_int e; omega
    · exact cmp_str _ _
    · have := eqv_int e; omega
    · have := eqv_int e; omega
    · have := eqv_int e; omega
    · have := eqv_int e; omega
    · obtain ⟨k, hk⟩ := cmp_seq ih xs xs' hxs hxs'
      exact ⟨k, by simpa [ordD] using hk⟩
    · have := eqv_int e; omega
    · have := eqv_int e; omega
    · have := eqv_int e; omega
    · have := eqv_int e; omega
    · obtain ⟨k, hk⟩ := cmp_seq rows rs rs' hrs hrs'
      exact ⟨k, by simpa [ordD] using hk⟩
/-! ### the rank of a value -/
def namesT {α : Type} : List (Key × α) → List Str
  | [] => []
  | (.inr x, _) :: r => x :: namesT r
  | (.inl _, _) :: r => namesT r
def rowsT (kvs : List (Key × T)) : List T := (sortS (namesT kvs)).map fun z => .tup [.str z, (dgetT kvs (.inr z)).getD .non]
mutual
def rkT : T → T
  | .non => .tup [.int 0, .int 0]
  | .int i => .tup [.int 1, .int i]
  | .str x => .tup [.int 2, .str x]
  | .lst xs => .tup [.int 3, .tup (rks xs)]
  | .dct kvs => .tup [.int 4, .tup (rowsT (rkd kvs))]
  | _ => .non
def rks : List T → List T
  | [] => []
  | x :: xs => rkT x :: rks xs
def rkd : List (Key × T) → List (Key × T)
  | [] => []
  | (k, x) :: r => (k, rkT x) :: rkd r
end
theorem rks_map : ∀ xs : List T, rks xs = xs.map rkT
  | [] => rfl
  | x :: xs => by rw [rks, rks_map xs, List.map_cons]
theorem names_is : ∀ {kvs : List (Key × T)} {ks : List Str}, keyStrs kvs = some ks → namesT kvs = ks
  | [], ks, h => by cases h; rfl
  | (.inr z, x) :: r, ks, h => by
    unfold keyStrs at h
    cases e : keyStrs r with
    | none => simp [e] at h
    | some ys =>
      have : some (z :: ys) = some ks := by simpa [e] using h
      cases this
      unfold namesT
      rw [names_is e]
  | (.inl z, x) :: r, ks, h => by simp [keyStrs] at h
theorem names_rkd : ∀ kvs : List (Key × T), namesT (rkd kvs) = namesT kvs
  | [] => rfl
  | (.inr z, x) :: r => by rw [rkd, namesT, namesT, names_rkd r]
  | (.inl z, x) :: r => by rw [rkd, namesT, namesT, names_rkd r]
theorem rkd_get (k : Key) : ∀ kvs : List (Key × T), dgetT (rkd kvs) k = (dgetT kvs k).map rkT
  | [] => rfl
  | (j, x) :: r => by
    rw [rkd]
    by_cases e : j = k
    · simp [dgetT, e]
    · have h1 : dgetT ((j, rkT x) :: rkd r) k = dgetT (rkd r) k := by simp [dgetT, e]
      have h2 : dgetT ((j, x) :: r) k = dgetT r k := by simp [dgetT, e]
      rw [h1, h2, rkd_get k r]
theorem dget_name {kvs : List (Key × T)} (d2 : (kvs.map (·.1)).Nodup) (d3 : DVd kvs) {z : Str} (h : z ∈ namesT kvs) : ∃ p ∈ kvs, p.1 = Sum.inr z ∧ dgetT kvs (.inr z) = some p.2 := by
  obtain ⟨ks, ek⟩ := keyStrs_of d3
  rw [names_is ek] at h
  obtain ⟨p, hp, e⟩ := keyStrs_mem ek h
  refine ⟨p, hp, e, ?_⟩
  rw [← e]
  exact dget_mem d2 hp
theorem rows_mem {kvs : List (Key × T)} (d2 : (kvs.map (·.1)).Nodup) (d3 : DVd kvs) {r : T} (h : r ∈ rowsT (rkd kvs)) : ∃ p ∈ kvs, ∃ z, p.1 = Sum.inr z ∧ r = .tup [.str z, rkT p.2] := by
  unfold rowsT at h
  obtain ⟨z, hz, rfl⟩ := List.mem_map.mp h
  rw [names_rkd] at hz
  obtain ⟨p, hp, e, g⟩ := dget_name d2 d3 (sort_mem hz)
  exact ⟨p, hp, z, e, by rw [rkd_get, g]; rfl⟩
theorem toDs_map : ∀ xs : List T, toDs xs = xs.map toD
  | [] => rfl
  | x :: xs => by rw [toDs, toDs_map xs, List.map_cons]
theorem flatTs_of : ∀ {xs : List T}, (∀ x ∈ xs, flatT x = true) → flatTs xs = true
  | [], _ => rfl
  | x :: xs, h => by
    rw [flatTs, h x (by simp), flatTs_of fun y hy => h y (by simp [hy])]
    rfl
theorem depthAll_le : ∀ {xs : List PyData} {n : Nat}, (∀ x ∈ xs, x.depth ≤ n) → PyData.depthAll xs ≤ n
  | [], _, _ => Nat.zero_le _
  | x :: xs, n, h => by
    rw [PyData.depthAll]
    exact Nat.max_le.mpr ⟨h x (by simp), depthAll_le fun y hy => h y (by simp [hy])⟩
theorem depth_pair (a b : PyData) : (PyData.tuple [a, b]).depth = max a.depth b.depth + 1 := by
  simp [PyData.depth, PyData.depthAll]
theorem rk_all : ∀ (n : Nat) (t : T), DV t → nb t = true → dep t < n → RkP n (toD (rkT t)) ∧ flatT (rkT t) = true ∧ (toD (rkT t)).depth ≤ 3 * n
  | 0, _, _, _, h => absurd h (Nat.not_lt_zero _)
  | n + 1, t, d, hb, h => by
    have ih := rk_all n
    cases t with
    | non => exact ⟨.inl ⟨0, 0, rfl, by decide⟩, rfl, by simp [rkT, toD, toDs, depth_pair, PyData.depth]; omega⟩
    | int i => exact ⟨.inl ⟨1, i, rfl, by decide⟩, rfl, by simp [rkT, toD, toDs, depth_pair, PyData.depth]; omega⟩
    | str x => exact ⟨.inr (.inl ⟨x, rfl⟩), rfl, by simp [rkT, toD, toDs, depth_pair, PyData.depth]; omega⟩
    | lst xs =>
      have hx : ∀ x ∈ xs, RkP n (toD (rkT x)) ∧ flatT (rkT x) = true ∧ (toD (rkT x)).depth ≤ 3 * n := fun x hx => ih x (d.2.mem x hx) (nbs_mem (nb_lst hb) x hx) (by have := deps_mem hx; unfold dep at h; omega)
      rw [rkT, rks_map]
      refine ⟨.inr (.inr (.inl ⟨(xs.map rkT).map toD, by rw [toD, toDs, toDs, toDs, toD, toD, toDs_map], fun y hy => ?_⟩)), ?_, ?_⟩
      · rw [List.map_map] at hy
        obtain ⟨x, hm, rfl⟩ := List.mem_map.mp hy
        exact (hx x hm).1
      · have : flatTs (xs.map rkT) = true := flatTs_of fun y hy => by
          obtain ⟨x, hm, rfl⟩ := List.mem_map.mp hy
          exact (hx x hm).2.1
        rw [flatT, flatTs, flatTs, flatTs, flatT, flatT, this]
        rfl
      · rw [toD, toDs, toDs, toDs, toD, toD, depth_pair, toDs_map]
        have : PyData.depthAll ((xs.map rkT).map toD) ≤ 3 * n := depthAll_le fun y hy => by
          rw [List.map_map] at hy
          obtain ⟨x, hm, rfl⟩ := List.mem_map.mp hy
          exact (hx x hm).2.2
        simp only [PyData.depth]
        omega
    | dct kvs =>
      obtain ⟨d1, d2, d3⟩ := d
      have hx : ∀ p ∈ kvs, RkP n (toD (rkT p.2)) ∧ flatT (rkT p.2) = true ∧ (toD (rkT p.2)).depth ≤ 3 * n := fun p hp => ih p.2 (d3.mem p hp).2 (nbd_mem (nb_dct hb) p hp) (by have := depd_mem hp; unfold dep at h; omega)
      rw [rkT]
      refine ⟨.inr (.inr (.inr ⟨(rowsT (rkd kvs)).map toD, by rw [toD, toDs, toDs, toDs, toD, toD, toDs_map], fun y hy => ?_⟩)), ?_, ?_⟩
      · obtain ⟨r, hr, rfl⟩ := List.mem_map.mp hy
        obtain ⟨p, hp, z, _, rfl⟩ := rows_mem d2 d3 hr
        exact ⟨z, toD (rkT p.2), by rw [toD, toDs, toDs, toDs, toD], (hx p hp).1⟩
      · have : flatTs (rowsT (rkd kvs)) = true := flatTs_of fun y hy => by
          obtain ⟨p, hp, z, _, rfl⟩ := rows_mem d2 d3 hy
          rw [flatT, flatTs, flatTs, flatTs, (hx p hp).2.1]
          rfl
        rw [flatT, flatTs, flatTs, flatTs, flatT, flatT, this]
        rfl
      · rw [toD, toDs, toDs, toDs, toD, toD, depth_pair, toDs_map]
        have : PyData.depthAll ((rowsT (rkd kvs)).map toD) ≤ 3 * n + 1 := depthAll_le fun y hy => by
          obtain ⟨r, hr, rfl⟩ := List.mem_map.mp hy
          obtain ⟨p, hp, z, _, rfl⟩ := rows_mem d2 d3 hr
          rw [toD, toDs, toDs, toDs, toD, depth_pair]
          have := (hx p hp).2.2
          simp only [PyData.depth]
          omega
        simp only [PyData.depth]
        omega
    | _ => cases hb
/-- one rank is below another -/
def rlt (a b : T) : Bool := W.dataLt (toD (rkT a)) (toD (rkT b))
/-- data none of which is below the other is the same to == -/
theorem eqv_of {x y : PyData} (h1 : ordD x y = some false) (h2 : ordD y x = some false) : PyData.eqv x y = true := by
  cases e : PyData.eqv x y with
  | true => rfl
  | false =>
    have q1 := (W.toksO x y false h1).1 e
    have q2 := (W.toksO y x false h2).1 (by rw [W.eqv_comm]; exact e)
    have a1 := q1 [] []
    have a2 := q2 [] []
    rw [List.append_nil, List.append_nil] at a1 a2
    have et := PyProof.Rows.lex_total (O := PyProof.Rows.itemOrd) _ _ a1 a2
    have a3 := q1 [.inl 0] [.inl 1]
    rw [et] at a3
    have a4 := (W.lex_pre (W.keyToks y) [.inl 0] [.inl 1]).symm.trans a3
    rw [W.lex_one] at a4
    exact absurd a4 (by decide)
end TL
/-! plain Lean over the T-layer, 11: what stands behind shared objects; ranks asked -/
namespace TL
open PySem PySem.Spec L2
/-! ### rank -/
section
variable {n : Nat} {φ : Fn} {s : Sh} {R : T → Sh → Prop}
theorem sortC_is {v : T} {ws : List (Key × T)} {ks : List Str} (hv : v = .dct ws ∨ ∃ k : Nat, v = .cel k ∧ s[k]? = some (.dct ws)) (e : keyStrs ws = some ks) (hl : ks.length < 64) : biSortC [v] s = .ok (.lst ((sortS ks).map T.str)) s := by
  rcases hv with rfl | ⟨k, rfl, hs⟩
  · unfold biSortC biSort
    simp only [e]
    rw [if_pos hl]
  · unfold biSortC
    simp only [hs, e]
    rw [if_pos hl]
theorem ix_name {v : T} {ws : List (Key × T)} {z : Str} {y : T} (hv : v = .dct ws ∨ ∃ k : Nat, v = .cel k ∧ s[k]? = some (.dct ws)) (e : dgetT ws (.inr z) = some y) : opIx v (.str z) s = .ok y s := by
  rcases hv with rfl | ⟨k, rfl, hs⟩
  · unfold opIx
    simp only [keyOf, e]
  · unfold opIx
    simp only [hs, keyOf, e]
@[simp] theorem tup_lst (xs : List T) : biTuple [.lst xs] s = .ok (.tup xs) s := rfl
end
end TL
/-! plain Lean over the T-layer, 12: shared copies, each with its own objects; wrecked ones -/
namespace TL
open PySem PySem.Spec L2
/-! ### copied -/
/-- the state grew, what stood stands -/
structure Gr (s s' : Sh) : Prop where
  le : s.length ≤ s'.length
  eq : ∀ j, j < s.length → s'[j]? = s[j]?
theorem Gr.refl (s : Sh) : Gr s s := ⟨Nat.le_refl _, fun _ _ => rfl⟩
theorem Gr.trans {a b c : Sh} (h : Gr a b) (k : Gr b c) : Gr a c := ⟨Nat.le_trans h.le k.le, fun j hj => (k.eq j (Nat.lt_of_lt_of_le hj h.le)).trans (h.eq j hj)⟩
theorem Gr.snoc (s : Sh) (o : SO) : Gr s (s ++ [o]) := ⟨by simp, fun j hj => List.getElem?_append_left hj⟩
theorem Dr.gr {rest s s' : Sh} (h : Dr rest s) (g : Gr s s') : ∃ rest', Dr rest' s' := by
  obtain ⟨ns, a, c, d, rfl, h1, h2, h3, h4⟩ := h
  have e := g.eq 0 (by simp)
  cases s' with
  | nil => simp at e
  | cons x r =>
    have : x = dr ns a c d := by simpa using e
    subst this
    exact ⟨r, ns, a, c, d, rfl, h1, h2, h3, h4⟩
section
variable {n : Nat} {φ : Fn}
@[simp] theorem wp_share_dct {R : T → Sh → Prop} {s : Sh} (xs : List (Key × T)) : wpR (shareT (.dct xs) s) R = R (.cel s.length) (s ++ [.dct xs]) := rfl
@[simp] theorem wp_eDComp {R : T → Sh → Prop} {l : Loc} {s : Sh} (vs : List Nat) (it : EvL) (tt : Tgt) (c : Et) (ek ev : Ev) : wpR (eDComp vs it tt c ek ev l s) R = (noOwn l vs = true ∧ wpR (it l s) fun items s => wpR (dcompL tt c ek ev items (wipeL l vs) s []) fun ys s => R (.dct ys) s) := by
  unfold eDComp
  split
  · rename_i h
    simp [h, wp_noexc]
  · rename_i h; simp [h]
end
end TL
/-! plain Lean over the T-layer, 13: _law_wreck -/
namespace TL
open PySem PySem.Spec L2
/-- only objects from lo to hi changed -/
structure Ch (lo hi : Nat) (s s' : Sh) : Prop where
  len : s'.length = s.length
  eq : ∀ j, j < lo ∨ hi ≤ j → s'[j]? = s[j]?
theorem Ch.refl (lo hi : Nat) (s : Sh) : Ch lo hi s s := ⟨rfl, fun _ _ => rfl⟩
theorem Ch.trans {lo hi : Nat} {a b c : Sh} (h : Ch lo hi a b) (k : Ch lo hi b c) : Ch lo hi a c := ⟨k.len.trans h.len, fun j hj => (k.eq j hj).trans (h.eq j hj)⟩
theorem Ch.mono {lo hi lo' hi' : Nat} {a b : Sh} (h : Ch lo hi a b) (h1 : lo' ≤ lo) (h2 : hi ≤ hi') : Ch lo' hi' a b := ⟨h.len, fun j hj => h.eq j (by omega)⟩
theorem Ch.set {lo hi k : Nat} {s : Sh} {o : SO} (h1 : lo ≤ k) (h2 : k < hi) : Ch lo hi s (s.set k o) := ⟨List.length_set, fun j hj => List.getElem?_set_ne (by omega)⟩
theorem Dr.ch {rest s s' : Sh} {lo hi : Nat} (h : Dr rest s) (c : Ch lo hi s s') (h0 : 0 < lo) : ∃ rest', Dr rest' s' := by
  obtain ⟨ns, a, p, d, rfl, h1, h2, h3, h4⟩ := h
  have e := c.eq 0 (.inl h0)
  cases s' with
  | nil => simp at e
  | cons x r =>
    have : x = dr ns a p d := by simpa using e
    subst this
    exact ⟨r, ns, a, p, d, rfl, h1, h2, h3, h4⟩
section
variable {n : Nat} {φ : Fn} {nx bk ct : Loc → Sh → Prop} {rt : T → Sh → Prop}
theorem wp_forC_cel {l : Loc} {s : Sh} {i : Nat} {tt : Tgt} {b : Sv} {k : Nat} {xs : List T} (e : l.at i = .t (.cel k)) (hs : s[k]? = some (.lst xs)) : sForC i tt b l s = forC tt b k xs xs l s := by
  unfold sForC
  rw [e]
  simp only [hs]
theorem mth_cel {l : Loc} {s : Sh} {i k : Nat} {f : Mth} {ts xs : List T} {t' : T} (e : l.at i = .t (.cel k)) (hs : s[k]? = some (.lst xs)) (hf : f xs ts = some t') (q : nx l (s.set k (tSo t'))) : wpF (sMthK i f ts l s) nx rt bk ct := by
  unfold sMthK
  rw [e]
  simp only [hs, hf]
  exact q
theorem slotLst_cel {l : Loc} {s : Sh} {i k : Nat} {xs : List T} (e : l.at i = .t (.cel k)) (hs : s[k]? = some (.lst xs)) : slotLst l s i = true := by
  unfold slotLst
  rw [e]
  simp only [hs]
theorem put_cel {l : Loc} {s : Sh} {i k : Nat} {x : Str} {v : T} {ws : List (Key × T)} (e : l.at i = .t (.cel k)) (hs : s[k]? = some (.dct ws)) (h : ws.length < sizeLine) (q : nx l (s.set k (.dct (dputT ws (.inr x) v)))) : wpF (sPutK i v (.str x) l s) nx rt bk ct := by
  unfold sPutK
  rw [e]
  simp only [hs, soT, putOwn, keyOf, if_pos h]
  exact q
end
end TL
/-! plain Lean over the T-layer, 14: order, least, greatest, sorted ranks, near values -/
namespace TL
open PySem PySem.Spec PySem.SeqAt L2
theorem res_eq {α : Type} {r : Res α} {k : α} {s : Sh} (h : wpR r fun a s' => a = k ∧ s' = s) : r = .ok k s := by
  cases r with
  | ok a s' => rw [h.1, h.2]
  | exc _ _ => exact h.elim
  | bad => exact h.elim
mutual
theorem nocel : ∀ t : T, DV t → noCel t = true
  | .non, _ => rfl
  | .bl _, _ => rfl
  | .int _, _ => rfl
  | .str _, _ => rfl
  | .lst xs, h => by rw [noCel]; exact nocels xs h.2
  | .tup xs, h => by rw [noCel]; exact nocels xs h.2
  | .dct xs, h => by rw [noCel]; exact noceld xs h.2.2
  | .cel _, h => h.elim
  | .glo _, h => h.elim
  | .ty _, h => h.elim
  | .scr _, h => h.elim
  | .obj _ _, h => h.elim
theorem nocels : ∀ ts : List T, DVs ts → noCels ts = true
  | [], _ => rfl
  | x :: xs, h => by
    rw [noCels, nocel x h.1, nocels xs h.2]
    rfl
theorem noceld : ∀ ts : List (Key × T), DVd ts → noCelD ts = true
  | [], _ => rfl
  | (k, x) :: xs, h => by
    rw [noCelD, nocel x h.2.1, noceld xs h.2.2]
    rfl
end
/-! ### the order of ranks -/
@[simp] theorem p_intB (k : Bool) (s : Sh) : biInt [.bl k] s = .ok (.int (if k then 1 else 0)) s := rfl
/-! ### min, max by rank -/
/-! ### sorted ranks -/
end TL
/-! plain Lean over the T-layer, 15: values whose first list is short; near values -/
namespace TL
open PySem PySem.Spec L2
/-- a list is of m items at most -/
def Tl (m : Nat) (t : T) : Prop := ∀ xs, t = .lst xs → xs.length ≤ m
theorem Tl.mono {m k : Nat} {t : T} (h : Tl m t) (l : m ≤ k) : Tl k t := fun xs e => Nat.le_trans (h xs e) l
end TL
/-! plain Lean over the T-layer, 16: the law k02 -/
namespace TL
open PySem PySem.Spec L2
section
variable {R : T → Sh → Prop} {s : Sh} {l : Loc} {nx bk ct : Loc → Sh → Prop} {rt : T → Sh → Prop}
@[simp] theorem neI (i j : Int) : opNe (.int i) (.int j) s = .ok (.bl (!decide (i = j))) s := by
  have e : eqOk (.int i) (.int j) = true := by simp [eqOk, plainT, toD, PyData.depth]
  have h : opNe (.int i) (.int j) s = if eqOk (.int i) (.int j) then Res.ok (T.bl (true ^^ eqT (.int i) (.int j))) s else Res.bad := rfl
  rw [h, if_pos e, Bool.true_xor]
  unfold eqT
  have : PyData.eqv (toD (.int i)) (toD (.int j)) = decide (i = j) := by
    show (i == j) = decide (i = j)
    rw [Bool.eq_iff_iff]
    simp
  rw [this]
end
end TL
/-! plain Lean over the T-layer, 17: the law k02 -/
namespace TL
open PySem PySem.Spec L2
end TL
/-! plain Lean over the T-layer: what a result must fulfil, exceptions told too (printed by wip/mkpx.py out of P0) -/
namespace TL
open PySem PySem.Spec L2
def wpX {α : Type} (E : Ex → Sh → Prop) (r : Res α) (Q : α → Sh → Prop) : Prop := match r with
  | .ok a s => Q a s
  | .exc e s => E e s
  | .bad => False
def wpG (E : Ex → Sh → Prop) (r : Fl) (nx : Loc → Sh → Prop) (rt : T → Sh → Prop) (bk ct : Loc → Sh → Prop) : Prop := match r with
  | .nx l s => nx l s
  | .rt t s => rt t s
  | .bk l s => bk l s
  | .ct l s => ct l s
  | .exc e l s => E e s
  | .bad => False
theorem wpX.imp {α : Type} {E E' : Ex → Sh → Prop} {r : Res α} {Q Q' : α → Sh → Prop} (h : wpX E r Q) (i : ∀ a s, Q a s → Q' a s) (j : ∀ e s, E e s → E' e s) : wpX E' r Q' := by
  cases r with
  | ok a s => exact i a s h
  | exc e s => exact j e s h
  | bad => exact h
section
variable {α β : Type} {E : Ex → Sh → Prop} {Q : α → Sh → Prop} {R : T → Sh → Prop} {B : Bool → Sh → Prop} {nx bk ct : Loc → Sh → Prop} {rt : T → Sh → Prop} {l : Loc} {s : Sh}
@[simp] theorem wxR_ok (a : α) (s : Sh) : wpX E (.ok a s) Q = Q a s := rfl
@[simp] theorem wxR_bad : wpX E (.bad : Res α) Q = False := rfl
@[simp] theorem wxR_bind (r : Res β) (k : β → Sh → Res α) : wpX E (r.bind k) Q = wpX E r fun a s => wpX E (k a s) Q := by
  cases r <;> rfl
@[simp] theorem wxR_ite {c : Prop} [Decidable c] (a b : Res α) : wpX E (if c then a else b) Q = if c then wpX E a Q else wpX E b Q := by split <;> rfl
@[simp] theorem wxF_ite {c : Prop} [Decidable c] (a b : Fl) : wpG E (if c then a else b) nx rt bk ct = if c then wpG E a nx rt bk ct else wpG E b nx rt bk ct := by split <;> rfl
@[simp] theorem wxF_nx : wpG E (.nx l s) nx rt bk ct = nx l s := rfl
@[simp] theorem wxF_rt (t : T) : wpG E (.rt t s) nx rt bk ct = rt t s := rfl
@[simp] theorem wxF_bk : wpG E (.bk l s) nx rt bk ct = bk l s := rfl
@[simp] theorem wxF_ct : wpG E (.ct l s) nx rt bk ct = ct l s := rfl
@[simp] theorem wxF_bad : wpG E .bad nx rt bk ct = False := rfl
@[simp] theorem wx_eVar (i : Nat) : wpX E (eVar i l s) R = vAt l i fun x => R x s := by
  unfold eVar vAt
  cases l.at i <;> rfl
@[simp] theorem wx_eC (t : T) : wpX E (eC t l s) R = R t s := rfl
@[simp] theorem wx_e1 (f : T → Sh → Res T) (a : Ev) : wpX E (e1 f a l s) R = wpX E (a l s) fun x s => wpX E (f x s) R := by simp [e1]
@[simp] theorem wx_e2 (f : T → T → Sh → Res T) (a b : Ev) : wpX E (e2 f a b l s) R = wpX E (a l s) fun x s => wpX E (b l s) fun y s => wpX E (f x y s) R := by simp [e2]
@[simp] theorem wx_eT (a : Ev) : wpX E (eT a l s) B = wpX E (a l s) fun x s => wpX E (truB x s) B := by simp [eT]
@[simp] theorem wx_eIf (c : Et) (a b : Ev) : wpX E (eIf c a b l s) R = wpX E (c l s) fun k s => if k = true then wpX E (a l s) R else wpX E (b l s) R := by simp [eIf]
@[simp] theorem wx_cAnd (a b : Et) : wpX E (cAnd a b l s) B = wpX E (a l s) fun k s => if k = true then wpX E (b l s) B else B false s := by simp [cAnd]
@[simp] theorem wx_cOr (a b : Et) : wpX E (cOr a b l s) B = wpX E (a l s) fun k s => if k = true then B true s else wpX E (b l s) B := by simp [cOr]
@[simp] theorem wx_cNot (a : Et) : wpX E (cNot a l s) B = wpX E (a l s) fun k s => B (!k) s := by simp [cNot]
@[simp] theorem wx_eAnd (a b : Ev) : wpX E (eAnd a b l s) R = wpX E (a l s) fun x s => onB x fun k => if k = true then wpX E (b l s) R else R (.bl false) s := by
  simp only [eAnd, wxR_bind]
  congr 1
  funext x s
  cases x with
  | bl k => cases k <;> rfl
  | _ => rfl
@[simp] theorem wx_eOr (a b : Ev) : wpX E (eOr a b l s) R = wpX E (a l s) fun x s => onB x fun k => if k = true then R (.bl true) s else wpX E (b l s) R := by
  simp only [eOr, wxR_bind]
  congr 1
  funext x s
  cases x with
  | bl k => cases k <;> rfl
  | _ => rfl
@[simp] theorem wx_eNot (a : Ev) : wpX E (eNot a l s) R = wpX E (a l s) fun x s => onB x fun k => R (.bl (!k)) s := by
  simp only [eNot, wxR_bind]
  congr 1
  funext x s
  cases x <;> rfl
@[simp] theorem wx_eChain (f g : T → T → Sh → Res T) (a b c : Ev) : wpX E (eChain f g a b c l s) R = wpX E (a l s) fun x s => wpX E (b l s) fun y s => wpX E (f x y s) fun z s => onB z fun k => if k = true then wpX E (c l s) fun w s => wpX E (g y w s) R else R (.bl false) s := by
  simp only [eChain, wxR_bind]
  congr 1
  funext x s
  congr 1
  funext y s
  congr 1
  funext z s
  cases z with
  | bl k => cases k <;> simp
  | _ => rfl
@[simp] theorem wx_aNil (Q : List T → Sh → Prop) : wpX E (aNil l s) Q = Q [] s := rfl
@[simp] theorem wx_aCons (a : Ev) (r : EvL) (Q : List T → Sh → Prop) : wpX E (aCons a r l s) Q = wpX E (a l s) fun x s => wpX E (r l s) fun xs s => Q (x :: xs) s := by simp [aCons]
@[simp] theorem wx_eA (f : List T → Sh → Res T) (a : EvL) : wpX E (eA f a l s) R = wpX E (a l s) fun xs s => wpX E (f xs s) R := by simp [eA]
@[simp] theorem wx_eAK (f : List T → List T → Sh → Res T) (a b : EvL) : wpX E (eAK f a b l s) R = wpX E (a l s) fun xs s => wpX E (b l s) fun ys s => wpX E (f xs ys s) R := by simp [eAK]
@[simp] theorem wx_eCall (φ : Fn) (a : EvL) : wpX E (eCall φ a l s) R = wpX E (a l s) fun xs s => wpX E (φ xs s) R := by simp [eCall]
@[simp] theorem wx_eCallK (φ : Fn) (g : List T → List T → List T) (a b : EvL) : wpX E (eCallK φ g a b l s) R = wpX E (a l s) fun xs s => wpX E (b l s) fun ys s => wpX E (φ (g xs ys) s) R := by simp [eCallK]
@[simp] theorem wx_eShare (a : Ev) : wpX E (eShare a l s) R = wpX E (a l s) fun x s => wpX E (shareT x s) R := by simp [eShare]
@[simp] theorem wx_share_lst (xs : List T) : wpX E (shareT (.lst xs) s) R = R (.cel s.length) (s ++ [.lst xs]) := rfl
@[simp] theorem wx_eSl (f : T → Option Int → Option Int → Sh → Res T) (a : Ev) (lo hi : EvO) : wpX E (eSl f a lo hi l s) R = wpX E (a l s) fun x s => wpX E (lo l s) fun i s => wpX E (hi l s) fun j s => wpX E (f x i j s) R := by simp [eSl]
@[simp] theorem wx_oNone (Q : Option Int → Sh → Prop) : wpX E (oNone l s) Q = Q none s := rfl
@[simp] theorem wx_oSome (a : Ev) (Q : Option Int → Sh → Prop) : wpX E (oSome a l s) Q = wpX E (a l s) fun x s => onI x fun i => Q (some i) s := by
  simp only [oSome, wxR_bind]
  congr 1
  funext x s
  cases x <;> rfl
@[simp] theorem wx_eIsT (ns : List String) (a : Ev) : wpX E (eIsT ns a l s) R = wpX E (a l s) fun x s => ∃ a, tyName x s = some a ∧ R (.bl (ns.any fun n => isTy a n)) s := by
  simp only [eIsT, wxR_bind]
  congr 1
  funext x s
  cases h : tyName x s <;> simp
@[simp] theorem wx_cYes : wpX E (cYes l s) B = B true s := rfl
/-! statements -/
@[simp] theorem wx_sNil : wpG E (sNil l s) nx rt bk ct = nx l s := rfl
@[simp] theorem wx_sSeq (a b : Sv) : wpG E (sSeq a b l s) nx rt bk ct = wpG E (a l s) (fun l s => wpG E (b l s) nx rt bk ct) rt bk ct := by
  unfold sSeq
  cases a l s <;> rfl
theorem wx_sE (ev : Loc → Sh → Res α) (k : α → Sv) : wpG E (sE ev k l s) nx rt bk ct = wpX E (ev l s) fun t s => wpG E (k t l s) nx rt bk ct := by
  unfold sE
  cases ev l s <;> rfl
@[simp] theorem wx_sDrop (ev : Ev) : wpG E (sDrop ev l s) nx rt bk ct = wpX E (ev l s) fun _ s => nx l s := by simp [sDrop, wx_sE]
@[simp] theorem wx_sIf (c : Et) (a b : Sv) : wpG E (sIf c a b l s) nx rt bk ct = wpX E (c l s) fun k s => if k = true then wpG E (a l s) nx rt bk ct else wpG E (b l s) nx rt bk ct := by
  simp only [sIf, wx_sE]
  congr 1
  funext k s
  cases k <;> rfl
@[simp] theorem wx_sRet (ev : Ev) : wpG E (sRet ev l s) nx rt bk ct = wpX E (ev l s) rt := by simp [sRet, wx_sE]
@[simp] theorem wx_sRetN : wpG E (sRetN l s) nx rt bk ct = rt .non s := rfl
@[simp] theorem wx_sRetV (i : Nat) : wpG E (sRetV i l s) nx rt bk ct = ∃ t, l.at i = .own t ∧ rt t s := by
  unfold sRetV
  cases h : l.at i <;> simp
@[simp] theorem wx_sAsg (i : Nat) (ev : Ev) : wpG E (sAsg i ev l s) nx rt bk ct = wpX E (ev l s) fun t s => nx (l.set i (.t t)) s := by simp [sAsg, wx_sE]
@[simp] theorem wx_sAsgO (i : Nat) (ev : Ev) : wpG E (sAsgO i ev l s) nx rt bk ct = wpX E (ev l s) fun t s => nx (l.set i (.own t)) s := by simp [sAsgO, wx_sE]
@[simp] theorem wx_sPar (i j : Nat) (a : Ev) (b : Ev) : wpG E (sPar i j (aCons a (aCons b aNil)) l s) nx rt bk ct = wpX E (a l s) fun t s => wpX E (b l s) fun u s => nx ((l.set i (.t t)).set j (.t u)) s := by simp [sPar, wx_sE]
@[simp] theorem wx_sAsgT (tt : Tgt) (ev : Ev) : wpG E (sAsgT tt ev l s) nx rt bk ct = wpX E (ev l s) fun t s => ∃ l1, setT tt t l = some l1 ∧ nx l1 s := by
  simp only [sAsgT, wx_sE]
  congr 1
  funext t s
  cases h : setT tt t l <;> simp
@[simp] theorem wx_sPut (i : Nat) (ek ev : Ev) : wpG E (sPut i ek ev l s) nx rt bk ct = wpX E (ev l s) fun v s => slotMut (l.at i) = true ∧ wpX E (ek l s) fun k s => wpG E (sPutK i v k l s) nx rt bk ct := by
  simp only [sPut, wx_sE]
  congr 1
  funext v s
  unfold sMut
  split
  · rename_i h; simp [h, wx_sE]
  · rename_i h; simp [h]
@[simp] theorem wx_sMth (i : Nat) (f : Mth) (a : EvL) : wpG E (sMth i f a l s) nx rt bk ct = (slotLst l s i = true ∧ wpX E (a l s) fun ts s => wpG E (sMthK i f ts l s) nx rt bk ct) := by
  unfold sMth
  split
  · rename_i h; simp [h, wx_sE]
  · rename_i h; simp [h]
@[simp] theorem wx_sFor (it : EvL) (tt : Tgt) (b : Sv) : wpG E (sFor it tt b l s) nx rt bk ct = wpX E (it l s) fun items s => wpG E (forL tt b items l s) nx rt bk ct := by simp [sFor, wx_sE]
@[simp] theorem wx_itN (i : Nat) (Q : List T → Sh → Prop) : wpX E (itN i l s) Q = vAt l i fun x => wpX E (itemsN x s) Q := by
  unfold itN vAt
  cases l.at i <;> rfl
@[simp] theorem wx_itV (a : Ev) (Q : List T → Sh → Prop) : wpX E (itV a l s) Q = wpX E (a l s) fun x s => wpX E (itemsT x s) Q := by simp [itV]
@[simp] theorem wx_itA (f : List T → Sh → Res (List T)) (a : EvL) (Q : List T → Sh → Prop) : wpX E (itA f a l s) Q = wpX E (a l s) fun xs s => wpX E (f xs s) Q := by simp [itA]
@[simp] theorem wx_dLst (xs : List T) : wpX E (dLst xs s) R = (xs.length ≤ sizeLine ∧ R (.lst xs) s) := by
  unfold dLst
  split
  · rename_i h; simp [h]
  · rename_i h; simp [h]
@[simp] theorem wx_dTup (xs : List T) : wpX E (dTup xs s) R = (xs.length ≤ sizeLine ∧ R (.tup xs) s) := by
  unfold dTup
  split
  · rename_i h; simp [h]
  · rename_i h; simp [h]
end
section
variable {E : Ex → Sh → Prop} {R : T → Sh → Prop} {nx bk ct : Loc → Sh → Prop} {rt : T → Sh → Prop} {l : Loc} {s : Sh}
@[simp] theorem wx_noexc {α : Type} {Q : α → Sh → Prop} (r : Res α) : wpX E r.noexc Q = wpR r Q := by cases r <;> rfl
@[simp] theorem wx_eComp (vs : List Nat) (it : EvL) (tt : Tgt) (c : Et) (elt : Ev) : wpX E (eComp vs it tt c elt l s) R = (noOwn l vs = true ∧ wpX E (it l s) fun items s => wpR (compL tt c elt items (wipeL l vs) s) fun ys s => ys.length ≤ sizeLine ∧ R (.lst ys) s) := by
  unfold eComp
  split
  · rename_i h
    simp only [h, wxR_bind, wx_noexc, true_and]
    congr 1
    funext items s
    cases compL tt c elt items (wipeL l vs) s with
    | ok ys s => 
      show wpX E (dLst ys s) R = _
      unfold dLst
      split
      · rename_i h; simp [h, wpX]
      · rename_i h; simp [h, wpX]
    | exc _ _ => rfl
    | bad => rfl
  · rename_i h; simp [h]
@[simp] theorem wx_sRaise (c : Str) (fs : List (Str × T)) : wpG E (sRaise c fs l s) nx rt bk ct = E ⟨c, fs⟩ s := rfl
@[simp] theorem wx_sBad : wpG E (sBad l s) nx rt bk ct = False := rfl
/-- a def that may raise -/
@[simp] theorem wx_runB (m : Bool) (n : Nat) (sv : Sv) (ts : List T) : wpX E (runB m n sv ts s) R = wpG E (sv (startL n ts) s) (fun _ s => m = false ∧ R .non s) R (fun _ _ => False) fun _ _ => False := by
  unfold runB
  cases sv (startL n ts) s <;> cases m <;> simp [wpG, wpX]
end
section
variable {E : Ex → Sh → Prop} {R : T → Sh → Prop} {s : Sh}
@[simp] theorem x_ixL (xs : List T) (i : Int) : wpX E (opIx (.lst xs) (.int i) s) R = ∃ t, atI xs i = some t ∧ R t s := by
  show wpX E (match atI xs i with | some t => .ok t s | none => .bad) R = _
  cases h : atI xs i <;> simp
@[simp] theorem x_ixT (xs : List T) (i : Int) : wpX E (opIx (.tup xs) (.int i) s) R = ∃ t, atI xs i = some t ∧ R t s := by
  show wpX E (match atI xs i with | some t => .ok t s | none => .bad) R = _
  cases h : atI xs i <;> simp
@[simp] theorem x_ixS (z : Str) (i : Int) : wpX E (opIx (.str z) (.int i) s) R = ∃ c, atI z.cps.toList i = some c ∧ R (.str ⟨#[c]⟩) s := by
  show wpX E (match atI z.cps.toList i with | some c => .ok (.str ⟨#[c]⟩) s | none => .bad) R = _
  cases h : atI z.cps.toList i <;> simp
@[simp] theorem x_ixD (kvs : List (Key × T)) (x : Str) : wpX E (opIx (.dct kvs) (.str x) s) R = ∃ t, dgetT kvs (.inr x) = some t ∧ R t s := by
  show wpX E (match dgetT kvs (.inr x) with | some t => .ok t s | none => .bad) R = _
  cases h : dgetT kvs (.inr x) <;> simp
@[simp] theorem x_ixC (xs : List T) (r : Sh) (i : Int) : wpX E (opIx (.cel 0) (.int i) (.lst xs :: r)) R = ∃ t, atI xs i = some t ∧ R t (.lst xs :: r) := by
  show wpX E (match atI xs i with | some t => .ok t (.lst xs :: r) | none => .bad) R = _
  cases h : atI xs i <;> simp
@[simp] theorem x_len (x : T) : wpX E (biLen [x] s) R = ∃ n, lenT x s = some n ∧ R (.int n) s := by
  show wpX E (match lenT x s with | some n => .ok (.int n) s | none => .bad) R = _
  cases h : lenT x s <;> simp
end
end TL
/-! plain Lean over the T-layer, 18: askings that may raise; paths judged (points 2, 4) -/
namespace TL
open PySem PySem.Spec L2
/-! ### askings told by _law_why -/
def clsOf (w : Str) : Str :=
  if w = "badpath" then "BadPath" else if w = "badatom" then "BadAtom" else if w = "badvalue" then "BadValue" else if w = "badstretch" then "BadStretch" else if w = "badquestion" then "BadQuestion" else if w = "badcond" then "BadCond" else ""
/-! ### paths -/
/-- a path's names -/
def ptB (zs : List Str) (lo hi : Int) : Bool := decide (lo ≤ zs.length) && (decide ((zs.length : Int) ≤ hi) && zs.all nB)
def ptT (zs : List Str) : T := .tup (zs.map .str)
end TL
/-! plain Lean over the T-layer, 19: atoms judged (point 5) -/
namespace TL
open PySem PySem.Spec L2
/-! ### ranks of plain values -/
/-! ### atoms -/
/-- how many things an atom of the word has -/
def thg (w : Str) : Int := if w = "is" then 3 else if w = "between" then 4 else if w = "least" then 3 else if w = "there" then 2 else 0
/-- two ends that are exchanged -/
def strW : List T → Str
  | [a, b] => if rlt b a = true then "badstretch" else ""
  | _ => ""
/-- the word of an atom -/
def awW (w : Str) (zs : List Str) (vs : List T) : Str :=
  if thg w = ((vs.length + 2 : Nat) : Int) then if ptB zs 1 3 = true then if vs.all plB = true then strW vs else "badvalue" else "badpath" else "badatom"
inductive AtomW : List T → Str → Prop
  | nil : AtomW [] "badatom"
  | one (w : Str) : w.length ≤ 1000 → AtomW [.str w] "badatom"
  | more (w : Str) (zs : List Str) (vs : List T) : w.length ≤ 1000 → zs.length ≤ 1000 → (∀ z ∈ zs, z.length ≤ 100000) → (∀ v ∈ vs, JV 1 v) → AtomW (.str w :: ptT zs :: vs) (awW w zs vs)
/-! ### the ends of a good atom -/
/-- what they are -/
def endT (w : Str) (zs : List Str) (vs : List T) : T := .tup (match vs with
  | [] => [ptT zs, .non, .non, .bl false]
  | [a] => if w = "least" then [ptT zs, a, .non, .bl false] else [ptT zs, a, a, .bl true]
  | a :: b :: _ => [ptT zs, a, b, .bl true])
/-- an atom, its word, and its ends if it is good -/
inductive AtomE : List T → Str → T → Prop
  | bad (xs : List T) (a : Str) (t : T) : AtomW xs a → a ≠ "" → AtomE xs a t
  | good (w : Str) (zs : List Str) (vs : List T) : AtomW (.str w :: ptT zs :: vs) "" → thg w = ((vs.length + 2 : Nat) : Int) → zs.length ≤ 1000 → (∀ z ∈ zs, z.length ≤ 100000) → (∀ v ∈ vs, JV 0 v) → AtomE (.str w :: ptT zs :: vs) "" (endT w zs vs)
theorem AtomE.w {xs : List T} {a : Str} {t : T} (h : AtomE xs a t) : AtomW xs a := by
  cases h with
  | bad _ _ _ h _ => exact h
  | good _ _ _ h _ _ _ _ => exact h
/-! ### by the law's own words -/
end TL
/-! plain Lean over the T-layer, 20: atoms by the law's own words (point 5) -/
namespace TL
open PySem PySem.Spec L2
end TL
/-! plain Lean over the T-layer, 21: paths and atoms drawn, bent (point 5) -/
namespace TL
open PySem PySem.Spec PySem.SeqAt L2
theorem neS (i j : Str) (s : Sh) : opNe (.str i) (.str j) s = .ok (.bl (!(i == j))) s := by
  have e : eqOk (.str i) (.str j) = true := by simp [eqOk, plainT, toD, PyData.depth]
  have h : opNe (.str i) (.str j) s = if eqOk (.str i) (.str j) then Res.ok (T.bl (true ^^ eqT (.str i) (.str j))) s else Res.bad := rfl
  rw [h, if_pos e, Bool.true_xor]
  rfl
/-! ### sorted by rank -/
/-! ### atoms -/
/-- an atom of n things at most -/
def AtomN (n : Nat) (xs : List T) : Prop := (∃ a, AtomW xs a) ∧ xs.length ≤ n
/-! ### bent atoms -/
end TL
/-! plain Lean over the T-layer, 22: the law k05 -/
namespace TL
open PySem PySem.Spec L2
theorem dr_tab {rest s : Sh} {x : SO} (h : Dr (x :: rest) s) : s[1]? = some x := by
  obtain ⟨ns, a, c, d, rfl, _⟩ := h
  rfl
abbrev lamQ : Str := "law.<locals>.<lambda>"
abbrev tabL : SO := .tab ("law", none) lamQ
end TL
/-! plain Lean over the T-layer, 23: ranks of all values, between two ends (points 3, 5) -/
namespace TL
open PySem PySem.Spec L2
def RankV (n : Nat) (φ : Fn) : Prop := ∀ (t : T) (s : Sh) (R : T → Sh → Prop), DV t → nb t = true → dep t < n → R (rkT t) s → wpR (φ [t] s) R
theorem rankv0 (φ : Fn) : RankV 0 φ := fun _ _ _ _ _ h _ => absurd h (Nat.not_lt_zero _)
section
variable {n : Nat} {φ : Fn} {s : Sh} {R : T → Sh → Prop}
theorem rkv_seq (h : RankV n φ) {xs : List T} (d : DV (.lst xs)) (hb : nb (.lst xs) = true) (hd : dep (.lst xs) < n + 1) (q : R (.lst (rks xs)) s) :
    wpR (eComp [1] (itN 0) (.nm 1) cYes (eCall φ (aCons (eVar 1) aNil)) [.t (.lst xs), .no, .no] s) R := by
  rw [rks_map] at q
  rw [wp_eComp]
  refine ⟨rfl, ?_⟩
  simp only [wp_itN, vAt_0, itemsN, wpR_ok, wipeL]
  refine comp_map (f := rkT) (fun x hx R' q' => ?_) ⟨by rw [List.length_map]; exact len_size d.1, q⟩
  have := h x s R' (d.2.mem x hx) (nbs_mem (nb_lst hb) x hx) (by have := deps_mem hx; unfold dep at hd; omega) q'
  simpa using this
theorem rkv_rows (h : RankV n φ) {kvs : List (Key × T)} (d : DV (.dct kvs)) (hb : nb (.dct kvs) = true) (hd : dep (.dct kvs) < n + 1) (q : R (.lst (rowsT (rkd kvs))) s) :
    wpR (eComp [2] (itV (eA biSort (aCons (eVar 0) aNil))) (.nm 2) cYes (eA dTup (aCons (eVar 2) (aCons (eCall φ (aCons (e2 opIx (eVar 0) (eVar 2)) aNil)) aNil))) [.t (.dct kvs), .no, .no] s) R := by
  obtain ⟨d1, d2, d3⟩ := d
  have h2 : (2 : Nat) ≤ sizeLine := by decide
  obtain ⟨ks, ek⟩ := keyStrs_of d3
  have hl : ks.length < 64 := by rw [keyStrs_len ek]; exact d1
  have hs : biSort [.dct kvs] s = .ok (.lst ((sortS ks).map T.str)) s := by
    unfold biSort
    simp only [ek]
    rw [if_pos hl]
  rw [wp_eComp]
  refine ⟨rfl, ?_⟩
  simp only [wp_itV, wp_eA, wp_aCons, wp_aNil, wp_eVar, vAt_0, hs, wpR_ok, itemsT, wipeL]
  refine comp_mapT (g := T.str) (f := fun z => .tup [.str z, (dgetT (rkd kvs) (.inr z)).getD .non]) (fun z hz => ⟨_, rfl, fun R' q' => ?_⟩) ?_
  · obtain ⟨p, hp, ep, g⟩ := dget_name d2 d3 (by rw [names_is ek]; exact sort_mem hz)
    rw [rkd_get, g] at q'
    simp only [List.set_cons_succ, List.set_cons_zero, wp_eA, wp_aCons, wp_aNil, wp_eVar, vAt_0, vAt_s, wp_eCall, wp_e2, p_ixD, g, Option.some.injEq, exists_eq_left', wp_dTup]
    exact h p.2 s _ (d3.mem p hp).2 (nbd_mem (nb_dct hb) p hp) (by have := depd_mem hp; unfold dep at hd; omega) ⟨h2, q'⟩
  · refine ⟨by rw [List.length_map, sort_len]; exact len_size64 hl, ?_⟩
    unfold rowsT at q
    rw [names_rkd, names_is ek] at q
    exact q
theorem rankv_step (h : RankV n φ) : RankV (n + 1) (runB0 false 3 (b_rank φ)) := by
  intro t s R d hb hd q
  have h2 : (2 : Nat) ≤ sizeLine := by decide
  cases t with
  | lst xs =>
    have := rkv_seq (R := fun x s => wpR (biTuple [x] s) fun y s => R (.tup [.int 3, y]) s) h d hb hd (by simpa [rkT] using q)
    rw [wp_runB0, b_rank]
    simp only [wp_sSeq, wp_sIf, wp_sRet, wp_sNil, st1, List.replicate, wp_eT, wp_e2, wp_eA, wp_aCons, wp_aNil, wp_eVar, wp_eC, vAt_0, p_isN, nn_lst, wpR_ok, truB_bl, Bool.false_eq_true, if_false, p_isI, tn_lst, Option.some.injEq, exists_eq_left', isTy, kn_int, kn_str, kn_list, true_and, wp_dTup, List.length_cons, List.length_nil]
    simpa [h2] using this
  | dct xs =>
    have := rkv_rows (R := fun x s => wpR (biTuple [x] s) fun y s => R (.tup [.int 4, y]) s) h d hb hd (by simpa [rkT] using q)
    rw [wp_runB0, b_rank]
    simp only [wp_sSeq, wp_sIf, wp_sRet, wp_sNil, st1, List.replicate, wp_eT, wp_e2, wp_eA, wp_aCons, wp_aNil, wp_eVar, wp_eC, vAt_0, p_isN, nn_dct, wpR_ok, truB_bl, Bool.false_eq_true, if_false, p_isI, tn_dct, Option.some.injEq, exists_eq_left', isTy, kn_int, kn_str, kn_list, true_and, wp_dTup, List.length_cons, List.length_nil]
    simpa [h2] using this
  | non => simp [b_rank, st1, h2]; exact q
  | int i => simp [b_rank, st1, isTy, h2]; exact q
  | str x => simp [b_rank, st1, isTy, h2]; exact q
  | _ => cases hb
theorem lrankv_step (h : RankV n φ) : RankV (n + 1) (runB0 false 3 (b__law_rank φ)) := by
  intro t s R d hb hd q
  have h2 : (2 : Nat) ≤ sizeLine := by decide
  cases t with
  | lst xs =>
    have := rkv_seq (R := fun x s => wpR (biTuple [x] s) fun y s => R (.tup [.int 3, y]) s) h d hb hd (by simpa [rkT] using q)
    rw [wp_runB0, b__law_rank]
    simp only [wp_sSeq, wp_sIf, wp_sRet, wp_sNil, st1, List.replicate, wp_eT, wp_e2, wp_eA, wp_aCons, wp_aNil, wp_eVar, wp_eC, vAt_0, p_isN, nn_lst, wpR_ok, truB_bl, Bool.false_eq_true, if_false, p_isI, tn_lst, Option.some.injEq, exists_eq_left', isTy, kn_int, kn_str, kn_list, true_and, wp_dTup, List.length_cons, List.length_nil]
    simpa [h2, isTy] using this
  | dct xs =>
    have := rkv_rows (R := fun x s => wpR (biTuple [x] s) fun y s => R (.tup [.int 4, y]) s) h d hb hd (by simpa [rkT] using q)
    rw [wp_runB0, b__law_rank]
    simp only [wp_sSeq, wp_sIf, wp_sRet, wp_sNil, st1, List.replicate, wp_eT, wp_e2, wp_eA, wp_aCons, wp_aNil, wp_eVar, wp_eC, vAt_0, p_isN, nn_dct, wpR_ok, truB_bl, Bool.false_eq_true, if_false, p_isI, tn_dct, Option.some.injEq, exists_eq_left', isTy, kn_int, kn_str, kn_list, true_and, wp_dTup, List.length_cons, List.length_nil]
    simpa [h2, isTy] using this
  | non => simp [b__law_rank, st1, h2]; exact q
  | int i => simp [b__law_rank, st1, isTy, h2]; exact q
  | str x => simp [b__law_rank, st1, isTy, h2]; exact q
  | _ => cases hb
end
/-! ### between two ends -/
end TL
/-! plain Lean over the T-layer, 24: where a path leads, what it meets (point 4) -/
namespace TL
open PySem PySem.Spec L2
/-! ### comprehensions with a test, of two clauses -/
@[simp] theorem wp_eComp2 {l : Loc} {s : Sh} {R : T → Sh → Prop} (vs : List Nat) (it : EvL) (tt : Tgt) (c : Et) (vs1 : List Nat) (it1 : EvL) (tt1 : Tgt) (c1 : Et) (elt : Ev) : wpR (eComp2 vs it tt c vs1 it1 tt1 c1 elt l s) R = (noOwn l vs = true ∧ wpR (it l s) fun items s => wpR (comp2L tt c vs1 it1 tt1 c1 elt items (wipeL l vs) s) fun ys s => ys.length ≤ sizeLine ∧ R (.lst ys) s) := by
  unfold eComp2
  split
  · rename_i h
    simp only [h, wpR_bind, true_and]
    congr 1
    funext items s
    cases comp2L tt c vs1 it1 tt1 c1 elt items (wipeL l vs) s with
    | ok ys s =>
      show wpR (dLst ys s) R = _
      rw [wp_dLst]
      rfl
    | exc _ _ => rfl
    | bad => rfl
  · rename_i h; simp [h]
@[simp] theorem wx_eComp2 {E : Ex → Sh → Prop} {l : Loc} {s : Sh} {R : T → Sh → Prop} (vs : List Nat) (it : EvL) (tt : Tgt) (c : Et) (vs1 : List Nat) (it1 : EvL) (tt1 : Tgt) (c1 : Et) (elt : Ev) : wpX E (eComp2 vs it tt c vs1 it1 tt1 c1 elt l s) R = (noOwn l vs = true ∧ wpX E (it l s) fun items s => wpR (comp2L tt c vs1 it1 tt1 c1 elt items (wipeL l vs) s) fun ys s => ys.length ≤ sizeLine ∧ R (.lst ys) s) := by
  unfold eComp2
  split
  · rename_i h
    simp only [h, wxR_bind, wx_noexc, true_and]
    congr 1
    funext items s
    cases comp2L tt c vs1 it1 tt1 c1 elt items (wipeL l vs) s with
    | ok ys s =>
      show wpX E (dLst ys s) R = _
      unfold dLst
      split
      · rename_i h; simp [h, wpX]
      · rename_i h; simp [h, wpX]
    | exc _ _ => rfl
    | bad => rfl
  · rename_i h; simp [h]
/-! ### where a path leads -/
/-! ### how many there are -/
/-! ### they are values -/
/-! ### the program's defs -/
/-! ### by the law's own words -/
end TL
/-! plain Lean over the T-layer, 25: questions judged and answered (points 5, 6) -/
namespace TL
open PySem PySem.Spec L2
/-! ### the first word -/
def neE (w : Str) : Bool := !(w == ("" : Str))
def firstW (ws : List Str) : Str := (ws.filter neE ++ [("" : Str)]).headD ("" : Str)
theorem firstW_cons (w : Str) (ws : List Str) : firstW (w :: ws) = if w = "" then firstW ws else w := by
  unfold firstW
  by_cases h : w = ""
  · rw [if_pos h, List.filter_cons_of_neg (by simp [neE, h])]
  · rw [if_neg h, List.filter_cons_of_pos (by simpa [neE] using h)]
    rfl
theorem firstW_nil : firstW [] = "" := rfl
theorem firstW_all {ws : List Str} : firstW ws = "" ↔ ∀ w ∈ ws, w = "" := by
  induction ws with
  | nil => simp [firstW_nil]
  | cons w ws ih =>
    rw [firstW_cons]
    by_cases h : w = ""
    · rw [if_pos h, ih]; simp [h]
    · rw [if_neg h]; simp [h]
end TL
/-! plain Lean over the T-layer, 26: questions (points 5, 6) -/
namespace TL
open PySem PySem.Spec L2
/-- the words of its atoms -/
inductive BrW : List (List T) → List Str → Prop
  | nil : BrW [] []
  | cons {xs : List T} {a : Str} {b : List (List T)} {ws : List Str} : AtomW xs a → xs.length ≤ 1000 → BrW b ws → BrW (xs :: b) (a :: ws)
inductive QW : List (List (List T)) → List (List Str) → Prop
  | nil : QW [] []
  | cons {b : List (List T)} {ws : List Str} {q : List (List (List T))} {wss : List (List Str)} : BrW b ws → b.length ≤ 1000 → QW q wss → QW (b :: q) (ws :: wss)
theorem BrW.len {b : List (List T)} {ws : List Str} (h : BrW b ws) : ws.length = b.length := by
  induction h with
  | nil => rfl
  | cons _ _ _ ih => simp [ih]
theorem QW.len {q : List (List (List T))} {ws : List (List Str)} (h : QW q ws) : ws.length = q.length := by
  induction h with
  | nil => rfl
  | cons _ _ _ ih => simp [ih]
theorem BrW.of : ∀ {b : List (List T)}, (∀ xs ∈ b, (∃ a, AtomW xs a) ∧ xs.length ≤ 1000) → ∃ ws, BrW b ws
  | [], _ => ⟨[], .nil⟩
  | xs :: b, h => by
    obtain ⟨⟨a, ha⟩, hl⟩ := h xs List.mem_cons_self
    obtain ⟨ws, hw⟩ := BrW.of (b := b) fun ys hy => h ys (List.mem_cons_of_mem _ hy)
    exact ⟨a :: ws, .cons ha hl hw⟩
theorem QW.of : ∀ {q : List (List (List T))}, (∀ b ∈ q, b.length ≤ 1000 ∧ ∀ xs ∈ b, (∃ a, AtomW xs a) ∧ xs.length ≤ 1000) → ∃ ws, QW q ws
  | [], _ => ⟨[], .nil⟩
  | b :: q, h => by
    obtain ⟨hl, hb⟩ := h b List.mem_cons_self
    obtain ⟨ws, hw⟩ := BrW.of hb
    obtain ⟨wss, hq⟩ := QW.of (q := q) fun c hc => h c (List.mem_cons_of_mem _ hc)
    exact ⟨ws :: wss, .cons hw hl hq⟩
theorem BrW.mem {b : List (List T)} {ws : List Str} (h : BrW b ws) (hw : ∀ w ∈ ws, w = "") : ∀ xs ∈ b, AtomW xs "" ∧ xs.length ≤ 1000 := by
  induction h with
  | nil => intro _ hx; cases hx
  | cons h1 h2 _ ih =>
    intro xs hx
    rcases List.mem_cons.mp hx with rfl | hx
    · have := hw _ List.mem_cons_self
      rw [this] at h1
      exact ⟨h1, h2⟩
    · exact ih (fun w hw' => hw w (List.mem_cons_of_mem _ hw')) xs hx
/-- its form -/
def qForm (q : List (List (List T))) : Bool := decide (1 ≤ (q.length : Int)) && decide ((q.length : Int) ≤ 3) && q.all fun b => decide (1 ≤ (b.length : Int)) && decide ((b.length : Int) ≤ 4)
/-- the word of a question -/
def qW (q : List (List (List T))) (ws : List (List Str)) : Str := if qForm q = true then firstW ws.flatten else "badquestion"
end TL
/-! plain Lean over the T-layer, 27: questions answered (points 5, 6) -/
namespace TL
open PySem PySem.Spec L2
/-! ### the ends by their parts -/
def namesOf (ps : List T) : List Str := ps.filterMap fun t => match t with
  | .str z => some z
  | _ => none
theorem namesOf_str (zs : List Str) : namesOf (zs.map T.str) = zs := by
  unfold namesOf
  rw [List.filterMap_map]
  exact List.filterMap_some
/-! ### by the law's own words -/
end TL
/-! plain Lean over the T-layer, 28: documents and questions drawn (point 6) -/
namespace TL
open PySem PySem.Spec L2
/-! ### questions -/
/-- .. or not -/
def QM (q : List (List (List T))) : Prop := q.length ≤ 100 ∧ ∀ b ∈ q, b.length ≤ 100 ∧ ∀ xs ∈ b, AtomN 4 xs
theorem QM.w {q : List (List (List T))} (h : QM q) : ∃ ws, QW q ws := QW.of fun b hb => ⟨by have := (h.2 b hb).1; omega, fun xs hx => ⟨((h.2 b hb).2 xs hx).1, by have := ((h.2 b hb).2 xs hx).2; omega⟩⟩
/-! ### odd questions -/
end TL
/-! plain Lean over the T-layer, 29: odd questions (point 6) -/
namespace TL
open PySem PySem.Spec L2
theorem of_val {ev : Ev} {l : Loc} {s : Sh} {t : T} {R : T → Sh → Prop} (h : ev l s = .ok t s) (q : R t s) : wpR (ev l s) R := by
  rw [h]
  exact q
section
variable {q : List (List (List T))} {x0 : List T} {br : List (List T)} {qr : List (List (List T))} {l : Loc} {s : Sh} {i : Nat}
/-- parts of a question, as expressions -/
theorem ev_var {t : T} (e : l.at i = .t t) : eVar i l s = .ok t s := by
  unfold eVar
  rw [e]
end
end TL
/-! plain Lean over the T-layer, 30: the law k06 -/
namespace TL
open PySem PySem.Spec L2
end TL
/-! plain Lean over the T-layer, 31: conditions (point 6) -/
namespace TL
open PySem PySem.Spec L2
/-! ### atoms of any first word -/
inductive AtomX : List T → Str → Prop
  | of {xs : List T} {a : Str} : AtomW xs a → AtomX xs a
  | odd (w : Str) (xs : List T) : w.length ≤ 1000 → thg w ≠ ((xs.length + 1 : Nat) : Int) → AtomX (.str w :: xs) "badatom"
theorem AtomX.good {xs : List T} (h : AtomX xs "") : AtomW xs "" := by
  cases h with
  | of h => exact h
/-- lists of atoms and their words -/
inductive BrX : List (List T) → List Str → Prop
  | nil : BrX [] []
  | cons {xs : List T} {a : Str} {b : List (List T)} {ws : List Str} : AtomX xs a → xs.length ≤ 1000 → BrX b ws → BrX (xs :: b) (a :: ws)
theorem BrX.len {b : List (List T)} {ws : List Str} (h : BrX b ws) : ws.length = b.length := by
  induction h with
  | nil => rfl
  | cons _ _ _ ih => simp [ih]
theorem BrX.of : ∀ {b : List (List T)}, (∀ xs ∈ b, (∃ a, AtomX xs a) ∧ xs.length ≤ 1000) → ∃ ws, BrX b ws
  | [], _ => ⟨[], .nil⟩
  | xs :: b, h => by
    obtain ⟨⟨a, ha⟩, hl⟩ := h xs List.mem_cons_self
    obtain ⟨ws, hw⟩ := BrX.of (b := b) fun ys hy => h ys (List.mem_cons_of_mem _ hy)
    exact ⟨a :: ws, .cons ha hl hw⟩
theorem BrX.mem {b : List (List T)} {ws : List Str} (h : BrX b ws) (hw : ∀ w ∈ ws, w = "") : ∀ xs ∈ b, AtomW xs "" ∧ xs.length ≤ 1000 := by
  induction h with
  | nil => intro _ hx; cases hx
  | cons h1 h2 _ ih =>
    intro xs hx
    rcases List.mem_cons.mp hx with rfl | hx
    · have := hw _ List.mem_cons_self
      rw [this] at h1
      exact ⟨h1.good, h2⟩
    · exact ih (fun w hw' => hw w (List.mem_cons_of_mem _ hw')) xs hx
/-! ### conditions -/
inductive Cd where
  | atom (xs : List T)
  | bad (xs : List T)
  | all (b : Bool) (cs : List Cd)
  | neg (c : Cd)
  | some (p : List Str) (c : Cd)
def wd (b : Bool) : Str := if b then "and" else "or"
mutual
def cdT : Cd → T
  | .atom xs => .tup xs
  | .bad xs => .tup xs
  | .all b cs => .tup [.str (wd b), .lst (cdTs cs)]
  | .neg c => .tup [.str "not", cdT c]
  | .some p c => .tup [.str "some", ptT p, cdT c]
def cdTs : List Cd → List T
  | [] => []
  | c :: cs => cdT c :: cdTs cs
end
mutual
def hgt : Cd → Nat
  | .atom _ => 1
  | .bad _ => 1
  | .all _ cs => 1 + hgts cs
  | .neg c => 1 + hgt c
  | .some _ c => 1 + hgt c
def hgts : List Cd → Nat
  | [] => 0
  | c :: cs => max (hgt c) (hgts cs)
end
/-! how much there is of it -/
mutual
def csz : Cd → Nat
  | .atom _ => 1
  | .bad _ => 1
  | .all _ cs => 1 + cszs cs
  | .neg c => 1 + csz c
  | .some _ c => 1 + csz c
def cszs : List Cd → Nat
  | [] => 0
  | c :: cs => csz c + cszs cs
end
def WORDS' : List Str := ["and", "or", "not", "some"]
inductive WC : Cd → Prop
  | atom (xs : List T) : (∃ a, AtomX xs a) → xs.length ≤ 1000 → (xs = [] ∨ ∃ w r, xs = .str w :: r ∧ w ∉ WORDS') → WC (.atom xs)
  | bad (w : Str) (r : List T) : w ∈ WORDS' → r.length ≤ 1000 → (r.length + 1 ≠ if w = "some" then 3 else 2) → WC (.bad (.str w :: r))
  | all (b : Bool) (cs : List Cd) : (∀ c ∈ cs, WC c) → WC (.all b cs)
  | neg (c : Cd) : WC c → WC (.neg c)
  | some (p : List Str) (c : Cd) : p.length ≤ 1000 → (∀ z ∈ p, z.length ≤ 100000) → WC c → WC (.some p c)
/-! over a document -/
end TL
/-! plain Lean over the T-layer, 32: conditions, the program's defs (point 6) -/
namespace TL
open PySem PySem.Spec L2
/-! ### the first word -/
/-! ### formed -/
/-! ### deep -/
end TL
/-! plain Lean over the T-layer, 33: conditions judged and answered (point 6) -/
namespace TL
open PySem PySem.Spec L2
/-! ### atoms -/
/-! ### paths -/
/-! ### the judge -/
/-! ### the meaning -/
theorem ix_tup {l : Loc} {s : Sh} {i : Nat} {xs : List T} {k : Nat} {t : T} (e : l.at i = .t (.tup xs)) (h : atI xs (k : Int) = some t) : e2 opIx (eVar i) (eC (.int (k : Int))) l s = .ok t s := res_eq (by
  rw [wp_e2]
  refine of_val (ev_var e) ?_
  rw [wp_eC, p_ixT]
  exact ⟨_, h, rfl, rfl⟩)
end TL
/-! plain Lean over the T-layer, 34: conditions, the law's own defs (point 6) -/
namespace TL
open PySem PySem.Spec L2
/-! ### membership in displays -/
/-! ### its parts, the law's way -/
/-! ### how deep -/
/-! ### paths, atoms, formed: all at once -/
/-! ### the meaning -/
end TL
/-! plain Lean over the T-layer, 35: conditions drawn (point 6) -/
namespace TL
open PySem PySem.Spec L2
/-! ### bounds -/
/-- a condition drawn: its height, how much there is of it -/
structure CN (n m : Nat) (c : Cd) : Prop where
  wc : WC c
  hg : hgt c ≤ n
  sz : csz c ≤ m
  dv : DV (cdT c)
  dp : dep (cdT c) ≤ 2 * n
theorem CN.mono {n m k j : Nat} {c : Cd} (h : CN n m c) (h1 : n ≤ k) (h2 : m ≤ j) : CN k j c := ⟨h.wc, Nat.le_trans h.hg h1, Nat.le_trans h.sz h2, h.dv, Nat.le_trans h.dp (by omega)⟩
/-! ### conditions drawn -/
end TL
/-! plain Lean over the T-layer, 36: odd conditions drawn (point 6) -/
namespace TL
open PySem PySem.Spec L2
end TL
/-! plain Lean over the T-layer, 37: the law k07 -/
namespace TL
open PySem PySem.Spec L2
end TL
/-! plain Lean over the T-layer, 38: what an atom asks, papers (point 7) -/
namespace TL
open PySem PySem.Spec L2
/-! ### asked_by, places -/
end TL
/-! plain Lean over the T-layer, 39: places, papers (point 7) -/
namespace TL
open PySem PySem.Spec L2
/-! ### both judged -/
def bothW (q : List (List (List T))) (ws : List (List Str)) (as : List Str) : Str := if qW q ws = "" then firstW as else qW q ws
/-! ### papers -/
end TL
/-! plain Lean over the T-layer, 40: good atoms drawn (points 5, 7) -/
namespace TL
open PySem PySem.Spec L2
/-! ### names and plain values are such by the program's own words -/
theorem abc_all : ∀ c : Nat, 97 ≤ c ∧ c ≤ 122 → c ∈ ("abcdefghijklmnopqrstuvwxyz" : Str).cps.toList := by
  intro c h
  have : ∀ c < 123, 97 ≤ c → c ∈ ("abcdefghijklmnopqrstuvwxyz" : Str).cps.toList := by decide +kernel
  exact this c (by omega) h.1
theorem sgn_all : ∀ c : Nat, sgn c → c ∈ ("abcdefghijklmnopqrstuvwxyz0123456789 " : Str).cps.toList := by
  intro c h
  have : ∀ c < 123, (97 ≤ c ∧ c ≤ 122 ∨ 48 ≤ c ∧ c ≤ 57 ∨ c = 32) → c ∈ ("abcdefghijklmnopqrstuvwxyz0123456789 " : Str).cps.toList := by decide +kernel
  unfold sgn low at h
  exact this c (by omega) (by omega)
theorem name_nB {x : Str} (h : NameT x) : nB x = true := by
  unfold nB
  rw [Bool.and_eq_true, Bool.and_eq_true]
  exact ⟨decide_eq_true h.1, decide_eq_true h.2.1, List.all_eq_true.mpr fun c hc => decide_eq_true (abc_all c (h.2.2 c hc))⟩
theorem text_sB {x : Str} (h : TextT x) : sB x = true := by
  unfold sB
  rw [Bool.and_eq_true]
  exact ⟨decide_eq_true h.1, List.all_eq_true.mpr fun c hc => decide_eq_true (sgn_all c (h.2 c hc))⟩
theorem plain_plB {t : T} (h : PlainT t) : plB t = true := by
  rcases h with rfl | ⟨i, rfl, _⟩ | ⟨x, rfl, h⟩
  · rfl
  · rfl
  · exact text_sB h
/-- a path as it may be -/
def PathV (zs : List Str) : Prop := 1 ≤ zs.length ∧ zs.length ≤ 3 ∧ ∀ z ∈ zs, NameT z
theorem PathV.pt {zs : List Str} (h : PathV zs) : ptB zs 1 3 = true := by
  unfold ptB
  rw [Bool.and_eq_true, Bool.and_eq_true]
  exact ⟨decide_eq_true (by have := h.1; omega), decide_eq_true (by have := h.2.1; omega), List.all_eq_true.mpr fun z hz => name_nB (h.2.2 z hz)⟩
theorem PathV.len {zs : List Str} (h : PathV zs) : zs.length ≤ 1000 ∧ ∀ z ∈ zs, z.length ≤ 100000 := ⟨by have := h.2.1; omega, fun z m => Nat.le_trans (h.2.2 z m).2.1 (by decide)⟩
/-- an atom as it may be -/
def AtomV (xs : List T) : Prop := ∃ w zs vs, xs = .str w :: ptT zs :: vs ∧ w.length ≤ 1000 ∧ thg w = ((vs.length + 2 : Nat) : Int) ∧ PathV zs ∧ (∀ v ∈ vs, PlainT v) ∧ strW vs = "" ∧ vs.length ≤ 2
theorem AtomV.w {xs : List T} (h : AtomV xs) : AtomW xs "" := by
  obtain ⟨w, zs, vs, rfl, h1, h2, h3, h4, h5, h6⟩ := h
  have e : awW w zs vs = "" := by
    unfold awW
    rw [if_pos h2, if_pos h3.pt, if_pos (List.all_eq_true.mpr fun v hv => plain_plB (h4 v hv)), h5]
  have := AtomW.more w zs vs h1 h3.len.1 h3.len.2 fun v hv => (jv_plain (h4 v hv)).mono (Nat.zero_le _)
  rw [e] at this
  exact this
theorem AtomV.len {xs : List T} (h : AtomV xs) : xs.length ≤ 4 := by
  obtain ⟨w, zs, vs, rfl, _, _, _, _, _, h6⟩ := h
  simp
  exact h6
/-! ### two by rank -/
end TL
/-! plain Lean over the T-layer, 41: good questions, near atoms, planted documents drawn (points 5, 7) -/
namespace TL
open PySem PySem.Spec L2
/-- a question as it may be -/
def QV (q : List (List (List T))) : Prop := 1 ≤ q.length ∧ q.length ≤ 3 ∧ ∀ b ∈ q, (1 ≤ b.length ∧ b.length ≤ 3) ∧ ∀ xs ∈ b, AtomV xs
theorem BrW.good : ∀ {b : List (List T)}, (∀ xs ∈ b, AtomV xs) → ∃ ws, BrW b ws ∧ ∀ w ∈ ws, w = ""
  | [], _ => ⟨[], .nil, fun _ h => by cases h⟩
  | xs :: b, h => by
    obtain ⟨ws, h1, h2⟩ := BrW.good (b := b) fun ys hy => h ys (List.mem_cons_of_mem _ hy)
    have hx := h xs List.mem_cons_self
    exact ⟨"" :: ws, .cons hx.w (by have := hx.len; omega) h1, fun w hw => by
      rcases List.mem_cons.mp hw with rfl | hw
      · rfl
      · exact h2 w hw⟩
theorem QW.good : ∀ {q : List (List (List T))}, (∀ b ∈ q, b.length ≤ 3 ∧ ∀ xs ∈ b, AtomV xs) → ∃ ws, QW q ws ∧ ∀ w ∈ ws.flatten, w = ""
  | [], _ => ⟨[], .nil, fun _ h => by cases h⟩
  | b :: q, h => by
    obtain ⟨ws, h1, h2⟩ := QW.good (q := q) fun c hc => h c (List.mem_cons_of_mem _ hc)
    obtain ⟨hl, hb⟩ := h b List.mem_cons_self
    obtain ⟨w0, k1, k2⟩ := BrW.good hb
    refine ⟨w0 :: ws, .cons k1 (by omega) h1, fun w hw => ?_⟩
    rw [List.flatten_cons] at hw
    rcases List.mem_append.mp hw with hw | hw
    · exact k2 w hw
    · exact h2 w hw
theorem QV.w {q : List (List (List T))} (h : QV q) : ∃ ws, QW q ws ∧ qW q ws = "" := by
  obtain ⟨ws, h1, h2⟩ := QW.good fun b hb => ⟨(h.2.2 b hb).1.2, (h.2.2 b hb).2⟩
  refine ⟨ws, h1, ?_⟩
  have hf : qForm q = true := by
    unfold qForm
    rw [Bool.and_eq_true, Bool.and_eq_true]
    refine ⟨⟨decide_eq_true (by have := h.1; omega), decide_eq_true (by have := h.2.1; omega)⟩, List.all_eq_true.mpr fun b hb => ?_⟩
    obtain ⟨⟨k1, k2⟩, _⟩ := h.2.2 b hb
    rw [Bool.and_eq_true]
    exact ⟨decide_eq_true (by omega), decide_eq_true (by omega)⟩
  unfold qW
  rw [if_pos hf]
  exact firstW_all.mpr h2
/-! ### atoms near a question's -/
def QV4 (q : List (List (List T))) : Prop := 1 ≤ q.length ∧ q.length ≤ 3 ∧ ∀ b ∈ q, (1 ≤ b.length ∧ b.length ≤ 4) ∧ ∀ xs ∈ b, AtomV xs
theorem lt_int {l : Loc} {s : Sh} {i : Nat} {k : Int} (e : l.at i = .t (.int k)) (z : Int) : eT (e2 opLt (eVar i) (eC (.int z))) l s = .ok (decide (k < z)) s := res_eq (by
  rw [wp_eT, wp_e2]
  refine of_val (ev_var e) ?_
  rw [wp_eC, p_ltI]
  exact ⟨rfl, rfl⟩)
end TL
/-! plain Lean over the T-layer, 42: planted documents; the law k09 -/
namespace TL
open PySem PySem.Spec L2
/-! ### a dict with an item more -/
/-! ### a value put at a path -/
end TL
/-! plain Lean over the T-layer, 43: planted documents; the law k09 -/
namespace TL
open PySem PySem.Spec L2
/-! ### the law -/
end TL
/-! plain Lean over the T-layer, 44: papers judged (point 7) -/
namespace TL
open PySem PySem.Spec L2
/-! ### loops by places -/
/-! ### rows of places -/
/-! ### the program's -/
end TL
/-! plain Lean over the T-layer, 45: papers judged by the law's own words (point 7) -/
namespace TL
open PySem PySem.Spec L2
/-! ### is a list -/
/-! ### the law's judge -/
end TL
/-! plain Lean over the T-layer, 46: the law k10 -/
namespace TL
open PySem PySem.Spec L2
/-- rows of places, few -/
def Rws (n m : Nat) (rows : List (List Int)) : Prop := rows.length ≤ n ∧ ∀ r ∈ rows, r.length ≤ m
theorem Rws.mono {n m k j : Nat} {rows : List (List Int)} (h : Rws n m rows) (h1 : n ≤ k) (h2 : m ≤ j) : Rws k j rows := ⟨Nat.le_trans h.1 h1, fun r hr => Nat.le_trans (h.2 r hr) h2⟩
theorem tk {c : Et} {sv B : Sv} {l : Loc} {s : Sh} {nx bk ct : Loc → Sh → Prop} {rt : T → Sh → Prop} (h : c l s = .ok true s) (q : wpF (sv l s) (fun l s => wpF (B l s) nx rt bk ct) rt bk ct) : wpF (sSeq (sIf c sv sNil) B l s) nx rt bk ct := by
  rw [wp_sSeq, wp_sIf, h, wpR_ok, if_pos rfl]
  exact q
/-! ### data -/
/-! ### the law -/
end TL
/-! plain Lean over the T-layer, 47: witnesses, the value grown of values at paths (point 7) -/
namespace TL
open PySem PySem.Spec L2
/-! ### a witness -/
/-! ### copied of a plain value or an empty record -/
/-! ### set comprehensions of texts, dict comprehensions, plainly -/
/-! ### grown -/
end TL
/-! plain Lean over the T-layer, 48: parting (point 7) -/
namespace TL
open PySem PySem.Spec L2
def pthA (xs : List T) : List Str := match xs with
  | _ :: .tup ps :: _ => namesOf ps
  | _ => []
theorem pthA_is (w : Str) (zs : List Str) (vs : List T) : pthA (.str w :: ptT zs :: vs) = zs := namesOf_str zs
end TL
/-! plain Lean over the T-layer, 49: the law k56 -/
namespace TL
open PySem PySem.Spec L2
/-! ### asking, as a relation -/
/-! ### the calls -/
theorem QW.good4 : ∀ {q : List (List (List T))}, (∀ b ∈ q, b.length ≤ 4 ∧ ∀ xs ∈ b, AtomV xs) → ∃ ws, QW q ws ∧ ∀ w ∈ ws.flatten, w = ""
  | [], _ => ⟨[], .nil, fun _ h => by cases h⟩
  | b :: q, h => by
    obtain ⟨ws, h1, h2⟩ := QW.good4 (q := q) fun c hc => h c (List.mem_cons_of_mem _ hc)
    obtain ⟨hl, hb⟩ := h b List.mem_cons_self
    obtain ⟨w0, k1, k2⟩ := BrW.good hb
    refine ⟨w0 :: ws, .cons k1 (by omega) h1, fun w hw => ?_⟩
    rw [List.flatten_cons] at hw
    rcases List.mem_append.mp hw with hw | hw
    · exact k2 w hw
    · exact h2 w hw
theorem QV4.w {q : List (List (List T))} (h : QV4 q) : ∃ ws, QW q ws ∧ qW q ws = "" := by
  obtain ⟨ws, h1, h2⟩ := QW.good4 fun b hb => ⟨(h.2.2 b hb).1.2, (h.2.2 b hb).2⟩
  refine ⟨ws, h1, ?_⟩
  have hf : qForm q = true := by
    unfold qForm
    rw [Bool.and_eq_true, Bool.and_eq_true]
    refine ⟨⟨decide_eq_true (by have := h.1; omega), decide_eq_true (by have := h.2.1; omega)⟩, List.all_eq_true.mpr fun b hb => ?_⟩
    obtain ⟨⟨k1, k2⟩, _⟩ := h.2.2 b hb
    rw [Bool.and_eq_true]
    exact ⟨decide_eq_true (by omega), decide_eq_true (by omega)⟩
  unfold qW
  rw [if_pos hf]
  exact firstW_all.mpr h2
theorem QV4.at {q : List (List (List T))} (h : QV4 q) : ∀ b ∈ q, ∀ a ∈ b, AtomW a "" := fun b hb a ha => ((h.2.2 b hb).2 a ha).w
section
variable {l : Loc} {s : Sh} {fpa fpt : Fn} {ea eb : Ev} {q : List (List (List T))} {as : List (List T)}
theorem AtomV.pth {xs : List T} (h : AtomV xs) : pthA xs ≠ [] ∧ (pthA xs).length < 4 := by
  obtain ⟨w, zs, vs, rfl, _, _, h3, _⟩ := h
  rw [pthA_is]
  exact ⟨fun z => by have := h3.1; rw [z] at this; simp at this, by have := h3.2.1; omega⟩
end
/-! ### the law -/
end TL
/-! plain Lean over the T-layer, 50: the law k11 -/
namespace TL
open PySem PySem.Spec L2
abbrev cs5 : List Str := ["BadAtom", "BadPath", "BadQuestion", "BadStretch", "BadValue"]
/-- the two, and the word of what is wrong with them -/
def Sit (q : List (List (List T))) (as : List (List T)) (w : Str) : Prop := ∃ ws was, QW q ws ∧ q.length ≤ 3 ∧ BrW as was ∧ as.length ≤ 3 ∧ bothW q ws was = w ∧ (∀ b ∈ q, ∀ xs ∈ b, (pthA xs).length < 4) ∧ (w = "" ∨ clsOf w ∈ cs5) ∧ w.length ≤ 1000
def AsS (as : List (List T)) (w : Str) : Prop := ∃ was, BrW as was ∧ as.length ≤ 3 ∧ firstW was = w ∧ (w = "" ∨ clsOf w ∈ cs5) ∧ w.length ≤ 1000
theorem AsS.good {as : List (List T)} (h : ∀ xs ∈ as, AtomV xs) (hl : as.length ≤ 3) : AsS as "" := by
  obtain ⟨was, h1, h2⟩ := BrW.good h
  exact ⟨was, h1, hl, firstW_all.mpr h2, .inl rfl, by decide⟩
theorem Sit.good {q : List (List (List T))} {as : List (List T)} {w : Str} (hq : QV q) (h : AsS as w) : Sit q as w := by
  obtain ⟨was, h1, h2, h3, h4, h5⟩ := h
  obtain ⟨ws, k1, k2⟩ := hq.w
  refine ⟨ws, was, k1, hq.2.1, h1, h2, ?_, fun b hb xs hx => ((hq.2.2 b hb).2 xs hx).pth.2, h4, h5⟩
  unfold bothW
  rw [if_pos k2]
  exact h3
theorem Sit.none {as : List (List T)} {w : Str} (h : AsS as w) : Sit [] as "badquestion" := by
  obtain ⟨was, h1, h2, h3, h4, h5⟩ := h
  exact ⟨[], was, .nil, by simp, h1, h2, rfl, (fun b hb => by cases hb), .inr (by decide +kernel), by decide⟩
/-! ### the law -/
end TL
/-! plain Lean over the T-layer, 51: what is met in a grown document (point 7) -/
namespace TL
open PySem PySem.Spec L2
end TL
/-! plain Lean over the T-layer, 52: views of shared things; papers and documents told as shared ones -/
namespace TL
open PySem PySem.Spec L2
/-! ### views -/
theorem mapO_self {f : T → Option T} : ∀ {xs : List T}, (∀ x ∈ xs, f x = some x) → mapO f id (fun _ y => y) xs = some xs
  | [], _ => rfl
  | x :: xs, h => by
    unfold mapO
    have e1 : f (id x) = some x := h x List.mem_cons_self
    rw [e1, mapO_self fun y hy => h y (List.mem_cons_of_mem _ hy)]
/-! ### records, each value with its view -/
/-! ### grown, its records shared -/
end TL
/-! plain Lean over the T-layer, 53: papers told as shared lists; the law's judges -/
namespace TL
open PySem PySem.Spec L2
end TL
/-! plain Lean over the T-layer, 54: a grown document is a good one, small and not deep -/
namespace TL
open PySem PySem.Spec L2
def szS (ps : List (List Str × T)) : Nat := (ps.map fun p => 2 * p.1.length + 1).sum
end TL
/-! plain Lean over the T-layer, 55: a parting document told as a shared one; the law k08 -/
namespace TL
open PySem PySem.Spec L2
end TL
/-! plain Lean over the T-layer, 56: the law k08 -/
namespace TL
open PySem PySem.Spec L2
/-! ### views of plain trees -/
theorem mapO_selfD {f : T → Option T} : ∀ {xs : List (Key × T)}, (∀ x ∈ xs, f x.2 = some x.2) → mapO f (·.2) (fun (p : Key × T) y => (p.1, y)) xs = some xs
  | [], _ => rfl
  | x :: xs, h => by
    unfold mapO
    have e1 := h x List.mem_cons_self
    rw [e1, mapO_selfD fun y hy => h y (List.mem_cons_of_mem _ hy)]
theorem view_dv (s : Sh) : ∀ (n : Nat) (t : T), DV t → dep t < n → viewT s n t = some t := by
  intro n
  induction n with
  | zero => intro t _ h; exact absurd h (Nat.not_lt_zero _)
  | succ n ih =>
    intro t d h
    cases t with
    | lst xs =>
      unfold viewT
      rw [mapO_self fun x hx => ih x (d.2.mem x hx) (by have := deps_mem hx; have h : deps xs + 1 < n + 1 := h; omega)]
      rfl
    | tup xs =>
      unfold viewT
      rw [mapO_self fun x hx => ih x (d.2.mem x hx) (by have := deps_mem hx; have h : deps xs + 1 < n + 1 := h; omega)]
      rfl
    | dct kvs =>
      unfold viewT
      rw [mapO_selfD fun x hx => ih x.2 (d.2.2.mem x hx).2 (by have := depd_mem hx; have h : depd kvs + 1 < n + 1 := h; omega)]
      rfl
    | cel k => exact d.elim
    | glo x => exact d.elim
    | ty x => exact d.elim
    | scr ns => exact d.elim
    | obj C fs => exact d.elim
    | _ => rfl
theorem viewS_t {s : Sh} {t y : T} (h : viewT s viewN t = some y) : viewS s (.t t) = .t y := by
  show (match viewT s viewN t with | some y => Slot.t y | none => Slot.no) = _
  rw [h]
theorem at_view {s : Sh} {l : Loc} {i : Nat} {t y : T} (e : l.at i = .t t) (h : viewT s viewN t = some y) : (viewL s l).at i = .t y := by
  unfold viewL
  rw [Loc.at_map (viewS s) rfl, e, viewS_t h]
theorem cview_ev {c : Et} {l : Loc} {s : Sh} {b : Bool} (h : c (viewL s l) [] = .ok b []) : cView c l s = .ok b s := by
  unfold cView
  rw [h]
theorem Dr.pos {rest s : Sh} (d : Dr rest s) : 1 ≤ s.length := by
  obtain ⟨ns, a, c, e, rfl, h⟩ := d
  simp
/-! ### the law -/
end TL
/-! plain Lean over the T-layer, 57: all paths of a document (point 4) -/
namespace TL
open PySem PySem.Spec L2
end TL
/-! plain Lean over the T-layer, 58: sorted sets of paths; led, met handed out as shared copies (point 4) -/
namespace TL
open PySem PySem.Spec L2
/-! ### sorted(set(paths)) -/
/-! ### what stands behind shared copies, as a tree -/
/-! ### led, met -/
end TL
/-! plain Lean over the T-layer, 59: the law k03 -/
namespace TL
open PySem PySem.Spec L2
/-! ### the drawing list, the lambda's table, and whatever came -/
def DT (s : Sh) : Prop := ∃ rest, Dr (tabL :: rest) s
theorem dt_of {s s' : Sh} (d : DT s) (h0 : s'[0]? = s[0]?) (h1 : s'[1]? = s[1]?) : DT s' := by
  obtain ⟨rest, ns, a, c, e, rfl, h⟩ := d
  cases s' with
  | nil => simp at h0
  | cons x r => cases r with
    | nil => simp at h1
    | cons y r =>
      have e0 : x = dr ns a c e := by simpa using h0
      have e1 : y = tabL := by simpa using h1
      subst e0 e1
      exact ⟨r, ns, a, c, e, rfl, h⟩
theorem DT.two {s : Sh} (d : DT s) : 2 ≤ s.length := by
  obtain ⟨rest, ns, a, c, e, rfl, h⟩ := d
  simp
theorem DT.gr {s s' : Sh} (d : DT s) (g : Gr s s') : DT s' := dt_of d (g.eq 0 (by have := d.two; omega)) (g.eq 1 (by have := d.two; omega))
theorem DT.ch {s s' : Sh} {lo hi : Nat} (d : DT s) (c : Ch lo hi s s') (h : 2 ≤ lo) : DT s' := dt_of d (c.eq 0 (.inl (by omega))) (c.eq 1 (.inl (by omega)))
theorem DT.set {s : Sh} {k : Nat} (d : DT s) (h : 2 ≤ k) (o : SO) : DT (s.set k o) := dt_of d (by rw [List.getElem?_set_ne (by omega)]) (by rw [List.getElem?_set_ne (by omega)])
theorem DT.tab {s : Sh} (d : DT s) : s[1]? = some tabL := by
  obtain ⟨rest, d⟩ := d
  exact dr_tab d
theorem DT.of {rest s : Sh} (d : Dr (tabL :: rest) s) : DT s := ⟨rest, d⟩
@[simp] theorem wp_eSortSet (a : Ev) {l : Loc} {s : Sh} {R : T → Sh → Prop} : wpR (eSortSet a l s) R = wpR (a l s) fun x s => wpR (opSortSet [x] s) R := by simp [eSortSet]
/-! ### a round -/
end TL
/-! plain Lean over the T-layer, 60: good values drawn (names and texts as they may be) -/
namespace TL
open PySem PySem.Spec L2
structure GV (d : Nat) (t : T) : Prop where
  j : JV d t
  ok : vok t = true
theorem GV.mono {d e : Nat} {t : T} (h : GV d t) (l : d ≤ e) : GV e t := ⟨h.j.mono l, h.ok⟩
theorem vok_lst {xs : List T} (h : vok (.lst xs) = true) : ∀ x ∈ xs, vok x = true := by
  have h' : voks xs = true := h
  rw [voks_all] at h'
  exact List.all_eq_true.mp h'
theorem vok_dct {kvs : List (Key × T)} (h : vok (.dct kvs) = true) : ∀ p ∈ kvs, keyB p.1 = true ∧ vok p.2 = true := fun p hp => by
  have h' : vokd kvs = true := h
  rw [vokd_all] at h'
  have := List.all_eq_true.mp h' p hp
  rw [Bool.and_eq_true] at this
  exact this
theorem nB_is {z : Str} (h : nB z = true) : NameT z := by
  unfold nB at h
  rw [Bool.and_eq_true, Bool.and_eq_true] at h
  exact ⟨of_decide_eq_true h.1, of_decide_eq_true h.2.1, fun c hc => low_abc c (of_decide_eq_true (List.all_eq_true.mp h.2.2 c hc))⟩
theorem GV.lst {d : Nat} {xs : List T} (h : GV d (.lst xs)) : ∀ x ∈ xs, GV (d - 1) x := fun x hx => ⟨h.j.lst x hx, vok_lst h.ok x hx⟩
theorem GV.dct {d : Nat} {kvs : List (Key × T)} (h : GV d (.dct kvs)) : ∀ p ∈ kvs, ∃ z, p.1 = Sum.inr z ∧ NameT z ∧ GV (d - 1) p.2 := fun p hp => by
  obtain ⟨⟨z, e, _⟩, j⟩ := h.j.dct p hp
  obtain ⟨k, o⟩ := vok_dct h.ok p hp
  rw [e] at k
  exact ⟨z, e, nB_is k, j, o⟩
/-! ### what is met in a good value is good -/
end TL
/-! plain Lean over the T-layer, 61: values in their order, each once -/
namespace TL
open PySem PySem.Spec L2
theorem mergeSort_congr {α : Type} {p q : α → α → Bool} (l : List α) (h : ∀ a ∈ l, ∀ b ∈ l, p a b = q a b) : l.mergeSort p = l.mergeSort q := by
  have := List.map_mergeSort (r := p) (s := q) (f := id) (l := l) fun a ha b hb => h a ha b hb
  rwa [List.map_id, List.map_id] at this
end TL
/-! plain Lean over the T-layer, 62: the program's paths; plain values by their ranks as keys (points 4, 8) -/
namespace TL
open PySem PySem.Spec L2
/-! ### all paths, by the program -/
/-! ### plain values as keys -/
end TL
/-! plain Lean over the T-layer, 63: leaves of a document, by the program and by the law (points 4, 8) -/
namespace TL
open PySem PySem.Spec L2
@[simp] theorem wp_eSortSK {l : Loc} {s : Sh} {R : T → Sh → Prop} (vs : List Nat) (it : EvL) (tt : Tgt) (c : Et) (elt : Ev) : wpR (eSortSK vs it tt c elt l s) R = (noOwn l vs = true ∧ wpR (it l s) fun items s => wpR (scompK tt c elt items (wipeL l vs) s []) fun ks s => wpR (endSK ks s) R) := by
  unfold eSortSK
  split
  · rename_i h
    simp [h, wp_noexc]
  · rename_i h; simp [h]
/-! ### sorted({rank(v) for v in plain}) -/
/-! ### the program's leaves -/
end TL
/-! plain Lean over the T-layer, 64: leaves by the law's words; the law k04 -/
namespace TL
open PySem PySem.Spec L2
/-! ### the law -/
end TL
/-! plain Lean over the T-layer, 65: shared copies of nested data, tuples among them (the first part goes along P12) -/
namespace TL
open PySem PySem.Spec L2
mutual
/-- v is the value t, its lists and dicts shared objects from lo to hi, each its own -/
def OwnX (s : Sh) : T → T → Nat → Nat → Prop
  | .lst xs, v, lo, hi => ∃ (k : Nat) (vs : List T), v = .cel k ∧ s[k]? = some (.lst vs) ∧ hi = k + 1 ∧ OwnXs s xs vs lo k
  | .dct kvs, v, lo, hi => ∃ (k : Nat) (ws : List (Key × T)), v = .cel k ∧ s[k]? = some (.dct ws) ∧ hi = k + 1 ∧ OwnXd s kvs ws lo k
  | .tup xs, v, lo, hi => ∃ vs : List T, v = .tup vs ∧ OwnXs s xs vs lo hi
  | t, v, lo, hi => v = t ∧ lo ≤ hi
def OwnXs (s : Sh) : List T → List T → Nat → Nat → Prop
  | [], vs, lo, hi => vs = [] ∧ lo ≤ hi
  | x :: xs, vs, lo, hi => ∃ (y : T) (ys : List T) (m : Nat), vs = y :: ys ∧ OwnX s x y lo m ∧ OwnXs s xs ys m hi
def OwnXd (s : Sh) : List (Key × T) → List (Key × T) → Nat → Nat → Prop
  | [], vs, lo, hi => vs = [] ∧ lo ≤ hi
  | (k, x) :: xs, vs, lo, hi => ∃ (y : T) (ys : List (Key × T)) (m : Nat), vs = (k, y) :: ys ∧ OwnX s x y lo m ∧ OwnXd s xs ys m hi
end
section
variable {s s' : Sh}
mutual
theorem ownx_le : ∀ (t v : T) (lo hi : Nat), OwnX s t v lo hi → lo ≤ hi
  | .lst xs, v, lo, hi, h => by
    rw [OwnX] at h
    obtain ⟨k, vs, _, _, rfl, h⟩ := h
    have := ownxs_le xs vs lo k h
    omega
  | .dct xs, v, lo, hi, h => by
    rw [OwnX] at h
    obtain ⟨k, vs, _, _, rfl, h⟩ := h
    have := ownxd_le xs vs lo k h
    omega
  | .non, _, _, _, h => by simp [OwnX] at h; exact h.2
  | .bl _, _, _, _, h => by simp [OwnX] at h; exact h.2
  | .int _, _, _, _, h => by simp [OwnX] at h; exact h.2
  | .str _, _, _, _, h => by simp [OwnX] at h; exact h.2
  | .tup xs, v, lo, hi, h => by
    rw [OwnX] at h
    obtain ⟨vs, _, h⟩ := h
    exact ownxs_le xs vs lo hi h
  | .cel _, _, _, _, h => by simp [OwnX] at h; exact h.2
  | .glo _, _, _, _, h => by simp [OwnX] at h; exact h.2
  | .ty _, _, _, _, h => by simp [OwnX] at h; exact h.2
  | .scr _, _, _, _, h => by simp [OwnX] at h; exact h.2
  | .obj _ _, _, _, _, h => by simp [OwnX] at h; exact h.2
theorem ownxs_le : ∀ (xs vs : List T) (lo hi : Nat), OwnXs s xs vs lo hi → lo ≤ hi
  | [], _, _, _, h => by rw [OwnXs] at h; exact h.2
  | x :: xs, vs, lo, hi, h => by
    rw [OwnXs] at h
    obtain ⟨y, ys, m, _, h1, h2⟩ := h
    exact Nat.le_trans (ownx_le x y lo m h1) (ownxs_le xs ys m hi h2)
theorem ownxd_le : ∀ (xs vs : List (Key × T)) (lo hi : Nat), OwnXd s xs vs lo hi → lo ≤ hi
  | [], _, _, _, h => by rw [OwnXd] at h; exact h.2
  | (k, x) :: xs, vs, lo, hi, h => by
    rw [OwnXd] at h
    obtain ⟨y, ys, m, _, h1, h2⟩ := h
    exact Nat.le_trans (ownx_le x y lo m h1) (ownxd_le xs ys m hi h2)
end
mutual
theorem ownx_same : ∀ (t v : T) (lo hi : Nat), (∀ j, lo ≤ j → j < hi → s'[j]? = s[j]?) → OwnX s t v lo hi → OwnX s' t v lo hi
  | .lst xs, v, lo, hi, e, h => by
    rw [OwnX] at h ⊢
    obtain ⟨k, vs, h1, h2, rfl, h⟩ := h
    have := ownxs_le xs vs lo k h
    exact ⟨k, vs, h1, (e k this (Nat.lt_succ_self _)).trans h2, rfl, ownxs_same xs vs lo k (fun j a b => e j a (by omega)) h⟩
  | .dct xs, v, lo, hi, e, h => by
    rw [OwnX] at h ⊢
    obtain ⟨k, vs, h1, h2, rfl, h⟩ := h
    have := ownxd_le xs vs lo k h
    exact ⟨k, vs, h1, (e k this (Nat.lt_succ_self _)).trans h2, rfl, ownxd_same xs vs lo k (fun j a b => e j a (by omega)) h⟩
  | .non, _, _, _, _, h => by simpa [OwnX] using h
  | .bl _, _, _, _, _, h => by simpa [OwnX] using h
  | .int _, _, _, _, _, h => by simpa [OwnX] using h
  | .str _, _, _, _, _, h => by simpa [OwnX] using h
  | .tup xs, v, lo, hi, e, h => by
    rw [OwnX] at h ⊢
    obtain ⟨vs, h1, h⟩ := h
    exact ⟨vs, h1, ownxs_same xs vs lo hi e h⟩
  | .cel _, _, _, _, _, h => by simpa [OwnX] using h
  | .glo _, _, _, _, _, h => by simpa [OwnX] using h
  | .ty _, _, _, _, _, h => by simpa [OwnX] using h
  | .scr _, _, _, _, _, h => by simpa [OwnX] using h
  | .obj _ _, _, _, _, _, h => by simpa [OwnX] using h
theorem ownxs_same : ∀ (xs vs : List T) (lo hi : Nat), (∀ j, lo ≤ j → j < hi → s'[j]? = s[j]?) → OwnXs s xs vs lo hi → OwnXs s' xs vs lo hi
  | [], _, _, _, _, h => by rw [OwnXs] at h ⊢; exact h
  | x :: xs, vs, lo, hi, e, h => by
    rw [OwnXs] at h ⊢
    obtain ⟨y, ys, m, h0, h1, h2⟩ := h
    have a := ownx_le x y lo m h1
    have b := ownxs_le xs ys m hi h2
    exact ⟨y, ys, m, h0, ownx_same x y lo m (fun j p q => e j p (by omega)) h1, ownxs_same xs ys m hi (fun j p q => e j (by omega) q) h2⟩
theorem ownxd_same : ∀ (xs vs : List (Key × T)) (lo hi : Nat), (∀ j, lo ≤ j → j < hi → s'[j]? = s[j]?) → OwnXd s xs vs lo hi → OwnXd s' xs vs lo hi
  | [], _, _, _, _, h => by rw [OwnXd] at h ⊢; exact h
  | (k, x) :: xs, vs, lo, hi, e, h => by
    rw [OwnXd] at h ⊢
    obtain ⟨y, ys, m, h0, h1, h2⟩ := h
    have a := ownx_le x y lo m h1
    have b := ownxd_le xs ys m hi h2
    exact ⟨y, ys, m, h0, ownx_same x y lo m (fun j p q => e j p (by omega)) h1, ownxd_same xs ys m hi (fun j p q => e j (by omega) q) h2⟩
end
end
/-- what is new is made of flat things, shared ones, tuples of such -/
def ClN (s s' : Sh) : Prop := ∀ (j : Nat) (o : SO), s.length ≤ j → s'[j]? = some o → closS o = true
theorem ClN.refl (s : Sh) : ClN s s := fun j o h e => by
  rw [List.getElem?_eq_none h] at e
  cases e
theorem ClN.trans {a b c : Sh} (h : ClN a b) (g : Gr b c) (k : ClN b c) : ClN a c := fun j o hj e => by
  by_cases q : j < b.length
  · rw [g.eq j q] at e
    exact h j o hj e
  · exact k j o (by omega) e
theorem ClN.snoc {s : Sh} {o : SO} (h : closS o = true) : ClN s (s ++ [o]) := fun j u hj e => by
  by_cases q : j = s.length
  · subst q
    rw [List.getElem?_append_right (Nat.le_refl _)] at e
    simp at e
    rw [← e]
    exact h
  · rw [List.getElem?_eq_none (by simp; omega)] at e
    cases e
theorem ClN.all {s : Sh} (h : ClN [] s) : s.all closS = true := List.all_eq_true.mpr fun o ho => by
  obtain ⟨j, e⟩ := List.mem_iff_getElem?.mp ho
  exact h j o (Nat.zero_le _) e
mutual
theorem ownx_clos {s : Sh} : ∀ (t v : T) (lo hi : Nat), DV t → OwnX s t v lo hi → closT v = true
  | .lst xs, v, lo, hi, _, h => by
    rw [OwnX] at h
    obtain ⟨k, vs, rfl, _⟩ := h
    rfl
  | .dct xs, v, lo, hi, _, h => by
    rw [OwnX] at h
    obtain ⟨k, vs, rfl, _⟩ := h
    rfl
  | .tup xs, v, lo, hi, d, h => by
    rw [OwnX] at h
    obtain ⟨vs, rfl, h⟩ := h
    rw [closT]
    exact ownxs_clos xs vs lo hi d.2 h
  | .non, _, _, _, _, h => by simp [OwnX] at h; rw [h.1]; rfl
  | .bl _, _, _, _, _, h => by simp [OwnX] at h; rw [h.1]; rfl
  | .int _, _, _, _, _, h => by simp [OwnX] at h; rw [h.1]; rfl
  | .str _, _, _, _, _, h => by simp [OwnX] at h; rw [h.1]; rfl
  | .cel _, _, _, _, d, _ => d.elim
  | .glo _, _, _, _, d, _ => d.elim
  | .ty _, _, _, _, d, _ => d.elim
  | .scr _, _, _, _, d, _ => d.elim
  | .obj _ _, _, _, _, d, _ => d.elim
theorem ownxs_clos {s : Sh} : ∀ (xs vs : List T) (lo hi : Nat), DVs xs → OwnXs s xs vs lo hi → closTs vs = true
  | [], vs, _, _, _, h => by rw [OwnXs] at h; rw [h.1]; rfl
  | x :: xs, vs, lo, hi, d, h => by
    rw [OwnXs] at h
    obtain ⟨y, ys, m, rfl, h1, h2⟩ := h
    rw [closTs, ownx_clos x y lo m d.1 h1, ownxs_clos xs ys m hi d.2 h2]
    rfl
end
theorem ownxd_clos {s : Sh} : ∀ (xs vs : List (Key × T)) (lo hi : Nat), DVd xs → OwnXd s xs vs lo hi → closTd vs = true
  | [], vs, _, _, _, h => by rw [OwnXd] at h; rw [h.1]; rfl
  | (k, x) :: xs, vs, lo, hi, d, h => by
    rw [OwnXd] at h
    obtain ⟨y, ys, m, rfl, h1, h2⟩ := h
    rw [closTd, ownx_clos x y lo m d.2.1 h1, ownxd_clos xs ys m hi d.2.2 h2]
    rfl
/-! ### what is copied shows what it is a copy of -/
theorem ownxs_view {s : Sh} {n : Nat} : ∀ {xs vs : List T} {lo hi : Nat}, (∀ x ∈ xs, ∀ v lo hi, OwnX s x v lo hi → viewT s n v = some x) → OwnXs s xs vs lo hi → mapO (viewT s n) id (fun _ y => y) vs = some xs
  | [], vs, _, _, _, h => by rw [OwnXs] at h; rw [h.1]; rfl
  | x :: xs, vs, lo, hi, ih, h => by
    rw [OwnXs] at h
    obtain ⟨y, ys, m, rfl, h1, h2⟩ := h
    unfold mapO
    have e1 : viewT s n (id y) = some x := ih x (by simp) y lo m h1
    rw [e1, ownxs_view (fun z hz => ih z (by simp [hz])) h2]
theorem ownxd_view {s : Sh} {n : Nat} : ∀ {xs vs : List (Key × T)} {lo hi : Nat}, (∀ p ∈ xs, ∀ v lo hi, OwnX s p.2 v lo hi → viewT s n v = some p.2) → OwnXd s xs vs lo hi → mapO (viewT s n) (·.2) (fun (p : Key × T) y => (p.1, y)) vs = some xs
  | [], vs, _, _, _, h => by rw [OwnXd] at h; rw [h.1]; rfl
  | (k, x) :: xs, vs, lo, hi, ih, h => by
    rw [OwnXd] at h
    obtain ⟨y, ys, m, rfl, h1, h2⟩ := h
    unfold mapO
    have e1 : viewT s n y = some x := ih (k, x) (by simp) y lo m h1
    rw [e1, ownxd_view (fun z hz => ih z (by simp [hz])) h2]
theorem ownx_view (s : Sh) : ∀ (n : Nat) (t v : T) (lo hi : Nat), DV t → dep t < n → OwnX s t v lo hi → viewT s n v = some t := by
  intro n
  induction n with
  | zero => intro t v lo hi _ h; exact absurd h (Nat.not_lt_zero _)
  | succ n ih =>
    intro t v lo hi d h o
    cases t with
    | lst xs =>
      rw [OwnX] at o
      obtain ⟨k, vs, rfl, e, _, o⟩ := o
      have := ownxs_view (s := s) (n := n) (fun x hx v lo hi q => ih x v lo hi (d.2.mem x hx) (by have := deps_mem hx; have h : deps xs + 1 < n + 1 := h; omega) q) o
      unfold viewT
      rw [e]
      show Option.map T.lst _ = _
      rw [this]
      rfl
    | tup xs =>
      rw [OwnX] at o
      obtain ⟨vs, rfl, o⟩ := o
      have := ownxs_view (s := s) (n := n) (fun x hx v lo hi q => ih x v lo hi (d.2.mem x hx) (by have := deps_mem hx; have h : deps xs + 1 < n + 1 := h; omega) q) o
      unfold viewT
      rw [this]
      rfl
    | dct kvs =>
      rw [OwnX] at o
      obtain ⟨k, vs, rfl, e, _, o⟩ := o
      have := ownxd_view (s := s) (n := n) (fun p hp v lo hi q => ih p.2 v lo hi (d.2.2.mem p hp).2 (by have := depd_mem hp; have h : depd kvs + 1 < n + 1 := h; omega) q) o
      unfold viewT
      rw [e]
      show Option.map T.dct _ = _
      rw [this]
      rfl
    | non => simp [OwnX] at o; rw [o.1]; rfl
    | bl _ => simp [OwnX] at o; rw [o.1]; rfl
    | int _ => simp [OwnX] at o; rw [o.1]; rfl
    | str _ => simp [OwnX] at o; rw [o.1]; rfl
    | _ => exact d.elim
/-! ### copied, _law_copy -/
def CopX (n : Nat) (φ : Fn) : Prop := ∀ (t : T) (s : Sh) (Q : T → Sh → Prop), DV t → dep t < n → (∀ v s', Gr s s' → ClN s s' → OwnX s' t v s.length s'.length → Q v s') → wpR (φ [t] s) Q
theorem copx0 (φ : Fn) : CopX 0 φ := fun _ _ _ _ h _ => absurd h (Nat.not_lt_zero _)
section
variable {n : Nat} {φ : Fn}
theorem copx_seq (h : CopX n φ) {x0 x2 : Slot} : ∀ (xs : List T) (s : Sh) (Q : List T → Sh → Prop), (∀ x ∈ xs, DV x ∧ dep x < n) → (∀ vs s', Gr s s' → ClN s s' → vs.length = xs.length → OwnXs s' xs vs s.length s'.length → Q vs s') →
    wpR (compL (.nm 1) cYes (eCall φ (aCons (eVar 1) aNil)) xs [x0, .no, x2] s) Q
  | [], s, Q, _, q => q [] s (Gr.refl _) (ClN.refl _) rfl (by rw [OwnXs]; exact ⟨rfl, Nat.le_refl _⟩)
  | x :: xs, s, Q, hx, q => by
    unfold compL
    simp only [setT, wpR_bind, wp_cYes, if_true, wp_eCall, wp_aCons, wp_aNil, wp_eVar, List.set_cons_succ, List.set_cons_zero, vAt_0, vAt_s]
    obtain ⟨a1, a3⟩ := hx x (by simp)
    refine h x s _ a1 a3 fun y s1 g1 c1 o1 => ?_
    refine copx_seq h xs s1 _ (fun z hz => hx z (by simp [hz])) fun ys s2 g2 c2 l2 o2 => ?_
    refine q (y :: ys) s2 (g1.trans g2) (c1.trans g2 c2) (by rw [List.length_cons, List.length_cons, l2]) ?_
    rw [OwnXs]
    exact ⟨y, ys, s1.length, rfl, ownx_same x y _ _ (fun j _ hj => g2.eq j hj) o1, o2⟩
theorem copx_dct (h : CopX n φ) {full : List (Key × T)} : ∀ (kvs : List (Key × T)) (s : Sh) (acc : List (Key × T)) (Q : List (Key × T) → Sh → Prop), (∀ p ∈ kvs, KeyT p.1 ∧ dgetT full p.1 = some p.2 ∧ DV p.2 ∧ dep p.2 < n) → ((acc ++ kvs).map (·.1)).Nodup → acc.length + kvs.length ≤ 64 →
    (∀ ws s', Gr s s' → ClN s s' → OwnXd s' kvs ws s.length s'.length → Q (acc ++ ws) s') →
    wpR (dcompL (.nm 2) cYes (eVar 2) (eCall φ (aCons (e2 opIx (eVar 0) (eVar 2)) aNil)) (kvs.map fun p => keyT p.1) [.t (.dct full), .no, .no] s acc) Q
  | [], s, acc, Q, _, _, _, q => by
    have := q [] s (Gr.refl _) (ClN.refl _) (by rw [OwnXd]; exact ⟨rfl, Nat.le_refl _⟩)
    rw [List.append_nil] at this
    exact this
  | (k, x) :: kvs, s, acc, Q, hx, nd, hl, q => by
    obtain ⟨⟨z, ez, _⟩, a0, a1, a3⟩ := hx (k, x) (by simp)
    simp only at ez a0 a1 a3
    subst ez
    rw [List.map_cons]
    unfold dcompL
    simp only [setT, wpR_bind, wp_cYes, if_true, wp_eVar, List.set_cons_succ, List.set_cons_zero, vAt_0, vAt_s, keyT, keyOf]
    have hlt : acc.length < sizeLine := Nat.lt_of_lt_of_le (show acc.length < 64 by rw [List.length_cons] at hl; omega) (by decide)
    rw [if_pos hlt]
    simp only [wpR_bind, wp_eCall, wp_aCons, wp_aNil, wp_e2, wp_eVar, vAt_0, vAt_s, p_ixD]
    refine ⟨x, a0, ?_⟩
    refine h x s _ a1 a3 fun y s1 g1 c1 o1 => ?_
    have fresh : (acc.any fun kv => decide (kv.1 = (Sum.inr z : Key))) = false := by
      rw [List.any_eq_false]
      intro p hp e
      have e := of_decide_eq_true e
      rw [List.map_append, List.nodup_append] at nd
      exact nd.2.2 p.1 (List.mem_map.mpr ⟨p, hp, rfl⟩) (Sum.inr z) (by simp) e
    have e1 : dputT acc (Sum.inr z) y = acc ++ [(Sum.inr z, y)] := by
      unfold dputT
      rw [fresh]
      simp
    rw [e1]
    refine copx_dct h kvs s1 _ _ (fun p hp => hx p (by simp [hp])) (by simpa using nd) (by simp at hl ⊢; omega) fun ws s2 g2 c2 o2 => ?_
    have := q ((Sum.inr z, y) :: ws) s2 (g1.trans g2) (c1.trans g2 c2) (by
      rw [OwnXd]
      exact ⟨y, ws, s1.length, rfl, ownx_same x y _ _ (fun j _ hj => g2.eq j hj) o1, o2⟩)
    simpa using this
theorem copx_end {s : Sh} {Q : T → Sh → Prop} {xs vs : List T} {s1 : Sh} (d : DVs xs) (g1 : Gr s s1) (c1 : ClN s s1) (o1 : OwnXs s1 xs vs s.length s1.length) (q : ∀ v s', Gr s s' → ClN s s' → OwnX s' (.lst xs) v s.length s'.length → Q v s') : Q (.cel s1.length) (s1 ++ [.lst vs]) := by
  refine q _ _ (g1.trans (Gr.snoc _ _)) (c1.trans (Gr.snoc _ _) (ClN.snoc (ownxs_clos xs vs _ _ d o1))) ?_
  rw [OwnX]
  exact ⟨s1.length, vs, rfl, by simp, by simp, ownxs_same xs vs _ _ (fun j _ hj => List.getElem?_append_left hj) o1⟩
theorem copx_endD {s : Sh} {Q : T → Sh → Prop} {xs vs : List (Key × T)} {s1 : Sh} (d : DVd xs) (g1 : Gr s s1) (c1 : ClN s s1) (o1 : OwnXd s1 xs vs s.length s1.length) (q : ∀ v s', Gr s s' → ClN s s' → OwnX s' (.dct xs) v s.length s'.length → Q v s') : Q (.cel s1.length) (s1 ++ [.dct vs]) := by
  refine q _ _ (g1.trans (Gr.snoc _ _)) (c1.trans (Gr.snoc _ _) (ClN.snoc (ownxd_clos xs vs _ _ d o1))) ?_
  rw [OwnX]
  exact ⟨s1.length, vs, rfl, by simp, by simp, ownxd_same xs vs _ _ (fun j _ hj => List.getElem?_append_left hj) o1⟩
theorem copx_step (h : CopX n φ) : CopX (n + 1) (runB0 false 3 (b_copied_s φ)) := by
  intro t s Q d hd q
  have atom : OwnX s t t s.length s.length → Q t s := fun o => q t s (Gr.refl _) (ClN.refl _) o
  cases t with
  | lst xs =>
    simp [b_copied_s, st1, isTy, List.replicate, noOwn, wipeL, itemsN]
    refine copx_seq h xs s _ (fun x hx => ⟨d.2.mem x hx, by have := deps_mem hx; unfold dep at hd; omega⟩) fun vs s1 g1 c1 l1 o1 => ?_
    exact ⟨by rw [l1]; exact len_size d.1, copx_end d.2 g1 c1 o1 q⟩
  | tup xs =>
    simp [b_copied_s, st1, isTy, List.replicate, noOwn, wipeL, itemsN]
    refine copx_seq h xs s _ (fun x hx => ⟨d.2.mem x hx, by have := deps_mem hx; unfold dep at hd; omega⟩) fun vs s1 g1 c1 l1 o1 => ?_
    refine ⟨by rw [l1]; exact len_size d.1, ?_⟩
    refine q _ _ g1 c1 ?_
    rw [OwnX]
    exact ⟨vs, rfl, o1⟩
  | dct kvs =>
    obtain ⟨d1, d2, d3⟩ := d
    simp [b_copied_s, st1, isTy, List.replicate, noOwn, wipeL, itemsN]
    refine copx_dct h kvs s [] _ (fun p hp => ⟨(d3.mem p hp).1, dget_mem d2 hp, (d3.mem p hp).2, by have := depd_mem hp; unfold dep at hd; omega⟩) (by simpa using d2) (by simp; omega) fun ws s1 g1 c1 o1 => ?_
    exact copx_endD d3 g1 c1 o1 q
  | non => simp [b_copied_s, st1, isTy]; exact atom (by simp [OwnX])
  | bl i => simp [b_copied_s, st1, isTy]; exact atom (by simp [OwnX])
  | int i => simp [b_copied_s, st1, isTy]; exact atom (by simp [OwnX])
  | str i => simp [b_copied_s, st1, isTy]; exact atom (by simp [OwnX])
  | _ => exact d.elim
end
end TL
/-! plain Lean over the T-layer, 66: _law_copy handing back shared copies; _law_wreck of data with tuples (goes along P13) -/
namespace TL
open PySem PySem.Spec L2
section
variable {n : Nat} {φ : Fn}
theorem lcopx_seq (h : CopX n φ) {full : List (Key × T)} : ∀ (kvs : List (Key × T)) (s : Sh) (Q : List T → Sh → Prop), (∀ p ∈ kvs, KeyT p.1 ∧ dgetT full p.1 = some p.2 ∧ DV p.2 ∧ dep p.2 < n) →
    (∀ ws s', Gr s s' → ClN s s' → OwnXd s' kvs ws s.length s'.length → Q (ws.map fun p => T.tup [keyT p.1, p.2]) s') →
    wpR (compL (.nm 2) cYes (eA dTup (aCons (eVar 2) (aCons (eCall φ (aCons (e2 opIx (eVar 0) (eVar 2)) aNil)) aNil))) (kvs.map fun p => keyT p.1) [.t (.dct full), .no, .no] s) Q
  | [], s, Q, _, q => q [] s (Gr.refl _) (ClN.refl _) (by rw [OwnXd]; exact ⟨rfl, Nat.le_refl _⟩)
  | (k, x) :: kvs, s, Q, hx, q => by
    obtain ⟨⟨z, ez, _⟩, a0, a1, a3⟩ := hx (k, x) (by simp)
    simp only at ez a0 a1 a3
    subst ez
    rw [List.map_cons]
    unfold compL
    simp only [setT, wpR_bind, wp_cYes, if_true, wp_eA, wp_aCons, wp_aNil, wp_eVar, wp_eCall, wp_e2, List.set_cons_succ, List.set_cons_zero, vAt_0, vAt_s, keyT, p_ixD]
    refine ⟨x, a0, ?_⟩
    refine h x s _ a1 a3 fun y s1 g1 c1 o1 => ?_
    have h2 : (2 : Nat) ≤ sizeLine := by decide
    show wpR (if [T.str z, y].length ≤ sizeLine then Res.ok (T.tup [T.str z, y]) s1 else .bad) _
    rw [if_pos (by simpa using h2)]
    show wpR (compL _ _ _ _ _ _) _
    refine lcopx_seq h kvs s1 _ (fun p hp => hx p (by simp [hp])) fun ws s2 g2 c2 o2 => ?_
    have := q ((Sum.inr z, y) :: ws) s2 (g1.trans g2) (c1.trans g2 c2) (by
      rw [OwnXd]
      exact ⟨y, ws, s1.length, rfl, ownx_same x y _ _ (fun j _ hj => g2.eq j hj) o1, o2⟩)
    simpa [keyT] using this
theorem ownxd_keyT {s : Sh} : ∀ {xs vs : List (Key × T)} {lo hi : Nat}, OwnXd s xs vs lo hi → vs.map (·.1) = xs.map (·.1)
  | [], vs, _, _, h => by rw [OwnXd] at h; rw [h.1]
  | (k, x) :: xs, vs, lo, hi, h => by
    rw [OwnXd] at h
    obtain ⟨y, ys, m, rfl, h1, h2⟩ := h
    rw [List.map_cons, List.map_cons, ownxd_keyT h2]
theorem pairs_keys : ∀ {kvs : List (Key × T)}, (∀ p ∈ kvs, KeyT p.1) → pairsOf (kvs.map fun p => T.tup [keyT p.1, p.2]) = some kvs
  | [], _ => rfl
  | (k, x) :: r, h => by
    obtain ⟨z, e, _⟩ := h (k, x) (by simp)
    simp only at e
    subst e
    rw [List.map_cons]
    unfold pairsOf
    rw [pairs_keys fun p hp => h p (by simp [hp])]
    rfl
theorem lcopx_step (h : CopX n φ) : CopX (n + 1) (runB0 false 3 (b__law_copy_s φ)) := by
  intro t s Q d hd q
  have atom : OwnX s t t s.length s.length → Q t s := fun o => q t s (Gr.refl _) (ClN.refl _) o
  cases t with
  | lst xs =>
    simp [b__law_copy_s, st1, isTy, List.replicate, noOwn, wipeL, itemsN]
    refine copx_seq h xs s _ (fun x hx => ⟨d.2.mem x hx, by have := deps_mem hx; unfold dep at hd; omega⟩) fun vs s1 g1 c1 l1 o1 => ?_
    exact ⟨by rw [l1]; exact len_size d.1, copx_end d.2 g1 c1 o1 q⟩
  | tup xs =>
    simp [b__law_copy_s, st1, isTy, List.replicate, noOwn, wipeL, itemsN]
    refine copx_seq h xs s _ (fun x hx => ⟨d.2.mem x hx, by have := deps_mem hx; unfold dep at hd; omega⟩) fun vs s1 g1 c1 l1 o1 => ?_
    refine ⟨by rw [l1]; exact len_size d.1, ?_⟩
    refine q _ _ g1 c1 ?_
    rw [OwnX]
    exact ⟨vs, rfl, o1⟩
  | dct kvs =>
    obtain ⟨d1, d2, d3⟩ := d
    simp [b__law_copy_s, st1, isTy, List.replicate, noOwn, wipeL, itemsN]
    refine lcopx_seq h kvs s _ (fun p hp => ⟨(d3.mem p hp).1, dget_mem d2 hp, (d3.mem p hp).2, by have := depd_mem hp; unfold dep at hd; omega⟩) fun ws s1 g1 c1 o1 => ?_
    have kk := ownxd_keyT o1
    have hl : ws.length = kvs.length := by have := congrArg List.length kk; simpa using this
    have hK : ∀ p ∈ ws, KeyT p.1 := fun p hp => by
      have : p.1 ∈ kvs.map (·.1) := by rw [← kk]; exact List.mem_map.mpr ⟨p, hp, rfl⟩
      obtain ⟨p', hp', e⟩ := List.mem_map.mp this
      rw [← e]
      exact (d3.mem p' hp').1
    refine ⟨by simp only [List.length_map, hl]; exact len_size64 d1, ?_⟩
    show wpR (match pairsOf (ws.map fun (p : Key × T) => T.tup [keyT p.1, p.2]) with | some kvs => (Res.ok (T.dct (mergeT [] kvs)) s1 : Res T) | none => .bad) (fun x s => wpR (shareT x s) Q)
    rw [pairs_keys hK]
    show wpR (shareT (.dct (mergeT [] ws)) s1) Q
    rw [merge_new (acc := []) (by rw [List.nil_append, kk]; exact d2), List.nil_append]
    exact copx_endD d3 g1 c1 o1 q
  | non => simp [b__law_copy_s, st1, isTy]; exact atom (by simp [OwnX])
  | bl i => simp [b__law_copy_s, st1, isTy]; exact atom (by simp [OwnX])
  | int i => simp [b__law_copy_s, st1, isTy]; exact atom (by simp [OwnX])
  | str i => simp [b__law_copy_s, st1, isTy]; exact atom (by simp [OwnX])
  | _ => exact d.elim
end
theorem ownxs_len {s : Sh} : ∀ {xs vs : List T} {lo hi : Nat}, OwnXs s xs vs lo hi → vs.length = xs.length
  | [], vs, _, _, h => by rw [OwnXs] at h; rw [h.1]
  | x :: xs, vs, lo, hi, h => by
    rw [OwnXs] at h
    obtain ⟨y, ys, m, rfl, h1, h2⟩ := h
    rw [List.length_cons, List.length_cons, ownxs_len h2]
theorem ownxd_keys {s : Sh} : ∀ {xs vs : List (Key × T)} {lo hi : Nat}, OwnXd s xs vs lo hi → keyStrs vs = keyStrs xs ∧ vs.length = xs.length
  | [], vs, _, _, h => by rw [OwnXd] at h; rw [h.1]; exact ⟨rfl, rfl⟩
  | (k, x) :: xs, vs, lo, hi, h => by
    rw [OwnXd] at h
    obtain ⟨y, ys, m, rfl, h1, h2⟩ := h
    obtain ⟨q1, q2⟩ := ownxd_keys h2
    cases k with
    | inl i => exact ⟨rfl, by rw [List.length_cons, List.length_cons, q2]⟩
    | inr z => exact ⟨by simp [keyStrs, q1], by rw [List.length_cons, List.length_cons, q2]⟩
def WreckX (n : Nat) (φ : Fn) : Prop := ∀ (t v : T) (lo hi : Nat) (s : Sh) (Q : T → Sh → Prop), OwnX s t v lo hi → DV t → dep t < n → (∀ r s', Ch lo hi s s' → Q r s') → wpR (φ [v] s) Q
theorem wreckx0 (φ : Fn) : WreckX 0 φ := fun _ _ _ _ _ _ _ _ h _ => absurd h (Nat.not_lt_zero _)
section
variable {n : Nat} {φ : Fn} {nx bk ct : Loc → Sh → Prop} {rt : T → Sh → Prop}
theorem wreckx_seq (h : WreckX n φ) {k : Nat} {all : List T} : ∀ (xs vs : List T) (lo : Nat) (s : Sh) (x1 x2 : Slot), OwnXs s xs vs lo k → s[k]? = some (.lst all) → (∀ x ∈ xs, DV x ∧ dep x < n) → (∀ x1 x2 s', Ch lo k s s' → nx [.t (.cel k), x1, x2] s') →
    wpF (forC (.nm 1) (sDrop (eCall φ (aCons (eVar 1) aNil))) k all vs [.t (.cel k), x1, x2] s) nx rt bk ct
  | [], vs, lo, s, x1, x2, o, hs, _, q => by
    rw [OwnXs] at o
    obtain ⟨rfl, _⟩ := o
    unfold forC
    rw [if_pos hs]
    exact q _ _ _ (Ch.refl _ _ _)
  | x :: xs, vs, lo, s, x1, x2, o, hs, hx, q => by
    rw [OwnXs] at o
    obtain ⟨y, ys, m, rfl, o1, o2⟩ := o
    have m1 := ownx_le x y lo m o1
    have m2 := ownxs_le xs ys m k o2
    unfold forC
    rw [if_pos hs]
    simp only [setT, List.set_cons_succ, List.set_cons_zero]
    obtain ⟨a1, a3⟩ := hx x (by simp)
    have step : wpR (φ [y] s) fun r s1 => wpF (forC (.nm 1) (sDrop (eCall φ (aCons (eVar 1) aNil))) k all ys [.t (.cel k), .t y, x2] s1) nx rt bk ct := by
      refine h x y lo m s _ o1 a1 a3 fun r s1 c1 => ?_
      exact wreckx_seq h xs ys m s1 _ _ (ownxs_same xs ys m k (fun j p _ => c1.eq j (.inr p)) o2) ((c1.eq k (.inr m2)).trans hs) (fun z hz => hx z (by simp [hz])) fun x1 x2 s2 c2 => q _ _ _ ((c1.mono (Nat.le_refl _) m2).trans (c2.mono m1 (Nat.le_refl _)))
    have e : sDrop (eCall φ (aCons (eVar 1) aNil)) [.t (.cel k), .t y, x2] s = match φ [y] s with
      | .ok _ s1 => .nx [.t (.cel k), .t y, x2] s1
      | .exc e s1 => .exc e [.t (.cel k), .t y, x2] s1
      | .bad => .bad := by
      show sDrop _ _ _ = _
      unfold sDrop sE eCall aCons aNil eVar
      simp only [at_s, at_0, Res.bind_ok]
      cases φ [y] s <;> rfl
    rw [e]
    cases eq : φ [y] s with
    | ok r s1 => rw [eq] at step; exact step
    | exc e s1 => rw [eq] at step; exact step.elim
    | bad => rw [eq] at step; exact step.elim
/-- each name's objects -/
theorem ownxd_parts {s : Sh} : ∀ (kvs ws : List (Key × T)) (lo hi : Nat), OwnXd s kvs ws lo hi → (kvs.map (·.1)).Nodup → ∃ a b : Key → Nat, (∀ p ∈ kvs, ∃ y, dgetT ws p.1 = some y ∧ OwnX s p.2 y (a p.1) (b p.1) ∧ lo ≤ a p.1 ∧ b p.1 ≤ hi) ∧ ∀ p ∈ kvs, ∀ q ∈ kvs, p.1 ≠ q.1 → b p.1 ≤ a q.1 ∨ b q.1 ≤ a p.1
  | [], ws, lo, hi, _, _ => ⟨fun _ => 0, fun _ => 0, fun p hp => (by cases hp), fun p hp => (by cases hp)⟩
  | (k, x) :: kvs, ws, lo, hi, o, nd => by
    rw [OwnXd] at o
    obtain ⟨y, ys, m, rfl, o1, o2⟩ := o
    have m1 := ownx_le x y lo m o1
    have m2 := ownxd_le kvs ys m hi o2
    rw [List.map_cons, List.nodup_cons] at nd
    obtain ⟨a, b, h1, h2⟩ := ownxd_parts kvs ys m hi o2 nd.2
    have ne : ∀ p ∈ kvs, p.1 ≠ k := fun p hp e => nd.1 (List.mem_map.mpr ⟨p, hp, e⟩)
    refine ⟨fun j => if j = k then lo else a j, fun j => if j = k then m else b j, fun p hp => ?_, fun p hp q hq hne => ?_⟩
    · rcases List.mem_cons.mp hp with rfl | hp
      · exact ⟨y, by simp [dgetT], by simpa using o1, by simp, by simpa using m2⟩
      · obtain ⟨z, g, q1, q2, q3⟩ := h1 p hp
        have e := ne p hp
        have e2 : dgetT ((k, y) :: ys) p.1 = dgetT ys p.1 := by simp [dgetT, Ne.symm e]
        simp only [if_neg e]
        exact ⟨z, e2.trans g, q1, Nat.le_trans m1 q2, q3⟩
    · rcases List.mem_cons.mp hp with rfl | hp
      · rcases List.mem_cons.mp hq with rfl | hq
        · exact absurd rfl hne
        · have e := ne q hq
          simp only [if_neg e, if_true]
          obtain ⟨z, g, q1, q2, q3⟩ := h1 q hq
          exact .inl q2
      · have e := ne p hp
        rcases List.mem_cons.mp hq with rfl | hq
        · simp only [if_neg e, if_true]
          obtain ⟨z, g, q1, q2, q3⟩ := h1 p hp
          exact .inr q2
        · have e' := ne q hq
          simp only [if_neg e, if_neg e']
          exact h2 p hp q hq hne
theorem wreckx_names (h : WreckX n φ) {s0 : Sh} {k lo : Nat} {kvs ws : List (Key × T)} {a b : Key → Nat} (hk : s0[k]? = some (.dct ws))
    (h1 : ∀ p ∈ kvs, ∃ y, dgetT ws p.1 = some y ∧ OwnX s0 p.2 y (a p.1) (b p.1) ∧ lo ≤ a p.1 ∧ b p.1 ≤ k) (h2 : ∀ p ∈ kvs, ∀ q ∈ kvs, p.1 ≠ q.1 → b p.1 ≤ a q.1 ∨ b q.1 ≤ a p.1) (hx : ∀ p ∈ kvs, DV p.2 ∧ dep p.2 < n) :
    ∀ (zs : List Str) (s : Sh) (x1 x2 : Slot), (∀ z ∈ zs, ∃ p ∈ kvs, p.1 = Sum.inr z) → zs.Nodup → Ch lo k s0 s → (∀ z ∈ zs, ∀ j, a (.inr z) ≤ j → j < b (.inr z) → s[j]? = s0[j]?) → (∀ x1 x2 s', Ch lo k s0 s' → nx [.t (.cel k), x1, x2] s') →
    wpF (forL (.nm 2) (sDrop (eCall φ (aCons (e2 opIx (eVar 0) (eVar 2)) aNil))) (zs.map T.str) [.t (.cel k), x1, x2] s) nx rt bk ct
  | [], s, x1, x2, _, _, c, _, q => by
    unfold forL
    exact q _ _ _ c
  | z :: zs, s, x1, x2, hz, nd, c, hs, q => by
    rw [List.map_cons]
    unfold forL
    simp only [setT, List.set_cons_succ, List.set_cons_zero]
    obtain ⟨p, hp, ep⟩ := hz z (by simp)
    obtain ⟨y, g, o, l1, l2⟩ := h1 p hp
    rw [ep] at g o l1 l2
    have hks : s[k]? = some (.dct ws) := (c.eq k (.inr (Nat.le_refl _))).trans hk
    have o' : OwnX s p.2 y (a (.inr z)) (b (.inr z)) := ownx_same p.2 y _ _ (fun j q1 q2 => hs z (by simp) j q1 q2) o
    obtain ⟨a1, a3⟩ := hx p hp
    rw [List.nodup_cons] at nd
    have step : wpR (φ [y] s) fun r s1 => wpF (forL (.nm 2) (sDrop (eCall φ (aCons (e2 opIx (eVar 0) (eVar 2)) aNil))) (zs.map T.str) [.t (.cel k), x1, .t (.str z)] s1) nx rt bk ct := by
      refine h p.2 y _ _ s _ o' a1 a3 fun r s1 c1 => ?_
      refine wreckx_names h hk h1 h2 hx zs s1 _ _ (fun w hw => hz w (by simp [hw])) nd.2 (c.trans (c1.mono l1 l2)) (fun w hw j q1 q2 => ?_) q
      obtain ⟨p', hp', ep'⟩ := hz w (by simp [hw])
      have ne : p.1 ≠ p'.1 := by
        rw [ep, ep']
        intro e
        exact nd.1 ((Sum.inr.inj e) ▸ hw)
      have := h2 p hp p' hp' ne
      rw [ep, ep'] at this
      rw [c1.eq j (by omega)]
      exact hs w (by simp [hw]) j q1 q2
    have e : sDrop (eCall φ (aCons (e2 opIx (eVar 0) (eVar 2)) aNil)) [.t (.cel k), x1, .t (.str z)] s = match φ [y] s with
      | .ok _ s1 => .nx [.t (.cel k), x1, .t (.str z)] s1
      | .exc e s1 => .exc e [.t (.cel k), x1, .t (.str z)] s1
      | .bad => .bad := by
      unfold sDrop sE eCall aCons aNil e2 eVar
      simp only [at_s, at_0, Res.bind_ok, ix_name (.inr ⟨k, rfl, hks⟩) g]
      cases φ [y] s <;> rfl
    rw [e]
    cases eq : φ [y] s with
    | ok r s1 => rw [eq] at step; exact step
    | exc e s1 => rw [eq] at step; exact step.elim
    | bad => rw [eq] at step; exact step.elim
theorem wreckx_seqT (h : WreckX n φ) {x0 : Slot} : ∀ (xs vs : List T) (lo hi : Nat) (s : Sh) (x1 x2 : Slot), OwnXs s xs vs lo hi → (∀ x ∈ xs, DV x ∧ dep x < n) → (∀ x1 x2 s', Ch lo hi s s' → nx [x0, x1, x2] s') →
    wpF (forL (.nm 1) (sDrop (eCall φ (aCons (eVar 1) aNil))) vs [x0, x1, x2] s) nx rt bk ct
  | [], vs, lo, hi, s, x1, x2, o, _, q => by
    rw [OwnXs] at o
    obtain ⟨rfl, _⟩ := o
    unfold forL
    exact q _ _ _ (Ch.refl _ _ _)
  | x :: xs, vs, lo, hi, s, x1, x2, o, hx, q => by
    rw [OwnXs] at o
    obtain ⟨y, ys, m, rfl, o1, o2⟩ := o
    have m1 := ownx_le x y lo m o1
    have m2 := ownxs_le xs ys m hi o2
    unfold forL
    simp only [setT, List.set_cons_succ, List.set_cons_zero]
    obtain ⟨a1, a3⟩ := hx x (by simp)
    have step : wpR (φ [y] s) fun r s1 => wpF (forL (.nm 1) (sDrop (eCall φ (aCons (eVar 1) aNil))) ys [x0, .t y, x2] s1) nx rt bk ct := by
      refine h x y lo m s _ o1 a1 a3 fun r s1 c1 => ?_
      exact wreckx_seqT h xs ys m hi s1 _ _ (ownxs_same xs ys m hi (fun j p _ => c1.eq j (.inr p)) o2) (fun z hz => hx z (by simp [hz])) fun x1 x2 s2 c2 => q _ _ _ ((c1.mono (Nat.le_refl _) m2).trans (c2.mono m1 (Nat.le_refl _)))
    have e : sDrop (eCall φ (aCons (eVar 1) aNil)) [x0, .t y, x2] s = match φ [y] s with
      | .ok _ s1 => .nx [x0, .t y, x2] s1
      | .exc e s1 => .exc e [x0, .t y, x2] s1
      | .bad => .bad := by
      show sDrop _ _ _ = _
      unfold sDrop sE eCall aCons aNil eVar
      simp only [at_s, at_0, Res.bind_ok]
      cases φ [y] s <;> rfl
    rw [e]
    cases eq : φ [y] s with
    | ok r s1 => rw [eq] at step; exact step
    | exc e s1 => rw [eq] at step; exact step.elim
    | bad => rw [eq] at step; exact step.elim
theorem wreckx_step (h : WreckX n φ) : WreckX (n + 1) (runB0 false 3 (b__law_wreck_s φ)) := by
  intro t v lo hi s Q o d hd q
  cases t with
  | lst xs =>
    have o' := o
    rw [OwnX] at o
    obtain ⟨k, vs, rfl, hs, rfl, o⟩ := o
    have hl : vs.length ≤ 100000 := by rw [ownxs_len o]; exact d.1
    have lo_k := ownxs_le xs vs lo k o
    have ty : tyName (.cel k) s = some "list" := by simp [tyName, hs]
    rw [wp_runB0, b__law_wreck_s, st1, wp_sIf]
    simp only [wp_eT, wp_eA, wp_aCons, wp_aNil, wp_eVar, wp_eC, vAt_0, p_isI, ty, Option.some.injEq, exists_eq_left', kn_list, true_and, truB_bl, wpR_ok, List.replicate]
    have e1 : isTy "list" "list" = true := by decide
    rw [e1, if_pos rfl]
    simp only [wp_sSeq]
    rw [wp_forC_cel rfl hs]
    refine wreckx_seq h xs vs lo s _ _ o hs (fun x hx => ⟨d.2.mem x hx, by have := deps_mem hx; unfold dep at hd; omega⟩) fun x1 x2 s1 c1 => ?_
    have hs1 : s1[k]? = some (.lst vs) := (c1.eq k (.inr (Nat.le_refl _))).trans hs
    have kl : k < s1.length := by
      rcases Nat.lt_or_ge k s1.length with h | h
      · exact h
      · rw [List.getElem?_eq_none h] at hs1; cases hs1
    rw [wp_sMth]
    refine ⟨slotLst_cel rfl hs1, ?_⟩
    simp only [wp_aCons, wp_aNil, wp_eC]
    refine mth_cel (t' := .lst (vs ++ [T.int 0])) rfl hs1 (by show (if vs.length < sizeLine then _ else _) = _; rw [if_pos (Nat.lt_of_le_of_lt hl (by decide))]) ?_
    have hs2 : (s1.set k (tSo (.lst (vs ++ [T.int 0]))))[k]? = some (.lst (vs ++ [T.int 0])) := by
      rw [List.getElem?_set_self kl]
      rfl
    rw [wp_sMth]
    refine ⟨slotLst_cel rfl hs2, ?_⟩
    simp only [wp_aNil]
    refine mth_cel (t' := .lst (vs ++ [T.int 0]).reverse) rfl hs2 rfl ?_
    refine q _ _ ?_
    exact ((c1.mono (Nat.le_refl _) (Nat.le_succ _)).trans (Ch.set lo_k (Nat.lt_succ_self _))).trans (Ch.set lo_k (Nat.lt_succ_self _))
  | dct kvs =>
    obtain ⟨d1, d2, d3⟩ := d
    rw [OwnX] at o
    obtain ⟨k, ws, rfl, hs, rfl, o⟩ := o
    have lo_k := ownxd_le kvs ws lo k o
    obtain ⟨ks, ek⟩ := keyStrs_of d3
    have vw := ownxd_keys o
    have ew : keyStrs ws = some ks := by rw [vw.1, ek]
    have hl : ks.length < 64 := by rw [keyStrs_len ek]; exact d1
    have ty : tyName (.cel k) s = some "dict" := by simp [tyName, hs]
    obtain ⟨a, b, p1, p2⟩ := ownxd_parts kvs ws lo k o d2
    have nd : (sortS ks).Nodup := by
      have := keyStrs_map ek
      rw [this] at d2
      have : ks.Nodup := by
        rw [List.nodup_iff_pairwise_ne, List.pairwise_map] at d2
        exact d2.imp fun h e => h (by rw [e])
      exact (List.mergeSort_perm ks lebS).nodup_iff.mpr this
    rw [wp_runB0, b__law_wreck_s, st1, wp_sIf]
    simp only [wp_eT, wp_eA, wp_aCons, wp_aNil, wp_eVar, wp_eC, vAt_0, p_isI, ty, Option.some.injEq, exists_eq_left', kn_list, true_and, truB_bl, wpR_ok, List.replicate]
    have e1 : isTy "dict" "list" = false := by decide
    have e2 : isTy "dict" "tuple" = false := by decide
    have e3 : isTy "dict" "dict" = true := by decide
    rw [e1]
    simp only [Bool.false_eq_true, if_false, wp_sIf, wp_eT, wp_eA, wp_aCons, wp_aNil, wp_eVar, wp_eC, vAt_0, p_isI, ty, Option.some.injEq, exists_eq_left', kn_tuple, kn_dict, true_and, truB_bl, wpR_ok, e2, e3, if_true]
    rw [wp_sSeq, wp_sFor]
    simp only [wp_itV, wp_eA, wp_aCons, wp_aNil, wp_eVar, vAt_0, sortC_is (.inr ⟨k, rfl, hs⟩) ew hl, wpR_ok, itemsT]
    refine wreckx_names h hs p1 p2 (fun p hp => ⟨(d3.mem p hp).2, by have := depd_mem hp; unfold dep at hd; omega⟩) (sortS ks) s _ _ (fun z hz => ?_) nd (Ch.refl _ _ _) (fun _ _ _ _ _ => rfl) fun x1 x2 s1 c1 => ?_
    · exact keyStrs_mem ek (sort_mem hz)
    · have hs1 : s1[k]? = some (.dct ws) := (c1.eq k (.inr (Nat.le_refl _))).trans hs
      simp only [wp_sPut, wp_eC, at_0, slotMut_c, true_and]
      refine put_cel rfl hs1 (Nat.lt_of_lt_of_le (show ws.length < 64 by rw [vw.2]; exact d1) (by decide)) (q _ _ ?_)
      exact (c1.mono (Nat.le_refl _) (Nat.le_succ _)).trans (Ch.set lo_k (Nat.lt_succ_self _))
  | tup xs =>
    rw [OwnX] at o
    obtain ⟨vs, rfl, o⟩ := o
    rw [wp_runB0, b__law_wreck_s, st1, wp_sIf]
    simp only [wp_eT, wp_eA, wp_aCons, wp_aNil, wp_eVar, wp_eC, vAt_0, p_isI, tyName, Option.some.injEq, exists_eq_left', kn_list, true_and, truB_bl, wpR_ok, List.replicate]
    have e1 : isTy "tuple" "list" = false := by decide
    have e2 : isTy "tuple" "tuple" = true := by decide
    rw [e1]
    simp only [Bool.false_eq_true, if_false, wp_sIf, wp_eT, wp_eA, wp_aCons, wp_aNil, wp_eVar, wp_eC, vAt_0, p_isI, tyName, Option.some.injEq, exists_eq_left', kn_tuple, true_and, truB_bl, wpR_ok, e2, if_true]
    rw [show ∀ (tt : Tgt) (b : Sv) (x1 x2 : Slot), sForC 0 tt b [.t (.tup vs), x1, x2] s = sFor (itN 0) tt b [.t (.tup vs), x1, x2] s from fun _ _ _ _ => rfl, wp_sFor]
    simp only [itN, at_0, itemsN, wpR_ok]
    refine wreckx_seqT h xs vs lo hi s _ _ o (fun x hx => ⟨d.2.mem x hx, by have := deps_mem hx; unfold dep at hd; omega⟩) fun x1 x2 s1 c1 => ?_
    exact q _ _ c1
  | bl i =>
    have : v = .bl i := by simp [OwnX] at o; exact o.1
    subst this
    simp [b__law_wreck_s, st1, isTy]; exact q _ _ (Ch.refl _ _ _)
  | non =>
    have : v = .non := by simp [OwnX] at o; exact o.1
    subst this
    simp [b__law_wreck_s, st1, isTy]; exact q _ _ (Ch.refl _ _ _)
  | int i =>
    have : v = .int i := by simp [OwnX] at o; exact o.1
    subst this
    simp [b__law_wreck_s, st1, isTy]; exact q _ _ (Ch.refl _ _ _)
  | str i =>
    have : v = .str i := by simp [OwnX] at o; exact o.1
    subst this
    simp [b__law_wreck_s, st1, isTy]; exact q _ _ (Ch.refl _ _ _)
  | _ => exact d.elim
end
end TL
/-! plain Lean over the T-layer, 67: entries and rows, their ranks, their order -/
namespace TL
open PySem PySem.Spec PySem.SeqAt L2
def erkT (ks : List T) (i : Int) : T := .tup [.tup (ks.map rkT), .int i]
def rowT (nm : Str) (ks : List T) (i : Int) : T := .tup [.str nm, .tup ks, .int i]
def KeyRk (φ : Fn) : Prop := ∀ (k : T) (s : Sh) (R : T → Sh → Prop), JV 2 k → R (rkT k) s → wpR (φ [k] s) R
def EntryRk (φ : Fn) : Prop := ∀ (ks : List T) (i : Int) (s : Sh) (R : T → Sh → Prop), (∀ k ∈ ks, JV 2 k) → ks.length ≤ 3 → R (erkT ks i) s → wpR (φ [.tup [.tup ks, .int i]] s) R
theorem key_rk {n : Nat} {φ : Fn} (h : RankV n φ) (hn : 3 ≤ n) : KeyRk (runB0 false 1 (b_key_rank φ)) := by
  intro k s R j q
  have st : wpR (φ [k] s) R := h k s R j.dv j.nb (Nat.lt_of_le_of_lt j.dp hn) q
  cases k with
  | non => simpa [b_key_rank, st1, isTy] using st
  | int i => simpa [b_key_rank, st1, isTy] using st
  | str x => simpa [b_key_rank, st1, isTy] using st
  | lst xs => simpa [b_key_rank, st1, isTy] using st
  | dct xs => simpa [b_key_rank, st1, isTy] using st
  | _ => cases j.nb
theorem len_sz {α β : Type} {xs : List α} {f : α → β} (h : xs.length ≤ 3) : (xs.map f).length ≤ sizeLine := by
  rw [List.length_map]
  exact Nat.le_trans h (by decide)
theorem entry_rk {φ : Fn} (h : KeyRk φ) : EntryRk (runB0 false 4 (b_entry_rank φ)) := by
  intro ks i s R hk hl q
  have h2 : (2 : Nat) ≤ sizeLine := by decide
  simp [b_entry_rank, st1, List.replicate, noOwn, wipeL, itemsN]
  refine ⟨_, rfl, rfl, ?_⟩
  simp only [vAt_s, vAt_0, wpR_ok, List.set_cons_succ, List.set_cons_zero]
  refine comp_map (f := rkT) (fun x hx R' q' => ?_) ?_
  · have := h x s R' (hk x hx) q'
    simpa using this
  · exact ⟨len_sz hl, h2, q⟩
theorem lentry_rk {n : Nat} {φ : Fn} (h : RankV n φ) (hn : 3 ≤ n) : EntryRk (runB0 false 2 (b__law_entry_rank φ)) := by
  intro ks i s R hk hl q
  have h2 : (2 : Nat) ≤ sizeLine := by decide
  simp [b__law_entry_rank, st1, List.replicate, noOwn, wipeL, itemsN, itemsT]
  refine ⟨_, rfl, ?_⟩
  simp only [wpR_ok]
  refine comp_map (f := rkT) (fun x hx R' q' => ?_) ?_
  · have := h x s R' (hk x hx).dv (hk x hx).nb (Nat.lt_of_le_of_lt (hk x hx).dp hn) q'
    simpa using this
  · exact ⟨len_sz hl, _, rfl, h2, q⟩
def RowRk (g : Str → List T → Int → T) (φ : Fn) : Prop := ∀ (nm : Str) (ks : List T) (i : Int) (s : Sh) (R : T → Sh → Prop), (∀ k ∈ ks, JV 2 k) → ks.length ≤ 3 → R (g nm ks i) s → wpR (φ [rowT nm ks i] s) R
def rrk1 (nm : Str) (ks : List T) (i : Int) : T := .tup [.str nm, erkT ks i]
def rrk2 (nm : Str) (ks : List T) (i : Int) : T := .tup [.str nm, .tup (ks.map rkT), .int i]
theorem row_rk {φ : Fn} (h : EntryRk φ) : RowRk rrk1 (runB0 false 4 (b_row_rank φ)) := by
  intro nm ks i s R hk hl q
  have h2 : (2 : Nat) ≤ sizeLine := by decide
  simp [b_row_rank, rowT, st1, List.replicate, h2]
  refine ⟨_, rfl, ?_⟩
  exact h ks i s _ hk hl q
theorem lrow_rk {φ : Fn} (h : EntryRk φ) : RowRk rrk2 (runB0 false 1 (b__law_row_rank φ)) := by
  intro nm ks i s R hk hl q
  have h1 : (1 : Nat) ≤ sizeLine := by decide
  have h2 : (2 : Nat) ≤ sizeLine := by decide
  have h3 : (3 : Nat) ≤ sizeLine := by decide
  simp [b__law_row_rank, rowT, st1, List.replicate, h1, h2, h3]
  refine ⟨_, rfl, ?_⟩
  have e : opSl (.tup [.str nm, .tup ks, .int i]) (some 1) none s = .ok (.tup [.tup ks, .int i]) s := rfl
  rw [e, wpR_ok]
  refine h ks i s _ hk hl ?_
  have e2 : opAdd (T.tup [T.str nm]) (erkT ks i) s = .ok (rrk2 nm ks i) s := by
    show (if 1 + 2 ≤ sizeLine then (Res.ok (T.tup ([T.str nm] ++ [T.tup (ks.map rkT), T.int i])) s : Res T) else .bad) = _
    rw [if_pos h3]
    rfl
  rw [e2, wpR_ok]
  exact q
end TL
/-! plain Lean over the T-layer, 68: rows in their order -/
namespace TL
open PySem PySem.Spec PySem.SeqAt L2
def RowV (x : T) : Prop := ∃ nm ks i, x = rowT nm ks i ∧ nm.length ≤ 1000 ∧ ks.length ≤ 3 ∧ ∀ k ∈ ks, JV 2 k
def dR (ks : List T) : PyData := .tuple (toDs (ks.map rkT))
theorem ordR {ks ks' : List T} (h : ∀ k ∈ ks, JV 2 k) (h' : ∀ k ∈ ks', JV 2 k) : ∃ k, ordD (dR ks) (dR ks') = some k := by
  have mem : ∀ {ks : List T}, (∀ k ∈ ks, JV 2 k) → ∀ x ∈ toDs (ks.map rkT), RkP 3 x := fun {ks} h x hx => by
    rw [toDs_map, List.map_map] at hx
    obtain ⟨k, hk, rfl⟩ := List.mem_map.mp hx
    exact (rk_all 3 k (h k hk).dv (h k hk).nb (Nat.lt_succ_of_le (h k hk).dp)).1
  obtain ⟨k, hk⟩ := cmp_seq (cmp_rk 3) _ _ (mem h) (mem h')
  exact ⟨k, by unfold dR; simpa [ordD] using hk⟩
theorem ord12 {nm nm' : Str} {ks ks' : List T} {i i' : Int} (h : ∀ k ∈ ks, JV 2 k) (h' : ∀ k ∈ ks', JV 2 k) :
    ∃ k, ordD (toD (rrk2 nm ks i)) (toD (rrk2 nm' ks' i')) = some k ∧ ordD (toD (rrk1 nm ks i)) (toD (rrk1 nm' ks' i')) = some k := by
  obtain ⟨k, hk⟩ := ordR h h'
  have d2 : ∀ nm ks i, toD (rrk2 nm ks i) = .tuple [.str nm, dR ks, .int i] := fun _ _ _ => rfl
  have d1 : ∀ nm ks i, toD (rrk1 nm ks i) = .tuple [.str nm, .tuple [dR ks, .int i]] := fun _ _ _ => rfl
  rw [d2, d2, d1, d1]
  have es : ∀ a b : Str, PyData.eqv (.str a) (.str b) = decide (a = b) := fun a b => by
    rw [Bool.eq_iff_iff]
    simp [PyData.eqv]
  have ei : ∀ a b : Int, PyData.eqv (.int a) (.int b) = decide (a = b) := fun a b => by
    rw [Bool.eq_iff_iff]
    simp [PyData.eqv]
  have et : PyData.eqv (.tuple [dR ks, .int i]) (.tuple [dR ks', .int i']) = (PyData.eqv (dR ks) (dR ks') && decide (i = i')) := by
    rw [← ei]
    simp [PyData.eqv, PyData.eqvAll]
  by_cases e1 : nm = nm'
  · cases e2 : PyData.eqv (dR ks) (dR ks') with
    | false => exact ⟨k, by simp only [ordD, ordDs, es, e1, decide_true, if_true, e2, hk, Bool.false_eq_true, if_false], by simp only [ordD, ordDs, es, et, e1, decide_true, if_true, e2, hk, Bool.false_and, Bool.false_eq_true, if_false]⟩
    | true =>
      by_cases e3 : i = i'
      · exact ⟨false, by simp only [ordD, ordDs, es, ei, e1, e3, decide_true, if_true, e2], by simp only [ordD, ordDs, es, ei, et, e1, e3, decide_true, if_true, e2, Bool.true_and, ite_self]⟩
      · exact ⟨decide (i < i'), by simp only [ordD, ordDs, es, ei, e1, decide_eq_false e3, decide_true, if_true, e2, Bool.false_eq_true, if_false], by simp only [ordD, ordDs, es, ei, et, e1, decide_eq_false e3, decide_true, if_true, e2, Bool.and_false, Bool.false_eq_true, if_false]⟩
  · obtain ⟨k1, h1⟩ := cmp_str nm nm'
    exact ⟨k1, by simp only [ordDs, ordD, es, decide_eq_false e1, Bool.false_eq_true, if_false] at h1 ⊢; exact h1, by simp only [ordDs, ordD, es, decide_eq_false e1, Bool.false_eq_true, if_false] at h1 ⊢; exact h1⟩
theorem dR_facts {ks : List T} (h : ∀ k ∈ ks, JV 2 k) : flatTs (ks.map rkT) = true ∧ (dR ks).depth ≤ 10 ∧ (dR ks).plain = true := by
  have fl : flatTs (ks.map rkT) = true := flatTs_of fun y hy => by
    obtain ⟨x, hm, rfl⟩ := List.mem_map.mp hy
    exact (rk_all 3 x (h x hm).dv (h x hm).nb (Nat.lt_succ_of_le (h x hm).dp)).2.1
  refine ⟨fl, ?_, ?_⟩
  · have : PyData.depthAll ((ks.map rkT).map toD) ≤ 9 := depthAll_le fun y hy => by
      rw [List.map_map] at hy
      obtain ⟨x, hm, rfl⟩ := List.mem_map.mp hy
      exact (rk_all 3 x (h x hm).dv (h x hm).nb (Nat.lt_succ_of_le (h x hm).dp)).2.2
    unfold dR
    rw [toDs_map]
    simp only [PyData.depth]
    omega
  · exact plain_toD (.tup (ks.map rkT)) (flat_plain (.tup (ks.map rkT)) (by rw [flatT]; exact fl))
theorem rrk_ok {g : Str → List T → Int → T} (hg : g = rrk1 ∨ g = rrk2) (nm : Str) {ks : List T} (i : Int) (h : ∀ k ∈ ks, JV 2 k) : flatT (g nm ks i) = true ∧ (toD (g nm ks i)).depth ≤ 150 ∧ fstD (toD (g nm ks i)) = some 3 := by
  obtain ⟨f1, f2, f3⟩ := dR_facts h
  rcases hg with rfl | rfl
  · refine ⟨?_, ?_, rfl⟩
    · simp only [rrk1, erkT, flatT, flatTs, f1, Bool.and_self]
    · have e : toD (rrk1 nm ks i) = .tuple [.str nm, .tuple [dR ks, .int i]] := rfl
      rw [e]
      simp only [PyData.depth, PyData.depthAll]
      omega
  · refine ⟨?_, ?_, rfl⟩
    · simp only [rrk2, flatT, flatTs, f1, Bool.and_self]
    · have e : toD (rrk2 nm ks i) = .tuple [.str nm, dR ks, .int i] := rfl
      rw [e]
      simp only [PyData.depth, PyData.depthAll]
      omega
def k2 : T → T
  | .tup [.str nm, .tup ks, .int i] => rrk2 nm ks i
  | t => t
def leR (x y : T) : Bool := leT (k2 x) (k2 y)
/-- rows in their order -/
def sortRow (ts : List T) : List T := ts.mergeSort leR
section
variable {g : Str → List T → Int → T} {φ : Fn}
theorem RowV.cel {x : T} (h : RowV x) : noCel x = true := by
  obtain ⟨nm, ks, i, rfl, _, _, hk⟩ := h
  have := nocels ks (DVs.of fun x m => (hk x m).dv)
  simp only [rowT, noCel, noCels, this, Bool.and_self]
theorem row_key (h : RowRk g φ) {nm : Str} {ks : List T} {i : Int} (hk : ∀ k ∈ ks, JV 2 k) (hl : ks.length ≤ 3) : φ [rowT nm ks i] [] = .ok (g nm ks i) [] := res_eq (h nm ks i [] _ hk hl ⟨rfl, rfl⟩)
theorem row_ord (hg : g = rrk1 ∨ g = rrk2) {nm nm' : Str} {ks ks' : List T} {i i' : Int} (h : ∀ k ∈ ks, JV 2 k) (h' : ∀ k ∈ ks', JV 2 k) : ∃ k, ordD (toD (g nm ks i)) (toD (g nm' ks' i')) = some k ∧ W.dataLt (toD (g nm ks i)) (toD (g nm' ks' i')) = k ∧ W.dataLt (toD (rrk2 nm ks i)) (toD (rrk2 nm' ks' i')) = k := by
  obtain ⟨k, h2, h1⟩ := ord12 (nm := nm) (nm' := nm') (i := i) (i' := i') h h'
  rcases hg with rfl | rfl
  · exact ⟨k, h1, W.ord_is h1, W.ord_is h2⟩
  · exact ⟨k, h2, W.ord_is h2, W.ord_is h2⟩
theorem row_sortOk (h : RowRk g φ) (hg : g = rrk1 ∨ g = rrk2) {ts : List T} (hx : ∀ x ∈ ts, RowV x) : sortKOk φ ts = true := by
  have kd : ∀ x, RowV x → ∃ nm ks i, x = rowT nm ks i ∧ (∀ k ∈ ks, JV 2 k) ∧ φ [x] [] = .ok (g nm ks i) [] ∧ kdT φ x = toD (g nm ks i) := fun x hx => by
    obtain ⟨nm, ks, i, rfl, _, hl, hk⟩ := hx
    have e := row_key h (nm := nm) (i := i) hk hl
    exact ⟨nm, ks, i, rfl, hk, e, by unfold kdT keyT1; rw [e]⟩
  unfold sortKOk
  rw [Bool.and_eq_true, Bool.and_eq_true, Bool.and_eq_true]
  refine ⟨?_, List.all_eq_true.mpr fun t m => ?_, ?_, ?_⟩
  · clear kd
    induction ts with
    | nil => rfl
    | cons t ts ih =>
      rw [noCels, (hx t (by simp)).cel, ih fun x m => hx x (by simp [m])]
      rfl
  · obtain ⟨nm, ks, i, rfl, hk, e, _⟩ := kd t (hx t m)
    obtain ⟨q1, q2, _⟩ := rrk_ok hg nm i hk
    unfold keyOk
    rw [e]
    simp only
    rw [q1, decide_eq_true q2]
    rfl
  · unfold ordAllB
    rw [Bool.and_eq_true]
    refine ⟨List.all_eq_true.mpr fun y hy => ?_, List.all_eq_true.mpr fun y hy => List.all_eq_true.mpr fun z hz => ?_⟩
    · obtain ⟨x, m, rfl⟩ := List.mem_map.mp hy
      obtain ⟨nm, ks, i, rfl, hk, _, e⟩ := kd x (hx x m)
      rw [e]
      exact plain_toD _ (flat_plain _ (rrk_ok hg nm i hk).1)
    · obtain ⟨x, m, rfl⟩ := List.mem_map.mp hy
      obtain ⟨x', m', rfl⟩ := List.mem_map.mp hz
      obtain ⟨nm, ks, i, rfl, hk, _, e⟩ := kd x (hx x m)
      obtain ⟨nm', ks', i', rfl, hk', _, e'⟩ := kd x' (hx x' m')
      obtain ⟨k, q, _⟩ := row_ord hg (nm := nm) (nm' := nm') (i := i) (i' := i') hk hk'
      rw [e, e', q]
      rfl
  · have ft : ∀ t, RowV t → fstD (kdT φ t) = some 3 := fun t ht => by
      obtain ⟨nm, ks, i, rfl, hk, _, e⟩ := kd t ht
      rw [e]
      exact (rrk_ok hg nm i hk).2.2
    cases ts with
    | nil => rfl
    | cons t ts =>
      rw [List.map_cons]
      unfold sortOrdB
      rw [Bool.or_eq_true]
      refine .inl ?_
      rw [Bool.and_eq_true, ft t (hx t (by simp))]
      refine ⟨rfl, List.all_eq_true.mpr fun y hy => ?_⟩
      rw [← List.map_cons] at hy
      obtain ⟨x, m, rfl⟩ := List.mem_map.mp hy
      exact decide_eq_true (ft x (hx x m))
theorem row_sort (h : RowRk g φ) (hg : g = rrk1 ∨ g = rrk2) {ts : List T} (hx : ∀ x ∈ ts, RowV x) : sortKT φ ts = sortRow ts := by
  refine mergeSort_congr ts fun a ha b hb => ?_
  obtain ⟨nm, ks, i, rfl, _, hl, hk⟩ := hx a ha
  obtain ⟨nm', ks', i', rfl, _, hl', hk'⟩ := hx b hb
  have e := row_key h (nm := nm) (i := i) hk hl
  have e' := row_key h (nm := nm') (i := i') hk' hl'
  obtain ⟨k, _, q1, q2⟩ := row_ord hg (nm := nm') (nm' := nm) (i := i') (i' := i) hk' hk
  unfold leR leT keyT1
  rw [e, e']
  show (!W.dataLt (toD (g nm' ks' i')) (toD (g nm ks i))) = !W.dataLt (toD (rrk2 nm' ks' i')) (toD (rrk2 nm ks i))
  rw [q1, q2]
theorem wpR_up {α : Type} {r : Res α} {Q R : α → Sh → Prop} (h : wpR r Q) (i : ∀ x s, Q x s → R x s) : wpR r R := by
  cases r with
  | ok a s => exact i a s h
  | exc e s => exact h
  | bad => exact h
theorem wp_sortRow (h : RowRk g φ) (hg : g = rrk1 ∨ g = rrk2) {ev : Ev} {l : Loc} {s : Sh} {R : T → Sh → Prop} (he : wpR (ev l s) fun x s => ∃ ts, x = .lst ts ∧ (∀ x ∈ ts, RowV x) ∧ R (.lst (sortRow ts)) s) : wpR (eSortK φ ev l s) R := by
  unfold eSortK
  rw [wpR_bind]
  refine wpR_up he fun x s ⟨ts, e, hx, q⟩ => ?_
  subst e
  dsimp only
  rw [if_pos (row_sortOk h hg hx), row_sort h hg hx]
  exact q
end
end TL
/-! plain Lean over the T-layer, 69: values are equal just where their ranks are -/
namespace TL
open PySem PySem.Spec PySem.SeqAt L2
theorem sortS_perm {a b : List Str} (h : a.Perm b) : sortS a = sortS b :=
  List.Perm.eq_of_pairwise (le := fun x y => lebS x y = true) (fun a b _ _ h k => lebS_anti a b h k)
    (List.pairwise_mergeSort (fun a b c h k => lebS_trans a b c h k) (fun a b => lebS_total a b) a) (List.pairwise_mergeSort (fun a b c h k => lebS_trans a b c h k) (fun a b => lebS_total a b) b)
    (((List.mergeSort_perm a lebS).trans h).trans (List.mergeSort_perm b lebS).symm)
theorem perm_sub {α : Type} [DecidableEq α] {a b : List α} (ha : a.Nodup) (hb : b.Nodup) (hl : a.length = b.length) (h : ∀ x ∈ a, x ∈ b) : a.Perm b := by
  refine (List.perm_ext_iff_of_nodup ha hb).mpr fun x => ⟨h x, fun hx => ?_⟩
  by_cases c : x ∈ a
  · exact c
  · have n : (x :: a).Nodup := List.nodup_cons.mpr ⟨c, ha⟩
    have := List.Nodup.length_le_of_subset n (l₂ := b) fun y hy => by
      rcases List.mem_cons.mp hy with rfl | hy
      · exact hx
      · exact h y hy
    rw [List.length_cons] at this
    omega
theorem eqX_xs : ∀ xs ys : List T, eqXs xs ys = true ↔ xs.length = ys.length ∧ ∀ (j : Nat) (x y : T), xs[j]? = some x → ys[j]? = some y → eqX x y = true
  | [], [] => by simp [eqXs]
  | [], y :: ys => by simp [eqXs]
  | x :: xs, [] => by simp [eqXs]
  | x :: xs, y :: ys => by
    rw [eqXs, Bool.and_eq_true, eqX_xs xs ys, List.length_cons, List.length_cons]
    constructor
    · rintro ⟨h1, h2, h3⟩
      refine ⟨by omega, fun j a b ea eb => ?_⟩
      cases j with
      | zero =>
        have ea : x = a := by simpa using ea
        have eb : y = b := by simpa using eb
        rw [← ea, ← eb]; exact h1
      | succ j => exact h3 j a b (by simpa using ea) (by simpa using eb)
    · rintro ⟨h1, h2⟩
      exact ⟨h2 0 x y rfl rfl, by omega, fun j a b ea eb => h2 (j + 1) a b (by simpa using ea) (by simpa using eb)⟩
theorem eqX_d : ∀ (xs ys : List (Key × T)), eqXd xs ys = true ↔ ∀ p ∈ xs, ∃ y, dgetT ys p.1 = some y ∧ eqX p.2 y = true
  | [], _ => by simp [eqXd]
  | (k, x) :: xs, ys => by
    rw [eqXd, Bool.and_eq_true, eqX_d xs ys]
    constructor
    · rintro ⟨h1, h2⟩ p hp
      rcases List.mem_cons.mp hp with rfl | hp
      · cases e : dgetT ys k with
        | none => rw [e] at h1; cases h1
        | some y => rw [e] at h1; exact ⟨y, rfl, h1⟩
      · exact h2 p hp
    · intro h
      refine ⟨?_, fun p hp => h p (List.mem_cons_of_mem _ hp)⟩
      obtain ⟨y, e, q⟩ := h (k, x) List.mem_cons_self
      rw [e]
      exact q
theorem eqvAll_xs : ∀ (xs ys : List T), PyData.eqvAll (toDs xs) (toDs ys) = true ↔ xs.length = ys.length ∧ ∀ (j : Nat) (x y : T), xs[j]? = some x → ys[j]? = some y → PyData.eqv (toD x) (toD y) = true
  | [], [] => by simp [toDs, PyData.eqvAll]
  | [], y :: ys => by simp [toDs, PyData.eqvAll]
  | x :: xs, [] => by simp [toDs, PyData.eqvAll]
  | x :: xs, y :: ys => by
    rw [toDs, toDs, PyData.eqvAll, Bool.and_eq_true, eqvAll_xs xs ys, List.length_cons, List.length_cons]
    constructor
    · rintro ⟨h1, h2, h3⟩
      refine ⟨by omega, fun j a b ea eb => ?_⟩
      cases j with
      | zero =>
        have ea : x = a := by simpa using ea
        have eb : y = b := by simpa using eb
        rw [← ea, ← eb]; exact h1
      | succ j => exact h3 j a b (by simpa using ea) (by simpa using eb)
    · rintro ⟨h1, h2⟩
      exact ⟨h2 0 x y rfl rfl, by omega, fun j a b ea eb => h2 (j + 1) a b (by simpa using ea) (by simpa using eb)⟩
theorem eqvAll_rows (f g : Str → T) : ∀ na nb : List Str, PyData.eqvAll (toDs (na.map fun z => T.tup [.str z, f z])) (toDs (nb.map fun z => T.tup [.str z, g z])) = true ↔ na = nb ∧ ∀ z ∈ na, PyData.eqv (toD (f z)) (toD (g z)) = true
  | [], [] => by simp [toDs, PyData.eqvAll]
  | [], y :: ys => by simp [toDs, PyData.eqvAll]
  | x :: xs, [] => by simp [toDs, PyData.eqvAll]
  | x :: xs, y :: ys => by
    rw [List.map_cons, List.map_cons, toDs, toDs, PyData.eqvAll, Bool.and_eq_true, eqvAll_rows f g xs ys]
    have e : PyData.eqv (toD (T.tup [.str x, f x])) (toD (T.tup [.str y, g y])) = true ↔ x = y ∧ PyData.eqv (toD (f x)) (toD (g y)) = true := by
      simp [toD, toDs, PyData.eqv, PyData.eqvAll]
    rw [e]
    constructor
    · rintro ⟨⟨rfl, h1⟩, rfl, h2⟩
      exact ⟨rfl, fun z hz => by
        rcases List.mem_cons.mp hz with rfl | hz
        · exact h1
        · exact h2 z hz⟩
    · rintro ⟨h, h2⟩
      cases h
      exact ⟨⟨rfl, h2 x List.mem_cons_self⟩, rfl, fun z hz => h2 z (List.mem_cons_of_mem _ hz)⟩
theorem names_map {kvs : List (Key × T)} (d : DVd kvs) : kvs.map (·.1) = (namesT kvs).map Sum.inr := by
  obtain ⟨ks, ek⟩ := keyStrs_of d
  rw [names_is ek]
  exact keyStrs_map ek
theorem names_nd {kvs : List (Key × T)} (d : DVd kvs) (nd : (kvs.map (·.1)).Nodup) : (namesT kvs).Nodup := by
  rw [names_map d] at nd
  rw [List.nodup_iff_pairwise_ne, List.pairwise_map] at nd
  exact nd.imp fun h e => h (by rw [e])
theorem eqX_rk : ∀ (n : Nat) (a b : T), DV a → nb a = true → dep a < n → DV b → nb b = true → eqX a b = PyData.eqv (toD (rkT a)) (toD (rkT b)) := by
  intro n
  induction n with
  | zero => intro a b _ _ h; exact absurd h (Nat.not_lt_zero _)
  | succ n ih =>
    intro a b da na ha db nb'
    cases a with
    | non => cases b <;> first | (cases nb'; done) | simp [eqX, rkT, toD, toDs, PyData.eqv, PyData.eqvAll]
    | int i => cases b <;> first | (cases nb'; done) | simp [eqX, rkT, toD, toDs, PyData.eqv, PyData.eqvAll]
    | str x => cases b <;> first | (cases nb'; done) | simp [eqX, rkT, toD, toDs, PyData.eqv, PyData.eqvAll]
    | lst xs =>
      cases b with
      | lst ys =>
        have e : PyData.eqv (toD (rkT (.lst xs))) (toD (rkT (.lst ys))) = PyData.eqvAll (toDs (rks xs)) (toDs (rks ys)) := by simp [rkT, toD, toDs, PyData.eqv, PyData.eqvAll]
        rw [e, eqX, Bool.eq_iff_iff, eqX_xs, eqvAll_xs, rks_map, rks_map, List.length_map, List.length_map]
        refine and_congr_right fun hl => ⟨fun h j x y ex ey => ?_, fun h j x y ex ey => ?_⟩
        · rw [List.getElem?_map] at ex ey
          obtain ⟨x', ex', rfl⟩ := Option.map_eq_some_iff.mp ex
          obtain ⟨y', ey', rfl⟩ := Option.map_eq_some_iff.mp ey
          have mx := List.mem_of_getElem? ex'
          have my := List.mem_of_getElem? ey'
          rw [← ih x' y' (da.2.mem x' mx) (nbs_mem (nb_lst na) x' mx) (by have := deps_mem mx; have ha : deps xs + 1 < n + 1 := ha; omega) (db.2.mem y' my) (nbs_mem (nb_lst nb') y' my)]
          exact h j x' y' ex' ey'
        · have mx := List.mem_of_getElem? ex
          have my := List.mem_of_getElem? ey
          rw [ih x y (da.2.mem x mx) (nbs_mem (nb_lst na) x mx) (by have := deps_mem mx; have ha : deps xs + 1 < n + 1 := ha; omega) (db.2.mem y my) (nbs_mem (nb_lst nb') y my)]
          exact h j _ _ (by rw [List.getElem?_map, ex]; rfl) (by rw [List.getElem?_map, ey]; rfl)
      | non => simp [eqX, rkT, toD, toDs, PyData.eqv, PyData.eqvAll]
      | int i => simp [eqX, rkT, toD, toDs, PyData.eqv, PyData.eqvAll]
      | str i => simp [eqX, rkT, toD, toDs, PyData.eqv, PyData.eqvAll]
      | dct ys => simp [eqX, rkT, toD, toDs, PyData.eqv, PyData.eqvAll]
      | _ => cases nb'
    | dct xs =>
      cases b with
      | dct ys =>
        obtain ⟨a1, a2, a3⟩ := da
        obtain ⟨b1, b2, b3⟩ := db
        have e : PyData.eqv (toD (rkT (.dct xs))) (toD (rkT (.dct ys))) = PyData.eqvAll (toDs (rowsT (rkd xs))) (toDs (rowsT (rkd ys))) := by simp [rkT, toD, toDs, PyData.eqv, PyData.eqvAll]
        rw [e, eqX, Bool.eq_iff_iff, Bool.and_eq_true, eqX_d, beq_iff_eq]
        unfold rowsT
        rw [eqvAll_rows, names_rkd, names_rkd]
        have step : ∀ p ∈ xs, ∀ y, dgetT ys p.1 = some y → eqX p.2 y = PyData.eqv (toD (rkT p.2)) (toD (rkT y)) := fun p hp y ey => by
          obtain ⟨q, hq, eq⟩ : ∃ q ∈ ys, q.2 = y := by
            unfold dgetT at ey
            obtain ⟨q, hq, rfl⟩ := Option.map_eq_some_iff.mp ey
            exact ⟨q, List.mem_of_find?_eq_some hq, rfl⟩
          rw [← eq]
          exact ih p.2 q.2 (a3.mem p hp).2 (nbd_mem (nb_dct na) p hp) (by have := depd_mem hp; have ha : depd xs + 1 < n + 1 := ha; omega) (b3.mem q hq).2 (nbd_mem (nb_dct nb') q hq)
        have lenN : ∀ {kvs : List (Key × T)}, DVd kvs → (namesT kvs).length = kvs.length := fun {kvs} d => by
          have := congrArg List.length (names_map d)
          simpa using this.symm
        constructor
        · rintro ⟨hl, h⟩
          have pm : (namesT xs).Perm (namesT ys) := by
            refine perm_sub (names_nd a3 a2) (names_nd b3 b2) (by rw [lenN a3, lenN b3, hl]) fun z hz => ?_
            obtain ⟨p, hp, ep, _⟩ := dget_name a2 a3 hz
            obtain ⟨y, ey, _⟩ := h p hp
            have : p.1 ∈ ys.map (·.1) := by
              unfold dgetT at ey
              obtain ⟨q, hq, _⟩ := Option.map_eq_some_iff.mp ey
              have := List.find?_some hq
              exact List.mem_map.mpr ⟨q, List.mem_of_find?_eq_some hq, by simpa using this⟩
            rw [names_map b3, ep] at this
            obtain ⟨w, hw, ew⟩ := List.mem_map.mp this
            cases ew
            exact hw
          refine ⟨sortS_perm pm, fun z hz => ?_⟩
          obtain ⟨p, hp, ep, gp⟩ := dget_name a2 a3 (sort_mem hz)
          obtain ⟨y, ey, q⟩ := h p hp
          rw [rkd_get, rkd_get, gp, ← ep, ey]
          show PyData.eqv (toD (rkT p.2)) (toD (rkT y)) = true
          rw [← step p hp y ey]
          exact q
        · rintro ⟨hs, h⟩
          have hl : xs.length = ys.length := by
            have := congrArg List.length hs
            rw [sort_len, sort_len, lenN a3, lenN b3] at this
            exact this
          refine ⟨hl, fun p hp => ?_⟩
          obtain ⟨z, ez, _⟩ := (a3.mem p hp).1
          have hz : z ∈ namesT xs := by
            have : p.1 ∈ xs.map (·.1) := List.mem_map.mpr ⟨p, hp, rfl⟩
            rw [names_map a3, ez] at this
            obtain ⟨w, hw, ew⟩ := List.mem_map.mp this
            cases ew
            exact hw
          have hz' : z ∈ sortS (namesT xs) := (List.mergeSort_perm _ lebS).mem_iff.mpr hz
          have hzy : z ∈ namesT ys := sort_mem (by rw [← hs]; exact hz')
          obtain ⟨q, hq, eq, gq⟩ := dget_name b2 b3 hzy
          have gp : dgetT xs (.inr z) = some p.2 := by rw [← ez]; exact dget_mem a2 hp
          have := h z hz'
          rw [rkd_get, rkd_get, gp, gq] at this
          have gq' : dgetT ys p.1 = some q.2 := by rw [ez]; exact gq
          refine ⟨q.2, gq', ?_⟩
          rw [step p hp q.2 gq']
          exact this
      | non => simp [eqX, rkT, toD, toDs, PyData.eqv, PyData.eqvAll]
      | int i => simp [eqX, rkT, toD, toDs, PyData.eqv, PyData.eqvAll]
      | str i => simp [eqX, rkT, toD, toDs, PyData.eqv, PyData.eqvAll]
      | lst ys => simp [eqX, rkT, toD, toDs, PyData.eqv, PyData.eqvAll]
      | _ => cases nb'
    | _ => cases na
end TL
/-! plain Lean over the T-layer, 70: lists of rows: equal ones, in their order -/
namespace TL
open PySem PySem.Spec PySem.SeqAt L2
theorem eqXs_rk {ks ks' : List T} (h : ∀ k ∈ ks, JV 2 k) (h' : ∀ k ∈ ks', JV 2 k) : eqXs ks ks' = PyData.eqv (dR ks) (dR ks') := by
  have e : PyData.eqv (dR ks) (dR ks') = PyData.eqvAll (toDs (ks.map rkT)) (toDs (ks'.map rkT)) := by simp [dR, PyData.eqv]
  rw [e, Bool.eq_iff_iff, eqX_xs, eqvAll_xs, List.length_map, List.length_map]
  have one : ∀ x ∈ ks, ∀ y ∈ ks', eqX x y = PyData.eqv (toD (rkT x)) (toD (rkT y)) := fun x hx y hy => eqX_rk 3 x y (h x hx).dv (h x hx).nb (Nat.lt_succ_of_le (h x hx).dp) (h' y hy).dv (h' y hy).nb
  refine and_congr_right fun hl => ⟨fun q j x y ex ey => ?_, fun q j x y ex ey => ?_⟩
  · rw [List.getElem?_map] at ex ey
    obtain ⟨x', ex', rfl⟩ := Option.map_eq_some_iff.mp ex
    obtain ⟨y', ey', rfl⟩ := Option.map_eq_some_iff.mp ey
    rw [← one x' (List.mem_of_getElem? ex') y' (List.mem_of_getElem? ey')]
    exact q j x' y' ex' ey'
  · rw [one x (List.mem_of_getElem? ex) y (List.mem_of_getElem? ey)]
    exact q j _ _ (by rw [List.getElem?_map, ex]; rfl) (by rw [List.getElem?_map, ey]; rfl)
theorem row_eq {a b : T} (ha : RowV a) (hb : RowV b) : eqX a b = PyData.eqv (toD (k2 a)) (toD (k2 b)) := by
  obtain ⟨nm, ks, i, rfl, _, _, hk⟩ := ha
  obtain ⟨nm', ks', i', rfl, _, _, hk'⟩ := hb
  have e : PyData.eqv (toD (k2 (rowT nm ks i))) (toD (k2 (rowT nm' ks' i'))) = ((nm == nm') && (PyData.eqv (dR ks) (dR ks') && ((i == i') && true))) := by
    show PyData.eqv (.tuple [.str nm, dR ks, .int i]) (.tuple [.str nm', dR ks', .int i']) = _
    simp [PyData.eqv, PyData.eqvAll]
  rw [e, ← eqXs_rk hk hk']
  simp [rowT, eqX, eqXs]
theorem row_symm {a b : T} (ha : RowV a) (hb : RowV b) : eqX a b = eqX b a := by
  rw [row_eq ha hb, row_eq hb ha, W.eqv_comm]
theorem k2_plain {a : T} (ha : RowV a) : (toD (k2 a)).plain = true := by
  obtain ⟨nm, ks, i, rfl, _, _, hk⟩ := ha
  exact plain_toD _ (flat_plain _ (rrk_ok (.inr rfl) nm i hk).1)
theorem row_refl {a : T} (ha : RowV a) : eqX a a = true := by
  rw [row_eq ha ha]
  exact PySem.SeqAt.eqv_refl_plain _ (k2_plain ha)
theorem row_anti {a b : T} (ha : RowV a) (hb : RowV b) (h : leR a b = true) (k : leR b a = true) : eqX a b = true := by
  rw [row_eq ha hb]
  obtain ⟨nm, ks, i, rfl, _, _, hk⟩ := ha
  obtain ⟨nm', ks', i', rfl, _, _, hk'⟩ := hb
  obtain ⟨k1, q1, _, q2⟩ := row_ord (g := rrk2) (.inr rfl) (nm := nm) (nm' := nm') (i := i) (i' := i') hk hk'
  obtain ⟨k3, q3, _, q4⟩ := row_ord (g := rrk2) (.inr rfl) (nm := nm') (nm' := nm) (i := i') (i' := i) hk' hk
  unfold leR leT at h k
  have h : (!W.dataLt (toD (rrk2 nm' ks' i')) (toD (rrk2 nm ks i))) = true := h
  have k : (!W.dataLt (toD (rrk2 nm ks i)) (toD (rrk2 nm' ks' i'))) = true := k
  rw [q4] at h
  rw [q2] at k
  have h : k3 = false := by simpa using h
  have k : k1 = false := by simpa using k
  subst h k
  exact eqv_of q1 q3
theorem leR_trans (a b c : T) (h : leR a b = true) (k : leR b c = true) : leR a c = true := by
  unfold leR leT at *
  rw [Bool.not_eq_true'] at *
  cases e : W.dataLt (toD (k2 c)) (toD (k2 a)) with
  | false => rfl
  | true =>
    rcases PyProof.Rows.lex_negTrans (O := PyProof.Rows.itemOrd) _ (W.keyToks (toD (k2 b))) _ e with q | q
    · have : W.dataLt (toD (k2 c)) (toD (k2 b)) = true := q
      rw [k] at this; cases this
    · have : W.dataLt (toD (k2 b)) (toD (k2 a)) = true := q
      rw [h] at this; cases this
theorem leR_total (a b : T) : (leR a b || leR b a) = true := by
  unfold leR leT
  cases e : W.dataLt (toD (k2 b)) (toD (k2 a)) with
  | false => rfl
  | true =>
    cases e2 : W.dataLt (toD (k2 a)) (toD (k2 b)) with
    | false => rfl
    | true =>
      have := PyProof.Rows.lex_trans (O := PyProof.Rows.itemOrd) _ _ _ e e2
      have ir : PyProof.Rows.lexLt PyProof.Rows.itemOrd (W.keyToks (toD (k2 b))) (W.keyToks (toD (k2 b))) = false := PyProof.Rows.lex_irrefl (O := PyProof.Rows.itemOrd) _
      rw [ir] at this
      cases this
theorem sortRow_perm (ts : List T) : (sortRow ts).Perm ts := List.mergeSort_perm _ _
theorem sortRow_mem {ts : List T} {x : T} : x ∈ sortRow ts ↔ x ∈ ts := (sortRow_perm ts).mem_iff
theorem sortRow_len (ts : List T) : (sortRow ts).length = ts.length := (sortRow_perm ts).length_eq
theorem sortRow_pw (ts : List T) : (sortRow ts).Pairwise fun a b => leR a b = true := List.pairwise_mergeSort leR_trans leR_total ts
theorem sortRow_idem (ts : List T) : sortRow (sortRow ts) = sortRow ts := List.mergeSort_of_pairwise (sortRow_pw ts)
theorem pw_all {R : T → T → Prop} (hs : ∀ a b, R a b → R b a) : ∀ {l : List T}, l.Pairwise R → ∀ a ∈ l, ∀ b ∈ l, a ≠ b → R a b
  | [], _, a, ha, _, _, _ => by cases ha
  | x :: l, h, a, ha, b, hb, ne => by
    rw [List.pairwise_cons] at h
    rcases List.mem_cons.mp ha with e | ha'
    · rcases List.mem_cons.mp hb with e' | hb'
      · exact absurd (e.trans e'.symm) ne
      · rw [e]; exact h.1 b hb'
    · rcases List.mem_cons.mp hb with e' | hb'
      · rw [e']; exact hs _ _ (h.1 a ha')
      · exact pw_all hs h.2 a ha' b hb' ne
/-- rows of which no two are equal -/
structure Rows (ts : List T) : Prop where
  v : ∀ x ∈ ts, RowV x
  d : ts.Pairwise fun a b => eqX a b = false ∧ eqX b a = false
  l : ts.length ≤ 10
theorem sortRow_rev {ts : List T} (h : Rows ts) : sortRow ts.reverse = sortRow ts := by
  refine List.Perm.eq_of_pairwise (le := fun a b => leR a b = true) (fun a b ma mb p q => ?_) (sortRow_pw _) (sortRow_pw _) (((sortRow_perm _).trans (List.reverse_perm ts)).trans (sortRow_perm ts).symm)
  have ma : a ∈ ts := by simpa using sortRow_mem.mp ma
  have mb : b ∈ ts := sortRow_mem.mp mb
  have e := row_anti (h.v a ma) (h.v b mb) p q
  by_cases c : a = b
  · exact c
  · have := pw_all (fun a b h => ⟨h.2, h.1⟩) h.d a ma b mb c
    rw [this.1] at e
    cases e
theorem rows_refl {xs : List T} (h : ∀ x ∈ xs, RowV x) : eqXs xs xs = true := by
  rw [eqX_xs]
  refine ⟨rfl, fun j x y ex ey => ?_⟩
  rw [ex] at ey
  cases ey
  exact row_refl (h x (List.mem_of_getElem? ex))
theorem rows_symm {xs ys : List T} (h : ∀ x ∈ xs, RowV x) (k : ∀ x ∈ ys, RowV x) : eqXs xs ys = eqXs ys xs := by
  rw [Bool.eq_iff_iff, eqX_xs, eqX_xs]
  constructor
  · rintro ⟨h1, h2⟩
    exact ⟨h1.symm, fun j x y ex ey => by rw [row_symm (k x (List.mem_of_getElem? ex)) (h y (List.mem_of_getElem? ey))]; exact h2 j y x ey ex⟩
  · rintro ⟨h1, h2⟩
    exact ⟨h1.symm, fun j x y ex ey => by rw [row_symm (h x (List.mem_of_getElem? ex)) (k y (List.mem_of_getElem? ey))]; exact h2 j y x ey ex⟩
/-! ### rows as data -/
theorem RowV.dv {x : T} (h : RowV x) : DV x ∧ dep x ≤ 4 ∧ xT x = true ∧ dpX x ≤ 6 := by
  obtain ⟨nm, ks, i, rfl, hn, hl, hk⟩ := h
  have d : DVs ks := DVs.of fun x m => (hk x m).dv
  have e : deps ks ≤ 2 := by
    clear d hl
    induction ks with
    | nil => exact Nat.zero_le _
    | cons k ks ih =>
      have := (hk k (by simp)).dp
      have := ih fun x m => hk x (by simp [m])
      show max (dep k) (deps ks) ≤ 2
      omega
  have one : ∀ (n : Nat) (t : T), DV t → dep t < n → xT t = true ∧ dpX t ≤ dep t + 1 := by
    intro n
    induction n with
    | zero => intro t _ h; exact absurd h (Nat.not_lt_zero _)
    | succ n ih =>
      have seq : ∀ xs : List T, DVs xs → deps xs < n → xTs xs = true ∧ dpXs xs ≤ deps xs + 1 := by
        intro xs
        induction xs with
        | nil => intro _ _; exact ⟨rfl, Nat.zero_le _⟩
        | cons x xs ihx =>
          intro hd hn
          have hn : max (dep x) (deps xs) < n := hn
          obtain ⟨q1, q2⟩ := ih x hd.1 (by omega)
          obtain ⟨q3, q4⟩ := ihx hd.2 (by omega)
          refine ⟨by rw [xTs, q1, q3]; rfl, ?_⟩
          show max (dpX x) (dpXs xs) ≤ max (dep x) (deps xs) + 1
          omega
      have seqd : ∀ xs : List (Key × T), DVd xs → depd xs < n → xTd xs = true ∧ dpXd xs ≤ depd xs + 1 := by
        intro xs
        induction xs with
        | nil => intro _ _; exact ⟨rfl, Nat.zero_le _⟩
        | cons p xs ihx =>
          intro hd hn
          obtain ⟨k, x⟩ := p
          have hn : max (dep x) (depd xs) < n := hn
          obtain ⟨q1, q2⟩ := ih x hd.2.1 (by omega)
          obtain ⟨q3, q4⟩ := ihx hd.2.2 (by omega)
          refine ⟨by rw [xTd, q1, q3]; rfl, ?_⟩
          show max (dpX x) (dpXd xs) ≤ max (dep x) (depd xs) + 1
          omega
      intro t hd hn
      cases t with
      | lst xs =>
        have hn : deps xs + 1 < n + 1 := hn
        obtain ⟨q1, q2⟩ := seq xs hd.2 (by omega)
        exact ⟨q1, by show dpXs xs + 1 ≤ deps xs + 1 + 1; omega⟩
      | tup xs =>
        have hn : deps xs + 1 < n + 1 := hn
        obtain ⟨q1, q2⟩ := seq xs hd.2 (by omega)
        exact ⟨q1, by show dpXs xs + 1 ≤ deps xs + 1 + 1; omega⟩
      | dct xs =>
        have hn : depd xs + 1 < n + 1 := hn
        obtain ⟨q1, q2⟩ := seqd xs hd.2.2 (by omega)
        exact ⟨q1, by show dpXd xs + 1 ≤ depd xs + 1 + 1; omega⟩
      | non => exact ⟨rfl, Nat.le_refl _⟩
      | bl _ => exact ⟨rfl, Nat.le_refl _⟩
      | int _ => exact ⟨rfl, Nat.le_refl _⟩
      | str _ => exact ⟨rfl, Nat.le_refl _⟩
      | _ => exact hd.elim
  have dv : DV (rowT nm ks i) := ⟨by show 3 ≤ 100000; omega, Nat.le_trans hn (by decide), ⟨Nat.le_trans hl (by decide), d⟩, trivial, trivial⟩
  have dp : dep (rowT nm ks i) ≤ 4 := by
    show max 0 (max (deps ks + 1) (max 0 0)) + 1 ≤ 4
    omega
  obtain ⟨q1, q2⟩ := one 5 _ dv (by omega)
  exact ⟨dv, dp, q1, by omega⟩
theorem rows_dv {ts : List T} (h : ∀ x ∈ ts, RowV x) (hl : ts.length ≤ 100) : DV (.lst ts) ∧ dep (.lst ts) ≤ 5 ∧ xTs ts = true ∧ dpXs ts ≤ 6 := by
  refine ⟨⟨Nat.le_trans hl (by decide), DVs.of fun x m => (h x m).dv.1⟩, ?_, ?_, ?_⟩
  · have : deps ts ≤ 4 := by
      clear hl
      induction ts with
      | nil => exact Nat.zero_le _
      | cons k ks ih =>
        have := (h k (by simp)).dv.2.1
        have := ih fun x m => h x (by simp [m])
        show max (dep k) (deps ks) ≤ 4
        omega
    show deps ts + 1 ≤ 5
    omega
  · clear hl
    induction ts with
    | nil => rfl
    | cons k ks ih => rw [xTs, (h k (by simp)).dv.2.2.1, ih fun x m => h x (by simp [m])]; rfl
  · clear hl
    induction ts with
    | nil => exact Nat.zero_le _
    | cons k ks ih =>
      have := (h k (by simp)).dv.2.2.2
      have := ih fun x m => h x (by simp [m])
      show max (dpX k) (dpXs ks) ≤ 6
      omega
theorem eq_rows {xs ys : List T} (h : ∀ x ∈ xs, RowV x) (k : ∀ x ∈ ys, RowV x) (hl : xs.length ≤ 100) (kl : ys.length ≤ 100) (s : Sh) : opEqX (.lst xs) (.lst ys) s = .ok (.bl (eqXs xs ys)) s := by
  obtain ⟨_, _, x1, x2⟩ := rows_dv h hl
  obtain ⟨_, _, y1, y2⟩ := rows_dv k kl
  unfold opEqX
  have e : (xT (.lst xs) && xT (.lst ys) && twoX (.lst xs) (.lst ys) && decide (dpX (.lst xs) ≤ 60)) = true := by
    show (xTs xs && xTs ys && true && decide (dpXs xs + 1 ≤ 60)) = true
    rw [x1, y1, decide_eq_true (by omega)]
    rfl
  rw [if_pos e]
  rfl
end TL
/-! plain Lean over the T-layer, 71: rows drawn -/
namespace TL
open PySem PySem.Spec PySem.SeqAt L2
def KeyDr (φ : Fn) : Prop := ∀ (rest s : Sh) (w : Nat) (R : T → Sh → Prop), Dr rest s → w ≤ 3 → (∀ ks s', Dr rest s' → (∀ k ∈ ks, JV 1 k) → ks.length = w → R (.tup ks) s') → wpR (φ [.cel 0, .int w] s) R
theorem key_dr {n : Nat} {φ : Fn} (h : ValueOk n φ) (hn : 2 ≤ n) : KeyDr (runB0 false 3 (b__law_key φ)) := by
  intro rest s w R d hw q
  simp [b__law_key, st2, List.replicate, noOwn]
  rw [rg1_nat (by omega)]
  simp only [wpR_ok]
  refine comp_inv (P := fun y => JV 1 y) (J := Dr rest) (fun y _ s2 d2 => ⟨_, rfl, ?_⟩) d fun ys s2 hl hy d2 => ?_
  · simp [wipeL]
    exact h rest s2 1 _ d2 (by omega) fun t s3 d3 ht => ⟨ht, d3⟩
  · have hl' : ys.length = w := by
      rw [hl]
      simp [rangeT]
    exact ⟨Nat.le_trans (show ys.length ≤ 3 by omega) (by decide), q ys s2 d2 hy hl'⟩
def RowsDr (φ : Fn) : Prop := ∀ (rest s : Sh) (R : T → Sh → Prop), Dr rest s → (∀ ts s', Dr rest s' → Rows ts → R (.lst ts) s') → wpR (φ [.cel 0] s) R
def RowsJ (rest : Sh) (items : List T) (l : Loc) (s : Sh) : Prop := Dr rest s ∧ ∃ (ts : List T) (x2 x3 : Slot), l = [.t (.cel 0), .own (.lst ts), x2, x3] ∧ Rows ts ∧ ts.length + items.length ≤ 10
theorem in_rows {s : Sh} {ts : List T} {x2 : Slot} {x : T} (hx : RowV x) (h : Rows ts) :
    cView (eT (e2 (opInX true) (eVar 3) (eVar 1))) [.t (.cel 0), .own (.lst ts), x2, .t x] s = .ok (!ts.any fun z => eqX z x) s := by
  obtain ⟨d1, d2, d3, d4⟩ := rows_dv h.v (Nat.le_trans h.l (by decide))
  obtain ⟨e1, e2', e3, e4⟩ := hx.dv
  refine cview_ev ?_
  have a3 : (viewL s [.t (.cel 0), .own (.lst ts), x2, .t x]).at 3 = .t x := at_view (l := [.t (.cel 0), .own (.lst ts), x2, .t x]) rfl (view_dv s viewN x e1 (by show dep x < 100; omega))
  have a1 : (viewL s [.t (.cel 0), .own (.lst ts), x2, .t x]).at 1 = .t (.lst ts) := by
    unfold viewL
    rw [Loc.at_map (viewS s) rfl]
    show viewS s (.own (.lst ts)) = _
    show (match viewT s viewN (.lst ts) with | some y => Slot.t y | none => Slot.no) = _
    rw [view_dv s viewN (.lst ts) d1 (by show dep (T.lst ts) < 100; omega)]
  unfold eT e2 eVar
  rw [a3, Res.bind_ok, a1, Res.bind_ok]
  have e : opInX true x (.lst ts) [] = .ok (.bl (true ^^ ts.any fun z => eqX z x)) [] := by
    show (if (xT x && xTs ts && decide (dpXs ts ≤ 60)) = true then Res.ok (T.bl (true ^^ ts.any fun z => eqX z x)) [] else (Res.bad : Res T)) = _
    rw [if_pos (by rw [e3, d3, decide_eq_true (by omega)]; rfl)]
  rw [e, Bool.true_xor]
  rfl
theorem some_rows {φ ψ χ : Fn} (hp : PullOk φ) (hk : KeyDr ψ) (ha : AnyOk χ) : RowsDr (runB0 false 4 (b__law_some_rows_n φ ψ χ)) := by
  intro rest s R d q
  have three : (3 : Nat) ≤ sizeLine := by decide
  simp [b__law_some_rows_n, st1, List.replicate]
  refine hp rest s _ _ d (by omega) (by omega) fun k s1 d1 k0 k1 => ?_
  simp [rg1_int k0 (show k ≤ 100000 by omega)]
  refine for_inv (J := RowsJ rest) ?_ ?_ ?_
  · rintro l s2 ⟨d2, ts, y2, y3, rfl, hr, hl⟩
    exact ⟨_, rfl, q ts s2 d2 hr⟩
  · rintro x items l s2 ⟨d2, ts, y2, y3, rfl, hr, hl⟩
    refine ⟨_, rfl, ?_⟩
    rw [List.length_cons] at hl
    simp [three]
    refine ha rest s2 _ _ d2 (by simp) (by simp) fun nm hnm s3 d3 => ?_
    have hnm' : ∃ z : Str, nm = .str z ∧ z.length ≤ 1000 := by
      simp only [List.mem_cons, List.not_mem_nil, or_false] at hnm
      rcases hnm with rfl | rfl | rfl
      · exact ⟨_, rfl, by decide⟩
      · exact ⟨_, rfl, by decide⟩
      · exact ⟨_, rfl, by decide⟩
    obtain ⟨z, rfl, hz⟩ := hnm'
    refine hp rest s3 _ _ d3 (by omega) (by omega) fun w s4 d4 w0 w1 => ?_
    have ew : ∃ m : Nat, 1 + w = ((m : Nat) : Int) ∧ m ≤ 2 := ⟨(1 + w).toNat, by omega, by omega⟩
    obtain ⟨m, em, hm⟩ := ew
    rw [show opAdd (T.int 1) (T.int w) s4 = .ok (.int (1 + w)) s4 from rfl, wpR_ok, em]
    refine hk rest s4 m _ d4 (by omega) fun ks s5 d5 hks hkl => ?_
    refine hp rest s5 _ _ d5 (by omega) (by omega) fun i s6 d6 i0 i1 => ?_
    rw [show opAdd (T.int 1) (T.int i) s6 = .ok (.int (1 + i)) s6 from rfl, wpR_ok]
    have hv : RowV (rowT z ks (1 + i)) := ⟨z, ks, 1 + i, rfl, hz, by omega, fun k hk => (hks k hk).mono (by decide)⟩
    have hin := in_rows (s := s6) (x2 := .t x) hv hr
    show wpR (cView (eT (e2 (opInX true) (eVar 3) (eVar 1))) [.t (.cel 0), .own (.lst ts), .t x, .t (rowT z ks (1 + i))] s6) _
    rw [hin, wpR_ok]
    by_cases c : (ts.any fun y => eqX y (rowT z ks (1 + i))) = true
    · rw [c]
      simp
      exact ⟨d6, ts, _, _, rfl, hr, by omega⟩
    · rw [Bool.not_eq_true] at c
      rw [c]
      simp
      have lt : ts.length < sizeLine := Nat.lt_of_le_of_lt hr.l (by decide)
      refine ⟨rfl, ?_⟩
      show wpF (sMthK 1 mAppend [rowT z ks (1 + i)] [.t (.cel 0), .own (.lst ts), .t x, .t (rowT z ks (1 + i))] s6) _ _ _ _
      have e : sMthK 1 mAppend [rowT z ks (1 + i)] [.t (.cel 0), .own (.lst ts), .t x, .t (rowT z ks (1 + i))] s6 = .nx [.t (.cel 0), .own (.lst (ts ++ [rowT z ks (1 + i)])), .t x, .t (rowT z ks (1 + i))] s6 := by
        unfold sMthK mAppend
        simp [if_pos lt]
      rw [e]
      refine ⟨d6, _, _, _, rfl, ⟨fun y hy => ?_, ?_, ?_⟩, ?_⟩
      · rcases List.mem_append.mp hy with hy | hy
        · exact hr.v y hy
        · rw [List.mem_singleton.mp hy]; exact hv
      · rw [List.pairwise_append]
        refine ⟨hr.d, List.pairwise_singleton _ _, fun a ha b hb => ?_⟩
        rw [List.mem_singleton.mp hb]
        have : eqX a (rowT z ks (1 + i)) = false := by
          rw [List.any_eq_false] at c
          simpa using c a ha
        exact ⟨this, by rw [row_symm hv (hr.v a ha)]; exact this⟩
      · rw [List.length_append]; simp; omega
      · rw [List.length_append]; simp; omega
  · refine ⟨d1, [], .no, .no, rfl, ⟨fun x hx => (by cases hx), List.Pairwise.nil, Nat.zero_le _⟩, ?_⟩
    simp [rangeT]
    omega
end TL
/-! plain Lean over the T-layer, 72: papers by themselves: made, read, asked -/
namespace TL
open PySem PySem.Spec PySem.SeqAt L2
def noteF (A B : List T) : List (Str × T) := [("less", .lst A), ("more", .lst B)]
def NoteAt (s : Sh) (k : Nat) (A B : List T) : Prop := s[k]? = some (.ins "Paper" (noteF A B))
theorem ne_ml : (("more" : Str) == "less") = false := by decide +kernel
theorem lk_less (A B : List T) : (noteF A B).lookup ("less" : Str) = some (.lst A) := by simp [noteF, List.lookup]
theorem lk_more (A B : List T) : (noteF A B).lookup ("more" : Str) = some (.lst B) := by
  unfold noteF
  rw [List.lookup, ne_ml]
  simp [List.lookup]
theorem lk_none {m : Str} (A B : List T) (h1 : (m == "less") = false) (h2 : (m == "more") = false) : ((noteF A B).lookup m).isNone = true := by
  unfold noteF
  rw [List.lookup, h1]
  simp only
  rw [List.lookup, h2]
  rfl
section
variable {s : Sh} {k : Nat} {A B : List T} {l : Loc} {i : Nat}
theorem ins_note (h : NoteAt s k A B) : insOf (.cel k) s = some (("Paper" : Str), noteF A B) := by
  have h : s[k]? = some (.ins "Paper" (noteF A B)) := h
  unfold insOf
  dsimp only
  rw [h]
theorem ev_less (h : NoteAt s k A B) (e : l.at i = .t (.cel k)) : eFld ["Paper"] "less" (eVar i) l s = .ok (.lst A) s := by
  unfold eFld eVar
  rw [e, Res.bind_ok]
  unfold opFld
  rw [ins_note h]
  simp only
  rw [if_pos (List.mem_singleton.mpr rfl), lk_less]
theorem ev_more (h : NoteAt s k A B) (e : l.at i = .t (.cel k)) : eFld ["Paper"] "more" (eVar i) l s = .ok (.lst B) s := by
  unfold eFld eVar
  rw [e, Res.bind_ok]
  unfold opFld
  rw [ins_note h]
  simp only
  rw [if_pos (List.mem_singleton.mpr rfl), lk_more]
theorem mth_note {φ : Fn} {m : Str} (h : NoteAt s k A B) (h1 : (m == "less") = false) (h2 : (m == "more") = false) : mthOf [("Paper", φ)] m (.cel k) s = some φ := by
  unfold mthOf
  rw [ins_note h]
  simp only
  rw [if_pos (lk_none A B h1 h2)]
  simp [List.lookup]
theorem mth_call {φ : Fn} {m : Str} {eo : Ev} (h : NoteAt s k A B) (h1 : (m == "less") = false) (h2 : (m == "more") = false) (e : eo l s = .ok (.cel k) s) : eMth [("Paper", φ)] m [] eo aNil l s = φ [.cel k] s := by
  unfold eMth
  rw [e, Res.bind_ok, mth_note h h1 h2]
  rfl
/-! ### made -/
theorem view_cop {n : Nat} {φ : Fn} (h : CopX n φ) {A : T} (d : DV A) (hd : dep A < n) (hn : dep A < 100) (hv : (viewL s l).at i = .t A) : eViewV (eCall φ (aCons (eVar i) aNil)) l s = .ok A s := by
  have w : wpR (φ [A] []) fun v s' => closT v = true ∧ s'.all closS = true ∧ viewT s' viewN v = some A := h A [] _ d hd fun v s' g c o => ⟨ownx_clos A v _ _ d o, c.all, ownx_view s' viewN A v _ _ d hn o⟩
  have e : eCall φ (aCons (eVar i) aNil) (viewL s l) [] = φ [A] [] := by
    unfold eCall aCons aNil eVar
    rw [hv]
    rfl
  unfold eViewV
  rw [e]
  cases q : φ [A] [] with
  | bad => rw [q] at w; exact w.elim
  | exc x s' => rw [q] at w; exact w.elim
  | ok v s' =>
    rw [q] at w
    obtain ⟨w1, w2, w3⟩ := w
    simp only
    rw [if_pos ⟨w1, w2⟩, w3]
theorem sFld_cel {Cs : List Str} {C f : Str} {fs : List (Str × T)} {x : T} {ev eo : Ev} (he : ev l s = .ok x s) (ho : eo l s = .ok (.cel k) s) (hs : s[k]? = some (.ins C fs)) (hC : C ∈ Cs) (hl : fs.length < 1000) : sFldT Cs f eo ev l s = .nx l (s.set k (.ins C (putT f x fs))) := by
  unfold sFldT sE
  rw [he]
  simp only
  rw [ho]
  simp only
  rw [hs]
  simp only
  rw [if_pos ⟨hC, hl⟩]
/-- what two things show, whatever becomes of the objects from k on -/
def Shows (s : Sh) (k : Nat) (vg vc : T) (A B : List T) : Prop := ∀ s' : Sh, (∀ j, j < k → s'[j]? = s[j]?) → viewT s' viewN vg = some (.lst A) ∧ viewT s' viewN vc = some (.lst B)
structure RowL (A : List T) : Prop where
  v : ∀ x ∈ A, RowV x
  l : A.length ≤ 100
def InitOk (φ : Fn) : Prop := ∀ (A B : List T) (vg vc : T) (k : Nat) (s : Sh) (R : T → Sh → Prop), RowL A → RowL B → s[k]? = some (.ins "Paper" []) → Shows s k vg vc A B → R .non (s.set k (.ins "Paper" (noteF (sortRow A) (sortRow B)))) → wpR (φ [.cel k, vg, vc] s) R
theorem init_ok {n : Nat} {φ ψ : Fn} (h : CopX n φ) (hn : 6 ≤ n) (hr : RowRk rrk1 ψ) : InitOk (runB0 false 3 (b_Paper___init__ φ ψ)) := by
  intro A B vg vc k s R ra rb hk hv q
  have kl : k < s.length := (List.getElem?_eq_some_iff.mp hk).1
  have one : ∀ {C : List T} {s' : Sh} {i : Nat} {v : T}, RowL C → Loc.at [Slot.t (.cel k), Slot.t vg, Slot.t vc] i = Slot.t v → viewT s' viewN v = some (.lst C) → eSortK ψ (eViewV (eCall φ (aCons (eVar i) aNil))) [.t (.cel k), .t vg, .t vc] s' = .ok (.lst (sortRow C)) s' := fun {C s' i v} rc e1 e2 => by
    obtain ⟨d1, d2, _, _⟩ := rows_dv rc.v rc.l
    refine res_eq (wp_sortRow hr (.inl rfl) ?_)
    rw [view_cop h d1 (Nat.lt_of_le_of_lt d2 (by omega)) (by omega) (at_view e1 e2), wpR_ok]
    exact ⟨C, rfl, rc.v, rfl, rfl⟩
  rw [wp_runB0, b_Paper___init__, st3]
  simp only [List.replicate]
  have e1 := sFld_cel (f := "less") (Cs := ["Paper"]) (eo := eVar 0) (one (s' := s) (i := 1) ra rfl (hv s fun _ _ => rfl).1) rfl hk (List.mem_singleton.mpr rfl) (by decide)
  have hk2 : (s.set k (.ins "Paper" (putT "less" (.lst (sortRow A)) [])))[k]? = some (.ins "Paper" [("less", .lst (sortRow A))]) := by
    rw [List.getElem?_set_self kl]
    rfl
  have e2 := sFld_cel (f := "more") (Cs := ["Paper"]) (eo := eVar 0) (one (s' := s.set k (.ins "Paper" (putT "less" (.lst (sortRow A)) []))) (i := 2) rb rfl (hv _ fun j hj => List.getElem?_set_ne (by omega)).2) rfl hk2 (List.mem_singleton.mpr rfl) (by show 1 < 1000; omega)
  unfold sSeq
  rw [e1]
  simp only
  rw [e2]
  show _ ∧ R .non _
  refine ⟨by trivial, ?_⟩
  rw [List.set_set]
  have e3 : putT "more" (.lst (sortRow B)) [(("less" : Str), T.lst (sortRow A))] = noteF (sortRow A) (sortRow B) := by
    unfold putT
    rw [if_neg (by decide +kernel)]
    rfl
  rw [e3]
  exact q
theorem make_note {φ : Fn} (hi : InitOk φ) {vg vc : T} {eL : EvL} {s1 : Sh} {R : T → Sh → Prop} (he : eL l s = .ok [vg, vc] s1) (ra : RowL A) (rb : RowL B) (hv : Shows s1 s1.length vg vc A B) (q : R (.cel s1.length) (s1 ++ [.ins "Paper" (noteF (sortRow A) (sortRow B))])) : wpR (eMake "Paper" φ [] eL l s) R := by
  unfold eMake
  rw [he, Res.bind_ok, wpR_bind]
  have hv' : Shows (s1 ++ [.ins "Paper" []]) s1.length vg vc A B := fun s' h => hv s' fun j hj => (h j hj).trans (List.getElem?_append_left hj)
  refine hi A B vg vc s1.length _ _ ra rb (by simp) hv' ?_
  rw [wpR_ok]
  have e : (s1 ++ [SO.ins "Paper" []]).set s1.length (.ins "Paper" (noteF (sortRow A) (sortRow B))) = s1 ++ [.ins "Paper" (noteF (sortRow A) (sortRow B))] := by
    rw [List.set_append_right _ _ (Nat.le_refl _), Nat.sub_self]
    rfl
  rw [e]
  exact q
theorem shows_plain (ra : RowL A) (rb : RowL B) (s : Sh) (k : Nat) : Shows s k (.lst A) (.lst B) A B := fun s' _ => by
  obtain ⟨a1, a2, _⟩ := rows_dv ra.v ra.l
  obtain ⟨b1, b2, _⟩ := rows_dv rb.v rb.l
  exact ⟨view_dv s' viewN _ a1 (by show dep (T.lst A) < 100; omega), view_dv s' viewN _ b1 (by show dep (T.lst B) < 100; omega)⟩
/-! ### asked -/
def NoteCop (less : Bool) (φ : Fn) : Prop := ∀ (A B : List T) (k : Nat) (s : Sh) (Q : T → Sh → Prop), NoteAt s k A B → RowL A → RowL B → (∀ v s', Gr s s' → OwnX s' (.lst (if less then A else B)) v s.length s'.length → Q v s') → wpR (φ [.cel k] s) Q
theorem gone_ok {n : Nat} {φ : Fn} (h : CopX n φ) (hn : 6 ≤ n) : NoteCop true (runB0 false 1 (b_Paper_gone φ)) := by
  intro A B k s Q hk ra rb q
  obtain ⟨d1, d2, _⟩ := rows_dv ra.v ra.l
  rw [wp_runB0, b_Paper_gone, st1]
  simp only [List.replicate, wp_sRet, wp_eCall, wp_aCons, wp_aNil]
  rw [ev_less hk rfl, wpR_ok]
  exact h (.lst A) s _ d1 (by omega) fun v s' g _ o => q v s' g o
theorem come_ok {n : Nat} {φ : Fn} (h : CopX n φ) (hn : 6 ≤ n) : NoteCop false (runB0 false 1 (b_Paper_come φ)) := by
  intro A B k s Q hk ra rb q
  obtain ⟨d1, d2, _⟩ := rows_dv rb.v rb.l
  rw [wp_runB0, b_Paper_come, st1]
  simp only [List.replicate, wp_sRet, wp_eCall, wp_aCons, wp_aNil]
  rw [ev_more hk rfl, wpR_ok]
  exact h (.lst B) s _ d1 (by omega) fun v s' g _ o => q v s' g o
def NoteEq (φ : Fn) : Prop := (∀ (A B A' B' : List T) (j k : Nat) (s : Sh), NoteAt s j A B → NoteAt s k A' B' → RowL A → RowL B → RowL A' → RowL B' → φ [.cel j, .cel k] s = .ok (.bl (eqXs A A' && eqXs B B')) s) ∧
  ∀ (j : Nat) (xs : List T) (s : Sh), φ [.cel j, .lst xs] s = .ok (.bl false) s
theorem noteeq_ok : NoteEq (runB0 false 2 b_Paper___eq__) := by
  refine ⟨fun A B A' B' j k s hj hk ra rb ra' rb' => ?_, fun j xs s => ?_⟩
  · have is1 : biIsO "Paper" ["Paper"] [.cel k, .glo "Paper"] s = .ok (.bl true) s := by
      unfold biIsO
      dsimp only
      rw [if_pos rfl]
      have e : tyName (.cel k) s = none := by
        have hk : s[k]? = some (.ins "Paper" (noteF A' B')) := hk
        unfold tyName
        dsimp only
        rw [hk]
      rw [e, ins_note hk]
      simp
    refine res_eq ?_
    rw [wp_runB0, b_Paper___eq__, st2]
    simp only [List.replicate, wp_sRet, wp_eAnd, wp_eA, wp_aCons, wp_aNil, wp_eVar, wp_eC, vAt_0, vAt_s]
    rw [is1, wpR_ok]
    simp only [onB, if_true, wp_eAnd, wp_e2]
    rw [ev_less hj rfl, wpR_ok, ev_less hk rfl, wpR_ok, eq_rows ra.v ra'.v ra.l ra'.l, wpR_ok]
    simp only [onB]
    cases c : eqXs A A' with
    | false => simp
    | true =>
      simp only [if_true, Bool.true_and, wp_e2]
      rw [ev_more hj rfl, wpR_ok, ev_more hk rfl, wpR_ok, eq_rows rb.v rb'.v rb.l rb'.l, wpR_ok]
      exact ⟨rfl, rfl⟩
  · refine res_eq ?_
    rw [wp_runB0, b_Paper___eq__, st2]
    simp only [List.replicate, wp_sRet, wp_eAnd, wp_eA, wp_aCons, wp_aNil, wp_eVar, wp_eC, vAt_0, vAt_s]
    have is1 : biIsO "Paper" ["Paper"] [.lst xs, .glo "Paper"] s = .ok (.bl false) s := by
      unfold biIsO
      dsimp only
      rw [if_pos rfl]
      rfl
    rw [is1, wpR_ok]
    simp [onB]
def NoteLen (φ : Fn) : Prop := ∀ (A B : List T) (k : Nat) (s : Sh), NoteAt s k A B → A.length ≤ 100 → B.length ≤ 100 → φ [.cel k] s = .ok (.int ((A.length + B.length : Nat) : Int)) s
theorem notelen_ok : NoteLen (runB0 false 1 b_Paper___len__) := by
  intro A B k s hk ha hb
  refine res_eq ?_
  rw [wp_runB0, b_Paper___len__, st1]
  simp only [List.replicate, wp_sRet, wp_eA, wp_aCons, wp_aNil, wp_e2]
  rw [ev_less hk rfl, wpR_ok, ev_more hk rfl, wpR_ok]
  have e : opAdd (.lst A) (.lst B) s = .ok (.lst (A ++ B)) s := by
    show (if A.length + B.length ≤ sizeLine then Res.ok (T.lst (A ++ B)) s else .bad) = _
    rw [if_pos (Nat.le_trans (show A.length + B.length ≤ 200 by omega) (by decide))]
  rw [e, wpR_ok]
  have e2 : biLen [.lst (A ++ B)] s = .ok (.int (A ++ B).length) s := rfl
  rw [e2, wpR_ok, List.length_append]
  exact ⟨rfl, rfl⟩
end
end TL
/-! plain Lean over the T-layer, 73: papers by themselves: as texts, turned about, compared -/
namespace TL
open PySem PySem.Spec PySem.SeqAt L2
theorem num_txt : ∀ n ∈ List.range 11, ((n : Int)).natAbs.log2 < 1920 ∧ (toString (n : Int) : Str).length ≤ 2 := by decide +kernel
def nS (n : Nat) : Str := (toString (n : Int) : Str)
theorem numS_ok {n : Nat} (h : n ≤ 10) : ((n : Int)).natAbs.log2 < 1920 ∧ (nS n).length ≤ 2 := num_txt n (List.mem_range.mpr (by omega))
def noteS (a b : Nat) : Str := ((("-" : Str) ++ nS a) ++ (" +" : Str)) ++ nS b
theorem empty_app (x : Str) : Str.empty ++ x = x := by
  show (⟨#[] ++ x.cps⟩ : Str) = x
  rw [Array.empty_append]
section
variable {s : Sh} {k : Nat} {A B : List T} {l : Loc} {i : Nat}
theorem fmt_len {ev : Ev} {n : Nat} (h : n ≤ 10) (e : ev l s = .ok (.int n) s) : eFmt ev l s = .ok (.str (nS n)) s := by
  obtain ⟨h1, h2⟩ := numS_ok h
  unfold eFmt
  rw [e, Res.bind_ok]
  show (if ((n : Int)).natAbs.log2 < 1920 ∧ (toString (n : Int) : Str).length ≤ sizeLine then Res.ok (T.str (toString (n : Int))) s else Res.bad) = _
  rw [if_pos ⟨h1, Nat.le_trans h2 (by decide)⟩]
  rfl
theorem join_step {ev : Ev} {es : List Ev} {acc y : Str} (e : ev l s = .ok (.str y) s) (h : (acc ++ y).length ≤ sizeLine) : joinEv (ev :: es) acc l s = joinEv es (acc ++ y) l s := by
  show ((ev l s).bind fun x s1 => match x with
    | .str y => if (acc ++ y).length ≤ sizeLine then joinEv es (acc ++ y) l s1 else .bad
    | _ => .bad) = _
  rw [e, Res.bind_ok]
  dsimp only
  rw [if_pos h]
theorem noteS_len {a b : Nat} (ha : a ≤ 10) (hb : b ≤ 10) : (("-" : Str) ++ nS a).length ≤ 3 ∧ ((("-" : Str) ++ nS a) ++ (" +" : Str)).length ≤ 5 ∧ (noteS a b).length ≤ 7 := by
  have h1 := (numS_ok ha).2
  have h2 := (numS_ok hb).2
  have e1 : ("-" : Str).length = 1 := by decide
  have e2 : (" +" : Str).length = 2 := by decide
  unfold noteS
  simp only [str_app_len, e1, e2]
  omega
def NoteStr (φ : Fn) : Prop := ∀ (A B : List T) (k : Nat) (s : Sh), NoteAt s k A B → A.length ≤ 10 → B.length ≤ 10 → φ [.cel k] s = .ok (.str (noteS A.length B.length)) s
theorem notestr_ok : NoteStr (runB0 false 1 b_Paper___str__) := by
  intro A B k s hk ha hb
  obtain ⟨q1, q2, q3⟩ := noteS_len ha hb
  have z : ∀ {n : Nat}, n ≤ 10 → n ≤ sizeLine := fun h => Nat.le_trans h (by decide)
  have l1 : eA biLen (aCons (eFld ["Paper"] "less" (eVar 0)) aNil) [.t (.cel k)] s = .ok (.int A.length) s := by
    unfold eA aCons aNil
    rw [ev_less hk rfl]
    rfl
  have l2 : eA biLen (aCons (eFld ["Paper"] "more" (eVar 0)) aNil) [.t (.cel k)] s = .ok (.int B.length) s := by
    unfold eA aCons aNil
    rw [ev_more hk rfl]
    rfl
  refine res_eq ?_
  rw [wp_runB0, b_Paper___str__, st1]
  simp only [List.replicate, wp_sRet]
  unfold eJoin
  rw [join_step (y := "-") rfl (by rw [empty_app]; exact z (show ("-" : Str).length ≤ 10 by decide)), empty_app, join_step (fmt_len ha l1) (z (by omega)), join_step (y := " +") rfl (z (by omega)), join_step (fmt_len hb l2) (z (by show (noteS A.length B.length).length ≤ 10; omega))]
  exact ⟨rfl, rfl⟩
def TurnOk (φ : Fn) : Prop := ∀ (A B : List T) (k : Nat) (s : Sh) (R : T → Sh → Prop), NoteAt s k A B → RowL A → RowL B → R (.cel s.length) (s ++ [.ins "Paper" (noteF (sortRow B) (sortRow A))]) → wpR (φ [.cel k] s) R
theorem turn_ok {φ : Fn} (h : InitOk φ) : TurnOk (runB0 false 1 (b_Paper_turned_about φ)) := by
  intro A B k s R hk ra rb q
  rw [wp_runB0, b_Paper_turned_about, st1]
  simp only [List.replicate, wp_sRet]
  refine make_note h (A := B) (B := A) (vg := .lst B) (vc := .lst A) (s1 := s) ?_ rb ra (shows_plain rb ra s _) q
  unfold aCons aNil
  rw [ev_more hk rfl, Res.bind_ok, ev_less hk rfl]
  rfl
theorem ty_note (h : NoteAt s k A B) : tyName (.cel k) s = none := by
  have h : s[k]? = some (.ins "Paper" (noteF A B)) := h
  unfold tyName
  dsimp only
  rw [h]
theorem eqO_note {φ : Fn} {j : Nat} {A' B' : List T} (hj : NoteAt s j A B) (hk : NoteAt s k A' B') : opEqO "Paper" ["Paper"] φ (.cel j) (.cel k) s = φ [.cel j, .cel k] s := by
  unfold opEqO
  rw [mth_note hj (by decide +kernel) (by decide +kernel)]
  dsimp only
  rw [ty_note hk, ins_note hk]
  dsimp only
  rw [if_pos (List.mem_singleton.mpr rfl)]
theorem eqO_lst {φ : Fn} {j : Nat} (hj : NoteAt s j A B) (xs : List T) : opEqO "Paper" ["Paper"] φ (.cel j) (.lst xs) s = φ [.cel j, .lst xs] s := by
  unfold opEqO
  rw [mth_note hj (by decide +kernel) (by decide +kernel)]
  rfl
theorem lenO_note {φ : Fn} (h : NoteLen φ) (hk : NoteAt s k A B) (ha : A.length ≤ 100) (hb : B.length ≤ 100) : biLenO [("Paper", φ)] [.cel k] s = .ok (.int ((A.length + B.length : Nat) : Int)) s := by
  unfold biLenO
  dsimp only
  rw [mth_note hk (by decide +kernel) (by decide +kernel)]
  dsimp only
  rw [h A B k s hk ha hb, Res.bind_ok]
  dsimp only
  rw [if_pos ⟨by omega, by omega⟩]
theorem strO_note {φ : Fn} (h : NoteStr φ) (hk : NoteAt s k A B) (ha : A.length ≤ 10) (hb : B.length ≤ 10) : biStrO "__str__" [("Paper", φ)] [.cel k] s = .ok (.str (noteS A.length B.length)) s := by
  unfold biStrO
  dsimp only
  rw [mth_note hk (by decide +kernel) (by decide +kernel)]
  dsimp only
  rw [h A B k s hk ha hb, Res.bind_ok]
theorem wp_like {φ : Fn} {n : Nat} (h : LikeOk n φ) {aL : EvL} {R : T → Sh → Prop} (ha : wpR (aL l s) fun ts s1 => ∃ x y t, ts = [x, y] ∧ viewT s1 viewN x = some t ∧ viewT s1 viewN y = some t ∧ DV t ∧ dep t < n ∧ R (.bl true) s1) : wpR (eCallV φ aL l s) R := by
  unfold eCallV
  rw [wpR_bind]
  refine wpR_up ha fun ts s1 ⟨x, y, t, e, vx, vy, d, dn, q⟩ => ?_
  subst e
  have em : mapO (viewT s1 viewN) id (fun _ y => y) [x, y] = some [t, t] := by
    unfold mapO
    have vx : viewT s1 viewN (id x) = some t := vx
    rw [vx]
    unfold mapO
    have vy : viewT s1 viewN (id y) = some t := vy
    rw [vy]
    rfl
  rw [em]
  have el : φ [t, t] [] = .ok (.bl true) [] := res_eq (h t [] _ d dn ⟨rfl, rfl⟩)
  dsimp only
  rw [el]
  exact q
end
end TL
/-! plain Lean over the T-layer, 74: law k18 -/
namespace TL
open PySem PySem.Spec PySem.SeqAt L2
theorem RowL.sort {A : List T} (h : RowL A) : RowL (sortRow A) := ⟨fun x hx => h.v x (sortRow_mem.mp hx), by rw [sortRow_len]; exact h.l⟩
theorem Rows.rl {A : List T} (h : Rows A) : RowL A := ⟨h.v, Nat.le_trans h.l (by decide)⟩
def twoT (A B : List T) : T := .lst [.lst A, .lst B]
theorem two_dv {A B : List T} (ra : RowL A) (rb : RowL B) : DV (twoT A B) ∧ dep (twoT A B) ≤ 6 := by
  obtain ⟨a1, a2, _⟩ := rows_dv ra.v ra.l
  obtain ⟨b1, b2, _⟩ := rows_dv rb.v rb.l
  refine ⟨⟨by show 2 ≤ 100000; omega, a1, b1, trivial⟩, ?_⟩
  show max (dep (T.lst A)) (max (dep (T.lst B)) 0) + 1 ≤ 6
  omega
theorem dLst_ok {xs : List T} {s : Sh} (h : xs.length ≤ 100) : dLst xs s = .ok (.lst xs) s := by
  unfold dLst
  rw [if_pos (Nat.le_trans h (by decide))]
theorem note_gr {s s' : Sh} {k : Nat} {A B : List T} (h : NoteAt s k A B) (g : Gr s s') : NoteAt s' k A B := by
  have kl : k < s.length := (List.getElem?_eq_some_iff.mp h).1
  exact (g.eq k kl).trans h
theorem note_lt {s : Sh} {k : Nat} {A B : List T} (h : NoteAt s k A B) : k < s.length := (List.getElem?_eq_some_iff.mp h).1
section
variable {fstr finit flen feq fturn fcome fgone flike fwreck flrow fcopy frows fopen : Fn}
def innerV (flen fcome fgone flike fwreck : Fn) : Sv := (sSeq (sAsg 8 (eShare (eA dLst (aCons (eMth [("Paper", fgone)] "gone" [] (eVar 5) aNil) (aCons (eMth [("Paper", fcome)] "come" [] (eVar 5) aNil) aNil))))) (sSeq (sIf (cOr (cNot (eT (eCallV flike (aCons (eVar 8) (aCons (eVar 6) aNil))))) (eT (e2 opNe (eA (biLenO [("Paper", flen)]) (aCons (eVar 5) aNil)) (e2 opAdd (eA biLen (aCons (e2 opIx (eVar 3) (eC (.int 0))) aNil)) (eA biLen (aCons (e2 opIx (eVar 3) (eC (.int 1))) aNil)))))) (sRet (eC (.bl false))) sNil) (sDrop (eCall fwreck (aCons (eVar 8) aNil)))))
theorem k18_inner (hlen : NoteLen flen) (hcome : NoteCop false fcome) (hgone : NoteCop true fgone) (hlike : LikeOk 20 flike) (hwr : WreckX 20 fwreck)
    {sc hv x2 x7 x8 x9 : Slot} {k : Nat} {A B A' B' : List T} {rest s : Sh} {nx bk ct : Loc → Sh → Prop} {rt : T → Sh → Prop} (d : Dr rest s) (hk : NoteAt s k A' B') (ra : RowL A') (rb : RowL B') (la : A'.length = A.length) (lb : B'.length = B.length)
    (q : ∀ x8 rest' s', Dr rest' s' → NoteAt s' k A' B' → nx [sc, .t (.cel 0), x2, .t (twoT A B), hv, .t (.cel k), .t (twoT A' B'), x7, x8, x9] s') :
    wpF (innerV flen fcome fgone flike fwreck [sc, .t (.cel 0), x2, .t (twoT A B), hv, .t (.cel k), .t (twoT A' B'), x7, x8, x9] s) nx rt bk ct := by
  have kl := note_lt hk
  obtain ⟨d1, d2⟩ := two_dv ra rb
  unfold innerV
  rw [wp_sSeq, wp_sAsg, wp_eShare, wp_eA, wp_aCons, mth_call hk (by decide +kernel) (by decide +kernel) rfl]
  refine hgone A' B' k s _ hk ra rb fun g s1 g1 o1 => ?_
  have hk1 := note_gr hk g1
  rw [wp_aCons, mth_call hk1 (by decide +kernel) (by decide +kernel) rfl]
  refine hcome A' B' k s1 _ hk1 ra rb fun c s2 g2 o2 => ?_
  rw [wp_aNil, dLst_ok (by show 2 ≤ 100; omega), wpR_ok, wp_share_lst]
  simp only [List.set_cons_succ, List.set_cons_zero]
  have g3 : Gr s2 (s2 ++ [SO.lst [g, c]]) := Gr.snoc _ _
  have hk3 := note_gr (note_gr hk1 g2) g3
  have o3 : OwnX (s2 ++ [SO.lst [g, c]]) (twoT A' B') (.cel s2.length) s.length (s2.length + 1) := by
    unfold twoT
    rw [OwnX]
    refine ⟨s2.length, [g, c], rfl, by simp, rfl, ?_⟩
    rw [OwnXs]
    refine ⟨g, [c], s1.length, rfl, ownx_same _ _ _ _ (fun j _ hj => ((g2.trans g3).eq j hj)) o1, ?_⟩
    rw [OwnXs]
    refine ⟨c, [], s2.length, rfl, ownx_same _ _ _ _ (fun j _ hj => g3.eq j hj) o2, ?_⟩
    rw [OwnXs]
    exact ⟨rfl, Nat.le_refl _⟩
  rw [wp_sSeq, wp_sIf, wp_cOr, wp_cNot, wp_eT]
  refine wp_like hlike ?_
  rw [wp_aCons]
  refine of_val (ev_var rfl) ?_
  rw [wp_aCons]
  refine of_val (ev_var rfl) ?_
  rw [wp_aNil]
  refine ⟨_, _, twoT A' B', rfl, ownx_view _ viewN _ _ _ _ d1 (by show dep (twoT A' B') < 100; omega) o3, view_dv _ viewN _ d1 (by show dep (twoT A' B') < 100; omega), d1, by omega, ?_⟩
  rw [show truB (T.bl true) (s2 ++ [SO.lst [g, c]]) = .ok true (s2 ++ [SO.lst [g, c]]) from rfl, wpR_ok]
  simp only [Bool.not_true, Bool.false_eq_true, if_false]
  rw [wp_eT, wp_e2, wp_eA, wp_aCons]
  refine of_val (ev_var rfl) ?_
  rw [wp_aNil, lenO_note hlen hk3 ra.l rb.l, wpR_ok, wp_e2, wp_eA, wp_aCons, wp_e2]
  refine of_val (ev_var rfl) ?_
  rw [wp_eC, twoT, p_ixL]
  refine ⟨.lst A, rfl, ?_⟩
  rw [wp_aNil, show ∀ (xs : List T) (s : Sh), biLen [.lst xs] s = .ok (.int xs.length) s from fun _ _ => rfl, wpR_ok, wp_eA, wp_aCons, wp_e2]
  refine of_val (ev_var rfl) ?_
  rw [wp_eC, p_ixL]
  refine ⟨.lst B, rfl, ?_⟩
  rw [wp_aNil, show ∀ (xs : List T) (s : Sh), biLen [.lst xs] s = .ok (.int xs.length) s from fun _ _ => rfl, wpR_ok, p_addI, wpR_ok, neI, wpR_ok]
  have e : decide (((A'.length + B'.length : Nat) : Int) = (A.length : Int) + (B.length : Int)) = true := decide_eq_true (by rw [la, lb]; omega)
  rw [e]
  rw [show truB (T.bl (!true)) (s2 ++ [SO.lst [g, c]]) = .ok false (s2 ++ [SO.lst [g, c]]) from rfl, wpR_ok, if_neg Bool.false_ne_true, wp_sNil, wp_sDrop, wp_eCall, wp_aCons]
  refine of_val (ev_var rfl) ?_
  rw [wp_aNil]
  refine hwr (twoT A' B') (.cel s2.length) s.length (s2.length + 1) _ _ o3 d1 (by omega) fun r s4 c4 => ?_
  obtain ⟨r1, e1⟩ := d.gr ((g1.trans g2).trans g3)
  obtain ⟨r2, e2'⟩ := e1.ch c4 d.pos
  exact q _ r2 s4 e2' ((c4.eq k (.inl kl)).trans hk3)
end
end TL
/-! plain Lean over the T-layer, 75: law k18: one turn -/
namespace TL
open PySem PySem.Spec PySem.SeqAt L2
theorem ix_cel {s : Sh} {k : Nat} {xs : List T} {j : Int} {t : T} (h : s[k]? = some (.lst xs)) (e : atI xs j = some t) : opIx (.cel k) (.int j) s = .ok t s := by
  simp [opIx, h, e]
theorem strI_ok {n : Nat} (h : n ≤ 10) (s : Sh) : biStrI [.int n] s = .ok (.str (nS n)) s := by
  obtain ⟨h1, h2⟩ := numS_ok h
  show (if ((n : Int)).natAbs.log2 < 1920 ∧ (toString (n : Int) : Str).length ≤ sizeLine then Res.ok (T.str (toString (n : Int))) s else Res.bad) = _
  rw [if_pos ⟨h1, Nat.le_trans h2 (by decide)⟩]
  rfl
theorem addS2 {x y : Str} (h : (x ++ y).length ≤ 100) (s : Sh) : opAdd (.str x) (.str y) s = .ok (.str (x ++ y)) s := by
  rw [str_app_len] at h
  show (if x.length + y.length ≤ sizeLine then Res.ok (T.str (x ++ y)) s else Res.bad) = _
  rw [if_pos (Nat.le_trans h (by decide))]
theorem len_lst (xs : List T) (s : Sh) : biLen [.lst xs] s = .ok (.int xs.length) s := rfl
section
variable {fstr finit flen feq fturn fcome fgone flike fwreck flrow fcopy frows fopen : Fn}
def turnV (fstr finit flen feq fturn fcome fgone flike fwreck flrow fcopy frows : Fn) : Sv := (sSeq (sAsg 3 (eA dLst (aCons (eCall frows (aCons (eVar 1) aNil)) (aCons (eCall frows (aCons (eVar 1) aNil)) aNil)))) (sSeq (sAsg 4 (eCall fcopy (aCons (eVar 3) aNil))) (sSeq (sAsg 5 (eMake "Paper" finit [] (aCons (e2 opIx (eVar 4) (eC (.int 0))) (aCons (e2 opIx (eVar 4) (eC (.int 1))) aNil)))) (sSeq (sIf (cNot (eT (eCallV flike (aCons (eVar 4) (aCons (eVar 3) aNil))))) (sRet (eC (.bl false))) sNil) (sSeq (sDrop (eCall fwreck (aCons (eVar 4) aNil))) (sSeq (sAsg 6 (eA dLst (aCons (eSortK flrow (e2 opIx (eVar 3) (eC (.int 0)))) (aCons (eSortK flrow (e2 opIx (eVar 3) (eC (.int 1)))) aNil)))) (sSeq (sFor (itA rg1 (aCons (eC (.int 2)) aNil)) (.nm 7) (sSeq (sAsg 8 (eShare (eA dLst (aCons (eMth [("Paper", fgone)] "gone" [] (eVar 5) aNil) (aCons (eMth [("Paper", fcome)] "come" [] (eVar 5) aNil) aNil))))) (sSeq (sIf (cOr (cNot (eT (eCallV flike (aCons (eVar 8) (aCons (eVar 6) aNil))))) (eT (e2 opNe (eA (biLenO [("Paper", flen)]) (aCons (eVar 5) aNil)) (e2 opAdd (eA biLen (aCons (e2 opIx (eVar 3) (eC (.int 0))) aNil)) (eA biLen (aCons (e2 opIx (eVar 3) (eC (.int 1))) aNil)))))) (sRet (eC (.bl false))) sNil) (sDrop (eCall fwreck (aCons (eVar 8) aNil)))))) (sSeq (sIf (eT (e2 opNe (eA (biStrO "__str__" [("Paper", fstr)]) (aCons (eVar 5) aNil)) (e2 opAdd (e2 opAdd (e2 opAdd (eC (.str "-")) (eA biStrI (aCons (eA biLen (aCons (e2 opIx (eVar 3) (eC (.int 0))) aNil)) aNil))) (eC (.str " +"))) (eA biStrI (aCons (eA biLen (aCons (e2 opIx (eVar 3) (eC (.int 1))) aNil)) aNil))))) (sRet (eC (.bl false))) sNil) (sSeq (sAsg 9 (eMth [("Paper", fturn)] "turned_about" [] (eVar 5) aNil)) (sSeq (sIf (cOr (cNot (eT (eCallV flike (aCons (eA dLst (aCons (eMth [("Paper", fgone)] "gone" [] (eVar 9) aNil) (aCons (eMth [("Paper", fcome)] "come" [] (eVar 9) aNil) aNil))) (aCons (e1 opRev (eVar 6)) aNil))))) (cNot (eT (e2 (opEqO "Paper" ["Paper"] feq) (eMth [("Paper", fturn)] "turned_about" [] (eVar 9) aNil) (eVar 5))))) (sRet (eC (.bl false))) sNil) (sIf (cOr (cNot (eT (e2 (opEqO "Paper" ["Paper"] feq) (eVar 5) (eMake "Paper" finit [] (aCons (e1 opRev (e2 opIx (eVar 3) (eC (.int 0)))) (aCons (e1 opRev (e2 opIx (eVar 3) (eC (.int 1)))) aNil)))))) (cOr (eT (e2 opNe (e2 (opEqO "Paper" ["Paper"] feq) (eVar 5) (eVar 9)) (e2 opEqX (e2 opIx (eVar 6) (eC (.int 0))) (e2 opIx (eVar 6) (eC (.int 1)))))) (eT (e2 (opEqO "Paper" ["Paper"] feq) (eVar 5) (eVar 6))))) (sRet (eC (.bl false))) sNil)))))))))))
structure K18 (fstr finit flen feq fturn fcome fgone flike fwreck flrow fcopy frows : Fn) : Prop where
  str : NoteStr fstr
  init : InitOk finit
  len : NoteLen flen
  eq : NoteEq feq
  turn : TurnOk fturn
  come : NoteCop false fcome
  gone : NoteCop true fgone
  like : LikeOk 20 flike
  wreck : WreckX 20 fwreck
  lrow : RowRk rrk2 flrow
  copy : CopX 20 fcopy
  rows : RowsDr frows
theorem view_two {s : Sh} {g c : T} {A B : List T} (h1 : viewT s 99 g = some (.lst A)) (h2 : viewT s 99 c = some (.lst B)) : viewT s viewN (.lst [g, c]) = some (twoT A B) := by
  unfold viewN viewT
  have e : mapO (viewT s 99) id (fun _ y => y) [g, c] = some [.lst A, .lst B] := by
    unfold mapO
    have h1 : viewT s 99 (id g) = some (.lst A) := h1
    rw [h1]
    unfold mapO
    have h2 : viewT s 99 (id c) = some (.lst B) := h2
    rw [h2]
    rfl
  rw [e]
  rfl
theorem k18_turn (K : K18 fstr finit flen feq fturn fcome fgone flike fwreck flrow fcopy frows) {sc x2 x3 x4 x5 x6 x7 x8 x9 : Slot} {rest s : Sh} {nx bk ct : Loc → Sh → Prop} {rt : T → Sh → Prop} (d : Dr rest s)
    (q : ∀ x3 x4 x5 x6 x7 x8 x9 rest' s', Dr rest' s' → nx [sc, .t (.cel 0), x2, x3, x4, x5, x6, x7, x8, x9] s') :
    wpF (turnV fstr finit flen feq fturn fcome fgone flike fwreck flrow fcopy frows [sc, .t (.cel 0), x2, x3, x4, x5, x6, x7, x8, x9] s) nx rt bk ct := by
  unfold turnV
  -- rows
  rw [wp_sSeq, wp_sAsg, wp_eA, wp_aCons, wp_eCall, wp_aCons]
  refine of_val (ev_var rfl) ?_
  rw [wp_aNil]
  refine K.rows rest s _ d fun A s1 d1 ha => ?_
  rw [wp_aCons, wp_eCall, wp_aCons]
  refine of_val (ev_var rfl) ?_
  rw [wp_aNil]
  refine K.rows rest s1 _ d1 fun B s2 d2 hb => ?_
  rw [wp_aNil, dLst_ok (by show 2 ≤ 100; omega), wpR_ok]
  simp only [List.set_cons_succ, List.set_cons_zero]
  have ra := ha.rl
  have rb := hb.rl
  obtain ⟨t1, t2⟩ := two_dv ra rb
  -- handed
  rw [wp_sSeq, wp_sAsg, wp_eCall, wp_aCons]
  refine of_val (ev_var rfl) ?_
  rw [wp_aNil]
  refine K.copy (twoT A B) s2 _ t1 (by omega) fun v s3 g3 _ o3 => ?_
  simp only [List.set_cons_succ, List.set_cons_zero]
  have o3' := o3
  unfold twoT at o3
  rw [OwnX] at o3
  obtain ⟨h, vs, rfl, eh, el, o3⟩ := o3
  rw [OwnXs] at o3
  obtain ⟨ca, ys, m, rfl, oa, o3⟩ := o3
  rw [OwnXs] at o3
  obtain ⟨cb, ys, m', rfl, ob, o3⟩ := o3
  rw [OwnXs] at o3
  obtain ⟨rfl, o3⟩ := o3
  have ma := ownx_le _ _ _ _ oa
  have mb := ownx_le _ _ _ _ ob
  obtain ⟨da1, da2, _⟩ := rows_dv ra.v ra.l
  obtain ⟨db1, db2, _⟩ := rows_dv rb.v rb.l
  have sh : Shows s3 s3.length ca cb A B := fun s' e => ⟨ownx_view s' viewN _ _ _ _ da1 (by show dep (T.lst A) < 100; omega) (ownx_same _ _ _ _ (fun j _ hj => e j (by omega)) oa), ownx_view s' viewN _ _ _ _ db1 (by show dep (T.lst B) < 100; omega) (ownx_same _ _ _ _ (fun j _ hj => e j (by omega)) ob)⟩
  -- note
  rw [wp_sSeq, wp_sAsg]
  refine make_note K.init (A := A) (B := B) (vg := ca) (vc := cb) (s1 := s3) ?_ ra rb sh ?_
  · unfold aCons aNil e2 eVar eC
    simp only [at_0, at_s, Res.bind_ok, ix_cel eh (show atI [ca, cb] 0 = some ca from rfl), ix_cel eh (show atI [ca, cb] 1 = some cb from rfl)]
  simp only [List.set_cons_succ, List.set_cons_zero]
  have rA := ra.sort
  have rB := rb.sort
  obtain ⟨u1, u2⟩ := two_dv rA rB
  have g4 : Gr s3 (s3 ++ [SO.ins "Paper" (noteF (sortRow A) (sortRow B))]) := Gr.snoc _ _
  have k4 : NoteAt (s3 ++ [SO.ins "Paper" (noteF (sortRow A) (sortRow B))]) s3.length (sortRow A) (sortRow B) := by
    unfold NoteAt
    simp
  -- like
  rw [wp_sSeq, wp_sIf, wp_cNot, wp_eT]
  refine wp_like K.like ?_
  rw [wp_aCons]
  refine of_val (ev_var rfl) ?_
  rw [wp_aCons]
  refine of_val (ev_var rfl) ?_
  rw [wp_aNil]
  have o4 : OwnX (s3 ++ [SO.ins "Paper" (noteF (sortRow A) (sortRow B))]) (twoT A B) (.cel h) s2.length s3.length := ownx_same _ _ _ _ (fun j _ hj => g4.eq j hj) o3'
  refine ⟨_, _, twoT A B, rfl, ownx_view _ viewN _ _ _ _ t1 (by show dep (twoT A B) < 100; omega) o4, view_dv _ viewN _ t1 (by show dep (twoT A B) < 100; omega), t1, by omega, ?_⟩
  rw [show ∀ (s : Sh), truB (T.bl true) s = .ok true s from fun _ => rfl, wpR_ok]
  simp only [Bool.not_true, Bool.false_eq_true, if_false]
  rw [wp_sNil]
  -- wrecked
  rw [wp_sSeq, wp_sDrop, wp_eCall, wp_aCons]
  refine of_val (ev_var rfl) ?_
  rw [wp_aNil]
  refine K.wreck (twoT A B) (.cel h) s2.length s3.length _ _ o4 t1 (by omega) fun r s5 c5 => ?_
  have k5 : NoteAt s5 s3.length (sortRow A) (sortRow B) := (c5.eq s3.length (.inr (Nat.le_refl _))).trans k4
  obtain ⟨r3, d3⟩ := d2.gr (g3.trans g4)
  obtain ⟨r5, d5⟩ := d3.ch c5 d2.pos
  -- due
  rw [wp_sSeq, wp_sAsg, wp_eA, wp_aCons]
  refine wp_sortRow K.lrow (.inr rfl) ?_
  rw [wp_e2]
  refine of_val (ev_var rfl) ?_
  rw [wp_eC]
  show wpR (opIx (.lst [.lst A, .lst B]) (.int 0) s5) _
  rw [p_ixL]
  refine ⟨.lst A, rfl, A, rfl, ra.v, ?_⟩
  rw [wp_aCons]
  refine wp_sortRow K.lrow (.inr rfl) ?_
  rw [wp_e2]
  refine of_val (ev_var rfl) ?_
  rw [wp_eC]
  show wpR (opIx (.lst [.lst A, .lst B]) (.int 1) s5) _
  rw [p_ixL]
  refine ⟨.lst B, rfl, B, rfl, rb.v, ?_⟩
  rw [wp_aNil, dLst_ok (by show 2 ≤ 100; omega), wpR_ok]
  simp only [List.set_cons_succ, List.set_cons_zero]
  -- asked twice
  rw [wp_sSeq, wp_sFor]
  simp only [wp_itA, wp_aCons, wp_aNil, wp_eC]
  rw [rg1_int (by decide) (by decide)]
  simp only [wpR_ok]
  refine for_inv (J := fun _ l s => ∃ x7 x8 rest, Dr rest s ∧ NoteAt s s3.length (sortRow A) (sortRow B) ∧ l = [sc, .t (.cel 0), x2, .t (twoT A B), .t (.cel h), .t (.cel s3.length), .t (twoT (sortRow A) (sortRow B)), x7, x8, x9]) ?_ ?_ ⟨_, _, _, d5, k5, rfl⟩
  rotate_left
  · rintro x items l s6 ⟨y7, y8, r6, d6, k6, rfl⟩
    refine ⟨_, rfl, ?_⟩
    simp only [List.set_cons_succ, List.set_cons_zero]
    exact k18_inner K.len K.come K.gone K.like K.wreck d6 k6 rA rB (sortRow_len A) (sortRow_len B) fun z8 r7 s7 d7 k7 => ⟨_, _, _, d7, k7, rfl⟩
  rintro l s6 ⟨y7, y8, r6, d6, k6, rfl⟩
  have lA : A.length ≤ 10 := ha.l
  have lB : B.length ≤ 10 := hb.l
  -- str
  rw [wp_sSeq, wp_sIf, wp_eT, wp_e2, wp_eA, wp_aCons]
  refine of_val (ev_var rfl) ?_
  rw [wp_aNil, strO_note K.str k6 (by rw [sortRow_len]; exact lA) (by rw [sortRow_len]; exact lB), wpR_ok, sortRow_len, sortRow_len]
  obtain ⟨w1, w2, w3⟩ := noteS_len lA lB
  have str1 : ∀ {C : List T} {j : Int} {l : Loc}, l.at 3 = .t (twoT A B) → atI [T.lst A, .lst B] j = some (.lst C) → C.length ≤ 10 → eA biStrI (aCons (eA biLen (aCons (e2 opIx (eVar 3) (eC (.int j))) aNil)) aNil) l s6 = .ok (.str (nS C.length)) s6 := fun {C j l} e a c => by
    have ix : e2 opIx (eVar 3) (eC (.int j)) l s6 = .ok (.lst C) s6 := by
      unfold e2 eVar eC
      rw [e, Res.bind_ok, Res.bind_ok]
      unfold twoT
      simp [opIx, a]
    unfold eA aCons aNil
    dsimp only
    rw [ix]
    simp only [Res.bind_ok, len_lst]
    exact strI_ok c s6
  rw [wp_e2, wp_e2, wp_e2, wp_eC, str1 rfl (show atI [T.lst A, .lst B] 0 = some (.lst A) from rfl) lA, wpR_ok, addS2 (by omega), wpR_ok, wp_eC, addS2 (by omega), wpR_ok, str1 rfl (show atI [T.lst A, .lst B] 1 = some (.lst B) from rfl) lB, wpR_ok, addS2 (by show (noteS A.length B.length).length ≤ 100; omega), wpR_ok, neS, wpR_ok]
  have es : (noteS A.length B.length == ((("-" : Str) ++ nS A.length) ++ (" +" : Str)) ++ nS B.length) = true := beq_self_eq_true (noteS A.length B.length)
  rw [es]
  rw [show ∀ (s : Sh), truB (T.bl (!true)) s = .ok false s from fun _ => rfl, wpR_ok, if_neg Bool.false_ne_true, wp_sNil]
  -- turned about
  have kl := note_lt k6
  rw [wp_sSeq, wp_sAsg, mth_call k6 (by decide +kernel) (by decide +kernel) rfl]
  refine K.turn _ _ _ _ _ k6 rA rB ?_
  rw [sortRow_idem, sortRow_idem]
  simp only [List.set_cons_succ, List.set_cons_zero]
  have g7 : Gr s6 (s6 ++ [SO.ins "Paper" (noteF (sortRow B) (sortRow A))]) := Gr.snoc _ _
  have b7 : NoteAt (s6 ++ [SO.ins "Paper" (noteF (sortRow B) (sortRow A))]) s6.length (sortRow B) (sortRow A) := by
    unfold NoteAt
    simp
  have k7 := note_gr k6 g7
  obtain ⟨r7, d7⟩ := d6.gr g7
  generalize s6 ++ [SO.ins "Paper" (noteF (sortRow B) (sortRow A))] = s7 at g7 b7 k7 d7 ⊢
  -- its own papers
  rw [wp_sSeq, wp_sIf, wp_cOr, wp_cNot, wp_eT]
  refine wp_like K.like ?_
  rw [wp_aCons, wp_eA, wp_aCons, mth_call b7 (by decide +kernel) (by decide +kernel) rfl]
  refine K.gone _ _ _ _ _ b7 rB rA fun g s8 g8 o8 => ?_
  have b8 := note_gr b7 g8
  rw [wp_aCons, mth_call b8 (by decide +kernel) (by decide +kernel) rfl]
  refine K.come _ _ _ _ _ b8 rB rA fun c s9 g9 o9 => ?_
  have b9 := note_gr b8 g9
  have k9 := note_gr (note_gr k7 g8) g9
  obtain ⟨r9, d9⟩ := d7.gr (g8.trans g9)
  rw [wp_aNil, dLst_ok (by show 2 ≤ 100; omega), wpR_ok, wp_aCons, wp_e1]
  refine of_val (ev_var rfl) ?_
  rw [show ∀ (s : Sh), opRev (twoT (sortRow A) (sortRow B)) s = .ok (twoT (sortRow B) (sortRow A)) s from fun _ => rfl, wpR_ok, wp_aNil]
  obtain ⟨v1, v2⟩ := two_dv rB rA
  obtain ⟨eA1, eA2, _⟩ := rows_dv rA.v rA.l
  obtain ⟨eB1, eB2, _⟩ := rows_dv rB.v rB.l
  refine ⟨_, _, twoT (sortRow B) (sortRow A), rfl, view_two (ownx_view _ 99 _ _ _ _ eB1 (by omega) (ownx_same _ _ _ _ (fun j _ hj => g9.eq j hj) o8)) (ownx_view _ 99 _ _ _ _ eA1 (by omega) o9), view_dv _ viewN _ v1 (by show dep (twoT (sortRow B) (sortRow A)) < 100; omega), v1, by omega, ?_⟩
  rw [show ∀ (s : Sh), truB (T.bl true) s = .ok true s from fun _ => rfl, wpR_ok]
  simp only [Bool.not_true, Bool.false_eq_true, if_false]
  rw [wp_cNot, wp_eT, wp_e2, mth_call b9 (by decide +kernel) (by decide +kernel) rfl]
  refine K.turn _ _ _ _ _ b9 rB rA ?_
  rw [sortRow_idem, sortRow_idem]
  have g10 : Gr s9 (s9 ++ [SO.ins "Paper" (noteF (sortRow A) (sortRow B))]) := Gr.snoc _ _
  have n10 : NoteAt (s9 ++ [SO.ins "Paper" (noteF (sortRow A) (sortRow B))]) s9.length (sortRow A) (sortRow B) := by
    unfold NoteAt
    simp
  have k10 := note_gr k9 g10
  have b10 := note_gr b9 g10
  obtain ⟨r10, d10⟩ := d9.gr g10
  generalize s9 ++ [SO.ins "Paper" (noteF (sortRow A) (sortRow B))] = s10 at g10 n10 k10 b10 d10 ⊢
  refine of_val (ev_var rfl) ?_
  rw [eqO_note n10 k10, K.eq.1 _ _ _ _ _ _ _ n10 k10 rA rB rA rB, wpR_ok, rows_refl rA.v, rows_refl rB.v]
  rw [show ∀ (s : Sh), truB (T.bl (true && true)) s = .ok true s from fun _ => rfl, wpR_ok]
  simp only [Bool.not_true, Bool.false_eq_true, if_false]
  rw [wp_sNil]
  -- made of the rows turned about
  rw [wp_sIf, wp_cOr, wp_cNot, wp_eT, wp_e2]
  refine of_val (ev_var rfl) ?_
  have rev1 : ∀ {C : List T} {j : Int} {l : Loc}, l.at 3 = .t (twoT A B) → atI [T.lst A, .lst B] j = some (.lst C) → e1 opRev (e2 opIx (eVar 3) (eC (.int j))) l s10 = .ok (.lst C.reverse) s10 := fun {C j l} e a => by
    have ix : e2 opIx (eVar 3) (eC (.int j)) l s10 = .ok (.lst C) s10 := by
      unfold e2 eVar eC
      rw [e, Res.bind_ok, Res.bind_ok]
      unfold twoT
      simp [opIx, a]
    unfold e1
    rw [ix]
    rfl
  have rrA : RowL A.reverse := ⟨fun x hx => ra.v x (by simpa using hx), by rw [List.length_reverse]; exact ra.l⟩
  have rrB : RowL B.reverse := ⟨fun x hx => rb.v x (by simpa using hx), by rw [List.length_reverse]; exact rb.l⟩
  refine make_note K.init (A := A.reverse) (B := B.reverse) (vg := .lst A.reverse) (vc := .lst B.reverse) (s1 := s10) ?_ rrA rrB (shows_plain rrA rrB s10 _) ?_
  · unfold aCons aNil
    rw [rev1 rfl (show atI [T.lst A, .lst B] 0 = some (.lst A) from rfl), Res.bind_ok, rev1 rfl (show atI [T.lst A, .lst B] 1 = some (.lst B) from rfl)]
    rfl
  rw [sortRow_rev ha, sortRow_rev hb]
  have g11 : Gr s10 (s10 ++ [SO.ins "Paper" (noteF (sortRow A) (sortRow B))]) := Gr.snoc _ _
  have n11 : NoteAt (s10 ++ [SO.ins "Paper" (noteF (sortRow A) (sortRow B))]) s10.length (sortRow A) (sortRow B) := by
    unfold NoteAt
    simp
  have k11 := note_gr k10 g11
  have b11 := note_gr b10 g11
  obtain ⟨r11, d11⟩ := d10.gr g11
  generalize s10 ++ [SO.ins "Paper" (noteF (sortRow A) (sortRow B))] = s11 at g11 n11 k11 b11 d11 ⊢
  rw [eqO_note k11 n11, K.eq.1 _ _ _ _ _ _ _ k11 n11 rA rB rA rB, wpR_ok, rows_refl rA.v, rows_refl rB.v]
  rw [show ∀ (s : Sh), truB (T.bl (true && true)) s = .ok true s from fun _ => rfl, wpR_ok]
  simp only [Bool.not_true, Bool.false_eq_true, if_false]
  rw [wp_cOr, wp_eT, wp_e2, wp_e2]
  refine of_val (ev_var rfl) ?_
  refine of_val (ev_var rfl) ?_
  rw [eqO_note k11 b11, K.eq.1 _ _ _ _ _ _ _ k11 b11 rA rB rB rA, wpR_ok, wp_e2, wp_e2]
  refine of_val (ev_var rfl) ?_
  rw [wp_eC]
  show wpR (opIx (.lst [.lst (sortRow A), .lst (sortRow B)]) (.int 0) s11) _
  rw [p_ixL]
  refine ⟨_, rfl, ?_⟩
  rw [wp_e2]
  refine of_val (ev_var rfl) ?_
  rw [wp_eC]
  show wpR (opIx (.lst [.lst (sortRow A), .lst (sortRow B)]) (.int 1) s11) _
  rw [p_ixL]
  refine ⟨_, rfl, ?_⟩
  rw [eq_rows rA.v rB.v rA.l rB.l, wpR_ok, neB, wpR_ok, rows_symm rB.v rA.v, Bool.and_self, beq_self_eq_true]
  rw [show ∀ (s : Sh), truB (T.bl (!true)) s = .ok false s from fun _ => rfl, wpR_ok, if_neg Bool.false_ne_true, wp_eT, wp_e2]
  refine of_val (ev_var rfl) ?_
  refine of_val (ev_var rfl) ?_
  rw [show twoT (sortRow A) (sortRow B) = .lst [.lst (sortRow A), .lst (sortRow B)] from rfl, eqO_lst k11, K.eq.2, wpR_ok]
  rw [show ∀ (s : Sh), truB (T.bl false) s = .ok false s from fun _ => rfl, wpR_ok, if_neg Bool.false_ne_true, wp_sNil]
  exact q _ _ _ _ _ _ _ r11 s11 d11
end
end TL
/-! plain Lean over the T-layer, 76: law k18 -/
namespace TL
open PySem PySem.Spec PySem.SeqAt L2
theorem sortRow_nil : sortRow [] = [] := List.mergeSort_of_pairwise List.Pairwise.nil
theorem rowl_nil : RowL [] := ⟨fun x hx => (by cases hx), Nat.zero_le _⟩
section
variable {fstr finit flen feq fturn fcome fgone flike fwreck flrow fcopy frows fopen : Fn}
theorem k18_law (K : K18 fstr finit flen feq fturn fcome fgone flike fwreck flrow fcopy frows)
    (hop : ∀ (ns : List Int) (R : T → Sh → Prop) (s : Sh), ns.length ≤ 63 → R (.lst [.lst (ns.map T.int), .int 0, .int 0, .int 43]) s → wpR (fopen [.scr ns] s) R) (ns : List Int) (hns : ns.length ≤ 63) :
    wpR (runB0 false 10 (b_law_k18 fstr finit flen feq fturn fcome fgone flike fwreck flrow fcopy frows fopen) [.scr ns] []) fun t _ => t = .bl true := by
  rw [wp_runB0, b_law_k18, st1, wp_sSeq, wp_sAsg, wp_eShare, wp_eCall, wp_aCons]
  simp only [List.replicate]
  refine of_val (ev_var rfl) ?_
  rw [wp_aNil]
  refine hop ns _ [] hns ?_
  rw [wp_share_lst, wp_sSeq, wp_sFor]
  simp only [wp_itA, wp_aCons, wp_aNil, wp_eC, List.set_cons_succ, List.set_cons_zero]
  rw [rg1_int (by decide) (by decide)]
  simp only [wpR_ok]
  refine for_inv (J := fun _ l s => ∃ x2 x3 x4 x5 x6 x7 x8 x9 rest, Dr rest s ∧ l = [.t (.scr ns), .t (.cel 0), x2, x3, x4, x5, x6, x7, x8, x9]) ?_ ?_ ?_
  · rintro l s ⟨x2, x3, x4, x5, x6, x7, x8, x9, rest, d, rfl⟩
    have mk : ∀ (l : Loc) (s : Sh) (R : T → Sh → Prop), R (.cel s.length) (s ++ [.ins "Paper" (noteF [] [])]) → wpR (eMake "Paper" finit [] (aCons (eA dLst aNil) (aCons (eA dLst aNil) aNil)) l s) R := fun l s R q => by
      refine make_note K.init (A := []) (B := []) (vg := .lst []) (vc := .lst []) (s1 := s) rfl rowl_nil rowl_nil (shows_plain rowl_nil rowl_nil s _) ?_
      rw [sortRow_nil]
      exact q
    have at_ : ∀ s : Sh, NoteAt (s ++ [.ins "Paper" (noteF [] [])]) s.length [] [] := fun s => by
      unfold NoteAt
      simp
    rw [wp_sRet, wp_eAnd, wp_e2, wp_eA, wp_aCons]
    refine mk _ _ _ ?_
    rw [wp_aNil, lenO_note K.len (at_ s) (Nat.zero_le _) (Nat.zero_le _), wpR_ok, wp_eC, eqI, wpR_ok]
    show wpR _ _
    rw [wp_e2, wp_eA, wp_aCons]
    refine mk _ _ _ ?_
    rw [wp_aNil, strO_note K.str (at_ _) (Nat.zero_le _) (Nat.zero_le _), wpR_ok, wp_eC, eqS, wpR_ok]
    have e : (noteS ([] : List T).length ([] : List T).length == ("-0 +0" : Str)) = true := by decide +kernel
    rw [e]
  · rintro x items l s ⟨x2, x3, x4, x5, x6, x7, x8, x9, rest, d, rfl⟩
    refine ⟨_, rfl, ?_⟩
    simp only [List.set_cons_succ, List.set_cons_zero]
    exact k18_turn K d fun y3 y4 y5 y6 y7 y8 y9 rest' s' d' => ⟨_, _, _, _, _, _, _, _, rest', d', rfl⟩
  · exact ⟨_, _, _, _, _, _, _, _, [], ⟨ns, 0, 0, 43, rfl, by omega, by omega, by omega, by omega⟩, rfl⟩
end
end TL
namespace LK18
open PySem PySem.Spec L2 TL
theorem f_pull (n : Nat) : PullOk (F (n + 1))._law_pull := pull_ok
theorem f_num (n : Nat) : NumOk (F (n + 1))._law_num := num_ok
theorem f_like : ∀ n : Nat, LikeOk n (F (n + 1))._law_like
  | 0 => like0 _
  | n + 1 => like_step (f_like n) (f_num n)
theorem f_any (n : Nat) : AnyOk (F (n + 2))._law_any := any_ok (f_pull n)
theorem f_name (n : Nat) : NameOk (F (n + 2))._law_name := name_ok (f_pull n)
theorem f_plain (n : Nat) : PlainOk (F (n + 3))._law_plain := plain_ok (f_pull (n + 1)) (f_any n)
theorem f_value : ∀ j m : Nat, 2 * j + 4 ≤ m → ValueOk j (F m)._law_value ∧ RecordOk j (F m)._law_record
  | 0, m, _ => ⟨value0 _, record0 _⟩
  | j + 1, m, h => by
    have v : ∀ m, 2 * j + 5 ≤ m → ValueOk (j + 1) (F m)._law_value := fun m h => by
      obtain ⟨k, rfl⟩ : ∃ k, m = k + 4 := ⟨m - 4, by omega⟩
      obtain ⟨h1, h2⟩ := f_value j (k + 3) (by omega)
      exact value_step (f_pull (k + 2)) (f_plain k) h1 h2
    refine ⟨v m (by omega), ?_⟩
    obtain ⟨k, rfl⟩ : ∃ k, m = k + 3 := ⟨m - 3, by omega⟩
    exact record_step (f_pull (k + 1)) (f_name k) (v (k + 2) (by omega))
theorem f_rank : ∀ n : Nat, RankV n (F n).rank
  | 0 => rankv0 _
  | n + 1 => rankv_step (f_rank n)
theorem f_lrank : ∀ n : Nat, RankV n (F n)._law_rank
  | 0 => rankv0 _
  | n + 1 => lrankv_step (f_lrank n)
theorem f_copied : ∀ n : Nat, CopX n (F n).copied
  | 0 => copx0 _
  | n + 1 => copx_step (f_copied n)
theorem f_copy : ∀ n : Nat, CopX n (F n)._law_copy
  | 0 => copx0 _
  | n + 1 => lcopx_step (f_copy n)
theorem f_wreck : ∀ n : Nat, WreckX n (F n)._law_wreck
  | 0 => wreckx0 _
  | n + 1 => wreckx_step (f_wreck n)
theorem f_key (n : Nat) (h : 3 ≤ n) : KeyRk (F (n + 1)).key_rank := key_rk (f_rank n) h
theorem f_entry (n : Nat) (h : 3 ≤ n) : EntryRk (F (n + 2)).entry_rank := entry_rk (f_key n h)
theorem f_row (n : Nat) (h : 3 ≤ n) : RowRk rrk1 (F (n + 3)).row_rank := row_rk (f_entry n h)
theorem f_lentry (n : Nat) (h : 3 ≤ n) : EntryRk (F (n + 1))._law_entry_rank := lentry_rk (f_lrank n) h
theorem f_lrow (n : Nat) (h : 3 ≤ n) : RowRk rrk2 (F (n + 2))._law_row_rank := lrow_rk (f_lentry n h)
theorem f_init (n : Nat) (h : 3 ≤ n) : InitOk (F (n + 4)).Paper___init__ := init_ok (f_copied (n + 3)) (by omega) (f_row n h)
theorem f_str (n : Nat) : NoteStr (F (n + 1)).Paper___str__ := notestr_ok
theorem f_len (n : Nat) : NoteLen (F (n + 1)).Paper___len__ := notelen_ok
theorem f_eq (n : Nat) : NoteEq (F (n + 1)).Paper___eq__ := noteeq_ok
theorem f_turn (n : Nat) (h : 3 ≤ n) : TurnOk (F (n + 5)).Paper_turned_about := turn_ok (f_init n h)
theorem f_come (n : Nat) (h : 6 ≤ n) : NoteCop false (F (n + 1)).Paper_come := come_ok (f_copied n) h
theorem f_gone (n : Nat) (h : 6 ≤ n) : NoteCop true (F (n + 1)).Paper_gone := gone_ok (f_copied n) h
theorem f_lkey (n : Nat) (h : 8 ≤ n) : KeyDr (F (n + 1))._law_key := @key_dr 2 (F n)._law_value (f_value 2 n (by omega)).1 (Nat.le_refl _)
theorem f_rows (n : Nat) (h : 8 ≤ n) : RowsDr (F (n + 3))._law_some_rows := @some_rows (F (n + 2))._law_pull (F (n + 2))._law_key (F (n + 2))._law_any (f_pull (n + 1)) (@f_lkey (n + 1) (Nat.le_succ_of_le h)) (f_any n)
theorem k18 : K18 (F 25).Paper___str__ (F 25).Paper___init__ (F 25).Paper___len__ (F 25).Paper___eq__ (F 25).Paper_turned_about (F 25).Paper_come (F 25).Paper_gone (F 25)._law_like (F 25)._law_wreck (F 25)._law_row_rank (F 25)._law_copy (F 25)._law_some_rows where
  str := f_str 24
  init := f_init 21 (by decide)
  len := f_len 24
  eq := f_eq 24
  turn := f_turn 20 (by decide)
  come := f_come 24 (by decide)
  gone := f_gone 24 (by decide)
  like := fun t s R d hd q => f_like 24 t s R d (Nat.lt_of_lt_of_le hd (by decide)) q
  wreck := fun t v lo hi s Q o d hd q => f_wreck 25 t v lo hi s Q o d (Nat.lt_of_lt_of_le hd (by decide)) q
  lrow := f_lrow 23 (by decide)
  copy := fun t s Q d hd q => f_copy 25 t s Q d (Nat.lt_of_lt_of_le hd (by decide)) q
  rows := f_rows 22 (by decide)
theorem law_ok (ns : List Int) (h : ns.length ≤ 63) : wpR ((F 26).law [.scr ns] []) fun t _ => t = .bl true := k18_law k18 (fun ns R s h q => open_ok h q) ns h
end LK18
set_option maxHeartbeats 0
namespace LK18
open PySem PySem.Spec PyProof.Rows L2 TL
def top (i : Nat) : Stmt := PySem.Challenge.pw_lodepath_k18_papers_by_themselves.main.body.getD i (.Pass ⟨0, 0, 0, 0⟩)
abbrev s_copied : Stmt := top 1
abbrev s_rank : Stmt := top 2
abbrev s_key_rank : Stmt := top 4
abbrev s_entry_rank : Stmt := top 5
abbrev s_row_rank : Stmt := top 7
abbrev s__law_open : Stmt := top 10
abbrev s__law_pull : Stmt := top 11
abbrev s__law_any : Stmt := top 12
abbrev s__law_num : Stmt := top 13
abbrev s__law_like : Stmt := top 14
abbrev s__law_copy : Stmt := top 15
abbrev s__law_rank : Stmt := top 16
abbrev s__law_name : Stmt := top 17
abbrev s__law_plain : Stmt := top 18
abbrev s__law_value : Stmt := top 19
abbrev s__law_record : Stmt := top 20
abbrev s__law_entry_rank : Stmt := top 21
abbrev s__law_key : Stmt := top 22
abbrev s__law_row_rank : Stmt := top 23
abbrev s__law_wreck : Stmt := top 24
abbrev s__law_some_rows : Stmt := top 25
abbrev s_law : Stmt := top 26
abbrev s_Paper___init__ : Stmt := inClass (top 8) 0
abbrev s_Paper___len__ : Stmt := inClass (top 8) 1
abbrev s_Paper___eq__ : Stmt := inClass (top 8) 2
abbrev s_Paper___str__ : Stmt := inClass (top 8) 3
abbrev s_Paper_gone : Stmt := inClass (top 8) 4
abbrev s_Paper_come : Stmt := inClass (top 8) 5
abbrev s_Paper_turned_about : Stmt := inClass (top 8) 6
def d_copied : He.DefD := ⟨("copied", none), "copied", "copied", defArgs s_copied, defBody s_copied, defScope s_copied, [], []⟩
def d_rank : He.DefD := ⟨("rank", none), "rank", "rank", defArgs s_rank, defBody s_rank, defScope s_rank, [], []⟩
def d_key_rank : He.DefD := ⟨("key_rank", none), "key_rank", "key_rank", defArgs s_key_rank, defBody s_key_rank, defScope s_key_rank, [], []⟩
def d_entry_rank : He.DefD := ⟨("entry_rank", none), "entry_rank", "entry_rank", defArgs s_entry_rank, defBody s_entry_rank, defScope s_entry_rank, [], []⟩
def d_row_rank : He.DefD := ⟨("row_rank", none), "row_rank", "row_rank", defArgs s_row_rank, defBody s_row_rank, defScope s_row_rank, [], []⟩
def d__law_open : He.DefD := ⟨("_law_open", none), "_law_open", "_law_open", defArgs s__law_open, defBody s__law_open, defScope s__law_open, [], []⟩
def d__law_pull : He.DefD := ⟨("_law_pull", none), "_law_pull", "_law_pull", defArgs s__law_pull, defBody s__law_pull, defScope s__law_pull, [], []⟩
def d__law_any : He.DefD := ⟨("_law_any", none), "_law_any", "_law_any", defArgs s__law_any, defBody s__law_any, defScope s__law_any, [], []⟩
def d__law_num : He.DefD := ⟨("_law_num", none), "_law_num", "_law_num", defArgs s__law_num, defBody s__law_num, defScope s__law_num, [], []⟩
def d__law_like : He.DefD := ⟨("_law_like", none), "_law_like", "_law_like", defArgs s__law_like, defBody s__law_like, defScope s__law_like, [], []⟩
def d__law_copy : He.DefD := ⟨("_law_copy", none), "_law_copy", "_law_copy", defArgs s__law_copy, defBody s__law_copy, defScope s__law_copy, [], []⟩
def d__law_rank : He.DefD := ⟨("_law_rank", none), "_law_rank", "_law_rank", defArgs s__law_rank, defBody s__law_rank, defScope s__law_rank, [], []⟩
def d__law_name : He.DefD := ⟨("_law_name", none), "_law_name", "_law_name", defArgs s__law_name, defBody s__law_name, defScope s__law_name, [], []⟩
def d__law_plain : He.DefD := ⟨("_law_plain", none), "_law_plain", "_law_plain", defArgs s__law_plain, defBody s__law_plain, defScope s__law_plain, [], []⟩
def d__law_value : He.DefD := ⟨("_law_value", none), "_law_value", "_law_value", defArgs s__law_value, defBody s__law_value, defScope s__law_value, [], []⟩
def d__law_record : He.DefD := ⟨("_law_record", none), "_law_record", "_law_record", defArgs s__law_record, defBody s__law_record, defScope s__law_record, [], []⟩
def d__law_entry_rank : He.DefD := ⟨("_law_entry_rank", none), "_law_entry_rank", "_law_entry_rank", defArgs s__law_entry_rank, defBody s__law_entry_rank, defScope s__law_entry_rank, [], []⟩
def d__law_key : He.DefD := ⟨("_law_key", none), "_law_key", "_law_key", defArgs s__law_key, defBody s__law_key, defScope s__law_key, [], []⟩
def d__law_row_rank : He.DefD := ⟨("_law_row_rank", none), "_law_row_rank", "_law_row_rank", defArgs s__law_row_rank, defBody s__law_row_rank, defScope s__law_row_rank, [], []⟩
def d__law_wreck : He.DefD := ⟨("_law_wreck", none), "_law_wreck", "_law_wreck", defArgs s__law_wreck, defBody s__law_wreck, defScope s__law_wreck, [], []⟩
def d__law_some_rows : He.DefD := ⟨("_law_some_rows", none), "_law_some_rows", "_law_some_rows", defArgs s__law_some_rows, defBody s__law_some_rows, defScope s__law_some_rows, [], []⟩
def d_law : He.DefD := ⟨("law", none), "law", "law", defArgs s_law, defBody s_law, defScope s_law, [], []⟩
def d_Paper___init__ : He.DefD := ⟨("Paper", some "__init__"), "__init__", "Paper.__init__", defArgs s_Paper___init__, defBody s_Paper___init__, defScope s_Paper___init__, [], []⟩
def d_Paper___len__ : He.DefD := ⟨("Paper", some "__len__"), "__len__", "Paper.__len__", defArgs s_Paper___len__, defBody s_Paper___len__, defScope s_Paper___len__, [], []⟩
def d_Paper___eq__ : He.DefD := ⟨("Paper", some "__eq__"), "__eq__", "Paper.__eq__", defArgs s_Paper___eq__, defBody s_Paper___eq__, defScope s_Paper___eq__, [], []⟩
def d_Paper___str__ : He.DefD := ⟨("Paper", some "__str__"), "__str__", "Paper.__str__", defArgs s_Paper___str__, defBody s_Paper___str__, defScope s_Paper___str__, [], []⟩
def d_Paper_gone : He.DefD := ⟨("Paper", some "gone"), "gone", "Paper.gone", defArgs s_Paper_gone, defBody s_Paper_gone, defScope s_Paper_gone, [], []⟩
def d_Paper_come : He.DefD := ⟨("Paper", some "come"), "come", "Paper.come", defArgs s_Paper_come, defBody s_Paper_come, defScope s_Paper_come, [], []⟩
def d_Paper_turned_about : He.DefD := ⟨("Paper", some "turned_about"), "turned_about", "Paper.turned_about", defArgs s_Paper_turned_about, defBody s_Paper_turned_about, defScope s_Paper_turned_about, [], []⟩
def fn : List He.DefD := [d_copied, d_rank, d_key_rank, d_entry_rank, d_row_rank, d__law_open, d__law_pull, d__law_any, d__law_num, d__law_like, d__law_copy, d__law_rank, d__law_name, d__law_plain, d__law_value, d__law_record, d__law_entry_rank, d__law_key, d__law_row_rank, d__law_wreck, d__law_some_rows, d_law, d_Paper___init__, d_Paper___len__, d_Paper___eq__, d_Paper___str__, d_Paper_gone, d_Paper_come, d_Paper_turned_about]
def fa : List He.Fa := [.glo "copied", .glo "rank", .glo "key_rank", .glo "entry_rank", .glo "row_rank", .glo "_law_open", .glo "_law_pull", .glo "_law_any", .glo "_law_num", .glo "_law_like", .glo "_law_copy", .glo "_law_rank", .glo "_law_name", .glo "_law_plain", .glo "_law_value", .glo "_law_record", .glo "_law_entry_rank", .glo "_law_key", .glo "_law_row_rank", .glo "_law_wreck", .glo "_law_some_rows", .glo "law", .free "all", .free "bool", .free "dict", .free "int", .free "isinstance", .free "len", .free "list", .free "range", .free "sorted", .free "str", .free "tuple", .glo "Paper"]
def loose0 : List Str := ["copied", "rank", "key_rank", "entry_rank", "row_rank", "Paper", "_law_open", "_law_pull", "_law_any", "_law_num", "_law_like", "_law_copy", "_law_rank", "_law_name", "_law_plain", "_law_value", "_law_record", "_law_entry_rank", "_law_key", "_law_row_rank", "_law_wreck", "_law_some_rows"]
def loose : List Str := loose0
def ex (K : PySem.W.Frag) : Bool := (clsB K "Paper") && (isoB K "Paper" ["Paper"]) && (eqoB K "Paper" ["Paper"]) && (noatB K "Paper" "less") && (noatB K "Paper" "more") && (methB K "Paper" "__init__") && (methB K "Paper" "__len__") && (methB K "Paper" "__eq__") && (methB K "Paper" "__str__") && (methB K "Paper" "gone") && (methB K "Paper" "come") && (methB K "Paper" "turned_about") && (true)
def ts : List He.Tab := []
def tf : List He.Defn := []
theorem ex0 {K : PySem.W.Frag} (cx : ex K = true) : (clsB K "Paper") = true := (Bool.and_eq_true_iff.mp (Bool.and_eq_true_iff.mp (Bool.and_eq_true_iff.mp (Bool.and_eq_true_iff.mp (Bool.and_eq_true_iff.mp (Bool.and_eq_true_iff.mp (Bool.and_eq_true_iff.mp (Bool.and_eq_true_iff.mp (Bool.and_eq_true_iff.mp (Bool.and_eq_true_iff.mp (Bool.and_eq_true_iff.mp (Bool.and_eq_true_iff.mp cx).1).1).1).1).1).1).1).1).1).1).1).1
theorem ex1 {K : PySem.W.Frag} (cx : ex K = true) : (isoB K "Paper" ["Paper"]) = true := (Bool.and_eq_true_iff.mp (Bool.and_eq_true_iff.mp (Bool.and_eq_true_iff.mp (Bool.and_eq_true_iff.mp (Bool.and_eq_true_iff.mp (Bool.and_eq_true_iff.mp (Bool.and_eq_true_iff.mp (Bool.and_eq_true_iff.mp (Bool.and_eq_true_iff.mp (Bool.and_eq_true_iff.mp (Bool.and_eq_true_iff.mp (Bool.and_eq_true_iff.mp cx).1).1).1).1).1).1).1).1).1).1).1).2
theorem ex2 {K : PySem.W.Frag} (cx : ex K = true) : (eqoB K "Paper" ["Paper"]) = true := (Bool.and_eq_true_iff.mp (Bool.and_eq_true_iff.mp (Bool.and_eq_true_iff.mp (Bool.and_eq_true_iff.mp (Bool.and_eq_true_iff.mp (Bool.and_eq_true_iff.mp (Bool.and_eq_true_iff.mp (Bool.and_eq_true_iff.mp (Bool.and_eq_true_iff.mp (Bool.and_eq_true_iff.mp (Bool.and_eq_true_iff.mp cx).1).1).1).1).1).1).1).1).1).1).2
theorem ex3 {K : PySem.W.Frag} (cx : ex K = true) : (noatB K "Paper" "less") = true := (Bool.and_eq_true_iff.mp (Bool.and_eq_true_iff.mp (Bool.and_eq_true_iff.mp (Bool.and_eq_true_iff.mp (Bool.and_eq_true_iff.mp (Bool.and_eq_true_iff.mp (Bool.and_eq_true_iff.mp (Bool.and_eq_true_iff.mp (Bool.and_eq_true_iff.mp (Bool.and_eq_true_iff.mp cx).1).1).1).1).1).1).1).1).1).2
theorem ex4 {K : PySem.W.Frag} (cx : ex K = true) : (noatB K "Paper" "more") = true := (Bool.and_eq_true_iff.mp (Bool.and_eq_true_iff.mp (Bool.and_eq_true_iff.mp (Bool.and_eq_true_iff.mp (Bool.and_eq_true_iff.mp (Bool.and_eq_true_iff.mp (Bool.and_eq_true_iff.mp (Bool.and_eq_true_iff.mp (Bool.and_eq_true_iff.mp cx).1).1).1).1).1).1).1).1).2
theorem ex5 {K : PySem.W.Frag} (cx : ex K = true) : (methB K "Paper" "__init__") = true := (Bool.and_eq_true_iff.mp (Bool.and_eq_true_iff.mp (Bool.and_eq_true_iff.mp (Bool.and_eq_true_iff.mp (Bool.and_eq_true_iff.mp (Bool.and_eq_true_iff.mp (Bool.and_eq_true_iff.mp (Bool.and_eq_true_iff.mp cx).1).1).1).1).1).1).1).2
theorem ex6 {K : PySem.W.Frag} (cx : ex K = true) : (methB K "Paper" "__len__") = true := (Bool.and_eq_true_iff.mp (Bool.and_eq_true_iff.mp (Bool.and_eq_true_iff.mp (Bool.and_eq_true_iff.mp (Bool.and_eq_true_iff.mp (Bool.and_eq_true_iff.mp (Bool.and_eq_true_iff.mp cx).1).1).1).1).1).1).2
theorem ex7 {K : PySem.W.Frag} (cx : ex K = true) : (methB K "Paper" "__eq__") = true := (Bool.and_eq_true_iff.mp (Bool.and_eq_true_iff.mp (Bool.and_eq_true_iff.mp (Bool.and_eq_true_iff.mp (Bool.and_eq_true_iff.mp (Bool.and_eq_true_iff.mp cx).1).1).1).1).1).2
theorem ex8 {K : PySem.W.Frag} (cx : ex K = true) : (methB K "Paper" "__str__") = true := (Bool.and_eq_true_iff.mp (Bool.and_eq_true_iff.mp (Bool.and_eq_true_iff.mp (Bool.and_eq_true_iff.mp (Bool.and_eq_true_iff.mp cx).1).1).1).1).2
theorem ex9 {K : PySem.W.Frag} (cx : ex K = true) : (methB K "Paper" "gone") = true := (Bool.and_eq_true_iff.mp (Bool.and_eq_true_iff.mp (Bool.and_eq_true_iff.mp (Bool.and_eq_true_iff.mp cx).1).1).1).2
theorem ex10 {K : PySem.W.Frag} (cx : ex K = true) : (methB K "Paper" "come") = true := (Bool.and_eq_true_iff.mp (Bool.and_eq_true_iff.mp (Bool.and_eq_true_iff.mp cx).1).1).2
theorem ex11 {K : PySem.W.Frag} (cx : ex K = true) : (methB K "Paper" "turned_about") = true := (Bool.and_eq_true_iff.mp (Bool.and_eq_true_iff.mp cx).1).2
structure St (w : World) (K : PySem.W.Frag) (mg : Str → Option Value) : Prop where
  d_copied : ∃ f fd, FunD K "copied" "copied" (defArgs s_copied) (defBody s_copied) (defScope s_copied) [] [] f fd ∧ mg "copied" = some (.ref f)
  d_rank : ∃ f fd, FunD K "rank" "rank" (defArgs s_rank) (defBody s_rank) (defScope s_rank) [] [] f fd ∧ mg "rank" = some (.ref f)
  d_key_rank : ∃ f fd, FunD K "key_rank" "key_rank" (defArgs s_key_rank) (defBody s_key_rank) (defScope s_key_rank) [] [] f fd ∧ mg "key_rank" = some (.ref f)
  d_entry_rank : ∃ f fd, FunD K "entry_rank" "entry_rank" (defArgs s_entry_rank) (defBody s_entry_rank) (defScope s_entry_rank) [] [] f fd ∧ mg "entry_rank" = some (.ref f)
  d_row_rank : ∃ f fd, FunD K "row_rank" "row_rank" (defArgs s_row_rank) (defBody s_row_rank) (defScope s_row_rank) [] [] f fd ∧ mg "row_rank" = some (.ref f)
  d__law_open : ∃ f fd, FunD K "_law_open" "_law_open" (defArgs s__law_open) (defBody s__law_open) (defScope s__law_open) [] [] f fd ∧ mg "_law_open" = some (.ref f)
  d__law_pull : ∃ f fd, FunD K "_law_pull" "_law_pull" (defArgs s__law_pull) (defBody s__law_pull) (defScope s__law_pull) [] [] f fd ∧ mg "_law_pull" = some (.ref f)
  d__law_any : ∃ f fd, FunD K "_law_any" "_law_any" (defArgs s__law_any) (defBody s__law_any) (defScope s__law_any) [] [] f fd ∧ mg "_law_any" = some (.ref f)
  d__law_num : ∃ f fd, FunD K "_law_num" "_law_num" (defArgs s__law_num) (defBody s__law_num) (defScope s__law_num) [] [] f fd ∧ mg "_law_num" = some (.ref f)
  d__law_like : ∃ f fd, FunD K "_law_like" "_law_like" (defArgs s__law_like) (defBody s__law_like) (defScope s__law_like) [] [] f fd ∧ mg "_law_like" = some (.ref f)
  d__law_copy : ∃ f fd, FunD K "_law_copy" "_law_copy" (defArgs s__law_copy) (defBody s__law_copy) (defScope s__law_copy) [] [] f fd ∧ mg "_law_copy" = some (.ref f)
  d__law_rank : ∃ f fd, FunD K "_law_rank" "_law_rank" (defArgs s__law_rank) (defBody s__law_rank) (defScope s__law_rank) [] [] f fd ∧ mg "_law_rank" = some (.ref f)
  d__law_name : ∃ f fd, FunD K "_law_name" "_law_name" (defArgs s__law_name) (defBody s__law_name) (defScope s__law_name) [] [] f fd ∧ mg "_law_name" = some (.ref f)
  d__law_plain : ∃ f fd, FunD K "_law_plain" "_law_plain" (defArgs s__law_plain) (defBody s__law_plain) (defScope s__law_plain) [] [] f fd ∧ mg "_law_plain" = some (.ref f)
  d__law_value : ∃ f fd, FunD K "_law_value" "_law_value" (defArgs s__law_value) (defBody s__law_value) (defScope s__law_value) [] [] f fd ∧ mg "_law_value" = some (.ref f)
  d__law_record : ∃ f fd, FunD K "_law_record" "_law_record" (defArgs s__law_record) (defBody s__law_record) (defScope s__law_record) [] [] f fd ∧ mg "_law_record" = some (.ref f)
  d__law_entry_rank : ∃ f fd, FunD K "_law_entry_rank" "_law_entry_rank" (defArgs s__law_entry_rank) (defBody s__law_entry_rank) (defScope s__law_entry_rank) [] [] f fd ∧ mg "_law_entry_rank" = some (.ref f)
  d__law_key : ∃ f fd, FunD K "_law_key" "_law_key" (defArgs s__law_key) (defBody s__law_key) (defScope s__law_key) [] [] f fd ∧ mg "_law_key" = some (.ref f)
  d__law_row_rank : ∃ f fd, FunD K "_law_row_rank" "_law_row_rank" (defArgs s__law_row_rank) (defBody s__law_row_rank) (defScope s__law_row_rank) [] [] f fd ∧ mg "_law_row_rank" = some (.ref f)
  d__law_wreck : ∃ f fd, FunD K "_law_wreck" "_law_wreck" (defArgs s__law_wreck) (defBody s__law_wreck) (defScope s__law_wreck) [] [] f fd ∧ mg "_law_wreck" = some (.ref f)
  d__law_some_rows : ∃ f fd, FunD K "_law_some_rows" "_law_some_rows" (defArgs s__law_some_rows) (defBody s__law_some_rows) (defScope s__law_some_rows) [] [] f fd ∧ mg "_law_some_rows" = some (.ref f)
  d_law : ∃ f fd, FunD K "law" "law" (defArgs s_law) (defBody s_law) (defScope s_law) [] [] f fd ∧ mg "law" = some (.ref f)
  d_Paper___init__ : ∃ fd, FunD K "__init__" "Paper.__init__" (defArgs s_Paper___init__) (defBody s_Paper___init__) (defScope s_Paper___init__) [] [] (He.ma K (He.ga K "Paper") "__init__") fd
  d_Paper___len__ : ∃ fd, FunD K "__len__" "Paper.__len__" (defArgs s_Paper___len__) (defBody s_Paper___len__) (defScope s_Paper___len__) [] [] (He.ma K (He.ga K "Paper") "__len__") fd
  d_Paper___eq__ : ∃ fd, FunD K "__eq__" "Paper.__eq__" (defArgs s_Paper___eq__) (defBody s_Paper___eq__) (defScope s_Paper___eq__) [] [] (He.ma K (He.ga K "Paper") "__eq__") fd
  d_Paper___str__ : ∃ fd, FunD K "__str__" "Paper.__str__" (defArgs s_Paper___str__) (defBody s_Paper___str__) (defScope s_Paper___str__) [] [] (He.ma K (He.ga K "Paper") "__str__") fd
  d_Paper_gone : ∃ fd, FunD K "gone" "Paper.gone" (defArgs s_Paper_gone) (defBody s_Paper_gone) (defScope s_Paper_gone) [] [] (He.ma K (He.ga K "Paper") "gone") fd
  d_Paper_come : ∃ fd, FunD K "come" "Paper.come" (defArgs s_Paper_come) (defBody s_Paper_come) (defScope s_Paper_come) [] [] (He.ma K (He.ga K "Paper") "come") fd
  d_Paper_turned_about : ∃ fd, FunD K "turned_about" "Paper.turned_about" (defArgs s_Paper_turned_about) (defBody s_Paper_turned_about) (defScope s_Paper_turned_about) [] [] (He.ma K (He.ga K "Paper") "turned_about") fd
  n_all : mg "all" = none
  n_bool : mg "bool" = none
  n_dict : mg "dict" = none
  n_int : mg "int" = none
  n_isinstance : mg "isinstance" = none
  n_len : mg "len" = none
  n_list : mg "list" = none
  n_range : mg "range" = none
  n_sorted : mg "sorted" = none
  n_str : mg "str" = none
  n_tuple : mg "tuple" = none
  g_Paper : mg "Paper" = some (.ref (He.ga K "Paper"))
  c_Paper : ClsP K "Paper"
  io_Paper : isoB K "Paper" ["Paper"] = true
  eo_Paper : eqoB K "Paper" ["Paper"] = true
  na_Paper_less : NoAttr K (He.ga K "Paper") "less"
  na_Paper_more : NoAttr K (He.ga K "Paper") "more"
  mm_Paper___init__ : Meth K (He.ga K "Paper") "__init__" (He.ma K (He.ga K "Paper") "__init__")
  mm_Paper___len__ : Meth K (He.ga K "Paper") "__len__" (He.ma K (He.ga K "Paper") "__len__")
  mm_Paper___eq__ : Meth K (He.ga K "Paper") "__eq__" (He.ma K (He.ga K "Paper") "__eq__")
  mm_Paper___str__ : Meth K (He.ga K "Paper") "__str__" (He.ma K (He.ga K "Paper") "__str__")
  mm_Paper_gone : Meth K (He.ga K "Paper") "gone" (He.ma K (He.ga K "Paper") "gone")
  mm_Paper_come : Meth K (He.ga K "Paper") "come" (He.ma K (He.ga K "Paper") "come")
  mm_Paper_turned_about : Meth K (He.ga K "Paper") "turned_about" (He.ma K (He.ga K "Paper") "turned_about")
theorem st_of {w : World} {K : PySem.W.Frag} {h : Heap} {mg : Str → Option Value} (X : K.In h) (G : h.Ns mainGlobals mg) (cc : He.SaysX fa fn ts tf ex w h K) : St w K mg :=
  have ct := cc.t
  have c := ct.d
  have cx := cc.more
  ⟨(by obtain ⟨fd, h⟩ := c.def_ 0; exact ⟨_, fd, h, He.glo_ok X G (c.fact 0)⟩),
   (by obtain ⟨fd, h⟩ := c.def_ 1; exact ⟨_, fd, h, He.glo_ok X G (c.fact 1)⟩),
   (by obtain ⟨fd, h⟩ := c.def_ 2; exact ⟨_, fd, h, He.glo_ok X G (c.fact 2)⟩),
   (by obtain ⟨fd, h⟩ := c.def_ 3; exact ⟨_, fd, h, He.glo_ok X G (c.fact 3)⟩),
   (by obtain ⟨fd, h⟩ := c.def_ 4; exact ⟨_, fd, h, He.glo_ok X G (c.fact 4)⟩),
   (by obtain ⟨fd, h⟩ := c.def_ 5; exact ⟨_, fd, h, He.glo_ok X G (c.fact 5)⟩),
   (by obtain ⟨fd, h⟩ := c.def_ 6; exact ⟨_, fd, h, He.glo_ok X G (c.fact 6)⟩),
   (by obtain ⟨fd, h⟩ := c.def_ 7; exact ⟨_, fd, h, He.glo_ok X G (c.fact 7)⟩),
   (by obtain ⟨fd, h⟩ := c.def_ 8; exact ⟨_, fd, h, He.glo_ok X G (c.fact 8)⟩),
   (by obtain ⟨fd, h⟩ := c.def_ 9; exact ⟨_, fd, h, He.glo_ok X G (c.fact 9)⟩),
   (by obtain ⟨fd, h⟩ := c.def_ 10; exact ⟨_, fd, h, He.glo_ok X G (c.fact 10)⟩),
   (by obtain ⟨fd, h⟩ := c.def_ 11; exact ⟨_, fd, h, He.glo_ok X G (c.fact 11)⟩),
   (by obtain ⟨fd, h⟩ := c.def_ 12; exact ⟨_, fd, h, He.glo_ok X G (c.fact 12)⟩),
   (by obtain ⟨fd, h⟩ := c.def_ 13; exact ⟨_, fd, h, He.glo_ok X G (c.fact 13)⟩),
   (by obtain ⟨fd, h⟩ := c.def_ 14; exact ⟨_, fd, h, He.glo_ok X G (c.fact 14)⟩),
   (by obtain ⟨fd, h⟩ := c.def_ 15; exact ⟨_, fd, h, He.glo_ok X G (c.fact 15)⟩),
   (by obtain ⟨fd, h⟩ := c.def_ 16; exact ⟨_, fd, h, He.glo_ok X G (c.fact 16)⟩),
   (by obtain ⟨fd, h⟩ := c.def_ 17; exact ⟨_, fd, h, He.glo_ok X G (c.fact 17)⟩),
   (by obtain ⟨fd, h⟩ := c.def_ 18; exact ⟨_, fd, h, He.glo_ok X G (c.fact 18)⟩),
   (by obtain ⟨fd, h⟩ := c.def_ 19; exact ⟨_, fd, h, He.glo_ok X G (c.fact 19)⟩),
   (by obtain ⟨fd, h⟩ := c.def_ 20; exact ⟨_, fd, h, He.glo_ok X G (c.fact 20)⟩),
   (by obtain ⟨fd, h⟩ := c.def_ 21; exact ⟨_, fd, h, He.glo_ok X G (c.fact 21)⟩),
   (c.def_ 22),
   (c.def_ 23),
   (c.def_ 24),
   (c.def_ 25),
   (c.def_ 26),
   (c.def_ 27),
   (c.def_ 28),
   (He.free_ok X G (c.fact 22)),
   (He.free_ok X G (c.fact 23)),
   (He.free_ok X G (c.fact 24)),
   (He.free_ok X G (c.fact 25)),
   (He.free_ok X G (c.fact 26)),
   (He.free_ok X G (c.fact 27)),
   (He.free_ok X G (c.fact 28)),
   (He.free_ok X G (c.fact 29)),
   (He.free_ok X G (c.fact 30)),
   (He.free_ok X G (c.fact 31)),
   (He.free_ok X G (c.fact 32)),
   (He.glo_ok X G (c.fact 33)),
   (clsB_ok (ex0 cx)),
   ( (ex1 cx)),
   ( (ex2 cx)),
   (noatB_ok (ex3 cx)),
   (noatB_ok (ex4 cx)),
   (methB_ok (ex5 cx)),
   (methB_ok (ex6 cx)),
   (methB_ok (ex7 cx)),
   (methB_ok (ex8 cx)),
   (methB_ok (ex9 cx)),
   (methB_ok (ex10 cx)),
   (methB_ok (ex11 cx))⟩
structure Is (P : Program) (w : World) (K : PySem.W.Frag) (mg : Str → Option Value) (base : Heap) (n : Nat) : Prop where
  c_copied : CalP P w K mg base CX0 (4 * n) "copied" ["value"] false (F n).copied
  c_rank : CalP P w K mg base CX0 (4 * n) "rank" ["value"] false (F n).rank
  c_key_rank : CalP P w K mg base CX0 (4 * n) "key_rank" ["part"] false (F n).key_rank
  c_entry_rank : CalP P w K mg base CX0 (4 * n) "entry_rank" ["entry"] false (F n).entry_rank
  c_row_rank : CalP P w K mg base CX0 (4 * n) "row_rank" ["row"] false (F n).row_rank
  c__law_open : CalP P w K mg base CX0 (4 * n) "_law_open" ["_law_script"] true (F n)._law_open
  c__law_pull : CalP P w K mg base CX0 (4 * n) "_law_pull" ["_law_draw", "_law_top"] false (F n)._law_pull
  c__law_any : CalP P w K mg base CX0 (4 * n) "_law_any" ["_law_draw", "_law_some"] false (F n)._law_any
  c__law_num : CalP P w K mg base CX0 (4 * n) "_law_num" ["_law_found"] false (F n)._law_num
  c__law_like : CalP P w K mg base CX0 (4 * n) "_law_like" ["_law_found", "_law_due"] false (F n)._law_like
  c__law_copy : CalP P w K mg base CX0 (4 * n) "_law_copy" ["_law_value_here"] false (F n)._law_copy
  c__law_rank : CalP P w K mg base CX0 (4 * n) "_law_rank" ["_law_value_here"] false (F n)._law_rank
  c__law_name : CalP P w K mg base CX0 (4 * n) "_law_name" ["_law_draw"] false (F n)._law_name
  c__law_plain : CalP P w K mg base CX0 (4 * n) "_law_plain" ["_law_draw"] false (F n)._law_plain
  c__law_value : CalP P w K mg base CX0 (4 * n) "_law_value" ["_law_draw", "_law_bot"] false (F n)._law_value
  c__law_record : CalP P w K mg base CX0 (4 * n) "_law_record" ["_law_draw", "_law_bot", "_law_wide"] false (F n)._law_record
  c__law_entry_rank : CalP P w K mg base CX0 (4 * n) "_law_entry_rank" ["_law_entry"] false (F n)._law_entry_rank
  c__law_key : CalP P w K mg base CX0 (4 * n) "_law_key" ["_law_draw", "_law_wide"] false (F n)._law_key
  c__law_row_rank : CalP P w K mg base CX0 (4 * n) "_law_row_rank" ["_law_row"] false (F n)._law_row_rank
  c__law_wreck : CalP P w K mg base CX0 (4 * n) "_law_wreck" ["_law_value_here"] false (F n)._law_wreck
  c__law_some_rows : CalP P w K mg base CX0 (4 * n) "_law_some_rows" ["_law_draw"] false (F n)._law_some_rows
  c_law : CalP P w K mg base CX0 (4 * n) "law" ["_law_script"] false (F n).law
  m1_Paper___str__ : CalM P w K mg base CX0 (4 * n) "Paper" "__str__" false 1 [] (F n).Paper___str__
  m1_Paper___len__ : CalM P w K mg base CX0 (4 * n) "Paper" "__len__" false 1 [] (F n).Paper___len__
  m2_Paper___eq__ : CalM P w K mg base CX0 (4 * n) "Paper" "__eq__" false 2 [] (F n).Paper___eq__
  m1_Paper_turned_about : CalM P w K mg base CX0 (4 * n) "Paper" "turned_about" false 1 [] (F n).Paper_turned_about
  m1_Paper_come : CalM P w K mg base CX0 (4 * n) "Paper" "come" false 1 [] (F n).Paper_come
  m1_Paper_gone : CalM P w K mg base CX0 (4 * n) "Paper" "gone" false 1 [] (F n).Paper_gone
  k3_Paper___init__ : CalC P w K mg base CX0 (4 * n) "Paper" 3 [] (F n).Paper___init__
theorem sc_copied : FnScope ["value", "one", "name"] ["value"] (defScope s_copied) := ⟨rfl, rfl, rfl, by decide +kernel, rfl, by decide +kernel, by decide +kernel⟩
theorem sc_rank : FnScope ["value", "one", "name"] ["value"] (defScope s_rank) := ⟨rfl, rfl, rfl, by decide +kernel, rfl, by decide +kernel, by decide +kernel⟩
theorem sc_key_rank : FnScope ["part"] ["part"] (defScope s_key_rank) := ⟨rfl, rfl, rfl, by decide +kernel, rfl, by decide +kernel, by decide +kernel⟩
theorem sc_entry_rank : FnScope ["entry", "keys", "number", "part"] ["entry"] (defScope s_entry_rank) := ⟨rfl, rfl, rfl, by decide +kernel, rfl, by decide +kernel, by decide +kernel⟩
theorem sc_row_rank : FnScope ["row", "name", "keys", "number"] ["row"] (defScope s_row_rank) := ⟨rfl, rfl, rfl, by decide +kernel, rfl, by decide +kernel, by decide +kernel⟩
theorem sc__law_open : FnScope ["_law_script"] ["_law_script"] (defScope s__law_open) := ⟨rfl, rfl, rfl, by decide +kernel, rfl, by decide +kernel, by decide +kernel⟩
theorem sc__law_pull : FnScope ["_law_draw", "_law_top", "_law_cell", "_law_got"] ["_law_draw", "_law_top"] (defScope s__law_pull) := ⟨rfl, rfl, rfl, by decide +kernel, rfl, by decide +kernel, by decide +kernel⟩
theorem sc__law_any : FnScope ["_law_draw", "_law_some"] ["_law_draw", "_law_some"] (defScope s__law_any) := ⟨rfl, rfl, rfl, by decide +kernel, rfl, by decide +kernel, by decide +kernel⟩
theorem sc__law_num : FnScope ["_law_found"] ["_law_found"] (defScope s__law_num) := ⟨rfl, rfl, rfl, by decide +kernel, rfl, by decide +kernel, by decide +kernel⟩
theorem sc__law_like : FnScope ["_law_found", "_law_due", "_law_name_here", "_law_k"] ["_law_found", "_law_due"] (defScope s__law_like) := ⟨rfl, rfl, rfl, by decide +kernel, rfl, by decide +kernel, by decide +kernel⟩
theorem sc__law_copy : FnScope ["_law_value_here", "_law_one", "_law_name_here"] ["_law_value_here"] (defScope s__law_copy) := ⟨rfl, rfl, rfl, by decide +kernel, rfl, by decide +kernel, by decide +kernel⟩
theorem sc__law_rank : FnScope ["_law_value_here", "_law_one", "_law_name_here"] ["_law_value_here"] (defScope s__law_rank) := ⟨rfl, rfl, rfl, by decide +kernel, rfl, by decide +kernel, by decide +kernel⟩
theorem sc__law_name : FnScope ["_law_draw"] ["_law_draw"] (defScope s__law_name) := ⟨rfl, rfl, rfl, by decide +kernel, rfl, by decide +kernel, by decide +kernel⟩
theorem sc__law_plain : FnScope ["_law_draw", "_law_fork", "_law_some", "_law_stem"] ["_law_draw"] (defScope s__law_plain) := ⟨rfl, rfl, rfl, by decide +kernel, rfl, by decide +kernel, by decide +kernel⟩
theorem sc__law_value : FnScope ["_law_draw", "_law_bot", "_law_fork", "_law_k"] ["_law_draw", "_law_bot"] (defScope s__law_value) := ⟨rfl, rfl, rfl, by decide +kernel, rfl, by decide +kernel, by decide +kernel⟩
theorem sc__law_record : FnScope ["_law_draw", "_law_bot", "_law_wide", "_law_found", "_law_k"] ["_law_draw", "_law_bot", "_law_wide"] (defScope s__law_record) := ⟨rfl, rfl, rfl, by decide +kernel, rfl, by decide +kernel, by decide +kernel⟩
theorem sc__law_entry_rank : FnScope ["_law_entry", "_law_part"] ["_law_entry"] (defScope s__law_entry_rank) := ⟨rfl, rfl, rfl, by decide +kernel, rfl, by decide +kernel, by decide +kernel⟩
theorem sc__law_key : FnScope ["_law_draw", "_law_wide", "_law_k"] ["_law_draw", "_law_wide"] (defScope s__law_key) := ⟨rfl, rfl, rfl, by decide +kernel, rfl, by decide +kernel, by decide +kernel⟩
theorem sc__law_row_rank : FnScope ["_law_row"] ["_law_row"] (defScope s__law_row_rank) := ⟨rfl, rfl, rfl, by decide +kernel, rfl, by decide +kernel, by decide +kernel⟩
theorem sc__law_wreck : FnScope ["_law_value_here", "_law_one", "_law_name_here"] ["_law_value_here"] (defScope s__law_wreck) := ⟨rfl, rfl, rfl, by decide +kernel, rfl, by decide +kernel, by decide +kernel⟩
theorem sc__law_some_rows : FnScope ["_law_draw", "_law_found", "_law_k", "_law_row"] ["_law_draw"] (defScope s__law_some_rows) := ⟨rfl, rfl, rfl, by decide +kernel, rfl, by decide +kernel, by decide +kernel⟩
theorem sc_law : FnScope ["_law_script", "_law_draw", "_law_turn", "_law_rows", "_law_handed", "_law_note", "_law_due", "_law_step", "_law_found", "_law_back"] ["_law_script"] (defScope s_law) := ⟨rfl, rfl, rfl, by decide +kernel, rfl, by decide +kernel, by decide +kernel⟩
theorem sc_Paper___init__ : FnScope ["self", "gone", "come"] ["self", "gone", "come"] (defScope s_Paper___init__) := ⟨rfl, rfl, rfl, by decide +kernel, rfl, by decide +kernel, by decide +kernel⟩
theorem sc_Paper___len__ : FnScope ["self"] ["self"] (defScope s_Paper___len__) := ⟨rfl, rfl, rfl, by decide +kernel, rfl, by decide +kernel, by decide +kernel⟩
theorem sc_Paper___eq__ : FnScope ["self", "other"] ["self", "other"] (defScope s_Paper___eq__) := ⟨rfl, rfl, rfl, by decide +kernel, rfl, by decide +kernel, by decide +kernel⟩
theorem sc_Paper___str__ : FnScope ["self"] ["self"] (defScope s_Paper___str__) := ⟨rfl, rfl, rfl, by decide +kernel, rfl, by decide +kernel, by decide +kernel⟩
theorem sc_Paper_gone : FnScope ["self"] ["self"] (defScope s_Paper_gone) := ⟨rfl, rfl, rfl, by decide +kernel, rfl, by decide +kernel, by decide +kernel⟩
theorem sc_Paper_come : FnScope ["self"] ["self"] (defScope s_Paper_come) := ⟨rfl, rfl, rfl, by decide +kernel, rfl, by decide +kernel, by decide +kernel⟩
theorem sc_Paper_turned_about : FnScope ["self"] ["self"] (defScope s_Paper_turned_about) := ⟨rfl, rfl, rfl, by decide +kernel, rfl, by decide +kernel, by decide +kernel⟩
theorem o_copied {P : Program} {w : World} {K : PySem.W.Frag} {mg : Str → Option Value} {base : Heap} {n : Nat} (S : St w K mg) (I : Is P w K mg base n) {f : Addr} {fd : FuncData} (Fd : FunD K "copied" "copied" (defArgs s_copied) (defBody s_copied) (defScope s_copied) [] [] f fd) : FnOk P w K mg base CX0 (4 * n + 4) f fd ["value"] (spT K false 1 (F (n + 1)).copied) := by
  refine fn_tln Fd sc_copied fun cdv A outer s H E hr3 hr hr1 hr2 => ?_
  have nd := sc_copied.nd
  exact (ts_cons (ts_if (tt_val (t_bi call_isi sv_isi (by rfl) S.n_isinstance (by decide +kernel) (ta_cons (t_var (pv 0)) (ta_cons (t_tyv (by rfl) S.n_tuple (by decide +kernel)) ta_nil)))) (ts_one (ts_ret (t_ty call_tuple_of sv_tuple (by rfl) S.n_tuple (by decide +kernel) (ta_cons (fz (t_compN (own := [("one", 1)]) wopen0 (pv 0) rfl nd (blkOk_by (own := [("one", 1)]) (by kernel_rfl)) (by decide) (nm_sem 1) (fun _ _ _ _ _ => pg_name (i := 1) nd rfl (by first | exact Or.inl rfl | exact Or.inr rfl)) (fun _ _ _ _ _ => tts_nil) (fun _ _ _ _ _ => (TPR.toE (t_callP I.c_copied hr hx0 (by rfl) (ta_cons (t_var (pv 1)) ta_nil) (alen_cons alen_nil)))))) ta_nil)))) ts_nil) (ts_cons (ts_if (tt_val (t_bi call_isi sv_isi (by rfl) S.n_isinstance (by decide +kernel) (ta_cons (t_var (pv 0)) (ta_cons (t_tyv (by rfl) S.n_list (by decide +kernel)) ta_nil)))) (ts_one (ts_ret (t_share (t_compN (own := [("one", 1)]) wopen0 (pv 0) rfl nd (blkOk_by (own := [("one", 1)]) (by kernel_rfl)) (by decide) (nm_sem 1) (fun _ _ _ _ _ => pg_name (i := 1) nd rfl (by first | exact Or.inl rfl | exact Or.inr rfl)) (fun _ _ _ _ _ => tts_nil) (fun _ _ _ _ _ => (TPR.toE (t_callP I.c_copied hr hx0 (by rfl) (ta_cons (t_var (pv 1)) ta_nil) (alen_cons alen_nil)))))))) ts_nil) (ts_cons (ts_if (tt_val (t_bi call_isi sv_isi (by rfl) S.n_isinstance (by decide +kernel) (ta_cons (t_var (pv 0)) (ta_cons (t_tyv (by rfl) S.n_dict (by decide +kernel)) ta_nil)))) (ts_one (ts_ret (t_share (t_dcompN (own := [("name", 2)]) wopen0 (pv 0) rfl nd (blkOk_by (own := [("name", 2)]) (by kernel_rfl)) (by decide) (nm_sem 2) (fun _ _ _ _ _ => pg_name (i := 2) nd rfl (by first | exact Or.inl rfl | exact Or.inr rfl)) (fun _ _ _ _ _ => tts_nil) (fun _ _ _ _ _ => (t_var (pv 2))) (fun _ _ _ _ _ => (TPR.toE (t_callP I.c_copied hr hx0 (by rfl) (ta_cons (t_ix (ru hr) (t_var (pv 0)) (t_var (pv 2))) ta_nil) (alen_cons alen_nil)))))))) ts_nil) (ts_one (ts_ret (t_var (pv 0)))))))
theorem o_rank {P : Program} {w : World} {K : PySem.W.Frag} {mg : Str → Option Value} {base : Heap} {n : Nat} (S : St w K mg) (I : Is P w K mg base n) {f : Addr} {fd : FuncData} (Fd : FunD K "rank" "rank" (defArgs s_rank) (defBody s_rank) (defScope s_rank) [] [] f fd) : FnOk P w K mg base CX0 (4 * n + 4) f fd ["value"] (spT K false 1 (F (n + 1)).rank) := by
  refine fn_tln Fd sc_rank fun cdv A outer s H E hr3 hr hr1 hr2 => ?_
  have nd := sc_rank.nd
  exact (ts_cons (ts_if (tt_cmp op_isN sv_isN (t_var (pv 0)) t_non (nomark _)) (ts_one (ts_ret (t_tup (ta_cons t_int (ta_cons t_int ta_nil))))) ts_nil) (ts_cons (ts_if (tt_val (t_bi call_isi sv_isi (by rfl) S.n_isinstance (by decide +kernel) (ta_cons (t_var (pv 0)) (ta_cons (t_tyv (by rfl) S.n_int (by decide +kernel)) ta_nil)))) (ts_one (ts_ret (t_tup (ta_cons t_int (ta_cons (t_var (pv 0)) ta_nil))))) ts_nil) (ts_cons (ts_if (tt_val (t_bi call_isi sv_isi (by rfl) S.n_isinstance (by decide +kernel) (ta_cons (t_var (pv 0)) (ta_cons (t_tyv (by rfl) S.n_str (by decide +kernel)) ta_nil)))) (ts_one (ts_ret (t_tup (ta_cons t_int (ta_cons (t_var (pv 0)) ta_nil))))) ts_nil) (ts_cons (ts_if (tt_val (t_bi call_isi sv_isi (by rfl) S.n_isinstance (by decide +kernel) (ta_cons (t_var (pv 0)) (ta_cons (t_tyv (by rfl) S.n_list (by decide +kernel)) ta_nil)))) (ts_one (ts_ret (t_tup (ta_cons t_int (ta_cons (t_ty call_tuple_of sv_tuple (by rfl) S.n_tuple (by decide +kernel) (ta_cons (fz (t_compN (own := [("one", 1)]) wopen0 (pv 0) rfl nd (blkOk_by (own := [("one", 1)]) (by kernel_rfl)) (by decide) (nm_sem 1) (fun _ _ _ _ _ => pg_name (i := 1) nd rfl (by first | exact Or.inl rfl | exact Or.inr rfl)) (fun _ _ _ _ _ => tts_nil) (fun _ _ _ _ _ => (TPR.toE (t_callP I.c_rank hr hx0 (by rfl) (ta_cons (t_var (pv 1)) ta_nil) (alen_cons alen_nil)))))) ta_nil)) ta_nil))))) ts_nil) (ts_one (ts_ret (t_tup (ta_cons t_int (ta_cons (t_ty call_tuple_of sv_tuple (by rfl) S.n_tuple (by decide +kernel) (ta_cons (fz (t_comp (own := [("name", 2)]) rfl nd (ti_val (fz (t_biO (call_sortO rfl (ru hr)) sv_sortO (by rfl) S.n_sorted (by decide +kernel) (ta_cons (t_var (pv 0)) ta_nil)))) (blkOk_by (own := [("name", 2)]) (by kernel_rfl)) (by decide) (nm_sem 2) (fun _ _ _ _ _ => pg_name (i := 2) nd rfl (by first | exact Or.inl rfl | exact Or.inr rfl)) (fun _ _ _ _ _ => tts_nil) (fun _ _ _ _ _ => (t_tup (ta_cons (t_var (pv 2)) (ta_cons (TPR.toE (t_callP I.c_rank hr hx0 (by rfl) (ta_cons (t_ix (ru hr) (t_var (pv 0)) (t_var (pv 2))) ta_nil) (alen_cons alen_nil))) ta_nil)))))) ta_nil)) ta_nil)))))))))
theorem o_key_rank {P : Program} {w : World} {K : PySem.W.Frag} {mg : Str → Option Value} {base : Heap} {n : Nat} (S : St w K mg) (I : Is P w K mg base n) {f : Addr} {fd : FuncData} (Fd : FunD K "key_rank" "key_rank" (defArgs s_key_rank) (defBody s_key_rank) (defScope s_key_rank) [] [] f fd) : FnOk P w K mg base CX0 (4 * n + 4) f fd ["part"] (spT K false 1 (F (n + 1)).key_rank) := by
  refine fn_tln Fd sc_key_rank fun cdv A outer s H E hr3 hr hr1 hr2 => ?_
  have nd := sc_key_rank.nd
  exact (ts_one (ts_ret (t_if (tt_val (t_bi call_isi sv_isi (by rfl) S.n_isinstance (by decide +kernel) (ta_cons (t_var (pv 0)) (ta_cons (t_tyv (by rfl) S.n_tuple (by decide +kernel)) ta_nil)))) (TPR.toE (t_callP I.c_rank hr hx0 (by rfl) (ta_cons (fz (t_tyO call_list_of sv_listO (by rfl) S.n_list (by decide +kernel) (ta_cons (t_var (pv 0)) ta_nil))) ta_nil) (alen_cons alen_nil))) (TPR.toE (t_callP I.c_rank hr hx0 (by rfl) (ta_cons (t_var (pv 0)) ta_nil) (alen_cons alen_nil))))))
theorem o_entry_rank {P : Program} {w : World} {K : PySem.W.Frag} {mg : Str → Option Value} {base : Heap} {n : Nat} (S : St w K mg) (I : Is P w K mg base n) {f : Addr} {fd : FuncData} (Fd : FunD K "entry_rank" "entry_rank" (defArgs s_entry_rank) (defBody s_entry_rank) (defScope s_entry_rank) [] [] f fd) : FnOk P w K mg base CX0 (4 * n + 4) f fd ["entry"] (spT K false 1 (F (n + 1)).entry_rank) := by
  refine fn_tln Fd sc_entry_rank fun cdv A outer s H E hr3 hr hr1 hr2 => ?_
  have nd := sc_entry_rank.nd
  exact (ts_cons (ts_asgT (t_var (pv 0)) ⟨(pg_tup rfl (pgs_cons (pg_name (i := 1) nd rfl (by first | exact Or.inl rfl | exact Or.inr rfl)) (pgs_cons (pg_name (i := 2) nd rfl (by first | exact Or.inl rfl | exact Or.inr rfl)) pgs_nil))), (tp_sem [1, 2])⟩) (ts_one (ts_ret (t_tup (ta_cons (t_ty call_tuple_of sv_tuple (by rfl) S.n_tuple (by decide +kernel) (ta_cons (fz (t_compN (own := [("part", 3)]) wopen0 (pv 1) rfl nd (blkOk_by (own := [("part", 3)]) (by kernel_rfl)) (by decide) (nm_sem 3) (fun _ _ _ _ _ => pg_name (i := 3) nd rfl (by first | exact Or.inl rfl | exact Or.inr rfl)) (fun _ _ _ _ _ => tts_nil) (fun _ _ _ _ _ => (TPR.toE (t_callP I.c_key_rank hr hx0 (by rfl) (ta_cons (t_var (pv 3)) ta_nil) (alen_cons alen_nil)))))) ta_nil)) (ta_cons (t_var (pv 2)) ta_nil))))))
theorem o_row_rank {P : Program} {w : World} {K : PySem.W.Frag} {mg : Str → Option Value} {base : Heap} {n : Nat} (S : St w K mg) (I : Is P w K mg base n) {f : Addr} {fd : FuncData} (Fd : FunD K "row_rank" "row_rank" (defArgs s_row_rank) (defBody s_row_rank) (defScope s_row_rank) [] [] f fd) : FnOk P w K mg base CX0 (4 * n + 4) f fd ["row"] (spT K false 1 (F (n + 1)).row_rank) := by
  refine fn_tln Fd sc_row_rank fun cdv A outer s H E hr3 hr hr1 hr2 => ?_
  have nd := sc_row_rank.nd
  exact (ts_cons (ts_asgT (t_var (pv 0)) ⟨(pg_tup rfl (pgs_cons (pg_name (i := 1) nd rfl (by first | exact Or.inl rfl | exact Or.inr rfl)) (pgs_cons (pg_name (i := 2) nd rfl (by first | exact Or.inl rfl | exact Or.inr rfl)) (pgs_cons (pg_name (i := 3) nd rfl (by first | exact Or.inl rfl | exact Or.inr rfl)) pgs_nil)))), (tp_sem [1, 2, 3])⟩) (ts_one (ts_ret (t_tup (ta_cons (t_var (pv 1)) (ta_cons (TPR.toE (t_callP I.c_entry_rank hr hx0 (by rfl) (ta_cons (t_tup (ta_cons (t_var (pv 2)) (ta_cons (t_var (pv 3)) ta_nil))) ta_nil) (alen_cons alen_nil))) ta_nil))))))
theorem o__law_open {P : Program} {w : World} {K : PySem.W.Frag} {mg : Str → Option Value} {base : Heap} {n : Nat} (S : St w K mg) (I : Is P w K mg base n) {f : Addr} {fd : FuncData} (Fd : FunD K "_law_open" "_law_open" (defArgs s__law_open) (defBody s__law_open) (defScope s__law_open) [] [] f fd) : FnOk P w K mg base CX0 (4 * n + 4) f fd ["_law_script"] (spT K true 1 (F (n + 1))._law_open) := by
  refine fn_tln Fd sc__law_open fun cdv A outer s H E hr3 hr hr1 hr2 => ?_
  have nd := sc__law_open.nd
  exact (ts_one (ts_retO (t_lst (ta_cons (fz (t_tyO call_list_of sv_listO (by rfl) S.n_list (by decide +kernel) (ta_cons (t_sl (t_var (pv 0)) tpo_none (tpo_some t_int)) ta_nil))) (ta_cons t_int (ta_cons t_int (ta_cons t_int ta_nil)))))))
theorem o__law_pull {P : Program} {w : World} {K : PySem.W.Frag} {mg : Str → Option Value} {base : Heap} {n : Nat} (S : St w K mg) (I : Is P w K mg base n) {f : Addr} {fd : FuncData} (Fd : FunD K "_law_pull" "_law_pull" (defArgs s__law_pull) (defBody s__law_pull) (defScope s__law_pull) [] [] f fd) : FnOk P w K mg base CX0 (4 * n + 4) f fd ["_law_draw", "_law_top"] (spT K false 2 (F (n + 1))._law_pull) := by
  refine fn_tln Fd sc__law_pull fun cdv A outer s H E hr3 hr hr1 hr2 => ?_
  have nd := sc__law_pull.nd
  exact (ts_cons (ts_if (tt_w (tw_and (tt_cmp (orp_lt (ru hr)) sv_lt (t_ix (ru hr) (t_var (pv 0)) t_int) (t_var (pv 1)) (nomark _)) (tw_and1 (tt_cmp (orp_lt (ru hr)) sv_lt (t_ix (ru hr) (t_var (pv 0)) t_int) (t_bi call_lenA sv_len (by rfl) S.n_len (by decide +kernel) (ta_cons (t_ix (ru hr) (t_var (pv 0)) t_int) ta_nil)) (nomark _))))) (ts_cons (ts_asg (ps_set (i := 2) nd rfl (by first | exact Or.inl rfl | exact Or.inr rfl) (t_ix (ru hr) (t_ix (ru hr) (t_var (pv 0)) t_int) (t_ix (ru hr) (t_var (pv 0)) t_int)))) (ts_cons (ts_put (ru hr) (pv 0) t_int (t_op orp_add sv_add (t_ix (ru hr) (t_var (pv 0)) t_int) t_int)) (ts_cons (ts_put (ru hr) (pv 0) t_int t_int) (ts_one (ts_if (tt_cmp orp_ge sv_cmp (t_var (pv 2)) (t_op op_pow sv_pow t_int t_int) (nomark _)) (ts_one (ts_put (ru hr) (pv 0) t_int (t_var (pv 2)))) (ts_one (ts_put (ru hr) (pv 0) t_int (t_op op_modN sv_mod (t_op orp_add sv_add (t_op orp_add sv_add (t_op orp_mul sv_mul (t_ix (ru hr) (t_var (pv 0)) t_int) t_int) (t_op orp_mul sv_mul (t_op op_modN sv_mod (t_var (pv 2)) t_int) t_int)) t_int) t_int)))))))) ts_nil) (ts_cons (ts_if (tt_cmp orp_ge sv_cmp (t_ix (ru hr) (t_var (pv 0)) t_int) (t_var (pv 1)) (nomark _)) (ts_cons (ts_asg (ps_set (i := 3) nd rfl (by first | exact Or.inl rfl | exact Or.inr rfl) (t_op op_modN sv_mod (t_ix (ru hr) (t_var (pv 0)) t_int) (t_var (pv 1))))) (ts_cons (ts_put (ru hr) (pv 0) t_int (t_op op_fdivN sv_fdiv (t_ix (ru hr) (t_var (pv 0)) t_int) (t_var (pv 1)))) (ts_one (ts_ret (t_var (pv 3)))))) ts_nil) (ts_cons (ts_put (ru hr) (pv 0) t_int (t_op op_modN sv_mod (t_op orp_add sv_add (t_op orp_add sv_add (t_op op_pow sv_pow (t_ix (ru hr) (t_var (pv 0)) t_int) t_int) (t_op orp_mul sv_mul (t_ix (ru hr) (t_var (pv 0)) t_int) t_int)) t_int) t_int)) (ts_one (ts_ret (t_op op_modN sv_mod (t_op orp_add sv_add (t_op op_fdivN sv_fdiv (t_ix (ru hr) (t_var (pv 0)) t_int) t_int) (t_op orp_mul sv_mul (t_op op_modN sv_mod (t_ix (ru hr) (t_var (pv 0)) t_int) t_int) t_int)) (t_var (pv 1))))))))
theorem o__law_any {P : Program} {w : World} {K : PySem.W.Frag} {mg : Str → Option Value} {base : Heap} {n : Nat} (S : St w K mg) (I : Is P w K mg base n) {f : Addr} {fd : FuncData} (Fd : FunD K "_law_any" "_law_any" (defArgs s__law_any) (defBody s__law_any) (defScope s__law_any) [] [] f fd) : FnOk P w K mg base CX0 (4 * n + 4) f fd ["_law_draw", "_law_some"] (spT K false 2 (F (n + 1))._law_any) := by
  refine fn_tln Fd sc__law_any fun cdv A outer s H E hr3 hr hr1 hr2 => ?_
  have nd := sc__law_any.nd
  exact (ts_one (ts_ret (t_ix (ru hr) (t_var (pv 1)) (TPR.toE (t_callP I.c__law_pull hr hx0 (by rfl) (ta_cons (t_var (pv 0)) (ta_cons (t_bi call_lenA sv_len (by rfl) S.n_len (by decide +kernel) (ta_cons (t_var (pv 1)) ta_nil)) ta_nil)) (alen_cons (alen_cons alen_nil)))))))
theorem o__law_num {P : Program} {w : World} {K : PySem.W.Frag} {mg : Str → Option Value} {base : Heap} {n : Nat} (S : St w K mg) (I : Is P w K mg base n) {f : Addr} {fd : FuncData} (Fd : FunD K "_law_num" "_law_num" (defArgs s__law_num) (defBody s__law_num) (defScope s__law_num) [] [] f fd) : FnOk P w K mg base CX0 (4 * n + 4) f fd ["_law_found"] (spT K false 1 (F (n + 1))._law_num) := by
  refine fn_tln Fd sc__law_num fun cdv A outer s H E hr3 hr hr1 hr2 => ?_
  have nd := sc__law_num.nd
  exact (ts_one (ts_ret (t_and (t_bi call_isi sv_isi (by rfl) S.n_isinstance (by decide +kernel) (ta_cons (t_var (pv 0)) (ta_cons (t_tyv (by rfl) S.n_int (by decide +kernel)) ta_nil))) (t_one (t_not (t_bi call_isi sv_isi (by rfl) S.n_isinstance (by decide +kernel) (ta_cons (t_var (pv 0)) (ta_cons (t_tyv (by rfl) S.n_bool (by decide +kernel)) ta_nil))))))))
theorem o__law_like {P : Program} {w : World} {K : PySem.W.Frag} {mg : Str → Option Value} {base : Heap} {n : Nat} (S : St w K mg) (I : Is P w K mg base n) {f : Addr} {fd : FuncData} (Fd : FunD K "_law_like" "_law_like" (defArgs s__law_like) (defBody s__law_like) (defScope s__law_like) [] [] f fd) : FnOk P w K mg base CX0 (4 * n + 4) f fd ["_law_found", "_law_due"] (spT K false 2 (F (n + 1))._law_like) := by
  refine fn_tln Fd sc__law_like fun cdv A outer s H E hr3 hr hr1 hr2 => ?_
  have nd := sc__law_like.nd
  exact (ts_cons (ts_if (tt_cmp op_isN sv_isN (t_var (pv 1)) t_non (nomark _)) (ts_one (ts_ret (t_cmp op_isN sv_isN (t_var (pv 0)) t_non (nomark _)))) ts_nil) (ts_cons (ts_if (tt_val (t_bi call_isi sv_isi (by rfl) S.n_isinstance (by decide +kernel) (ta_cons (t_var (pv 1)) (ta_cons (t_tyv (by rfl) S.n_bool (by decide +kernel)) ta_nil)))) (ts_one (ts_ret (t_and (t_bi call_isi sv_isi (by rfl) S.n_isinstance (by decide +kernel) (ta_cons (t_var (pv 0)) (ta_cons (t_tyv (by rfl) S.n_bool (by decide +kernel)) ta_nil))) (t_one (t_cmp (orp_eq (ru hr)) sv_eqv (t_var (pv 0)) (t_var (pv 1)) (nomark _)))))) ts_nil) (ts_cons (ts_if (tt_val (t_bi call_isi sv_isi (by rfl) S.n_isinstance (by decide +kernel) (ta_cons (t_var (pv 1)) (ta_cons (t_tyv (by rfl) S.n_int (by decide +kernel)) ta_nil)))) (ts_one (ts_ret (t_and (TPR.toE (t_callP I.c__law_num hr hx0 (by rfl) (ta_cons (t_var (pv 0)) ta_nil) (alen_cons alen_nil))) (t_one (t_cmp (orp_eq (ru hr)) sv_eqv (t_var (pv 0)) (t_var (pv 1)) (nomark _)))))) ts_nil) (ts_cons (ts_if (tt_val (t_bi call_isi sv_isi (by rfl) S.n_isinstance (by decide +kernel) (ta_cons (t_var (pv 1)) (ta_cons (t_tyv (by rfl) S.n_str (by decide +kernel)) ta_nil)))) (ts_one (ts_ret (t_and (t_bi call_isi sv_isi (by rfl) S.n_isinstance (by decide +kernel) (ta_cons (t_var (pv 0)) (ta_cons (t_tyv (by rfl) S.n_str (by decide +kernel)) ta_nil))) (t_one (t_cmp (orp_eq (ru hr)) sv_eqv (t_var (pv 0)) (t_var (pv 1)) (nomark _)))))) ts_nil) (ts_cons (ts_if (tt_val (t_bi call_isi sv_isi (by rfl) S.n_isinstance (by decide +kernel) (ta_cons (t_var (pv 1)) (ta_cons (t_tyv (by rfl) S.n_dict (by decide +kernel)) ta_nil)))) (ts_cons (ts_if (tt_w (tw_or (tt_not (tt_val (t_bi call_isi sv_isi (by rfl) S.n_isinstance (by decide +kernel) (ta_cons (t_var (pv 0)) (ta_cons (t_tyv (by rfl) S.n_dict (by decide +kernel)) ta_nil))))) (tw_or1 (tt_cmp (orp_ne (ru hr)) sv_eqv (fz (t_biO (call_sortO rfl (ru hr)) sv_sortO (by rfl) S.n_sorted (by decide +kernel) (ta_cons (t_var (pv 0)) ta_nil))) (fz (t_biO (call_sortO rfl (ru hr)) sv_sortO (by rfl) S.n_sorted (by decide +kernel) (ta_cons (t_var (pv 1)) ta_nil))) (nomark _))))) (ts_one (ts_ret t_bl)) ts_nil) (ts_one (ts_ret (t_bi (cr_all rfl) sv_all (by rfl) S.n_all (by decide +kernel) (ta_cons (fz (t_compN (own := [("_law_name_here", 2)]) wopen0 (pv 1) rfl nd (blkOk_by (own := [("_law_name_here", 2)]) (by kernel_rfl)) (by decide) (nm_sem 2) (fun _ _ _ _ _ => pg_name (i := 2) nd rfl (by first | exact Or.inl rfl | exact Or.inr rfl)) (fun _ _ _ _ _ => tts_nil) (fun _ _ _ _ _ => (TPR.toE (t_callP I.c__law_like hr hx0 (by rfl) (ta_cons (t_ix (ru hr) (t_var (pv 0)) (t_var (pv 2))) (ta_cons (t_ix (ru hr) (t_var (pv 1)) (t_var (pv 2))) ta_nil)) (alen_cons (alen_cons alen_nil))))))) ta_nil))))) ts_nil) (ts_cons (ts_if (tt_w (tw_or (tt_cmp (orp_ne (ru hr)) sv_eqv (t_bi call_isi sv_isi (by rfl) S.n_isinstance (by decide +kernel) (ta_cons (t_var (pv 1)) (ta_cons (t_tyv (by rfl) S.n_tuple (by decide +kernel)) ta_nil))) (t_bi call_isi sv_isi (by rfl) S.n_isinstance (by decide +kernel) (ta_cons (t_var (pv 0)) (ta_cons (t_tyv (by rfl) S.n_tuple (by decide +kernel)) ta_nil))) (nomark _)) (tw_or1 (tt_cmp (orp_ne (ru hr)) sv_eqv (t_bi call_isi sv_isi (by rfl) S.n_isinstance (by decide +kernel) (ta_cons (t_var (pv 1)) (ta_cons (t_tyv (by rfl) S.n_list (by decide +kernel)) ta_nil))) (t_bi call_isi sv_isi (by rfl) S.n_isinstance (by decide +kernel) (ta_cons (t_var (pv 0)) (ta_cons (t_tyv (by rfl) S.n_list (by decide +kernel)) ta_nil))) (nomark _))))) (ts_one (ts_ret t_bl)) ts_nil) (ts_one (ts_ret (t_and (t_cmp (orp_eq (ru hr)) sv_eqv (t_bi call_lenA sv_len (by rfl) S.n_len (by decide +kernel) (ta_cons (t_var (pv 0)) ta_nil)) (t_bi call_lenA sv_len (by rfl) S.n_len (by decide +kernel) (ta_cons (t_var (pv 1)) ta_nil)) (nomark _)) (t_one (t_bi (cr_all rfl) sv_all (by rfl) S.n_all (by decide +kernel) (ta_cons (fz (t_comp (own := [("_law_k", 3)]) rfl nd (ti_range1 (by rfl) S.n_range (ta_cons (t_bi call_lenA sv_len (by rfl) S.n_len (by decide +kernel) (ta_cons (t_var (pv 1)) ta_nil)) ta_nil)) (blkOk_by (own := [("_law_k", 3)]) (by kernel_rfl)) (by decide) (nm_sem 3) (fun _ _ _ _ _ => pg_name (i := 3) nd rfl (by first | exact Or.inl rfl | exact Or.inr rfl)) (fun _ _ _ _ _ => tts_nil) (fun _ _ _ _ _ => (TPR.toE (t_callP I.c__law_like hr hx0 (by rfl) (ta_cons (t_ix (ru hr) (t_var (pv 0)) (t_var (pv 3))) (ta_cons (t_ix (ru hr) (t_var (pv 1)) (t_var (pv 3))) ta_nil)) (alen_cons (alen_cons alen_nil))))))) ta_nil))))))))))))
theorem o__law_copy {P : Program} {w : World} {K : PySem.W.Frag} {mg : Str → Option Value} {base : Heap} {n : Nat} (S : St w K mg) (I : Is P w K mg base n) {f : Addr} {fd : FuncData} (Fd : FunD K "_law_copy" "_law_copy" (defArgs s__law_copy) (defBody s__law_copy) (defScope s__law_copy) [] [] f fd) : FnOk P w K mg base CX0 (4 * n + 4) f fd ["_law_value_here"] (spT K false 1 (F (n + 1))._law_copy) := by
  refine fn_tln Fd sc__law_copy fun cdv A outer s H E hr3 hr hr1 hr2 => ?_
  have nd := sc__law_copy.nd
  exact (ts_cons (ts_if (tt_val (t_bi call_isi sv_isi (by rfl) S.n_isinstance (by decide +kernel) (ta_cons (t_var (pv 0)) (ta_cons (t_tyv (by rfl) S.n_list (by decide +kernel)) ta_nil)))) (ts_one (ts_ret (t_share (t_compN (own := [("_law_one", 1)]) wopen0 (pv 0) rfl nd (blkOk_by (own := [("_law_one", 1)]) (by kernel_rfl)) (by decide) (nm_sem 1) (fun _ _ _ _ _ => pg_name (i := 1) nd rfl (by first | exact Or.inl rfl | exact Or.inr rfl)) (fun _ _ _ _ _ => tts_nil) (fun _ _ _ _ _ => (TPR.toE (t_callP I.c__law_copy hr hx0 (by rfl) (ta_cons (t_var (pv 1)) ta_nil) (alen_cons alen_nil)))))))) ts_nil) (ts_cons (ts_if (tt_val (t_bi call_isi sv_isi (by rfl) S.n_isinstance (by decide +kernel) (ta_cons (t_var (pv 0)) (ta_cons (t_tyv (by rfl) S.n_tuple (by decide +kernel)) ta_nil)))) (ts_one (ts_ret (t_ty call_tuple_of sv_tuple (by rfl) S.n_tuple (by decide +kernel) (ta_cons (fz (t_compN (own := [("_law_one", 1)]) wopen0 (pv 0) rfl nd (blkOk_by (own := [("_law_one", 1)]) (by kernel_rfl)) (by decide) (nm_sem 1) (fun _ _ _ _ _ => pg_name (i := 1) nd rfl (by first | exact Or.inl rfl | exact Or.inr rfl)) (fun _ _ _ _ _ => tts_nil) (fun _ _ _ _ _ => (TPR.toE (t_callP I.c__law_copy hr hx0 (by rfl) (ta_cons (t_var (pv 1)) ta_nil) (alen_cons alen_nil)))))) ta_nil)))) ts_nil) (ts_cons (ts_if (tt_val (t_bi call_isi sv_isi (by rfl) S.n_isinstance (by decide +kernel) (ta_cons (t_var (pv 0)) (ta_cons (t_tyv (by rfl) S.n_dict (by decide +kernel)) ta_nil)))) (ts_one (ts_ret (t_share (t_tyO (call_dictA rfl) sv_dictO (by rfl) S.n_dict (by decide +kernel) (ta_cons (fz (t_compN (own := [("_law_name_here", 2)]) wopen0 (pv 0) rfl nd (blkOk_by (own := [("_law_name_here", 2)]) (by kernel_rfl)) (by decide) (nm_sem 2) (fun _ _ _ _ _ => pg_name (i := 2) nd rfl (by first | exact Or.inl rfl | exact Or.inr rfl)) (fun _ _ _ _ _ => tts_nil) (fun _ _ _ _ _ => (t_tup (ta_cons (t_var (pv 2)) (ta_cons (TPR.toE (t_callP I.c__law_copy hr hx0 (by rfl) (ta_cons (t_ix (ru hr) (t_var (pv 0)) (t_var (pv 2))) ta_nil) (alen_cons alen_nil))) ta_nil)))))) ta_nil))))) ts_nil) (ts_one (ts_ret (t_var (pv 0)))))))
theorem o__law_rank {P : Program} {w : World} {K : PySem.W.Frag} {mg : Str → Option Value} {base : Heap} {n : Nat} (S : St w K mg) (I : Is P w K mg base n) {f : Addr} {fd : FuncData} (Fd : FunD K "_law_rank" "_law_rank" (defArgs s__law_rank) (defBody s__law_rank) (defScope s__law_rank) [] [] f fd) : FnOk P w K mg base CX0 (4 * n + 4) f fd ["_law_value_here"] (spT K false 1 (F (n + 1))._law_rank) := by
  refine fn_tln Fd sc__law_rank fun cdv A outer s H E hr3 hr hr1 hr2 => ?_
  have nd := sc__law_rank.nd
  exact (ts_cons (ts_if (tt_cmp op_isN sv_isN (t_var (pv 0)) t_non (nomark _)) (ts_one (ts_ret (t_tup (ta_cons t_int (ta_cons t_int ta_nil))))) ts_nil) (ts_cons (ts_if (tt_val (t_bi call_isi sv_isi (by rfl) S.n_isinstance (by decide +kernel) (ta_cons (t_var (pv 0)) (ta_cons (t_tyv (by rfl) S.n_int (by decide +kernel)) ta_nil)))) (ts_one (ts_ret (t_tup (ta_cons t_int (ta_cons (t_var (pv 0)) ta_nil))))) ts_nil) (ts_cons (ts_if (tt_val (t_bi call_isi sv_isi (by rfl) S.n_isinstance (by decide +kernel) (ta_cons (t_var (pv 0)) (ta_cons (t_tyv (by rfl) S.n_str (by decide +kernel)) ta_nil)))) (ts_one (ts_ret (t_tup (ta_cons t_int (ta_cons (t_var (pv 0)) ta_nil))))) ts_nil) (ts_cons (ts_if (tt_val (t_isT (t_var (pv 0)) (pa_tys_cons (by rfl) S.n_list (by decide +kernel) (pa_tys_cons (by rfl) S.n_tuple (by decide +kernel) pa_tys_nil)) (by decide) (by decide) (by rfl) S.n_isinstance (by decide +kernel))) (ts_one (ts_ret (t_tup (ta_cons t_int (ta_cons (t_ty call_tuple_of sv_tuple (by rfl) S.n_tuple (by decide +kernel) (ta_cons (fz (t_compN (own := [("_law_one", 1)]) wopen0 (pv 0) rfl nd (blkOk_by (own := [("_law_one", 1)]) (by kernel_rfl)) (by decide) (nm_sem 1) (fun _ _ _ _ _ => pg_name (i := 1) nd rfl (by first | exact Or.inl rfl | exact Or.inr rfl)) (fun _ _ _ _ _ => tts_nil) (fun _ _ _ _ _ => (TPR.toE (t_callP I.c__law_rank hr hx0 (by rfl) (ta_cons (t_var (pv 1)) ta_nil) (alen_cons alen_nil)))))) ta_nil)) ta_nil))))) ts_nil) (ts_one (ts_ret (t_tup (ta_cons t_int (ta_cons (t_ty call_tuple_of sv_tuple (by rfl) S.n_tuple (by decide +kernel) (ta_cons (fz (t_comp (own := [("_law_name_here", 2)]) rfl nd (ti_val (fz (t_biO (call_sortO rfl (ru hr)) sv_sortO (by rfl) S.n_sorted (by decide +kernel) (ta_cons (t_var (pv 0)) ta_nil)))) (blkOk_by (own := [("_law_name_here", 2)]) (by kernel_rfl)) (by decide) (nm_sem 2) (fun _ _ _ _ _ => pg_name (i := 2) nd rfl (by first | exact Or.inl rfl | exact Or.inr rfl)) (fun _ _ _ _ _ => tts_nil) (fun _ _ _ _ _ => (t_tup (ta_cons (t_var (pv 2)) (ta_cons (TPR.toE (t_callP I.c__law_rank hr hx0 (by rfl) (ta_cons (t_ix (ru hr) (t_var (pv 0)) (t_var (pv 2))) ta_nil) (alen_cons alen_nil))) ta_nil)))))) ta_nil)) ta_nil)))))))))
theorem o__law_name {P : Program} {w : World} {K : PySem.W.Frag} {mg : Str → Option Value} {base : Heap} {n : Nat} (S : St w K mg) (I : Is P w K mg base n) {f : Addr} {fd : FuncData} (Fd : FunD K "_law_name" "_law_name" (defArgs s__law_name) (defBody s__law_name) (defScope s__law_name) [] [] f fd) : FnOk P w K mg base CX0 (4 * n + 4) f fd ["_law_draw"] (spT K false 1 (F (n + 1))._law_name) := by
  refine fn_tln Fd sc__law_name fun cdv A outer s H E hr3 hr hr1 hr2 => ?_
  have nd := sc__law_name.nd
  exact (ts_cons (ts_if (tt_cmp (orp_eq (ru hr)) sv_eqv (TPR.toE (t_callP I.c__law_pull hr hx0 (by rfl) (ta_cons (t_var (pv 0)) (ta_cons t_int ta_nil)) (alen_cons (alen_cons alen_nil)))) t_int (nomark _)) (ts_one (ts_ret (t_op orp_mul sv_mul (t_ix (ru hr) t_str (TPR.toE (t_callP I.c__law_pull hr hx0 (by rfl) (ta_cons (t_var (pv 0)) (ta_cons t_int ta_nil)) (alen_cons (alen_cons alen_nil))))) (t_op orp_add sv_add t_int (TPR.toE (t_callP I.c__law_pull hr hx0 (by rfl) (ta_cons (t_var (pv 0)) (ta_cons t_int ta_nil)) (alen_cons (alen_cons alen_nil)))))))) ts_nil) (ts_one (ts_ret (t_ix (ru hr) (fz (t_lst (ta_cons t_str (ta_cons t_str (ta_cons t_str (ta_cons t_str (ta_cons t_str (ta_cons t_str ta_nil)))))))) (TPR.toE (t_callP I.c__law_pull hr hx0 (by rfl) (ta_cons (t_var (pv 0)) (ta_cons t_int ta_nil)) (alen_cons (alen_cons alen_nil))))))))
theorem o__law_plain {P : Program} {w : World} {K : PySem.W.Frag} {mg : Str → Option Value} {base : Heap} {n : Nat} (S : St w K mg) (I : Is P w K mg base n) {f : Addr} {fd : FuncData} (Fd : FunD K "_law_plain" "_law_plain" (defArgs s__law_plain) (defBody s__law_plain) (defScope s__law_plain) [] [] f fd) : FnOk P w K mg base CX0 (4 * n + 4) f fd ["_law_draw"] (spT K false 1 (F (n + 1))._law_plain) := by
  refine fn_tln Fd sc__law_plain fun cdv A outer s H E hr3 hr hr1 hr2 => ?_
  have nd := sc__law_plain.nd
  exact (ts_cons (ts_asg (ps_set (i := 1) nd rfl (by first | exact Or.inl rfl | exact Or.inr rfl) (TPR.toE (t_callP I.c__law_pull hr hx0 (by rfl) (ta_cons (t_var (pv 0)) (ta_cons t_int ta_nil)) (alen_cons (alen_cons alen_nil)))))) (ts_cons (ts_if (tt_cmp (orp_lt (ru hr)) sv_lt (t_var (pv 1)) t_int (nomark _)) (ts_one (ts_ret (t_if (tt_cmp (orp_eq (ru hr)) sv_eqv (t_var (pv 1)) t_int (nomark _)) t_non (t_op op_sub sv_sub (TPR.toE (t_callP I.c__law_pull hr hx0 (by rfl) (ta_cons (t_var (pv 0)) (ta_cons t_int ta_nil)) (alen_cons (alen_cons alen_nil)))) t_int)))) ts_nil) (ts_cons (ts_asg (ps_set (i := 2) nd rfl (by first | exact Or.inl rfl | exact Or.inr rfl) (fz (t_lst (ta_cons t_str (ta_cons t_str (ta_cons t_str (ta_cons t_str (ta_cons t_str (ta_cons t_str (ta_cons t_str (ta_cons t_str ta_nil)))))))))))) (ts_cons (ts_if (tt_cmp (orp_eq (ru hr)) sv_eqv (t_var (pv 1)) t_int (nomark _)) (ts_one (ts_asg (ps_set (i := 2) nd rfl (by first | exact Or.inl rfl | exact Or.inr rfl) (fz (t_lst (ta_cons (t_op op_sub sv_sub (t_op op_pow sv_pow t_int t_int) t_int) (ta_cons (t_op op_sub sv_sub t_int (t_op op_pow sv_pow t_int t_int)) (ta_cons t_int (ta_cons (t_neg t_int) (ta_cons (TPR.toE (t_callP I.c__law_pull hr hx0 (by rfl) (ta_cons (t_var (pv 0)) (ta_cons (t_op op_pow sv_pow t_int t_int) ta_nil)) (alen_cons (alen_cons alen_nil)))) ta_nil)))))))))) ts_nil) (ts_cons (ts_if (tt_cmp (orp_eq (ru hr)) sv_eqv (t_var (pv 1)) t_int (nomark _)) (ts_cons (ts_asg (ps_set (i := 3) nd rfl (by first | exact Or.inl rfl | exact Or.inr rfl) (TPR.toE (t_callP I.c__law_any hr hx0 (by rfl) (ta_cons (t_var (pv 0)) (ta_cons (fz (t_lst (ta_cons t_str (ta_cons t_str (ta_cons t_str (ta_cons t_str ta_nil)))))) ta_nil)) (alen_cons (alen_cons alen_nil)))))) (ts_one (ts_asg (ps_set (i := 2) nd rfl (by first | exact Or.inl rfl | exact Or.inr rfl) (fz (t_lst (ta_cons (t_sl (t_op orp_add sv_add (t_op orp_add sv_add (t_sl (t_var (pv 3)) tpo_none (tpo_some (TPR.toE (t_callP I.c__law_pull hr hx0 (by rfl) (ta_cons (t_var (pv 0)) (ta_cons t_int ta_nil)) (alen_cons (alen_cons alen_nil)))))) (t_ix (ru hr) t_str (TPR.toE (t_callP I.c__law_pull hr hx0 (by rfl) (ta_cons (t_var (pv 0)) (ta_cons t_int ta_nil)) (alen_cons (alen_cons alen_nil)))))) (t_var (pv 3))) tpo_none (tpo_some t_int)) ta_nil))))))) ts_nil) (ts_one (ts_ret (TPR.toE (t_callP I.c__law_any hr hx0 (by rfl) (ta_cons (t_var (pv 0)) (ta_cons (t_var (pv 2)) ta_nil)) (alen_cons (alen_cons alen_nil)))))))))))
theorem o__law_value {P : Program} {w : World} {K : PySem.W.Frag} {mg : Str → Option Value} {base : Heap} {n : Nat} (S : St w K mg) (I : Is P w K mg base n) {f : Addr} {fd : FuncData} (Fd : FunD K "_law_value" "_law_value" (defArgs s__law_value) (defBody s__law_value) (defScope s__law_value) [] [] f fd) : FnOk P w K mg base CX0 (4 * n + 4) f fd ["_law_draw", "_law_bot"] (spT K false 2 (F (n + 1))._law_value) := by
  refine fn_tln Fd sc__law_value fun cdv A outer s H E hr3 hr hr1 hr2 => ?_
  have nd := sc__law_value.nd
  exact (ts_cons (ts_asg (ps_set (i := 2) nd rfl (by first | exact Or.inl rfl | exact Or.inr rfl) (TPR.toE (t_callP I.c__law_pull hr hx0 (by rfl) (ta_cons (t_var (pv 0)) (ta_cons t_int ta_nil)) (alen_cons (alen_cons alen_nil)))))) (ts_cons (ts_if (tt_w (tw_or (tt_cmp (orp_eq (ru hr)) sv_eqv (t_var (pv 1)) t_int (nomark _)) (tw_or1 (tt_cmp (orp_lt (ru hr)) sv_lt (t_var (pv 2)) t_int (nomark _))))) (ts_one (ts_ret (TPR.toE (t_callP I.c__law_plain hr hx0 (by rfl) (ta_cons (t_var (pv 0)) ta_nil) (alen_cons alen_nil))))) ts_nil) (ts_cons (ts_if (tt_cmp (orp_eq (ru hr)) sv_eqv (t_var (pv 2)) t_int (nomark _)) (ts_one (ts_ret (TPR.toE (t_callP I.c__law_record hr hx0 (by rfl) (ta_cons (t_var (pv 0)) (ta_cons (t_op op_sub sv_sub (t_var (pv 1)) t_int) (ta_cons t_int ta_nil))) (alen_cons (alen_cons (alen_cons alen_nil))))))) ts_nil) (ts_one (ts_ret (fz (t_comp (own := [("_law_k", 3)]) rfl nd (ti_range1 (by rfl) S.n_range (ta_cons (TPR.toE (t_callP I.c__law_pull hr hx0 (by rfl) (ta_cons (t_var (pv 0)) (ta_cons t_int ta_nil)) (alen_cons (alen_cons alen_nil)))) ta_nil)) (blkOk_by (own := [("_law_k", 3)]) (by kernel_rfl)) (by decide) (nm_sem 3) (fun _ _ _ _ _ => pg_name (i := 3) nd rfl (by first | exact Or.inl rfl | exact Or.inr rfl)) (fun _ _ _ _ _ => tts_nil) (fun _ _ _ _ _ => (TPR.toE (t_callP I.c__law_value hr hx0 (by rfl) (ta_cons (t_var (pv 0)) (ta_cons (t_op op_sub sv_sub (t_var (pv 1)) t_int) ta_nil)) (alen_cons (alen_cons alen_nil))))))))))))
theorem o__law_record {P : Program} {w : World} {K : PySem.W.Frag} {mg : Str → Option Value} {base : Heap} {n : Nat} (S : St w K mg) (I : Is P w K mg base n) {f : Addr} {fd : FuncData} (Fd : FunD K "_law_record" "_law_record" (defArgs s__law_record) (defBody s__law_record) (defScope s__law_record) [] [] f fd) : FnOk P w K mg base CX0 (4 * n + 4) f fd ["_law_draw", "_law_bot", "_law_wide"] (spT K false 3 (F (n + 1))._law_record) := by
  refine fn_tln Fd sc__law_record fun cdv A outer s H E hr3 hr hr1 hr2 => ?_
  have nd := sc__law_record.nd
  exact (ts_cons (ts_asgO (ps_set (i := 3) nd rfl (by first | exact Or.inl rfl | exact Or.inr rfl) t_dnew)) (ts_cons (ts_for PassesOwn.leaving rfl (ti_range1 (by rfl) S.n_range (ta_cons (TPR.toE (t_callP I.c__law_pull hr hx0 (by rfl) (ta_cons (t_var (pv 0)) (ta_cons (t_op orp_add sv_add (t_var (pv 2)) t_int) ta_nil)) (alen_cons (alen_cons alen_nil)))) ta_nil)) ⟨(pg_name (i := 4) nd rfl (by first | exact Or.inl rfl | exact Or.inr rfl)), (nm_sem 4)⟩ (ts_one (ts_put (ru hr) (pv 3) (TPR.toE (t_callP I.c__law_name hr hx0 (by rfl) (ta_cons (t_var (pv 0)) ta_nil) (alen_cons alen_nil))) (TPR.toE (t_callP I.c__law_value hr hx0 (by rfl) (ta_cons (t_var (pv 0)) (ta_cons (t_var (pv 1)) ta_nil)) (alen_cons (alen_cons alen_nil))))))) (ts_one (ts_retVF (pv 3)))))
theorem o__law_entry_rank {P : Program} {w : World} {K : PySem.W.Frag} {mg : Str → Option Value} {base : Heap} {n : Nat} (S : St w K mg) (I : Is P w K mg base n) {f : Addr} {fd : FuncData} (Fd : FunD K "_law_entry_rank" "_law_entry_rank" (defArgs s__law_entry_rank) (defBody s__law_entry_rank) (defScope s__law_entry_rank) [] [] f fd) : FnOk P w K mg base CX0 (4 * n + 4) f fd ["_law_entry"] (spT K false 1 (F (n + 1))._law_entry_rank) := by
  refine fn_tln Fd sc__law_entry_rank fun cdv A outer s H E hr3 hr hr1 hr2 => ?_
  have nd := sc__law_entry_rank.nd
  exact (ts_one (ts_ret (t_tup (ta_cons (t_ty call_tuple_of sv_tuple (by rfl) S.n_tuple (by decide +kernel) (ta_cons (fz (t_comp (own := [("_law_part", 1)]) rfl nd (ti_val (t_ix (ru hr) (t_var (pv 0)) t_int)) (blkOk_by (own := [("_law_part", 1)]) (by kernel_rfl)) (by decide) (nm_sem 1) (fun _ _ _ _ _ => pg_name (i := 1) nd rfl (by first | exact Or.inl rfl | exact Or.inr rfl)) (fun _ _ _ _ _ => tts_nil) (fun _ _ _ _ _ => (TPR.toE (t_callP I.c__law_rank hr hx0 (by rfl) (ta_cons (t_var (pv 1)) ta_nil) (alen_cons alen_nil)))))) ta_nil)) (ta_cons (t_ix (ru hr) (t_var (pv 0)) t_int) ta_nil)))))
theorem o__law_key {P : Program} {w : World} {K : PySem.W.Frag} {mg : Str → Option Value} {base : Heap} {n : Nat} (S : St w K mg) (I : Is P w K mg base n) {f : Addr} {fd : FuncData} (Fd : FunD K "_law_key" "_law_key" (defArgs s__law_key) (defBody s__law_key) (defScope s__law_key) [] [] f fd) : FnOk P w K mg base CX0 (4 * n + 4) f fd ["_law_draw", "_law_wide"] (spT K false 2 (F (n + 1))._law_key) := by
  refine fn_tln Fd sc__law_key fun cdv A outer s H E hr3 hr hr1 hr2 => ?_
  have nd := sc__law_key.nd
  exact (ts_one (ts_ret (t_ty call_tuple_of sv_tuple (by rfl) S.n_tuple (by decide +kernel) (ta_cons (fz (t_comp (own := [("_law_k", 2)]) rfl nd (ti_range1 (by rfl) S.n_range (ta_cons (t_var (pv 1)) ta_nil)) (blkOk_by (own := [("_law_k", 2)]) (by kernel_rfl)) (by decide) (nm_sem 2) (fun _ _ _ _ _ => pg_name (i := 2) nd rfl (by first | exact Or.inl rfl | exact Or.inr rfl)) (fun _ _ _ _ _ => tts_nil) (fun _ _ _ _ _ => (TPR.toE (t_callP I.c__law_value hr hx0 (by rfl) (ta_cons (t_var (pv 0)) (ta_cons t_int ta_nil)) (alen_cons (alen_cons alen_nil))))))) ta_nil))))
theorem o__law_row_rank {P : Program} {w : World} {K : PySem.W.Frag} {mg : Str → Option Value} {base : Heap} {n : Nat} (S : St w K mg) (I : Is P w K mg base n) {f : Addr} {fd : FuncData} (Fd : FunD K "_law_row_rank" "_law_row_rank" (defArgs s__law_row_rank) (defBody s__law_row_rank) (defScope s__law_row_rank) [] [] f fd) : FnOk P w K mg base CX0 (4 * n + 4) f fd ["_law_row"] (spT K false 1 (F (n + 1))._law_row_rank) := by
  refine fn_tln Fd sc__law_row_rank fun cdv A outer s H E hr3 hr hr1 hr2 => ?_
  have nd := sc__law_row_rank.nd
  exact (ts_one (ts_ret (t_op orp_add sv_add (t_tup (ta_cons (t_ix (ru hr) (t_var (pv 0)) t_int) ta_nil)) (TPR.toE (t_callP I.c__law_entry_rank hr hx0 (by rfl) (ta_cons (t_sl (t_var (pv 0)) (tpo_some t_int) tpo_none) ta_nil) (alen_cons alen_nil))))))
theorem o__law_wreck {P : Program} {w : World} {K : PySem.W.Frag} {mg : Str → Option Value} {base : Heap} {n : Nat} (S : St w K mg) (I : Is P w K mg base n) {f : Addr} {fd : FuncData} (Fd : FunD K "_law_wreck" "_law_wreck" (defArgs s__law_wreck) (defBody s__law_wreck) (defScope s__law_wreck) [] [] f fd) : FnOk P w K mg base CX0 (4 * n + 4) f fd ["_law_value_here"] (spT K false 1 (F (n + 1))._law_wreck) := by
  refine fn_tln Fd sc__law_wreck fun cdv A outer s H E hr3 hr hr1 hr2 => ?_
  have nd := sc__law_wreck.nd
  exact (ts_one (ts_if (tt_val (t_bi call_isi sv_isi (by rfl) S.n_isinstance (by decide +kernel) (ta_cons (t_var (pv 0)) (ta_cons (t_tyv (by rfl) S.n_list (by decide +kernel)) ta_nil)))) (ts_cons (ts_forC wopen0 (pv 0) PassesOwn.leaving rfl ⟨(pg_name (i := 1) nd rfl (by first | exact Or.inl rfl | exact Or.inr rfl)), (nm_sem 1)⟩ (ts_one (ts_expr (TPR.toE (t_callP I.c__law_wreck hr hx0 (by rfl) (ta_cons (t_var (pv 1)) ta_nil) (alen_cons alen_nil)))))) (ts_cons (ts_mth PySem.F.slot_list_append PySem.F.type_list_append mt_append mk_append (pv 0) (ta_cons t_int ta_nil)) (ts_one (ts_mth0 PySem.F.slot_list_reverse PySem.F.type_list_reverse mt_reverse mk_reverse (pv 0))))) (ts_one (ts_if (tt_val (t_bi call_isi sv_isi (by rfl) S.n_isinstance (by decide +kernel) (ta_cons (t_var (pv 0)) (ta_cons (t_tyv (by rfl) S.n_tuple (by decide +kernel)) ta_nil)))) (ts_one (ts_forC wopen0 (pv 0) PassesOwn.leaving rfl ⟨(pg_name (i := 1) nd rfl (by first | exact Or.inl rfl | exact Or.inr rfl)), (nm_sem 1)⟩ (ts_one (ts_expr (TPR.toE (t_callP I.c__law_wreck hr hx0 (by rfl) (ta_cons (t_var (pv 1)) ta_nil) (alen_cons alen_nil))))))) (ts_one (ts_if (tt_val (t_bi call_isi sv_isi (by rfl) S.n_isinstance (by decide +kernel) (ta_cons (t_var (pv 0)) (ta_cons (t_tyv (by rfl) S.n_dict (by decide +kernel)) ta_nil)))) (ts_cons (ts_for PassesOwn.leaving rfl (ti_val (fz (t_biO (call_sortO rfl (ru hr)) sv_sortC (by rfl) S.n_sorted (by decide +kernel) (ta_cons (t_var (pv 0)) ta_nil)))) ⟨(pg_name (i := 2) nd rfl (by first | exact Or.inl rfl | exact Or.inr rfl)), (nm_sem 2)⟩ (ts_one (ts_expr (TPR.toE (t_callP I.c__law_wreck hr hx0 (by rfl) (ta_cons (t_ix (ru hr) (t_var (pv 0)) (t_var (pv 2))) ta_nil) (alen_cons alen_nil)))))) (ts_one (ts_put (ru hr) (pv 0) t_str t_int))) ts_nil))))))
theorem o__law_some_rows {P : Program} {w : World} {K : PySem.W.Frag} {mg : Str → Option Value} {base : Heap} {n : Nat} (S : St w K mg) (I : Is P w K mg base n) {f : Addr} {fd : FuncData} (Fd : FunD K "_law_some_rows" "_law_some_rows" (defArgs s__law_some_rows) (defBody s__law_some_rows) (defScope s__law_some_rows) [] [] f fd) : FnOk P w K mg base CX0 (4 * n + 4) f fd ["_law_draw"] (spT K false 1 (F (n + 1))._law_some_rows) := by
  refine fn_tln Fd sc__law_some_rows fun cdv A outer s H E hr3 hr hr1 hr2 => ?_
  have nd := sc__law_some_rows.nd
  exact (ts_cons (ts_asgO (ps_set (i := 1) nd rfl (by first | exact Or.inl rfl | exact Or.inr rfl) (t_lst ta_nil))) (ts_cons (ts_for PassesOwn.leaving rfl (ti_range1 (by rfl) S.n_range (ta_cons (TPR.toE (t_callP I.c__law_pull hr hx0 (by rfl) (ta_cons (t_var (pv 0)) (ta_cons t_int ta_nil)) (alen_cons (alen_cons alen_nil)))) ta_nil)) ⟨(pg_name (i := 2) nd rfl (by first | exact Or.inl rfl | exact Or.inr rfl)), (nm_sem 2)⟩ (ts_cons (ts_asg (ps_set (i := 3) nd rfl (by first | exact Or.inl rfl | exact Or.inr rfl) (t_tup (ta_cons (TPR.toE (t_callP I.c__law_any hr hx0 (by rfl) (ta_cons (t_var (pv 0)) (ta_cons (fz (t_lst (ta_cons t_str (ta_cons t_str (ta_cons t_str ta_nil))))) ta_nil)) (alen_cons (alen_cons alen_nil)))) (ta_cons (TPR.toE (t_callP I.c__law_key hr hx0 (by rfl) (ta_cons (t_var (pv 0)) (ta_cons (t_op orp_add sv_add t_int (TPR.toE (t_callP I.c__law_pull hr hx0 (by rfl) (ta_cons (t_var (pv 0)) (ta_cons t_int ta_nil)) (alen_cons (alen_cons alen_nil))))) ta_nil)) (alen_cons (alen_cons alen_nil)))) (ta_cons (t_op orp_add sv_add t_int (TPR.toE (t_callP I.c__law_pull hr hx0 (by rfl) (ta_cons (t_var (pv 0)) (ta_cons t_int ta_nil)) (alen_cons (alen_cons alen_nil))))) ta_nil)))))) (ts_one (ts_if (tt_view (tt_cmp (op_notInX (ru hr)) sv_inX (t_var (pv 3)) (t_var (pv 1)) rfl)) (ts_one (ts_mth PySem.F.slot_list_append PySem.F.type_list_append mt_append mk_append (pv 1) (ta_cons (t_var (pv 3)) ta_nil))) ts_nil)))) (ts_one (ts_retVF (pv 1)))))
theorem o_law {P : Program} {w : World} {K : PySem.W.Frag} {mg : Str → Option Value} {base : Heap} {n : Nat} (S : St w K mg) (I : Is P w K mg base n) {f : Addr} {fd : FuncData} (Fd : FunD K "law" "law" (defArgs s_law) (defBody s_law) (defScope s_law) [] [] f fd) : FnOk P w K mg base CX0 (4 * n + 4) f fd ["_law_script"] (spT K false 1 (F (n + 1)).law) := by
  refine fn_tln Fd sc_law fun cdv A outer s H E hr3 hr hr1 hr2 => ?_
  have nd := sc_law.nd
  exact (ts_cons (ts_asg (ps_set (i := 1) nd rfl (by first | exact Or.inl rfl | exact Or.inr rfl) (t_share (TPR.toO (t_callP I.c__law_open hr hx0 (by rfl) (ta_cons (t_var (pv 0)) ta_nil) (alen_cons alen_nil)))))) (ts_cons (ts_for PassesOwn.leaving rfl (ti_range1 (by rfl) S.n_range (ta_cons t_int ta_nil)) ⟨(pg_name (i := 2) nd rfl (by first | exact Or.inl rfl | exact Or.inr rfl)), (nm_sem 2)⟩ (ts_cons (ts_asg (ps_set (i := 3) nd rfl (by first | exact Or.inl rfl | exact Or.inr rfl) (fz (t_lst (ta_cons (TPR.toE (t_callP I.c__law_some_rows hr hx0 (by rfl) (ta_cons (t_var (pv 1)) ta_nil) (alen_cons alen_nil))) (ta_cons (TPR.toE (t_callP I.c__law_some_rows hr hx0 (by rfl) (ta_cons (t_var (pv 1)) ta_nil) (alen_cons alen_nil))) ta_nil)))))) (ts_cons (ts_asg (ps_set (i := 4) nd rfl (by first | exact Or.inl rfl | exact Or.inr rfl) (TPR.toE (t_callP I.c__law_copy hr hx0 (by rfl) (ta_cons (t_var (pv 3)) ta_nil) (alen_cons alen_nil))))) (ts_cons (ts_asg (ps_set (i := 5) nd rfl (by first | exact Or.inl rfl | exact Or.inr rfl) (t_make I.k3_Paper___init__ (hr3.mono (by omega)) hx0 (by rfl) (ta_cons (t_ix (ru hr) (t_var (pv 4)) t_int) (ta_cons (t_ix (ru hr) (t_var (pv 4)) t_int) ta_nil)) (alen_cons (alen_cons alen_nil))))) (ts_cons (ts_if (tt_not (tt_val (t_callV I.c__law_like hr hx0 (by rfl) (ta_cons (t_var (pv 4)) (ta_cons (t_var (pv 3)) ta_nil)) (alen_cons (alen_cons alen_nil))))) (ts_one (ts_ret t_bl)) ts_nil) (ts_cons (ts_expr (TPR.toE (t_callP I.c__law_wreck hr hx0 (by rfl) (ta_cons (t_var (pv 4)) ta_nil) (alen_cons alen_nil)))) (ts_cons (ts_asg (ps_set (i := 6) nd rfl (by first | exact Or.inl rfl | exact Or.inr rfl) (fz (t_lst (ta_cons (fz (t_sortKey I.c__law_row_rank hr2 (ru hr) hcx0 (by rfl) (by rfl) S.n_sorted (by decide +kernel) (t_ix (ru hr) (t_var (pv 3)) t_int))) (ta_cons (fz (t_sortKey I.c__law_row_rank hr2 (ru hr) hcx0 (by rfl) (by rfl) S.n_sorted (by decide +kernel) (t_ix (ru hr) (t_var (pv 3)) t_int))) ta_nil)))))) (ts_cons (ts_for PassesOwn.leaving rfl (ti_range1 (by rfl) S.n_range (ta_cons t_int ta_nil)) ⟨(pg_name (i := 7) nd rfl (by first | exact Or.inl rfl | exact Or.inr rfl)), (nm_sem 7)⟩ (ts_cons (ts_asg (ps_set (i := 8) nd rfl (by first | exact Or.inl rfl | exact Or.inr rfl) (t_share (t_lst (ta_cons (TPR.toE (t_mth0 (mt1 I.m1_Paper_gone) hr hx0 (t_var (pv 5)))) (ta_cons (TPR.toE (t_mth0 (mt1 I.m1_Paper_come) hr hx0 (t_var (pv 5)))) ta_nil)))))) (ts_cons (ts_if (tt_w (tw_or (tt_not (tt_val (t_callV I.c__law_like hr hx0 (by rfl) (ta_cons (t_var (pv 8)) (ta_cons (t_var (pv 6)) ta_nil)) (alen_cons (alen_cons alen_nil))))) (tw_or1 (tt_cmp (orp_ne (ru hr)) sv_eqv (t_bi (cr_lenO (hr3.mono (by omega))) (sv_lenO (mt1 I.m1_Paper___len__)) (by rfl) S.n_len (by decide +kernel) (ta_cons (t_var (pv 5)) ta_nil)) (t_op orp_add sv_add (t_bi call_lenA sv_len (by rfl) S.n_len (by decide +kernel) (ta_cons (t_ix (ru hr) (t_var (pv 3)) t_int) ta_nil)) (t_bi call_lenA sv_len (by rfl) S.n_len (by decide +kernel) (ta_cons (t_ix (ru hr) (t_var (pv 3)) t_int) ta_nil))) (nomark _))))) (ts_one (ts_ret t_bl)) ts_nil) (ts_one (ts_expr (TPR.toE (t_callP I.c__law_wreck hr hx0 (by rfl) (ta_cons (t_var (pv 8)) ta_nil) (alen_cons alen_nil)))))))) (ts_cons (ts_if (tt_cmp (orp_ne (ru hr)) sv_eqv (t_ty (cr_strO (hr3.mono (by omega))) (sv_strO (mt1 I.m1_Paper___str__)) (by rfl) S.n_str (by decide +kernel) (ta_cons (t_var (pv 5)) ta_nil)) (t_op orp_add sv_add (t_op orp_add sv_add (t_op orp_add sv_add t_str (t_ty call_str_int sv_strI (by rfl) S.n_str (by decide +kernel) (ta_cons (t_bi call_lenA sv_len (by rfl) S.n_len (by decide +kernel) (ta_cons (t_ix (ru hr) (t_var (pv 3)) t_int) ta_nil)) ta_nil))) t_str) (t_ty call_str_int sv_strI (by rfl) S.n_str (by decide +kernel) (ta_cons (t_bi call_lenA sv_len (by rfl) S.n_len (by decide +kernel) (ta_cons (t_ix (ru hr) (t_var (pv 3)) t_int) ta_nil)) ta_nil))) (nomark _)) (ts_one (ts_ret t_bl)) ts_nil) (ts_cons (ts_asg (ps_set (i := 9) nd rfl (by first | exact Or.inl rfl | exact Or.inr rfl) (TPR.toE (t_mth0 (mt1 I.m1_Paper_turned_about) hr hx0 (t_var (pv 5)))))) (ts_cons (ts_if (tt_w (tw_or (tt_not (tt_val (t_callV I.c__law_like hr hx0 (by rfl) (ta_cons (fz (t_lst (ta_cons (TPR.toE (t_mth0 (mt1 I.m1_Paper_gone) hr hx0 (t_var (pv 9)))) (ta_cons (TPR.toE (t_mth0 (mt1 I.m1_Paper_come) hr hx0 (t_var (pv 9)))) ta_nil)))) (ta_cons (t_rev (t_var (pv 6))) ta_nil)) (alen_cons (alen_cons alen_nil))))) (tw_or1 (tt_not (tt_cmp (op_eqO hr) (sv_eqO (mt1 S.c_Paper) S.eo_Paper I.m2_Paper___eq__) (TPR.toE (t_mth0 (mt1 I.m1_Paper_turned_about) hr hx0 (t_var (pv 9)))) (t_var (pv 5)) (nomark _)))))) (ts_one (ts_ret t_bl)) ts_nil) (ts_one (ts_if (tt_w (tw_or (tt_not (tt_cmp (op_eqO hr) (sv_eqO (mt1 S.c_Paper) S.eo_Paper I.m2_Paper___eq__) (t_var (pv 5)) (t_make I.k3_Paper___init__ (hr3.mono (by omega)) hx0 (by rfl) (ta_cons (t_rev (t_ix (ru hr) (t_var (pv 3)) t_int)) (ta_cons (t_rev (t_ix (ru hr) (t_var (pv 3)) t_int)) ta_nil)) (alen_cons (alen_cons alen_nil))) (nomark _))) (tw_or (tt_cmp (orp_ne (ru hr)) sv_eqv (t_cmp (op_eqO hr) (sv_eqO (mt1 S.c_Paper) S.eo_Paper I.m2_Paper___eq__) (t_var (pv 5)) (t_var (pv 9)) (nomark _)) (t_cmp (op_eqX (ru hr)) sv_eqX (t_ix (ru hr) (t_var (pv 6)) t_int) (t_ix (ru hr) (t_var (pv 6)) t_int) (nomark _)) (nomark _)) (tw_or1 (tt_cmp (op_eqO hr) (sv_eqO (mt1 S.c_Paper) S.eo_Paper I.m2_Paper___eq__) (t_var (pv 5)) (t_var (pv 6)) (nomark _)))))) (ts_one (ts_ret t_bl)) ts_nil))))))))))))) (ts_one (ts_ret (t_and (t_cmp (orp_eq (ru hr)) sv_eqv (t_bi (cr_lenO (hr3.mono (by omega))) (sv_lenO (mt1 I.m1_Paper___len__)) (by rfl) S.n_len (by decide +kernel) (ta_cons (t_make I.k3_Paper___init__ (hr3.mono (by omega)) hx0 (by rfl) (ta_cons (fz (t_lst ta_nil)) (ta_cons (fz (t_lst ta_nil)) ta_nil)) (alen_cons (alen_cons alen_nil))) ta_nil)) t_int (nomark _)) (t_one (t_cmp (orp_eq (ru hr)) sv_eqv (t_ty (cr_strO (hr3.mono (by omega))) (sv_strO (mt1 I.m1_Paper___str__)) (by rfl) S.n_str (by decide +kernel) (ta_cons (t_make I.k3_Paper___init__ (hr3.mono (by omega)) hx0 (by rfl) (ta_cons (fz (t_lst ta_nil)) (ta_cons (fz (t_lst ta_nil)) ta_nil)) (alen_cons (alen_cons alen_nil))) ta_nil)) t_str (nomark _))))))))
theorem o_Paper___init__ {P : Program} {w : World} {K : PySem.W.Frag} {mg : Str → Option Value} {base : Heap} {n : Nat} (S : St w K mg) (I : Is P w K mg base n) {f : Addr} {fd : FuncData} (Fd : FunD K "__init__" "Paper.__init__" (defArgs s_Paper___init__) (defBody s_Paper___init__) (defScope s_Paper___init__) [] [] f fd) : FnOk P w K mg base CX0 (4 * n + 4) f fd ["self", "gone", "come"] (spT K false 3 (F (n + 1)).Paper___init__) := by
  refine fn_tln Fd sc_Paper___init__ fun cdv A outer s H E hr3 hr hr1 hr2 => ?_
  have nd := sc_Paper___init__.nd
  exact (ts_cons (ts_fld (mt1 ⟨S.c_Paper.cl, S.na_Paper_less⟩) (t_var (pv 0)) (fz (t_sortKey I.c_row_rank hr2 (ru hr) hcx0 (by rfl) (by rfl) S.n_sorted (by decide +kernel) (t_viewV (TPR.toE (t_callP I.c_copied hr hx0 (by rfl) (ta_cons (t_var (pv 1)) ta_nil) (alen_cons alen_nil))))))) (ts_one (ts_fld (mt1 ⟨S.c_Paper.cl, S.na_Paper_more⟩) (t_var (pv 0)) (fz (t_sortKey I.c_row_rank hr2 (ru hr) hcx0 (by rfl) (by rfl) S.n_sorted (by decide +kernel) (t_viewV (TPR.toE (t_callP I.c_copied hr hx0 (by rfl) (ta_cons (t_var (pv 2)) ta_nil) (alen_cons alen_nil)))))))))
theorem o_Paper___len__ {P : Program} {w : World} {K : PySem.W.Frag} {mg : Str → Option Value} {base : Heap} {n : Nat} (S : St w K mg) (I : Is P w K mg base n) {f : Addr} {fd : FuncData} (Fd : FunD K "__len__" "Paper.__len__" (defArgs s_Paper___len__) (defBody s_Paper___len__) (defScope s_Paper___len__) [] [] f fd) : FnOk P w K mg base CX0 (4 * n + 4) f fd ["self"] (spT K false 1 (F (n + 1)).Paper___len__) := by
  refine fn_tln Fd sc_Paper___len__ fun cdv A outer s H E hr3 hr hr1 hr2 => ?_
  have nd := sc_Paper___len__.nd
  exact (ts_one (ts_ret (t_bi call_lenA sv_len (by rfl) S.n_len (by decide +kernel) (ta_cons (t_op orp_add sv_add (t_fld (mt1 ⟨S.c_Paper.cl, S.na_Paper_less⟩) (t_var (pv 0))) (t_fld (mt1 ⟨S.c_Paper.cl, S.na_Paper_more⟩) (t_var (pv 0)))) ta_nil))))
theorem o_Paper___eq__ {P : Program} {w : World} {K : PySem.W.Frag} {mg : Str → Option Value} {base : Heap} {n : Nat} (S : St w K mg) (I : Is P w K mg base n) {f : Addr} {fd : FuncData} (Fd : FunD K "__eq__" "Paper.__eq__" (defArgs s_Paper___eq__) (defBody s_Paper___eq__) (defScope s_Paper___eq__) [] [] f fd) : FnOk P w K mg base CX0 (4 * n + 4) f fd ["self", "other"] (spT K false 2 (F (n + 1)).Paper___eq__) := by
  refine fn_tln Fd sc_Paper___eq__ fun cdv A outer s H E hr3 hr hr1 hr2 => ?_
  have nd := sc_Paper___eq__.nd
  exact (ts_one (ts_ret (t_and (t_bi call_isi (sv_isO S.io_Paper (mt1 S.c_Paper)) (by rfl) S.n_isinstance (by decide +kernel) (ta_cons (t_var (pv 1)) (ta_cons (t_cls (by rfl) S.g_Paper) ta_nil))) (t_and (t_cmp (op_eqX (ru hr)) sv_eqX (t_fld (mt1 ⟨S.c_Paper.cl, S.na_Paper_less⟩) (t_var (pv 0))) (t_fld (mt1 ⟨S.c_Paper.cl, S.na_Paper_less⟩) (t_var (pv 1))) (nomark _)) (t_one (t_cmp (op_eqX (ru hr)) sv_eqX (t_fld (mt1 ⟨S.c_Paper.cl, S.na_Paper_more⟩) (t_var (pv 0))) (t_fld (mt1 ⟨S.c_Paper.cl, S.na_Paper_more⟩) (t_var (pv 1))) (nomark _)))))))
theorem o_Paper___str__ {P : Program} {w : World} {K : PySem.W.Frag} {mg : Str → Option Value} {base : Heap} {n : Nat} (S : St w K mg) (I : Is P w K mg base n) {f : Addr} {fd : FuncData} (Fd : FunD K "__str__" "Paper.__str__" (defArgs s_Paper___str__) (defBody s_Paper___str__) (defScope s_Paper___str__) [] [] f fd) : FnOk P w K mg base CX0 (4 * n + 4) f fd ["self"] (spT K false 1 (F (n + 1)).Paper___str__) := by
  refine fn_tln Fd sc_Paper___str__ fun cdv A outer s H E hr3 hr hr1 hr2 => ?_
  have nd := sc_Paper___str__.nd
  exact (ts_one (ts_ret (t_join (tj_cons t_str (tj_cons (t_fmt (t_bi call_lenA sv_len (by rfl) S.n_len (by decide +kernel) (ta_cons (t_fld (mt1 ⟨S.c_Paper.cl, S.na_Paper_less⟩) (t_var (pv 0))) ta_nil))) (tj_cons t_str (tj_cons (t_fmt (t_bi call_lenA sv_len (by rfl) S.n_len (by decide +kernel) (ta_cons (t_fld (mt1 ⟨S.c_Paper.cl, S.na_Paper_more⟩) (t_var (pv 0))) ta_nil))) tj_nil)))))))
theorem o_Paper_gone {P : Program} {w : World} {K : PySem.W.Frag} {mg : Str → Option Value} {base : Heap} {n : Nat} (S : St w K mg) (I : Is P w K mg base n) {f : Addr} {fd : FuncData} (Fd : FunD K "gone" "Paper.gone" (defArgs s_Paper_gone) (defBody s_Paper_gone) (defScope s_Paper_gone) [] [] f fd) : FnOk P w K mg base CX0 (4 * n + 4) f fd ["self"] (spT K false 1 (F (n + 1)).Paper_gone) := by
  refine fn_tln Fd sc_Paper_gone fun cdv A outer s H E hr3 hr hr1 hr2 => ?_
  have nd := sc_Paper_gone.nd
  exact (ts_one (ts_ret (TPR.toE (t_callP I.c_copied hr hx0 (by rfl) (ta_cons (t_fld (mt1 ⟨S.c_Paper.cl, S.na_Paper_less⟩) (t_var (pv 0))) ta_nil) (alen_cons alen_nil)))))
theorem o_Paper_come {P : Program} {w : World} {K : PySem.W.Frag} {mg : Str → Option Value} {base : Heap} {n : Nat} (S : St w K mg) (I : Is P w K mg base n) {f : Addr} {fd : FuncData} (Fd : FunD K "come" "Paper.come" (defArgs s_Paper_come) (defBody s_Paper_come) (defScope s_Paper_come) [] [] f fd) : FnOk P w K mg base CX0 (4 * n + 4) f fd ["self"] (spT K false 1 (F (n + 1)).Paper_come) := by
  refine fn_tln Fd sc_Paper_come fun cdv A outer s H E hr3 hr hr1 hr2 => ?_
  have nd := sc_Paper_come.nd
  exact (ts_one (ts_ret (TPR.toE (t_callP I.c_copied hr hx0 (by rfl) (ta_cons (t_fld (mt1 ⟨S.c_Paper.cl, S.na_Paper_more⟩) (t_var (pv 0))) ta_nil) (alen_cons alen_nil)))))
theorem o_Paper_turned_about {P : Program} {w : World} {K : PySem.W.Frag} {mg : Str → Option Value} {base : Heap} {n : Nat} (S : St w K mg) (I : Is P w K mg base n) {f : Addr} {fd : FuncData} (Fd : FunD K "turned_about" "Paper.turned_about" (defArgs s_Paper_turned_about) (defBody s_Paper_turned_about) (defScope s_Paper_turned_about) [] [] f fd) : FnOk P w K mg base CX0 (4 * n + 4) f fd ["self"] (spT K false 1 (F (n + 1)).Paper_turned_about) := by
  refine fn_tln Fd sc_Paper_turned_about fun cdv A outer s H E hr3 hr hr1 hr2 => ?_
  have nd := sc_Paper_turned_about.nd
  exact (ts_one (ts_ret (t_make I.k3_Paper___init__ (hr3.mono (by omega)) hx0 (by rfl) (ta_cons (t_fld (mt1 ⟨S.c_Paper.cl, S.na_Paper_more⟩) (t_var (pv 0))) (ta_cons (t_fld (mt1 ⟨S.c_Paper.cl, S.na_Paper_less⟩) (t_var (pv 0))) ta_nil)) (alen_cons (alen_cons alen_nil)))))
theorem bd_copied {K : PySem.W.Frag} {f : Addr} {fd : FuncData} (Fd : FunD K "copied" "copied" (defArgs s_copied) (defBody s_copied) (defScope s_copied) [] [] f fd) : Binds K fd ["value"] [] := Fd.bindsN fun _ _ _ _ _ _ us hl => match us, hl with | [_], _ => rfl
theorem bd_rank {K : PySem.W.Frag} {f : Addr} {fd : FuncData} (Fd : FunD K "rank" "rank" (defArgs s_rank) (defBody s_rank) (defScope s_rank) [] [] f fd) : Binds K fd ["value"] [] := Fd.bindsN fun _ _ _ _ _ _ us hl => match us, hl with | [_], _ => rfl
theorem bd_key_rank {K : PySem.W.Frag} {f : Addr} {fd : FuncData} (Fd : FunD K "key_rank" "key_rank" (defArgs s_key_rank) (defBody s_key_rank) (defScope s_key_rank) [] [] f fd) : Binds K fd ["part"] [] := Fd.bindsN fun _ _ _ _ _ _ us hl => match us, hl with | [_], _ => rfl
theorem bd_entry_rank {K : PySem.W.Frag} {f : Addr} {fd : FuncData} (Fd : FunD K "entry_rank" "entry_rank" (defArgs s_entry_rank) (defBody s_entry_rank) (defScope s_entry_rank) [] [] f fd) : Binds K fd ["entry"] [] := Fd.bindsN fun _ _ _ _ _ _ us hl => match us, hl with | [_], _ => rfl
theorem bd_row_rank {K : PySem.W.Frag} {f : Addr} {fd : FuncData} (Fd : FunD K "row_rank" "row_rank" (defArgs s_row_rank) (defBody s_row_rank) (defScope s_row_rank) [] [] f fd) : Binds K fd ["row"] [] := Fd.bindsN fun _ _ _ _ _ _ us hl => match us, hl with | [_], _ => rfl
theorem bd__law_open {K : PySem.W.Frag} {f : Addr} {fd : FuncData} (Fd : FunD K "_law_open" "_law_open" (defArgs s__law_open) (defBody s__law_open) (defScope s__law_open) [] [] f fd) : Binds K fd ["_law_script"] [] := Fd.bindsN fun _ _ _ _ _ _ us hl => match us, hl with | [_], _ => rfl
theorem bd__law_pull {K : PySem.W.Frag} {f : Addr} {fd : FuncData} (Fd : FunD K "_law_pull" "_law_pull" (defArgs s__law_pull) (defBody s__law_pull) (defScope s__law_pull) [] [] f fd) : Binds K fd ["_law_draw", "_law_top"] [] := Fd.bindsN fun _ _ _ _ _ _ us hl => match us, hl with | [_, _], _ => rfl
theorem bd__law_any {K : PySem.W.Frag} {f : Addr} {fd : FuncData} (Fd : FunD K "_law_any" "_law_any" (defArgs s__law_any) (defBody s__law_any) (defScope s__law_any) [] [] f fd) : Binds K fd ["_law_draw", "_law_some"] [] := Fd.bindsN fun _ _ _ _ _ _ us hl => match us, hl with | [_, _], _ => rfl
theorem bd__law_num {K : PySem.W.Frag} {f : Addr} {fd : FuncData} (Fd : FunD K "_law_num" "_law_num" (defArgs s__law_num) (defBody s__law_num) (defScope s__law_num) [] [] f fd) : Binds K fd ["_law_found"] [] := Fd.bindsN fun _ _ _ _ _ _ us hl => match us, hl with | [_], _ => rfl
theorem bd__law_like {K : PySem.W.Frag} {f : Addr} {fd : FuncData} (Fd : FunD K "_law_like" "_law_like" (defArgs s__law_like) (defBody s__law_like) (defScope s__law_like) [] [] f fd) : Binds K fd ["_law_found", "_law_due"] [] := Fd.bindsN fun _ _ _ _ _ _ us hl => match us, hl with | [_, _], _ => rfl
theorem bd__law_copy {K : PySem.W.Frag} {f : Addr} {fd : FuncData} (Fd : FunD K "_law_copy" "_law_copy" (defArgs s__law_copy) (defBody s__law_copy) (defScope s__law_copy) [] [] f fd) : Binds K fd ["_law_value_here"] [] := Fd.bindsN fun _ _ _ _ _ _ us hl => match us, hl with | [_], _ => rfl
theorem bd__law_rank {K : PySem.W.Frag} {f : Addr} {fd : FuncData} (Fd : FunD K "_law_rank" "_law_rank" (defArgs s__law_rank) (defBody s__law_rank) (defScope s__law_rank) [] [] f fd) : Binds K fd ["_law_value_here"] [] := Fd.bindsN fun _ _ _ _ _ _ us hl => match us, hl with | [_], _ => rfl
theorem bd__law_name {K : PySem.W.Frag} {f : Addr} {fd : FuncData} (Fd : FunD K "_law_name" "_law_name" (defArgs s__law_name) (defBody s__law_name) (defScope s__law_name) [] [] f fd) : Binds K fd ["_law_draw"] [] := Fd.bindsN fun _ _ _ _ _ _ us hl => match us, hl with | [_], _ => rfl
theorem bd__law_plain {K : PySem.W.Frag} {f : Addr} {fd : FuncData} (Fd : FunD K "_law_plain" "_law_plain" (defArgs s__law_plain) (defBody s__law_plain) (defScope s__law_plain) [] [] f fd) : Binds K fd ["_law_draw"] [] := Fd.bindsN fun _ _ _ _ _ _ us hl => match us, hl with | [_], _ => rfl
theorem bd__law_value {K : PySem.W.Frag} {f : Addr} {fd : FuncData} (Fd : FunD K "_law_value" "_law_value" (defArgs s__law_value) (defBody s__law_value) (defScope s__law_value) [] [] f fd) : Binds K fd ["_law_draw", "_law_bot"] [] := Fd.bindsN fun _ _ _ _ _ _ us hl => match us, hl with | [_, _], _ => rfl
theorem bd__law_record {K : PySem.W.Frag} {f : Addr} {fd : FuncData} (Fd : FunD K "_law_record" "_law_record" (defArgs s__law_record) (defBody s__law_record) (defScope s__law_record) [] [] f fd) : Binds K fd ["_law_draw", "_law_bot", "_law_wide"] [] := Fd.bindsN fun _ _ _ _ _ _ us hl => match us, hl with | [_, _, _], _ => rfl
theorem bd__law_entry_rank {K : PySem.W.Frag} {f : Addr} {fd : FuncData} (Fd : FunD K "_law_entry_rank" "_law_entry_rank" (defArgs s__law_entry_rank) (defBody s__law_entry_rank) (defScope s__law_entry_rank) [] [] f fd) : Binds K fd ["_law_entry"] [] := Fd.bindsN fun _ _ _ _ _ _ us hl => match us, hl with | [_], _ => rfl
theorem bd__law_key {K : PySem.W.Frag} {f : Addr} {fd : FuncData} (Fd : FunD K "_law_key" "_law_key" (defArgs s__law_key) (defBody s__law_key) (defScope s__law_key) [] [] f fd) : Binds K fd ["_law_draw", "_law_wide"] [] := Fd.bindsN fun _ _ _ _ _ _ us hl => match us, hl with | [_, _], _ => rfl
theorem bd__law_row_rank {K : PySem.W.Frag} {f : Addr} {fd : FuncData} (Fd : FunD K "_law_row_rank" "_law_row_rank" (defArgs s__law_row_rank) (defBody s__law_row_rank) (defScope s__law_row_rank) [] [] f fd) : Binds K fd ["_law_row"] [] := Fd.bindsN fun _ _ _ _ _ _ us hl => match us, hl with | [_], _ => rfl
theorem bd__law_wreck {K : PySem.W.Frag} {f : Addr} {fd : FuncData} (Fd : FunD K "_law_wreck" "_law_wreck" (defArgs s__law_wreck) (defBody s__law_wreck) (defScope s__law_wreck) [] [] f fd) : Binds K fd ["_law_value_here"] [] := Fd.bindsN fun _ _ _ _ _ _ us hl => match us, hl with | [_], _ => rfl
theorem bd__law_some_rows {K : PySem.W.Frag} {f : Addr} {fd : FuncData} (Fd : FunD K "_law_some_rows" "_law_some_rows" (defArgs s__law_some_rows) (defBody s__law_some_rows) (defScope s__law_some_rows) [] [] f fd) : Binds K fd ["_law_draw"] [] := Fd.bindsN fun _ _ _ _ _ _ us hl => match us, hl with | [_], _ => rfl
theorem bd_law {K : PySem.W.Frag} {f : Addr} {fd : FuncData} (Fd : FunD K "law" "law" (defArgs s_law) (defBody s_law) (defScope s_law) [] [] f fd) : Binds K fd ["_law_script"] [] := Fd.bindsN fun _ _ _ _ _ _ us hl => match us, hl with | [_], _ => rfl
theorem bd_Paper___str__ {K : PySem.W.Frag} {f : Addr} {fd : FuncData} (Fd : FunD K "__str__" "Paper.__str__" (defArgs s_Paper___str__) (defBody s_Paper___str__) (defScope s_Paper___str__) [] [] f fd) : Binds K fd ["self"] [] := Fd.bindsN fun _ _ _ _ _ _ us hl => match us, hl with | [_], _ => rfl
theorem bd_Paper___len__ {K : PySem.W.Frag} {f : Addr} {fd : FuncData} (Fd : FunD K "__len__" "Paper.__len__" (defArgs s_Paper___len__) (defBody s_Paper___len__) (defScope s_Paper___len__) [] [] f fd) : Binds K fd ["self"] [] := Fd.bindsN fun _ _ _ _ _ _ us hl => match us, hl with | [_], _ => rfl
theorem bd_Paper___eq__ {K : PySem.W.Frag} {f : Addr} {fd : FuncData} (Fd : FunD K "__eq__" "Paper.__eq__" (defArgs s_Paper___eq__) (defBody s_Paper___eq__) (defScope s_Paper___eq__) [] [] f fd) : Binds K fd ["self", "other"] [] := Fd.bindsN fun _ _ _ _ _ _ us hl => match us, hl with | [_, _], _ => rfl
theorem bd_Paper_turned_about {K : PySem.W.Frag} {f : Addr} {fd : FuncData} (Fd : FunD K "turned_about" "Paper.turned_about" (defArgs s_Paper_turned_about) (defBody s_Paper_turned_about) (defScope s_Paper_turned_about) [] [] f fd) : Binds K fd ["self"] [] := Fd.bindsN fun _ _ _ _ _ _ us hl => match us, hl with | [_], _ => rfl
theorem bd_Paper_come {K : PySem.W.Frag} {f : Addr} {fd : FuncData} (Fd : FunD K "come" "Paper.come" (defArgs s_Paper_come) (defBody s_Paper_come) (defScope s_Paper_come) [] [] f fd) : Binds K fd ["self"] [] := Fd.bindsN fun _ _ _ _ _ _ us hl => match us, hl with | [_], _ => rfl
theorem bd_Paper_gone {K : PySem.W.Frag} {f : Addr} {fd : FuncData} (Fd : FunD K "gone" "Paper.gone" (defArgs s_Paper_gone) (defBody s_Paper_gone) (defScope s_Paper_gone) [] [] f fd) : Binds K fd ["self"] [] := Fd.bindsN fun _ _ _ _ _ _ us hl => match us, hl with | [_], _ => rfl
theorem bd_Paper___init__ {K : PySem.W.Frag} {f : Addr} {fd : FuncData} (Fd : FunD K "__init__" "Paper.__init__" (defArgs s_Paper___init__) (defBody s_Paper___init__) (defScope s_Paper___init__) [] [] f fd) : Binds K fd ["self", "gone", "come"] [] := Fd.bindsN fun _ _ _ _ _ _ us hl => match us, hl with | [_, _, _], _ => rfl
theorem is_of {P : Program} {w : World} {K : PySem.W.Frag} {mg : Str → Option Value} {base : Heap} (S : St w K mg) : ∀ n, Is P w K mg base n
  | 0 => ⟨(by obtain ⟨f, fd, Fd, hm⟩ := S.d_copied; exact ⟨f, fd, fn_bad, hm, Fd.kp, bd_copied Fd⟩),
      (by obtain ⟨f, fd, Fd, hm⟩ := S.d_rank; exact ⟨f, fd, fn_bad, hm, Fd.kp, bd_rank Fd⟩),
      (by obtain ⟨f, fd, Fd, hm⟩ := S.d_key_rank; exact ⟨f, fd, fn_bad, hm, Fd.kp, bd_key_rank Fd⟩),
      (by obtain ⟨f, fd, Fd, hm⟩ := S.d_entry_rank; exact ⟨f, fd, fn_bad, hm, Fd.kp, bd_entry_rank Fd⟩),
      (by obtain ⟨f, fd, Fd, hm⟩ := S.d_row_rank; exact ⟨f, fd, fn_bad, hm, Fd.kp, bd_row_rank Fd⟩),
      (by obtain ⟨f, fd, Fd, hm⟩ := S.d__law_open; exact ⟨f, fd, fn_bad, hm, Fd.kp, bd__law_open Fd⟩),
      (by obtain ⟨f, fd, Fd, hm⟩ := S.d__law_pull; exact ⟨f, fd, fn_bad, hm, Fd.kp, bd__law_pull Fd⟩),
      (by obtain ⟨f, fd, Fd, hm⟩ := S.d__law_any; exact ⟨f, fd, fn_bad, hm, Fd.kp, bd__law_any Fd⟩),
      (by obtain ⟨f, fd, Fd, hm⟩ := S.d__law_num; exact ⟨f, fd, fn_bad, hm, Fd.kp, bd__law_num Fd⟩),
      (by obtain ⟨f, fd, Fd, hm⟩ := S.d__law_like; exact ⟨f, fd, fn_bad, hm, Fd.kp, bd__law_like Fd⟩),
      (by obtain ⟨f, fd, Fd, hm⟩ := S.d__law_copy; exact ⟨f, fd, fn_bad, hm, Fd.kp, bd__law_copy Fd⟩),
      (by obtain ⟨f, fd, Fd, hm⟩ := S.d__law_rank; exact ⟨f, fd, fn_bad, hm, Fd.kp, bd__law_rank Fd⟩),
      (by obtain ⟨f, fd, Fd, hm⟩ := S.d__law_name; exact ⟨f, fd, fn_bad, hm, Fd.kp, bd__law_name Fd⟩),
      (by obtain ⟨f, fd, Fd, hm⟩ := S.d__law_plain; exact ⟨f, fd, fn_bad, hm, Fd.kp, bd__law_plain Fd⟩),
      (by obtain ⟨f, fd, Fd, hm⟩ := S.d__law_value; exact ⟨f, fd, fn_bad, hm, Fd.kp, bd__law_value Fd⟩),
      (by obtain ⟨f, fd, Fd, hm⟩ := S.d__law_record; exact ⟨f, fd, fn_bad, hm, Fd.kp, bd__law_record Fd⟩),
      (by obtain ⟨f, fd, Fd, hm⟩ := S.d__law_entry_rank; exact ⟨f, fd, fn_bad, hm, Fd.kp, bd__law_entry_rank Fd⟩),
      (by obtain ⟨f, fd, Fd, hm⟩ := S.d__law_key; exact ⟨f, fd, fn_bad, hm, Fd.kp, bd__law_key Fd⟩),
      (by obtain ⟨f, fd, Fd, hm⟩ := S.d__law_row_rank; exact ⟨f, fd, fn_bad, hm, Fd.kp, bd__law_row_rank Fd⟩),
      (by obtain ⟨f, fd, Fd, hm⟩ := S.d__law_wreck; exact ⟨f, fd, fn_bad, hm, Fd.kp, bd__law_wreck Fd⟩),
      (by obtain ⟨f, fd, Fd, hm⟩ := S.d__law_some_rows; exact ⟨f, fd, fn_bad, hm, Fd.kp, bd__law_some_rows Fd⟩),
      (by obtain ⟨f, fd, Fd, hm⟩ := S.d_law; exact ⟨f, fd, fn_bad, hm, Fd.kp, bd_law Fd⟩),
      (by obtain ⟨fd, Fd⟩ := S.d_Paper___str__; exact ⟨_, fd, ["self"], fn_bad, S.c_Paper.cl, S.mm_Paper___str__, [], [], bd_Paper___str__ Fd, .nil, fun _ _ => rfl, rfl⟩),
      (by obtain ⟨fd, Fd⟩ := S.d_Paper___len__; exact ⟨_, fd, ["self"], fn_bad, S.c_Paper.cl, S.mm_Paper___len__, [], [], bd_Paper___len__ Fd, .nil, fun _ _ => rfl, rfl⟩),
      (by obtain ⟨fd, Fd⟩ := S.d_Paper___eq__; exact ⟨_, fd, ["self", "other"], fn_bad, S.c_Paper.cl, S.mm_Paper___eq__, [], [], bd_Paper___eq__ Fd, .nil, fun _ _ => rfl, rfl⟩),
      (by obtain ⟨fd, Fd⟩ := S.d_Paper_turned_about; exact ⟨_, fd, ["self"], fn_bad, S.c_Paper.cl, S.mm_Paper_turned_about, [], [], bd_Paper_turned_about Fd, .nil, fun _ _ => rfl, rfl⟩),
      (by obtain ⟨fd, Fd⟩ := S.d_Paper_come; exact ⟨_, fd, ["self"], fn_bad, S.c_Paper.cl, S.mm_Paper_come, [], [], bd_Paper_come Fd, .nil, fun _ _ => rfl, rfl⟩),
      (by obtain ⟨fd, Fd⟩ := S.d_Paper_gone; exact ⟨_, fd, ["self"], fn_bad, S.c_Paper.cl, S.mm_Paper_gone, [], [], bd_Paper_gone Fd, .nil, fun _ _ => rfl, rfl⟩),
      (by obtain ⟨fd, Fd⟩ := S.d_Paper___init__; exact ⟨_, fd, ["self", "gone", "come"], fn_bad, ⟨S.c_Paper.mks, S.mm_Paper___init__.at_, S.mm_Paper___init__.fn, S.c_Paper.kp⟩, S.g_Paper, [], [], bd_Paper___init__ Fd, .nil, fun _ _ => rfl, rfl⟩)⟩
  | n + 1 => by
    have I := is_of (P := P) (w := w) (base := base) S n
    exact ⟨(by obtain ⟨f, fd, Fd, hm⟩ := S.d_copied; exact ⟨f, fd, o_copied S I Fd, hm, Fd.kp, bd_copied Fd⟩),
      (by obtain ⟨f, fd, Fd, hm⟩ := S.d_rank; exact ⟨f, fd, o_rank S I Fd, hm, Fd.kp, bd_rank Fd⟩),
      (by obtain ⟨f, fd, Fd, hm⟩ := S.d_key_rank; exact ⟨f, fd, o_key_rank S I Fd, hm, Fd.kp, bd_key_rank Fd⟩),
      (by obtain ⟨f, fd, Fd, hm⟩ := S.d_entry_rank; exact ⟨f, fd, o_entry_rank S I Fd, hm, Fd.kp, bd_entry_rank Fd⟩),
      (by obtain ⟨f, fd, Fd, hm⟩ := S.d_row_rank; exact ⟨f, fd, o_row_rank S I Fd, hm, Fd.kp, bd_row_rank Fd⟩),
      (by obtain ⟨f, fd, Fd, hm⟩ := S.d__law_open; exact ⟨f, fd, o__law_open S I Fd, hm, Fd.kp, bd__law_open Fd⟩),
      (by obtain ⟨f, fd, Fd, hm⟩ := S.d__law_pull; exact ⟨f, fd, o__law_pull S I Fd, hm, Fd.kp, bd__law_pull Fd⟩),
      (by obtain ⟨f, fd, Fd, hm⟩ := S.d__law_any; exact ⟨f, fd, o__law_any S I Fd, hm, Fd.kp, bd__law_any Fd⟩),
      (by obtain ⟨f, fd, Fd, hm⟩ := S.d__law_num; exact ⟨f, fd, o__law_num S I Fd, hm, Fd.kp, bd__law_num Fd⟩),
      (by obtain ⟨f, fd, Fd, hm⟩ := S.d__law_like; exact ⟨f, fd, o__law_like S I Fd, hm, Fd.kp, bd__law_like Fd⟩),
      (by obtain ⟨f, fd, Fd, hm⟩ := S.d__law_copy; exact ⟨f, fd, o__law_copy S I Fd, hm, Fd.kp, bd__law_copy Fd⟩),
      (by obtain ⟨f, fd, Fd, hm⟩ := S.d__law_rank; exact ⟨f, fd, o__law_rank S I Fd, hm, Fd.kp, bd__law_rank Fd⟩),
      (by obtain ⟨f, fd, Fd, hm⟩ := S.d__law_name; exact ⟨f, fd, o__law_name S I Fd, hm, Fd.kp, bd__law_name Fd⟩),
      (by obtain ⟨f, fd, Fd, hm⟩ := S.d__law_plain; exact ⟨f, fd, o__law_plain S I Fd, hm, Fd.kp, bd__law_plain Fd⟩),
      (by obtain ⟨f, fd, Fd, hm⟩ := S.d__law_value; exact ⟨f, fd, o__law_value S I Fd, hm, Fd.kp, bd__law_value Fd⟩),
      (by obtain ⟨f, fd, Fd, hm⟩ := S.d__law_record; exact ⟨f, fd, o__law_record S I Fd, hm, Fd.kp, bd__law_record Fd⟩),
      (by obtain ⟨f, fd, Fd, hm⟩ := S.d__law_entry_rank; exact ⟨f, fd, o__law_entry_rank S I Fd, hm, Fd.kp, bd__law_entry_rank Fd⟩),
      (by obtain ⟨f, fd, Fd, hm⟩ := S.d__law_key; exact ⟨f, fd, o__law_key S I Fd, hm, Fd.kp, bd__law_key Fd⟩),
      (by obtain ⟨f, fd, Fd, hm⟩ := S.d__law_row_rank; exact ⟨f, fd, o__law_row_rank S I Fd, hm, Fd.kp, bd__law_row_rank Fd⟩),
      (by obtain ⟨f, fd, Fd, hm⟩ := S.d__law_wreck; exact ⟨f, fd, o__law_wreck S I Fd, hm, Fd.kp, bd__law_wreck Fd⟩),
      (by obtain ⟨f, fd, Fd, hm⟩ := S.d__law_some_rows; exact ⟨f, fd, o__law_some_rows S I Fd, hm, Fd.kp, bd__law_some_rows Fd⟩),
      (by obtain ⟨f, fd, Fd, hm⟩ := S.d_law; exact ⟨f, fd, o_law S I Fd, hm, Fd.kp, bd_law Fd⟩),
      (by obtain ⟨fd, Fd⟩ := S.d_Paper___str__; exact ⟨_, fd, ["self"], o_Paper___str__ S I Fd, S.c_Paper.cl, S.mm_Paper___str__, [], [], bd_Paper___str__ Fd, .nil, fun _ _ => rfl, rfl⟩),
      (by obtain ⟨fd, Fd⟩ := S.d_Paper___len__; exact ⟨_, fd, ["self"], o_Paper___len__ S I Fd, S.c_Paper.cl, S.mm_Paper___len__, [], [], bd_Paper___len__ Fd, .nil, fun _ _ => rfl, rfl⟩),
      (by obtain ⟨fd, Fd⟩ := S.d_Paper___eq__; exact ⟨_, fd, ["self", "other"], o_Paper___eq__ S I Fd, S.c_Paper.cl, S.mm_Paper___eq__, [], [], bd_Paper___eq__ Fd, .nil, fun _ _ => rfl, rfl⟩),
      (by obtain ⟨fd, Fd⟩ := S.d_Paper_turned_about; exact ⟨_, fd, ["self"], o_Paper_turned_about S I Fd, S.c_Paper.cl, S.mm_Paper_turned_about, [], [], bd_Paper_turned_about Fd, .nil, fun _ _ => rfl, rfl⟩),
      (by obtain ⟨fd, Fd⟩ := S.d_Paper_come; exact ⟨_, fd, ["self"], o_Paper_come S I Fd, S.c_Paper.cl, S.mm_Paper_come, [], [], bd_Paper_come Fd, .nil, fun _ _ => rfl, rfl⟩),
      (by obtain ⟨fd, Fd⟩ := S.d_Paper_gone; exact ⟨_, fd, ["self"], o_Paper_gone S I Fd, S.c_Paper.cl, S.mm_Paper_gone, [], [], bd_Paper_gone Fd, .nil, fun _ _ => rfl, rfl⟩),
      (by obtain ⟨fd, Fd⟩ := S.d_Paper___init__; exact ⟨_, fd, ["self", "gone", "come"], o_Paper___init__ S I Fd, ⟨S.c_Paper.mks, S.mm_Paper___init__.at_, S.mm_Paper___init__.fn, S.c_Paper.kp⟩, S.g_Paper, [], [], bd_Paper___init__ Fd, .nil, fun _ _ => rfl, rfl⟩)⟩
abbrev Rw : PySem.W.OpenRow := PySem.W.OpenLaw.row PySem.Challenge.rw_lodepath_k18_papers_by_themselves
theorem facts {P : Program} {w : World} {K : PySem.W.Frag} {h : Heap} {mg : Str → Option Value} {f : Addr} (X : K.In h) (G : h.Ns mainGlobals mg) (hfa : mg ("law" : Str) = some (.ref f)) (c : He.SaysX fa fn ts tf ex w h K) :
    ∃ fd : FuncData, (∀ (s : Shared) (v : Value), BindsTo s fd ⟨[v], []⟩ [("_law_script", v)]) ∧ ∀ base : Heap, FnOk P w K mg base CX0 104 f fd ["_law_script"] (spLaw K) := by
  have S : St w K mg := st_of X G c
  obtain ⟨f', fd, Fd, hm⟩ := S.d_law
  have e : f' = f := by
    rw [hm] at hfa
    injection hfa with h1
    injection h1
  subst e
  exact ⟨fd, fun s v => Fd.bindsA (ps := ["_law_script"]) (fun _ _ _ _ _ _ us hl => match us, hl with | [_], _ => rfl) s [v] rfl, fun base => law_sp (o_law S (is_of S 25) Fd) law_ok⟩
abbrev hk : PySem.W.Hook := hookY 4 fa fn ts tf ex
def ob (s : PySem.W.SharedT) : He.AlX := obsY 4 fa fn ts tf ex (HandSHeadRun.getT s)
theorem ob_eq (s : PySem.W.SharedT) : ob s = hk.obs s.abs := obsY_eq (HandSHeadRun.getT_eq s)
theorem run (w : World) : HandSHeadRun.RunEq Rw (PySem.W.view Rw.prog [26]) hk ob 2000 loose w := by
  intro os
  kernel_rfl
end LK18
open PySem PySem.W PySem.Calls PyProof.Rows
theorem PySem.Challenge.cw_lodepath_k18_papers_by_themselves_holds : PySem.Challenge.rw_lodepath_k18_papers_by_themselves.Holds := by
  w_on; o_law
  refine HandSHeadRun.head_any (r := OpenLaw.row PySem.Challenge.rw_lodepath_k18_papers_by_themselves) (q := view (OpenLaw.row PySem.Challenge.rw_lodepath_k18_papers_by_themselves).prog [26]) (H := LK18.hk) (ob := LK18.ob) (M := 2000) (loose := LK18.loose) (d := HandSHeadRun.topDef (OpenLaw.row PySem.Challenge.rw_lodepath_k18_papers_by_themselves).prog 26) (kwd := []) LK18.ob_eq
    (by kernel_rfl) (fun s => by kernel_rfl) LK18.run (by kernel_rfl) (by kernel_rfl) (by kernel_rfl) (by rfl) (by first | assumption | decide +kernel) (by decide +kernel) ⟨rfl, rfl, rfl, rfl, rfl, by decide +kernel⟩ ?hw ?hc
  case hw => w_witness2
  case hc =>
    refine L2.walk_ofE (l := PySem.Challenge.rw_lodepath_k18_papers_by_themselves) (n := 63) (k := 104) (x := "_law_script") (CX := L2.CX0) rfl (by decide) (by kernel_rfl) ⟨rfl, by decide, by decide⟩ ?F (fun _ _ _ _ z => z)
    intro w mg fa h Y G hmg0
    obtain ⟨K, KX, c⟩ := Y
    have hmg : mg ("law" : PySem.Str) = some (.ref fa) := by
      have e : (HandSHeadRun.topDef (OpenLaw.row PySem.Challenge.rw_lodepath_k18_papers_by_themselves).prog 26).name = ("law" : PySem.Str) := by kernel_rfl
      rw [← e]
      exact hmg0
    obtain ⟨fd, hb, hF⟩ := LK18.facts (P := (PySem.Challenge.rw_lodepath_k18_papers_by_themselves).prog) (w := w) KX G hmg c
    exact ⟨K, fd, TL.spLaw K, KX, hb, fun H a ns hl _ hS => ⟨a, ns, rfl, hS, hl, fun _ => rfl⟩, fun base _ _ => hF base⟩
