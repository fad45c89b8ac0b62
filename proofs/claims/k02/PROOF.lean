import PyProof.Rows.All
import Wide.All
import OpenK.AllK
import Wide.FinOn
import HandS.Base
import HandS.Call
import HandS.List
import HandS.Dict
import HandS.Comp
import HandS.Iter
import HandS.Text
import HandS.Exc
import HandS.ExcOwn
import HandS.Words
import HandS.WordsExc
import HandS.Defaults
import HandS.HeadHook1
import HandS.HeadHook2
import HandS.TupAny
import HandS.Conv
import HandS.IsInst
import KE.DataEq
import KE.KEqDict
import HandS.WordsDict
import KE.DataCmp
import KE.SortCalls
import KE.DataMinKey
import KE.DataMinMax
import HandS.SortKw
import HandS.More
import KE.SortData
import HandS.DictComp
import KE.KStateDown
import Lean
import HandS.Ends
import HandS.Head0
import HandS.Head1
import HandS.Head2
import HandS.HeadEnd
import PySem.Challenge.RW_lodepath_k02_whole_values_stand_in_one_o
set_option Elab.async false
set_option linter.all false
set_option maxRecDepth 100000
set_option maxHeartbeats 0
/-! the T-layer, 0: trees, slots, the ghost state, what stands for what -/
namespace TL
open PySem PySem.Spec L2

/-- data as a tree; cel k: the k-th shared object; glo x: what the module's name x stands for -/
inductive T where
  | non | bl (b : Bool) | int (i : Int) | str (x : Str)
  | lst (xs : List T) | tup (xs : List T) | dct (kvs : List (Key × T))
  | cel (k : Nat) | glo (x : Str) | ty (n : String) | scr (ns : List Int)
deriving Inhabited
/-- a shared object's content -/
inductive SO where
  | lst (xs : List T) | dct (kvs : List (Key × T)) | ins (C : Str) (fs : List (Str × T))
deriving Inhabited
abbrev Sh := List SO
/-- an exception: its class by name, its fields -/
structure Ex where
  cls : Str
  fs : List (Str × T)
inductive Res (α : Type) where
  | ok (a : α) (s : Sh)
  | exc (e : Ex) (s : Sh)
  | bad
/-- a local name: without a value; a value; a list or dict that this frame alone has -/
inductive Slot where
  | no | t (x : T) | own (x : T)
deriving Inhabited
abbrev Loc := List Slot
abbrev Ev := Loc → Sh → Res T
abbrev EvL := Loc → Sh → Res (List T)
def Res.bind {α β : Type} (r : Res α) (k : α → Sh → Res β) : Res β := match r with
  | .ok a s => k a s
  | .exc e s => .exc e s
  | .bad => .bad
@[simp] theorem Res.bind_ok {α β : Type} (a : α) (s : Sh) (k : α → Sh → Res β) : (Res.ok a s).bind k = k a s := rfl
@[simp] theorem Res.bind_exc {α β : Type} (e : Ex) (s : Sh) (k : α → Sh → Res β) : (Res.exc e s : Res α).bind k = .exc e s := rfl
@[simp] theorem Res.bind_bad {α β : Type} (k : α → Sh → Res β) : (Res.bad : Res α).bind k = .bad := rfl
/-- a statement's end -/
inductive Fl where
  | nx (l : Loc) (s : Sh) | rt (t : T) (s : Sh) | bk (l : Loc) (s : Sh) | ct (l : Loc) (s : Sh) | exc (e : Ex) (l : Loc) (s : Sh) | bad
abbrev Sv := Loc → Sh → Fl
/-- a def: arguments, shared objects -/
abbrev Fn := List T → Sh → Res T

/-! ### the ghost -/
/-- F: what stands for trees; al: where the shared objects stand; B: what is not this frame's to change -/
structure Gh where
  F : Hp
  al : List Addr
  B : Hp

/-- a key that can stand as a value -/
def KOk : Key → Prop
  | .inl _ => True
  | .inr x => x.length ≤ sizeLine
/-- few entries, keys of a fit size -/
def DOk (kvs : List (Key × T)) : Prop := kvs.length ≤ sizeLine ∧ ∀ p ∈ kvs, KOk p.1
section
variable (K : PySem.W.Frag) (F : Hp) (al : List Addr)
mutual
def Rep : T → V → Prop
  | .non, v => v = .non
  | .bl b, v => v = .bl b
  | .int i, v => v = .int i
  | .str x, v => v = .str x ∧ x.length ≤ sizeLine
  | .lst xs, v => ∃ a vs, v = .ref a ∧ F a = some (.lst vs) ∧ RepL xs vs ∧ xs.length ≤ sizeLine
  | .tup xs, v => ∃ a vs, v = .ref a ∧ SqT K F a vs ∧ RepL xs vs ∧ xs.length ≤ sizeLine
  | .dct kvs, v => ∃ a kv, v = .ref a ∧ Rd F a (.dK kv) ∧ RepD kvs kv ∧ DOk kvs
  | .cel k, v => ∃ a, v = .ref a ∧ al[k]? = some a
  | .glo x, v => v = .ref (He.ga K x)
  | .ty n, v => v = .ty n
  | .scr ns, v => ∃ a, v = .ref a ∧ SqL K F a (ns.map V.int) ∧ ns.length ≤ sizeLine
def RepL : List T → List V → Prop
  | [], vs => vs = []
  | x :: xs, vs => ∃ v r, vs = v :: r ∧ Rep x v ∧ RepL xs r
def RepD : List (Key × T) → List (Key × V) → Prop
  | [], vs => vs = []
  | (k, x) :: xs, vs => ∃ v r, vs = (k, v) :: r ∧ Rep x v ∧ RepD xs r
end
end

/-- what stood for something stands for it -/
def FLe (F F' : Hp) : Prop := ∀ a o, F a = some o → F' a = some o
def ALe (al al' : List Addr) : Prop := ∀ (k : Nat) (a : Addr), al[k]? = some a → al'[k]? = some a
theorem FLe.refl (F : Hp) : FLe F F := fun _ _ h => h
theorem FLe.trans {F G H : Hp} (a : FLe F G) (b : FLe G H) : FLe F H := fun x u h => b x u (a x u h)
theorem FLe.rd {F F' : Hp} (h : FLe F F') {a : Addr} {u : HO} (q : Rd F a u) : Rd F' a u := by
  rcases q with q | ⟨o, q⟩
  · exact .inl (h _ _ q)
  · exact .inr ⟨o, h _ _ q⟩
theorem ALe.refl (l : List Addr) : ALe l l := fun _ _ h => h
theorem ALe.trans {a b c : List Addr} (x : ALe a b) (y : ALe b c) : ALe a c := fun k v h => y k v (x k v h)
/-- what stood for something stands for it, a dict locked or not -/
structure FSim (F F' : Hp) : Prop where
  l : ∀ a vs, F a = some (.lst vs) → F' a = some (.lst vs)
  r : ∀ a u, (∀ o v, u ≠ .frz o v) → Rd F a u → Rd F' a u
theorem FLe.sim {F F' : Hp} (h : FLe F F') : FSim F F' := ⟨fun a vs q => h _ _ q, fun a u _ q => h.rd q⟩
theorem SqL.sim {K : PySem.W.Frag} {F F' : Hp} (h : FSim F F') {a : Addr} {xs : List V} (q : SqL K F a xs) : SqL K F' a xs := by
  rcases q with q | q
  · exact .inl (h.r _ _ (fun _ _ z => nomatch z) q)
  · exact .inr q
theorem SqT.sim {K : PySem.W.Frag} {F F' : Hp} (h : FSim F F') {a : Addr} {xs : List V} (q : SqT K F a xs) : SqT K F' a xs := by
  rcases q with q | q
  · exact .inl (h.r _ _ (fun _ _ z => nomatch z) q)
  · exact .inr q
theorem SqL.fle {K : PySem.W.Frag} {F F' : Hp} (h : FLe F F') {a : Addr} {xs : List V} (q : SqL K F a xs) : SqL K F' a xs := SqL.sim h.sim q
theorem SqT.fle {K : PySem.W.Frag} {F F' : Hp} (h : FLe F F') {a : Addr} {xs : List V} (q : SqT K F a xs) : SqT K F' a xs := SqT.sim h.sim q
section
variable {K : PySem.W.Frag} {F F' : Hp} {al al' : List Addr} (hF : FSim F F') (hA : ALe al al')
include hF hA
mutual
theorem Rep.sim : ∀ (t : T) (v : V), Rep K F al t v → Rep K F' al' t v
  | .non, _, h => h
  | .bl _, _, h => h
  | .int _, _, h => h
  | .str _, _, h => h
  | .lst xs, v, h => by
    obtain ⟨a, vs, e, q, r, l⟩ := h
    exact ⟨a, vs, e, hF.l _ _ q, RepL.sim xs vs r, l⟩
  | .tup xs, v, h => by
    obtain ⟨a, vs, e, q, r, l⟩ := h
    exact ⟨a, vs, e, SqT.sim hF q, RepL.sim xs vs r, l⟩
  | .dct kvs, v, h => by
    obtain ⟨a, kv, e, q, r, l⟩ := h
    exact ⟨a, kv, e, hF.r _ _ (fun _ _ z => nomatch z) q, RepD.sim kvs kv r, l⟩
  | .cel k, v, h => by
    obtain ⟨a, e, q⟩ := h
    exact ⟨a, e, hA _ _ q⟩
  | .glo _, _, h => h
  | .ty _, _, h => h
  | .scr _, _, h => by
    obtain ⟨a, e, q, l⟩ := h
    exact ⟨a, e, SqL.sim hF q, l⟩
theorem RepL.sim : ∀ (xs : List T) (vs : List V), RepL K F al xs vs → RepL K F' al' xs vs
  | [], _, h => h
  | x :: xs, _, h => by
    obtain ⟨v, r, e, h1, h2⟩ := h
    exact ⟨v, r, e, Rep.sim x v h1, RepL.sim xs r h2⟩
theorem RepD.sim : ∀ (xs : List (Key × T)) (vs : List (Key × V)), RepD K F al xs vs → RepD K F' al' xs vs
  | [], _, h => h
  | (k, x) :: xs, _, h => by
    obtain ⟨v, r, e, h1, h2⟩ := h
    exact ⟨v, r, e, Rep.sim x v h1, RepD.sim xs r h2⟩
end
end
section
variable {K : PySem.W.Frag} {F F' : Hp} {al al' : List Addr} (hF : FLe F F') (hA : ALe al al')
include hF hA
theorem Rep.mono (t : T) (v : V) (h : Rep K F al t v) : Rep K F' al' t v := Rep.sim hF.sim hA t v h
theorem RepL.mono (t : List T) (v : List V) (h : RepL K F al t v) : RepL K F' al' t v := RepL.sim hF.sim hA t v h
theorem RepD.mono (t : List (Key × T)) (v : List (Key × V)) (h : RepD K F al t v) : RepD K F' al' t v := RepD.sim hF.sim hA t v h
end

/-! ### lists of trees -/
section
variable {K : PySem.W.Frag} {F : Hp} {al : List Addr}
theorem RepL.nil : RepL K F al [] [] := rfl
theorem RepL.cons {t : T} {v : V} {ts : List T} {vs : List V} (h : Rep K F al t v) (r : RepL K F al ts vs) : RepL K F al (t :: ts) (v :: vs) := ⟨v, vs, rfl, h, r⟩
theorem RepL.length : ∀ {ts : List T} {vs : List V}, RepL K F al ts vs → vs.length = ts.length
  | [], _, h => by cases h; rfl
  | _ :: ts, _, h => by
    obtain ⟨v, r, rfl, _, h2⟩ := h
    rw [List.length_cons, List.length_cons, RepL.length h2]
theorem RepL.get : ∀ {ts : List T} {vs : List V} {i : Nat} {t : T}, RepL K F al ts vs → ts[i]? = some t → ∃ v, vs[i]? = some v ∧ Rep K F al t v
  | [], _, _, _, _, e => by simp at e
  | _ :: ts, _, 0, _, h, e => by
    obtain ⟨v, r, rfl, h1, _⟩ := h
    simp at e
    subst e
    exact ⟨v, rfl, h1⟩
  | _ :: ts, _, i + 1, t, h, e => by
    obtain ⟨v, r, rfl, _, h2⟩ := h
    obtain ⟨u, q1, q2⟩ := RepL.get (i := i) h2 (by simpa using e)
    exact ⟨u, by simpa using q1, q2⟩
theorem RepL.get' : ∀ {ts : List T} {vs : List V} {i : Nat} {v : V}, RepL K F al ts vs → vs[i]? = some v → ∃ t, ts[i]? = some t ∧ Rep K F al t v
  | [], _, _, _, h, e => by cases h; simp at e
  | _ :: ts, _, 0, _, h, e => by
    obtain ⟨v, r, rfl, h1, _⟩ := h
    simp at e
    subst e
    exact ⟨_, rfl, h1⟩
  | _ :: ts, _, i + 1, t, h, e => by
    obtain ⟨v, r, rfl, _, h2⟩ := h
    obtain ⟨u, q1, q2⟩ := RepL.get' (i := i) h2 (by simpa using e)
    exact ⟨u, by simpa using q1, q2⟩
theorem RepL.append : ∀ {ts us : List T} {vs ws : List V}, RepL K F al ts vs → RepL K F al us ws → RepL K F al (ts ++ us) (vs ++ ws)
  | [], _, _, _, h, r => by cases h; exact r
  | _ :: ts, _, _, _, h, r => by
    obtain ⟨v, q, rfl, h1, h2⟩ := h
    exact ⟨v, _, rfl, h1, RepL.append h2 r⟩
theorem RepL.take : ∀ {ts : List T} {vs : List V} (n : Nat), RepL K F al ts vs → RepL K F al (ts.take n) (vs.take n)
  | _, _, 0, _ => rfl
  | [], _, _ + 1, h => by cases h; rfl
  | _ :: ts, _, n + 1, h => by
    obtain ⟨v, q, rfl, h1, h2⟩ := h
    exact ⟨v, _, rfl, h1, RepL.take n h2⟩
theorem RepL.drop : ∀ {ts : List T} {vs : List V} (n : Nat), RepL K F al ts vs → RepL K F al (ts.drop n) (vs.drop n)
  | _, _, 0, h => h
  | [], _, _ + 1, h => by cases h; rfl
  | _ :: ts, _, n + 1, h => by
    obtain ⟨v, q, rfl, h1, h2⟩ := h
    exact RepL.drop n h2
theorem RepL.set : ∀ {ts : List T} {vs : List V} (i : Nat) {t : T} {v : V}, RepL K F al ts vs → Rep K F al t v → RepL K F al (ts.set i t) (vs.set i v)
  | [], _, _, _, _, h, _ => by cases h; rfl
  | _ :: ts, _, 0, _, _, h, q => by
    obtain ⟨v, r, rfl, h1, h2⟩ := h
    exact ⟨_, r, rfl, q, h2⟩
  | _ :: ts, _, i + 1, _, _, h, q => by
    obtain ⟨v, r, rfl, h1, h2⟩ := h
    exact ⟨v, _, rfl, h1, RepL.set i h2 q⟩
theorem RepL.reverse : ∀ {ts : List T} {vs : List V}, RepL K F al ts vs → RepL K F al ts.reverse vs.reverse
  | [], _, h => by cases h; rfl
  | t :: ts, _, h => by
    obtain ⟨v, r, rfl, h1, h2⟩ := h
    rw [List.reverse_cons, List.reverse_cons]
    exact RepL.append (RepL.reverse h2) (RepL.cons h1 RepL.nil)
theorem RepL.replicate (n : Nat) {ts : List T} {vs : List V} (h : RepL K F al ts vs) : RepL K F al (List.replicate n ts).flatten (List.replicate n vs).flatten := by
  induction n with
  | zero => exact rfl
  | succ n ih =>
    rw [List.replicate_succ, List.replicate_succ, List.flatten_cons, List.flatten_cons]
    exact RepL.append h ih
theorem RepL.eraseIdx : ∀ {ts : List T} {vs : List V} (i : Nat), RepL K F al ts vs → RepL K F al (ts.eraseIdx i) (vs.eraseIdx i)
  | [], _, _, h => by cases h; rfl
  | _ :: ts, _, 0, h => by
    obtain ⟨v, r, rfl, h1, h2⟩ := h
    exact h2
  | _ :: ts, _, i + 1, h => by
    obtain ⟨v, r, rfl, h1, h2⟩ := h
    exact ⟨v, _, rfl, h1, RepL.eraseIdx i h2⟩
theorem RepL.dropLast {ts : List T} {vs : List V} (h : RepL K F al ts vs) : RepL K F al ts.dropLast vs.dropLast := by
  rw [List.dropLast_eq_take, List.dropLast_eq_take, RepL.length h]
  exact RepL.take _ h
theorem RepL.ints : ∀ ns : List Int, RepL K F al (ns.map T.int) (ns.map V.int)
  | [] => rfl
  | n :: ns => ⟨_, _, rfl, rfl, RepL.ints ns⟩
end

/-! ### dicts of trees -/
def dgetT {α : Type} (kvs : List (Key × α)) (k : Key) : Option α := (kvs.find? fun kv => decide (kv.1 = k)).map (·.2)
def dputT {α : Type} (kvs : List (Key × α)) (k : Key) (v : α) : List (Key × α) :=
  if (kvs.any fun kv => decide (kv.1 = k)) = true then kvs.map (fun kv => if kv.1 = k then (kv.1, v) else kv) else kvs ++ [(k, v)]
def ddropT {α : Type} (kvs : List (Key × α)) (k : Key) : List (Key × α) := kvs.filter fun kv => decide (kv.1 ≠ k)
section
variable {K : PySem.W.Frag} {F : Hp} {al : List Addr}
theorem RepD.length : ∀ {ts : List (Key × T)} {vs : List (Key × V)}, RepD K F al ts vs → vs.length = ts.length
  | [], _, h => by cases h; rfl
  | (_, _) :: ts, _, h => by
    obtain ⟨v, r, rfl, _, h2⟩ := h
    rw [List.length_cons, List.length_cons, RepD.length h2]
theorem RepD.keys : ∀ {ts : List (Key × T)} {vs : List (Key × V)}, RepD K F al ts vs → vs.map (·.1) = ts.map (·.1)
  | [], _, h => by cases h; rfl
  | (_, _) :: ts, _, h => by
    obtain ⟨v, r, rfl, _, h2⟩ := h
    rw [List.map_cons, List.map_cons, RepD.keys h2]
theorem RepD.any {k : Key} : ∀ {ts : List (Key × T)} {vs : List (Key × V)}, RepD K F al ts vs → (vs.any fun kv => decide (kv.1 = k)) = (ts.any fun kv => decide (kv.1 = k))
  | [], _, h => by cases h; rfl
  | (_, _) :: ts, _, h => by
    obtain ⟨v, r, rfl, _, h2⟩ := h
    rw [List.any_cons, List.any_cons, RepD.any h2]
theorem RepD.get {k : Key} : ∀ {ts : List (Key × T)} {vs : List (Key × V)}, RepD K F al ts vs →
    (dgetT ts k = none ∧ valV vs k = none) ∨ ∃ t v, dgetT ts k = some t ∧ valV vs k = some v ∧ Rep K F al t v
  | [], _, h => by cases h; exact .inl ⟨rfl, rfl⟩
  | (j, t) :: ts, _, h => by
    obtain ⟨v, r, rfl, h1, h2⟩ := h
    by_cases e : j = k
    · refine .inr ⟨t, v, ?_, ?_, h1⟩
      · simp [dgetT, e]
      · simp [valV, e]
    · have e1 : dgetT ((j, t) :: ts) k = dgetT ts k := by simp [dgetT, e]
      have e2 : valV ((j, v) :: r) k = valV r k := by simp [valV, e]
      rw [e1, e2]
      exact RepD.get h2
theorem RepD.append : ∀ {ts us : List (Key × T)} {vs ws : List (Key × V)}, RepD K F al ts vs → RepD K F al us ws → RepD K F al (ts ++ us) (vs ++ ws)
  | [], _, _, _, h, r => by cases h; exact r
  | (_, _) :: ts, _, _, _, h, r => by
    obtain ⟨v, q, rfl, h1, h2⟩ := h
    exact ⟨v, _, rfl, h1, RepD.append h2 r⟩
theorem RepD.repl {k : Key} {t : T} {v : V} (q : Rep K F al t v) : ∀ {ts : List (Key × T)} {vs : List (Key × V)}, RepD K F al ts vs →
    RepD K F al (ts.map fun kv => if kv.1 = k then (kv.1, t) else kv) (vs.map fun kv => if kv.1 = k then (kv.1, v) else kv)
  | [], _, h => by cases h; rfl
  | (j, u) :: ts, _, h => by
    obtain ⟨w, r, rfl, h1, h2⟩ := h
    rw [List.map_cons, List.map_cons]
    by_cases e : j = k
    · simp only [if_pos e]
      exact ⟨v, _, rfl, q, RepD.repl q h2⟩
    · simp only [if_neg e]
      exact ⟨w, _, rfl, h1, RepD.repl q h2⟩
theorem RepD.put {k : Key} {t : T} {v : V} {ts : List (Key × T)} {vs : List (Key × V)} (h : RepD K F al ts vs) (q : Rep K F al t v) : RepD K F al (dputT ts k t) (putK vs k v) := by
  unfold dputT putK
  rw [RepD.any h]
  split
  · exact RepD.repl q h
  · exact RepD.append h ⟨v, [], rfl, q, rfl⟩
theorem RepD.drop {k : Key} : ∀ {ts : List (Key × T)} {vs : List (Key × V)}, RepD K F al ts vs → RepD K F al (ddropT ts k) (dropK vs k)
  | [], _, h => by cases h; rfl
  | (j, u) :: ts, _, h => by
    obtain ⟨w, r, rfl, h1, h2⟩ := h
    unfold ddropT dropK
    by_cases e : j = k
    · rw [List.filter_cons_of_neg (by simp [e]), List.filter_cons_of_neg (by simp [e])]
      exact RepD.drop h2
    · rw [List.filter_cons_of_pos (by simp [e]), List.filter_cons_of_pos (by simp [e])]
      exact ⟨w, _, rfl, h1, RepD.drop h2⟩
theorem dputT_length {α : Type} (kvs : List (Key × α)) (k : Key) (v : α) : (dputT kvs k v).length ≤ kvs.length + 1 := by
  unfold dputT
  split
  · rw [List.length_map]; omega
  · rw [List.length_append]; simp
end

theorem DOk.nil : DOk [] := ⟨Nat.zero_le _, fun _ h => (by cases h)⟩
theorem DOk.put {kvs : List (Key × T)} {k : Key} {t : T} (h : DOk kvs) (hl : kvs.length < sizeLine) (hk : KOk k) : DOk (dputT kvs k t) := by
  refine ⟨Nat.le_trans (dputT_length kvs k t) hl, fun p hp => ?_⟩
  unfold dputT at hp
  split at hp
  · obtain ⟨q, hq, e⟩ := List.mem_map.mp hp
    have := h.2 q hq
    by_cases c : q.1 = k
    · rw [if_pos c] at e; rw [← e]; exact this
    · rw [if_neg c] at e; rw [← e]; exact this
  · rcases List.mem_append.mp hp with hp | hp
    · exact h.2 p hp
    · cases List.mem_singleton.mp hp; exact hk
theorem DOk.drop {kvs : List (Key × T)} {k : Key} (h : DOk kvs) : DOk (ddropT kvs k) := ⟨Nat.le_trans (List.length_filter_le _ _) h.1, fun p hp => h.2 p (List.mem_filter.mp hp).1⟩

/-! ### the state -/
/-- a list or dict that stands at a, its items trees -/
def Sha (K : PySem.W.Frag) (G : Gh) (H : Hp) (a : Addr) : T → Prop
  | .lst xs => ∃ vs, H a = some (.lst vs) ∧ RepL K G.F G.al xs vs ∧ xs.length ≤ sizeLine
  | .dct kvs => ∃ kv, H a = some (.dK kv) ∧ RepD K G.F G.al kvs kv ∧ DOk kvs
  | _ => False
def RepFs (K : PySem.W.Frag) (F : Hp) (al : List Addr) : List (Str × T) → List (Str × V) → Prop
  | [], vs => vs = []
  | (k, x) :: xs, vs => ∃ v r, vs = (k, v) :: r ∧ Rep K F al x v ∧ RepFs K F al xs r
def ShRep (K : PySem.W.Frag) (G : Gh) (H : Hp) (a : Addr) : SO → Prop
  | .lst xs => Sha K G H a (.lst xs)
  | .dct kvs => Sha K G H a (.dct kvs)
  | .ins C fs => ∃ dx fv, H a = some (.ins (He.ga K C) dx fv) ∧ RepFs K G.F G.al fs fv ∧ H dx = some (.own a) ∧ G.F dx = none ∧ G.B dx = none ∧ ∀ k : Nat, G.al[k]? ≠ some dx
theorem RepFs.mono {K : PySem.W.Frag} {F F' : Hp} {al al' : List Addr} (hF : FLe F F') (hA : ALe al al') : ∀ {fs : List (Str × T)} {vs : List (Str × V)}, RepFs K F al fs vs → RepFs K F' al' fs vs
  | [], _, h => h
  | (_, _) :: _, _, h => by
    obtain ⟨v, r, e, h1, h2⟩ := h
    exact ⟨v, r, e, Rep.mono hF hA _ _ h1, RepFs.mono hF hA h2⟩
def slotOk (K : PySem.W.Frag) (G : Gh) (H : Hp) (s : Slot) (o : Option (Option V)) : Prop := match s with
  | .no => True
  | .t x => ∃ v, o = some (some v) ∧ Rep K G.F G.al x v
  | .own x => ∃ a, o = some (some (.ref a)) ∧ G.F a = none ∧ G.B a = none ∧ (∀ k : Nat, G.al[k]? ≠ some a) ∧ Sha K G H a x
def Loc.at (l : Loc) (i : Nat) : Slot := l[i]?.getD .no
/-- the shared part -/
structure Gok (K : PySem.W.Frag) (G : Gh) (sh : Sh) (H : Hp) : Prop where
  fh : ∀ a o, G.F a = some o → H a = some o
  bh : ∀ a o, G.B a = some o → H a = some o
  dis : ∀ a, G.F a = none ∨ G.B a = none
  alf : ∀ (k : Nat) (a : Addr), G.al[k]? = some a → G.F a = none ∧ G.B a = none
  ali : ∀ (i j : Nat) (a : Addr), G.al[i]? = some a → G.al[j]? = some a → i = j
  all : G.al.length = sh.length
  shr : ∀ (k : Nat) (o : SO), sh[k]? = some o → ∃ a, G.al[k]? = some a ∧ ShRep K G H a o
structure Ok (K : PySem.W.Frag) (G : Gh) (loc : Loc) (sh : Sh) (σ : St) (H : Hp) : Prop extends Gok K G sh H where
  len : loc.length = σ.length
  sl : ∀ i : Nat, slotOk K G H (loc.at i) σ[i]?
  sep : ∀ (i j : Nat) (x y : T) (a : Addr), i ≠ j → loc.at i = .own x → loc.at j = .own y → σ[i]? = some (some (V.ref a)) → σ[j]? ≠ some (some (V.ref a))
/-- the ghost grows -/
structure GLe (G G' : Gh) : Prop where
  f : FLe G.F G'.F
  a : ALe G.al G'.al
  b : G'.B = G.B
theorem GLe.refl (G : Gh) : GLe G G := ⟨FLe.refl _, ALe.refl _, rfl⟩
theorem GLe.trans {G H I : Gh} (x : GLe G H) (y : GLe H I) : GLe G I := ⟨x.f.trans y.f, x.a.trans y.a, y.b.trans x.b⟩
abbrev rep (K : PySem.W.Frag) (G : Gh) (t : T) (v : V) : Prop := Rep K G.F G.al t v
abbrev repL (K : PySem.W.Frag) (G : Gh) (t : List T) (v : List V) : Prop := RepL K G.F G.al t v
theorem rep_le {K : PySem.W.Frag} {G G' : Gh} (l : GLe G G') {t : T} {v : V} (h : rep K G t v) : rep K G' t v := Rep.mono l.f l.a _ _ h
theorem repL_le {K : PySem.W.Frag} {G G' : Gh} (l : GLe G G') {t : List T} {v : List V} (h : repL K G t v) : repL K G' t v := RepL.mono l.f l.a _ _ h
theorem Sha.le {K : PySem.W.Frag} {G G' : Gh} {H H' : Hp} {a : Addr} {t : T} (l : GLe G G') (e : H' a = H a) (h : Sha K G H a t) : Sha K G' H' a t := by
  cases t with
  | lst xs => obtain ⟨vs, h1, h2, h3⟩ := h; exact ⟨vs, e.trans h1, RepL.mono l.f l.a _ _ h2, h3⟩
  | dct kvs => obtain ⟨vs, h1, h2, h3⟩ := h; exact ⟨vs, e.trans h1, RepD.mono l.f l.a _ _ h2, h3⟩
  | _ => exact h.elim
theorem Sha.is {K : PySem.W.Frag} {G : Gh} {H : Hp} {a : Addr} {t : T} (h : Sha K G H a t) : (∃ vs, H a = some (.lst vs)) ∨ ∃ kv, H a = some (.dK kv) := by
  cases t with
  | lst xs => obtain ⟨vs, h1, _⟩ := h; exact .inl ⟨_, h1⟩
  | dct kvs => obtain ⟨vs, h1, _⟩ := h; exact .inr ⟨_, h1⟩
  | _ => exact h.elim
theorem Sha.there {K : PySem.W.Frag} {G : Gh} {H : Hp} {a : Addr} {t : T} (h : Sha K G H a t) : ∃ o, H a = some o := by
  rcases h.is with ⟨_, e⟩ | ⟨_, e⟩ <;> exact ⟨_, e⟩
theorem ShRep.there {K : PySem.W.Frag} {G : Gh} {H : Hp} {a : Addr} {t : SO} (h : ShRep K G H a t) : ∃ o, H a = some o := by
  cases t with
  | lst xs => exact Sha.there (show Sha K G H a (.lst xs) from h)
  | dct kvs => exact Sha.there (show Sha K G H a (.dct kvs) from h)
  | ins C fs => obtain ⟨dx, fv, h1, _⟩ := h; exact ⟨_, h1⟩

/-! ### growing -/
def Gh.add (G : Gh) (a : Addr) (o : HO) : Gh := { G with F := upd G.F a o }
section
variable {K : PySem.W.Frag} {G : Gh} {loc : Loc} {sh : Sh} {σ : St} {H : Hp}
theorem Gok.al_there (ok : Gok K G sh H) {k : Nat} {a : Addr} (h : G.al[k]? = some a) : ∃ o, H a = some o := by
  have hk : k < sh.length := by
    rw [← ok.all]
    exact (List.getElem?_eq_some_iff.mp h).1
  obtain ⟨b, hb, r⟩ := ok.shr k sh[k] (List.getElem?_eq_getElem hk)
  rw [h] at hb
  cases hb
  exact r.there
theorem Gok.freeF (ok : Gok K G sh H) {p : Addr} (hp : H p = none) : G.F p = none := by
  cases e : G.F p with
  | none => rfl
  | some o => rw [ok.fh p o e] at hp; cases hp
theorem Gok.freeB (ok : Gok K G sh H) {p : Addr} (hp : H p = none) : G.B p = none := by
  cases e : G.B p with
  | none => rfl
  | some o => rw [ok.bh p o e] at hp; cases hp
theorem Gok.freeA (ok : Gok K G sh H) {p : Addr} (hp : H p = none) : ∀ k : Nat, G.al[k]? ≠ some p := fun k h => by
  obtain ⟨o, e⟩ := ok.al_there h
  rw [hp] at e
  cases e
/-- a list or dict of this frame's own, in no slot -/
def OwnR (K : PySem.W.Frag) (G : Gh) (loc : Loc) (σ : St) (H : Hp) (t : T) (v : V) : Prop :=
  ∃ a, v = .ref a ∧ G.F a = none ∧ G.B a = none ∧ (∀ k : Nat, G.al[k]? ≠ some a) ∧ (∀ (i : Nat) (x : T), loc.at i = .own x → σ[i]? ≠ some (some (.ref a))) ∧ Sha K G H a t
theorem add_le {p : Addr} {o : HO} (hp : G.F p = none) : GLe G (G.add p o) := by
  refine ⟨fun a u h => ?_, ALe.refl _, rfl⟩
  show upd G.F p o a = some u
  rw [upd_ne (ne_of_none h hp)]
  exact h
theorem ShRep.le {G' : Gh} {H' : Hp} {a : Addr} {o : SO} (l : GLe G G') (e : H' a = H a) (hd : ∀ dx, H dx = some (.own a) → H' dx = some (.own a) ∧ (G.F dx = none → G'.F dx = none) ∧ ((∀ k : Nat, G.al[k]? ≠ some dx) → ∀ k : Nat, G'.al[k]? ≠ some dx)) (h : ShRep K G H a o) : ShRep K G' H' a o := by
  cases o with
  | lst xs => exact Sha.le (t := .lst xs) l e h
  | dct kvs => exact Sha.le (t := .dct kvs) l e h
  | ins C fs =>
    obtain ⟨dx, fv, h1, h2, h3, h4, h5, h6⟩ := h
    obtain ⟨q1, q2, q3⟩ := hd dx h3
    exact ⟨dx, fv, e.trans h1, RepFs.mono l.f l.a h2, q1, q2 h4, by rw [l.b]; exact h5, q3 h6⟩
theorem slotOk.le {G' : Gh} {H' : Hp} {s : Slot} {o : Option (Option V)} (l : GLe G G') (hw : ∀ a x, s = .own x → o = some (some (.ref a)) → G.F a = none → G.B a = none → (∀ k : Nat, G.al[k]? ≠ some a) → Sha K G H a x → H' a = H a ∧ G'.F a = none ∧ ∀ k : Nat, G'.al[k]? ≠ some a) (h : slotOk K G H s o) : slotOk K G' H' s o := by
  cases s with
  | no => trivial
  | t x => obtain ⟨v, e, r⟩ := h; exact ⟨v, e, rep_le l r⟩
  | own x =>
    obtain ⟨a, e, h1, h2, h3, h4⟩ := h
    obtain ⟨q1, q2, q3⟩ := hw a x rfl e h1 h2 h3 h4
    exact ⟨a, e, q2, by rw [l.b]; exact h2, q3, h4.le l q1⟩
/-- a new object: tracked, nobody's yet -/
theorem Ok.grow (ok : Ok K G loc sh σ H) {p : Addr} {o : HO} (hp : H p = none) : Ok K G loc sh σ (upd H p o) := by
  have keep : ∀ {a u}, H a = some u → upd H p o a = H a := fun h => upd_ne (ne_of_none h hp)
  refine ⟨⟨fun a u h => (keep (ok.fh a u h)).trans (ok.fh a u h), fun a u h => (keep (ok.bh a u h)).trans (ok.bh a u h), ok.dis, ok.alf, ok.ali, ok.all, fun k u h => ?_⟩, ok.len, fun i => ?_, ok.sep⟩
  · obtain ⟨a, h1, h2⟩ := ok.shr k u h
    obtain ⟨u', e⟩ := h2.there
    exact ⟨a, h1, h2.le (GLe.refl _) (keep e) fun dx hd => ⟨(keep hd).trans hd, id, id⟩⟩
  · refine (ok.sl i).le (GLe.refl _) fun a x _ _ h1 _ h3 h4 => ?_
    obtain ⟨u', e⟩ := h4.there
    exact ⟨keep e, h1, h3⟩
/-- what stands at p, nobody's, becomes a tree's -/
theorem Ok.freeze (ok : Ok K G loc sh σ H) {p : Addr} {o : HO} (hp : H p = some o) (nF : G.F p = none) (nB : G.B p = none) (nA : ∀ k : Nat, G.al[k]? ≠ some p) (nS : ∀ (i : Nat) (x : T), loc.at i = .own x → σ[i]? ≠ some (some (.ref p))) (nO : ∀ x, o ≠ .own x) : Ok K (G.add p o) loc sh σ H := by
  refine ⟨⟨fun a u h => ?_, ok.bh, fun a => ?_, fun k a h => ?_, ok.ali, ok.all, fun k u h => ?_⟩, ok.len, fun i => ?_, ok.sep⟩
  · have h' : upd G.F p o a = some u := h
    by_cases e : a = p
    · subst e
      rw [upd_same] at h'
      cases h'
      exact hp
    · rw [upd_ne e] at h'
      exact ok.fh a u h'
  · by_cases e : a = p
    · subst e; exact .inr nB
    · rcases ok.dis a with h | h
      · exact .inl ((upd_ne e).trans h)
      · exact .inr h
  · have e : a ≠ p := fun z => nA k (z ▸ h)
    obtain ⟨h1, h2⟩ := ok.alf k a h
    exact ⟨(upd_ne e).trans h1, h2⟩
  · obtain ⟨a, h1, h2⟩ := ok.shr k u h
    refine ⟨a, h1, h2.le (add_le nF) rfl fun dx hd => ⟨hd, fun z => (upd_ne fun q => ?_).trans z, id⟩⟩
    subst q
    rw [hp] at hd
    exact nO _ (Option.some.inj hd)
  · refine (ok.sl i).le (add_le nF) fun a x es eo h1 _ h3 h4 => ⟨rfl, (upd_ne fun q => ?_).trans h1, h3⟩
    subst q
    exact nS i x es eo
theorem OwnR.freeze (ok : Ok K G loc sh σ H) {t : T} {v : V} (h : OwnR K G loc σ H t v) : ∃ G', GLe G G' ∧ Ok K G' loc sh σ H ∧ rep K G' t v := by
  obtain ⟨a, rfl, nF, nB, nA, nS, hs⟩ := h
  cases t with
  | lst xs =>
    obtain ⟨vs, h1, h2, h3⟩ := hs
    exact ⟨_, add_le nF, ok.freeze h1 nF nB nA nS (fun _ z => nomatch z), a, vs, rfl, upd_same, repL_le (add_le nF) h2, h3⟩
  | dct kvs =>
    obtain ⟨vs, h1, h2, h3⟩ := hs
    exact ⟨_, add_le nF, ok.freeze h1 nF nB nA nS (fun _ z => nomatch z), a, vs, rfl, .inl upd_same, RepD.mono (add_le nF).f (ALe.refl _) _ _ h2, h3⟩
  | _ => exact hs.elim
/-- a new list or dict -/
theorem Ok.newOwn (ok : Ok K G loc sh σ H) {p : Addr} {o : HO} {t : T} (hp : H p = none) (hs : Sha K G (upd H p o) p t) : Ok K G loc sh σ (upd H p o) ∧ OwnR K G loc σ (upd H p o) t (.ref p) := by
  refine ⟨ok.grow hp, p, rfl, ok.freeF hp, ok.freeB hp, ok.freeA hp, fun i x es eo => ?_, hs⟩
  have h := ok.sl i
  rw [es] at h
  obtain ⟨a, e, _, _, _, h4⟩ := h
  rw [eo] at e
  cases e
  obtain ⟨u, e⟩ := h4.there
  rw [hp] at e
  cases e
/-- a new tuple -/
theorem Ok.newTup (ok : Ok K G loc sh σ H) {p : Addr} {vs : List V} {xs : List T} (hp : H p = none) (r : repL K G xs vs) (l : xs.length ≤ sizeLine) : ∃ G', GLe G G' ∧ Ok K G' loc sh σ (upd H p (.tup vs)) ∧ rep K G' (.tup xs) (.ref p) := by
  have nF := ok.freeF hp
  refine ⟨G.add p (.tup vs), add_le nF, (ok.grow hp).freeze upd_same nF (ok.freeB hp) (ok.freeA hp) (fun i x es eo => ?_) (fun _ z => nomatch z), p, vs, rfl, .inl (.inl upd_same), repL_le (add_le nF) r, l⟩
  have h := ok.sl i
  rw [es] at h
  obtain ⟨a, e, _, _, _, h4⟩ := h
  rw [eo] at e
  cases e
  obtain ⟨u, e⟩ := h4.there
  rw [hp] at e
  cases e
end
end TL

/-! the T-layer, 1: judgements, expressions -/
namespace TL
open PySem PySem.Spec L2

theorem PE.weak {X : Cx} {e : Expr} {t t' : TE} (h : PE X e t) (w : ∀ σ H Q, t' σ H Q → t σ H Q) : PE X e t' := ⟨fun pins s σ H Q I q => h.run pins s σ H Q I (w σ H Q q)⟩
theorem PT.weak {X : Cx} {e : Expr} {t t' : TT} (h : PT X e t) (w : ∀ σ H Q, t' σ H Q → t σ H Q) : PT X e t' := ⟨fun pins s σ H Q I q => h.run pins s σ H Q I (w σ H Q q)⟩
theorem PW.weak {X : Cx} {e : Expr} {t t' : TT} (h : PW X e t) (w : ∀ σ H Q, t' σ H Q → t σ H Q) : PW X e t' := ⟨fun wh pins s σ H Q I q => h.run wh pins s σ H Q I (w σ H Q q)⟩
theorem PA.weak {X : Cx} {e : List Expr} {t t' : TA} (h : PA X e t) (w : ∀ σ H Q, t' σ H Q → t σ H Q) : PA X e t' := ⟨fun pos pins s σ H Q I q => h.run pos pins s σ H Q I (w σ H Q q)⟩
theorem PK.weak {X : Cx} {e : List Keyword} {t t' : TA} (h : PK X e t) (w : ∀ σ H Q, t' σ H Q → t σ H Q) : PK X e t' := ⟨fun pos pins s σ H Q I q => h.run pos pins s σ H Q I (w σ H Q q)⟩
theorem PS.weak {X : Cx} {e : Stmt} {t t' : TS} (h : PS X e t) (w : ∀ D σ H, t' D σ H → t D σ H) : PS X e t' := ⟨fun pins s σ H D I q => h.run pins s σ H D I (w D σ H q)⟩
theorem PSs.weak {X : Cx} {e : List Stmt} {t t' : TS} (h : PSs X e t) (w : ∀ D σ H, t' D σ H → t D σ H) : PSs X e t' := ⟨fun pins s σ H D I q => h.run pins s σ H D I (w D σ H q)⟩
theorem PI.weak {X : Cx} {tg e : Expr} {t t' : TI} (h : PI X tg e t) (w : ∀ σ H Q, t' σ H Q → t σ H Q) : PI X tg e t' := ⟨fun pins s σ H Q I q => h.run pins s σ H Q I (w σ H Q q)⟩
theorem PG.weak {X : Cx} {e : Expr} {t t' : TG} (h : PG X e t) (w : ∀ v σ H Q, t' v σ H Q → t v σ H Q) : PG X e t' := ⟨fun pins s σ H v u Q I r q => h.run pins s σ H v u Q I r (w v σ H Q q)⟩
theorem PE.or {X : Cx} {e : Expr} {t t' : TE} (h : PE X e t) (h' : PE X e t') : PE X e (fun σ H Q => t σ H Q ∨ t' σ H Q) := ⟨fun pins s σ H Q I q => q.elim (h.run pins s σ H Q I) (h'.run pins s σ H Q I)⟩
theorem PI.or {X : Cx} {tg e : Expr} {t t' : TI} (h : PI X tg e t) (h' : PI X tg e t') : PI X tg e (fun σ H Q => t σ H Q ∨ t' σ H Q) := ⟨fun pins s σ H Q I q => q.elim (h.run pins s σ H Q I) (h'.run pins s σ H Q I)⟩
theorem TruR.or {X : Cx} {r r' : V → Hp → (Bool → Hp → Prop) → Prop} (h : TruR X r) (h' : TruR X r') : TruR X (fun x H Q => r x H Q ∨ r' x H Q) := fun pins s σ H x v Q I rv q => q.elim (h pins s σ H x v Q I rv) (h' pins s σ H x v Q I rv)

/-- an exception's object -/
def ExOk (K : PySem.W.Frag) (G : Gh) (H : Hp) (e : Ex) (d : Option Addr) : Prop := ∃ dd fv, d = some dd ∧ H dd = some (.xd fv) ∧ RepFs K G.F G.al e.fs fv
abbrev RpT := Gh → Hp → T → V → Prop
/-- what an evaluation leaves -/
def post {α β : Type} (Rp : Gh → Hp → α → β → Prop) (K : PySem.W.Frag) (W : WX) (G : Gh) (loc : Loc) (σ : St) (r : Res α) (Q : β → Hp → Prop) : Prop := match r with
  | .ok t sh => ∀ v H' G', GLe G G' → Ok K G' loc sh σ H' → Rp G' H' t v → Q v H'
  | .exc e sh => ∀ d H' G', GLe G G' → Ok K G' loc sh σ H' → ExOk K G' H' e d → W (.ref (He.ga K e.cls)) d σ H'
  | .bad => False
section
variable {α β γ δ : Type} {Rp Rp1 : Gh → Hp → α → β → Prop} {Rq : Gh → Hp → γ → δ → Prop} {K : PySem.W.Frag} {W : WX} {G G' : Gh} {loc : Loc} {σ : St} {r : Res α}
theorem post.le (l : GLe G G') {Q : β → Hp → Prop} (h : post Rp K W G loc σ r Q) : post Rp K W G' loc σ r Q := by
  cases r with
  | ok t sh => exact fun v H' G2 l2 => h v H' G2 (l.trans l2)
  | exc e sh => exact fun v H' G2 l2 => h v H' G2 (l.trans l2)
  | bad => exact h
theorem post.imp {Q Q' : β → Hp → Prop} (h : post Rp K W G loc σ r Q) (i : ∀ v H, Q v H → Q' v H) : post Rp K W G loc σ r Q' := by
  cases r with
  | ok t sh => exact fun v H' G2 l2 o p => i _ _ (h v H' G2 l2 o p)
  | exc e sh => exact h
  | bad => exact h
theorem post.bind {k : α → Sh → Res γ} {Q : δ → Hp → Prop} (h : post Rq K W G loc σ (r.bind k) Q) :
    post Rp K W G loc σ r (fun v H' => ∃ G' a sh', GLe G G' ∧ Ok K G' loc sh' σ H' ∧ Rp G' H' a v ∧ post Rq K W G' loc σ (k a sh') Q) := by
  cases r with
  | ok t sh => exact fun v H' G2 l2 o p => ⟨G2, t, sh, l2, o, p, post.le l2 h⟩
  | exc e sh => exact h
  | bad => exact h
end
abbrev rpV (K : PySem.W.Frag) : Gh → Hp → T → V → Prop := fun G _ t v => rep K G t v
abbrev rpL (K : PySem.W.Frag) : Gh → Hp → List T → List V → Prop := fun G _ t v => repL K G t v
abbrev rpB : Gh → Hp → Bool → Bool → Prop := fun _ _ a b => b = a
def lift (K : PySem.W.Frag) (W : WX) (ev : Ev) : TE := fun σ H Q => ∃ G loc sh, Ok K G loc sh σ H ∧ post (rpV K) K W G loc σ (ev loc sh) Q
/-- a new list or dict comes -/
def liftO (K : PySem.W.Frag) (W : WX) (ev : Ev) : TE := fun σ H Q => ∃ G loc sh, Ok K G loc sh σ H ∧ post (fun G H t v => OwnR K G loc σ H t v) K W G loc σ (ev loc sh) Q
def liftT (K : PySem.W.Frag) (W : WX) (ev : Loc → Sh → Res Bool) : TT := fun σ H Q => ∃ G loc sh, Ok K G loc sh σ H ∧ post rpB K W G loc σ (ev loc sh) Q
def liftA (K : PySem.W.Frag) (W : WX) (ev : EvL) : TA := fun σ H Q => ∃ G loc sh, Ok K G loc sh σ H ∧ post (rpL K) K W G loc σ (ev loc sh) Q
abbrev TPE (X : Cx) (W : WX) (e : Expr) (ev : Ev) : Prop := PE X e (lift X.K W ev)
abbrev TPO (X : Cx) (W : WX) (e : Expr) (ev : Ev) : Prop := PE X e (liftO X.K W ev)
abbrev TPT (X : Cx) (W : WX) (e : Expr) (ev : Loc → Sh → Res Bool) : Prop := PT X e (liftT X.K W ev)
abbrev TPW (X : Cx) (W : WX) (e : Expr) (ev : Loc → Sh → Res Bool) : Prop := PW X e (liftT X.K W ev)
abbrev TPA (X : Cx) (W : WX) (es : List Expr) (ev : EvL) : Prop := PA X es (liftA X.K W ev)
abbrev TPK (X : Cx) (W : WX) (es : List Keyword) (ev : EvL) : Prop := PK X es (liftA X.K W ev)
section
variable {X : Cx} {W : WX} {a b c : Expr} {ea eb ec : Ev} {pos : Pos}
/-- a new list or dict, never changed again -/
theorem fz (h : TPO X W a ea) : TPE X W a ea := PE.weak h fun σ H Q ⟨G, loc, sh, ok, p⟩ => ⟨G, loc, sh, ok, by
  cases e : ea loc sh with
  | ok t s =>
    rw [e] at p
    intro v H' G' le ok' o
    obtain ⟨G2, l2, ok2, r⟩ := OwnR.freeze ok' o
    exact p v H' G2 (le.trans l2) ok2 r
  | exc x s => rw [e] at p; exact p
  | bad => rw [e] at p; exact p⟩

/-! ### names, constants -/
def eVar (i : Nat) : Ev := fun l s => match l.at i with
  | .t x => .ok x s
  | _ => .bad
def eC (t : T) : Ev := fun _ s => .ok t s
theorem t_var {i : Nat} {x : Str} (h : PE X (.Name x pos) (tVar i)) : TPE X W (.Name x pos) (eVar i) := PE.weak h fun σ H Q ⟨G, loc, sh, ok, p⟩ => by
  have q := ok.sl i
  unfold eVar at p
  revert p q
  cases loc.at i with
  | no => exact fun p _ => p.elim
  | own x => exact fun p _ => p.elim
  | t x => exact fun p ⟨v, e, r⟩ => ⟨v, e, p v H G (GLe.refl G) ok r⟩
theorem t_c {e : Expr} {v : V} {t : T} (h : PE X e (tC v)) (r : ∀ F al, Rep X.K F al t v) : TPE X W e (eC t) := PE.weak h fun σ H Q ⟨G, loc, sh, ok, p⟩ => p v H G (GLe.refl G) ok (r _ _)
theorem t_int {i j} : TPE X W (.Constant (.int i) j pos) (eC (.int i)) := t_c pe_int fun _ _ => rfl
theorem t_bl {b j} : TPE X W (.Constant (.bool b) j pos) (eC (.bl b)) := t_c pe_bl fun _ _ => rfl
theorem t_non {j} : TPE X W (.Constant .none j pos) (eC .non) := t_c pe_non fun _ _ => rfl
theorem t_str {x j} (h : x.length ≤ sizeLine := by decide +kernel) : TPE X W (.Constant (.str x) j pos) (eC (.str x)) := t_c pe_str fun _ _ => ⟨rfl, h⟩
theorem t_gint {x : Str} {i : Int} (hg : Gl X x) (hm : ∃ t, X.mg x = some (.int i t)) (hd : (x == ("__debug__" : Str)) = false := by decide) : TPE X W (.Name x pos) (eC (.int i)) := by
  obtain ⟨t, hm⟩ := hm
  exact t_c (pe_glob (v := .int i) hg hm ⟨t, rfl⟩ hd) fun _ _ => rfl
theorem t_gstr {x z : Str} (hg : Gl X x) (hm : ∃ t, X.mg x = some (.str z t)) (hl : z.length ≤ sizeLine := by decide +kernel) (hd : (x == ("__debug__" : Str)) = false := by decide) : TPE X W (.Name x pos) (eC (.str z)) := by
  obtain ⟨t, hm⟩ := hm
  exact t_c (pe_glob (v := .str z) hg hm ⟨t, rfl⟩ hd) fun _ _ => ⟨rfl, hl⟩

/-! ### operations on two values -/
def e1 (f : T → Sh → Res T) (a : Ev) : Ev := fun l s => (a l s).bind fun x s1 => f x s1
def e2 (f : T → T → Sh → Res T) (a b : Ev) : Ev := fun l s => (a l s).bind fun x s1 => (b l s1).bind fun y s2 => f x y s2
/-- the rule r serves the function f -/
def Sv2 (K : PySem.W.Frag) (r : R2) (f : T → T → Sh → Res T) : Prop :=
  ∀ (W : WX) (G : Gh) (loc : Loc) (sh : Sh) (σ : St) (H : Hp) (x y : V) (tx ty : T) (Q : VK), Ok K G loc sh σ H → rep K G tx x → rep K G ty y → post (rpV K) K W G loc σ (f tx ty sh) Q → r x y H Q
def Sv2O (K : PySem.W.Frag) (r : R2) (f : T → T → Sh → Res T) : Prop :=
  ∀ (W : WX) (G : Gh) (loc : Loc) (sh : Sh) (σ : St) (H : Hp) (x y : V) (tx ty : T) (Q : VK), Ok K G loc sh σ H → rep K G tx x → rep K G ty y → post (fun G H t v => OwnR K G loc σ H t v) K W G loc σ (f tx ty sh) Q → r x y H Q
theorem lift2 {r : R2} {f : T → T → Sh → Res T} (hf : Sv2 X.K r f) {σ : St} {H : Hp} {Q : VK} (h : lift X.K W (e2 f ea eb) σ H Q) : tOp r (lift X.K W ea) (lift X.K W eb) σ H Q := by
  obtain ⟨G, loc, sh, ok, p⟩ := h
  refine ⟨G, loc, sh, ok, (post.bind (Rp := rpV X.K) p).imp ?_⟩
  rintro x H1 ⟨G1, tx, s1, l1, ok1, r1, p1⟩
  refine ⟨G1, loc, s1, ok1, (post.bind (Rp := rpV X.K) p1).imp ?_⟩
  rintro y H2 ⟨G2, ty, s2, l2, ok2, r2, p2⟩
  exact hf W G2 loc s2 σ H2 x y tx ty Q ok2 (rep_le l2 r1) r2 p2
theorem lift2O {r : R2} {f : T → T → Sh → Res T} (hf : Sv2O X.K r f) {σ : St} {H : Hp} {Q : VK} (h : liftO X.K W (e2 f ea eb) σ H Q) : tOp r (lift X.K W ea) (lift X.K W eb) σ H Q := by
  obtain ⟨G, loc, sh, ok, p⟩ := h
  refine ⟨G, loc, sh, ok, (post.bind (Rp := rpV X.K) p).imp ?_⟩
  rintro x H1 ⟨G1, tx, s1, l1, ok1, r1, p1⟩
  refine ⟨G1, loc, s1, ok1, (post.bind (Rp := rpV X.K) p1).imp ?_⟩
  rintro y H2 ⟨G2, ty, s2, l2, ok2, r2, p2⟩
  exact hf W G2 loc s2 σ H2 x y tx ty Q ok2 (rep_le l2 r1) r2 p2
theorem t_op {op : Operator} {r : R2} {f : T → T → Sh → Res T} (ho : OpR X (binaryOp op) r) (hf : Sv2 X.K r f) (ha : TPE X W a ea) (hb : TPE X W b eb) : TPE X W (.BinOp a op b pos) (e2 f ea eb) := PE.weak (pe_op ho ha hb) fun _ _ _ h => lift2 hf h
theorem t_opO {op : Operator} {r : R2} {f : T → T → Sh → Res T} (ho : OpR X (binaryOp op) r) (hf : Sv2O X.K r f) (ha : TPE X W a ea) (hb : TPE X W b eb) : TPO X W (.BinOp a op b pos) (e2 f ea eb) := PE.weak (pe_op ho ha hb) fun _ _ _ h => lift2O hf h
theorem t_cmp {op : CmpOp} {r : R2} {f : T → T → Sh → Res T} (ho : OpR X (compareOp op) r) (hf : Sv2 X.K r f) (ha : TPE X W a ea) (hb : TPE X W b eb) (hm : behindInMarks op b = false) : TPE X W (.Compare a [op] [b] pos) (e2 f ea eb) := PE.weak (pe_cmpR ho ha hb hm) fun _ _ _ h => lift2 hf h
/-- a value that is a bool, as a test -/
def truB : T → Sh → Res Bool
  | .bl b, s => .ok b s
  | _, _ => .bad
def eT (a : Ev) : Loc → Sh → Res Bool := fun l s => (a l s).bind truB
theorem liftTB {te : TE} {σ : St} {H : Hp} {Q : Bool → Hp → Prop} (hw : ∀ Q, lift X.K W ea σ H Q → te σ H Q) (h : liftT X.K W (eT ea) σ H Q) : te σ H fun x H1 => ∃ k, x = V.bl k ∧ Q k H1 := by
  obtain ⟨G, loc, sh, ok, p⟩ := h
  refine hw _ ⟨G, loc, sh, ok, (post.bind (Rp := rpV X.K) p).imp ?_⟩
  rintro x H1 ⟨G1, tx, s1, l1, ok1, r1, p1⟩
  cases tx with
  | bl b => exact ⟨b, r1, p1 b H1 G1 (GLe.refl _) ok1 rfl⟩
  | _ => exact p1.elim
theorem tt_cmp {op : CmpOp} {r : R2} {f : T → T → Sh → Res T} (ho : OpR X (compareOp op) r) (hf : Sv2 X.K r f) (ha : TPE X W a ea) (hb : TPE X W b eb) (hm : behindInMarks op b = false) : TPT X W (.Compare a [op] [b] pos) (eT (e2 f ea eb)) :=
  PT.weak (pt_cmpR ho ha hb hm) fun _ _ _ h => liftTB (te := tOp r (lift X.K W ea) (lift X.K W eb)) (fun _ => lift2 hf) h
/-- any value whose truth is a bool -/
theorem tt_val (h : TPE X W a ea) (he : ∀ whole, isTrue a X.env whole = (do let v ← whole; standAt a.pos; holding [v] (truthy v)) := by intro _; rfl) : TPT X W a (eT ea) :=
  PT.weak (pt_val h he) fun _ _ _ h => liftTB (te := lift X.K W ea) (fun _ => id) h

/-! ### a if c else b, and, or, not -/
def eIf (c : Loc → Sh → Res Bool) (a b : Ev) : Ev := fun l s => (c l s).bind fun k s1 => if k then a l s1 else b l s1
theorem t_if {tc : Loc → Sh → Res Bool} (hc : TPT X W c tc) (ha : TPE X W a ea) (hb : TPE X W b eb) : TPE X W (.IfExp c a b pos) (eIf tc ea eb) := PE.weak (pe_ifExp hc ha hb) fun σ H Q ⟨G, loc, sh, ok, p⟩ => by
  refine ⟨G, loc, sh, ok, (post.bind (Rp := rpB) p).imp ?_⟩
  rintro k H1 ⟨G1, k', s1, l1, ok1, rfl, p1⟩
  cases k with
  | true => exact iteT ⟨G1, loc, s1, ok1, p1⟩
  | false => exact iteF ⟨G1, loc, s1, ok1, p1⟩
theorem t_ifO {tc : Loc → Sh → Res Bool} (hc : TPT X W c tc) (ha : TPO X W a ea) (hb : TPO X W b eb) : TPO X W (.IfExp c a b pos) (eIf tc ea eb) := PE.weak (pe_ifExp hc ha hb) fun σ H Q ⟨G, loc, sh, ok, p⟩ => by
  refine ⟨G, loc, sh, ok, (post.bind (Rp := rpB) p).imp ?_⟩
  rintro k H1 ⟨G1, k', s1, l1, ok1, rfl, p1⟩
  cases k with
  | true => exact iteT ⟨G1, loc, s1, ok1, p1⟩
  | false => exact iteF ⟨G1, loc, s1, ok1, p1⟩
def eAnd (a b : Ev) : Ev := fun l s => (a l s).bind fun x s1 => match x with
  | .bl true => b l s1
  | .bl false => .ok (.bl false) s1
  | _ => .bad
def eOr (a b : Ev) : Ev := fun l s => (a l s).bind fun x s1 => match x with
  | .bl true => .ok (.bl true) s1
  | .bl false => b l s1
  | _ => .bad
def eNot (a : Ev) : Ev := fun l s => (a l s).bind fun x s1 => match x with
  | .bl k => .ok (.bl (!k)) s1
  | _ => .bad
variable {rest : List Expr}
theorem t_one {op} (h : TPE X W a ea) : TPE X W (.BoolOp op [a] pos) ea := pe_one h
theorem t_and (ha : TPE X W a ea) (hb : TPE X W (.BoolOp .And (b :: rest) pos) eb) : TPE X W (.BoolOp .And (a :: b :: rest) pos) (eAnd ea eb) := PE.weak (pe_and ha hb) fun σ H Q ⟨G, loc, sh, ok, p⟩ => by
  refine ⟨G, loc, sh, ok, (post.bind (Rp := rpV X.K) p).imp ?_⟩
  rintro x H1 ⟨G1, tx, s1, l1, ok1, r1, p1⟩
  cases tx with
  | bl k =>
    cases k with
    | true => exact ⟨true, r1, iteT ⟨G1, loc, s1, ok1, p1⟩⟩
    | false => exact ⟨false, r1, iteF (p1 (.bl false) H1 G1 (GLe.refl _) ok1 rfl)⟩
  | _ => exact p1.elim
theorem t_or (ha : TPE X W a ea) (hb : TPE X W (.BoolOp .Or (b :: rest) pos) eb) : TPE X W (.BoolOp .Or (a :: b :: rest) pos) (eOr ea eb) := PE.weak (pe_or ha hb) fun σ H Q ⟨G, loc, sh, ok, p⟩ => by
  refine ⟨G, loc, sh, ok, (post.bind (Rp := rpV X.K) p).imp ?_⟩
  rintro x H1 ⟨G1, tx, s1, l1, ok1, r1, p1⟩
  cases tx with
  | bl k =>
    cases k with
    | false => exact ⟨false, r1, iteF ⟨G1, loc, s1, ok1, p1⟩⟩
    | true => exact ⟨true, r1, iteT (p1 (.bl true) H1 G1 (GLe.refl _) ok1 rfl)⟩
  | _ => exact p1.elim
theorem t_not (ha : TPE X W a ea) : TPE X W (.UnaryOp .Not a pos) (eNot ea) := PE.weak (pe_not ha) fun σ H Q ⟨G, loc, sh, ok, p⟩ => by
  refine ⟨G, loc, sh, ok, (post.bind (Rp := rpV X.K) p).imp ?_⟩
  rintro x H1 ⟨G1, tx, s1, l1, ok1, r1, p1⟩
  cases tx with
  | bl k => exact ⟨k, r1, p1 (.bl (!k)) H1 G1 (GLe.refl _) ok1 rfl⟩
  | _ => exact p1.elim
abbrev Et := Loc → Sh → Res Bool
variable {ta tb : Et}
def cAnd (a b : Et) : Et := fun l s => (a l s).bind fun k s1 => if k then b l s1 else .ok false s1
def cOr (a b : Et) : Et := fun l s => (a l s).bind fun k s1 => if k then .ok true s1 else b l s1
def cNot (a : Et) : Et := fun l s => (a l s).bind fun k s1 => .ok (!k) s1
theorem tw_and1 (ha : TPT X W a ta) : TPW X W (.BoolOp .And [a] pos) ta := pw_and1 ha
theorem tw_or1 (ha : TPT X W a ta) : TPW X W (.BoolOp .Or [a] pos) ta := pw_or1 ha
theorem tw_and (ha : TPT X W a ta) (hb : TPW X W (.BoolOp .And (b :: rest) pos) tb) : TPW X W (.BoolOp .And (a :: b :: rest) pos) (cAnd ta tb) := PW.weak (pw_and ha hb) fun σ H Q ⟨G, loc, sh, ok, p⟩ => by
  refine ⟨G, loc, sh, ok, (post.bind (Rp := rpB) p).imp ?_⟩
  rintro k H1 ⟨G1, k', s1, l1, ok1, rfl, p1⟩
  cases k with
  | true => exact iteT ⟨G1, loc, s1, ok1, p1⟩
  | false => exact iteF (p1 false H1 G1 (GLe.refl _) ok1 rfl)
theorem tw_or (ha : TPT X W a ta) (hb : TPW X W (.BoolOp .Or (b :: rest) pos) tb) : TPW X W (.BoolOp .Or (a :: b :: rest) pos) (cOr ta tb) := PW.weak (pw_or ha hb) fun σ H Q ⟨G, loc, sh, ok, p⟩ => by
  refine ⟨G, loc, sh, ok, (post.bind (Rp := rpB) p).imp ?_⟩
  rintro k H1 ⟨G1, k', s1, l1, ok1, rfl, p1⟩
  cases k with
  | false => exact iteF ⟨G1, loc, s1, ok1, p1⟩
  | true => exact iteT (p1 true H1 G1 (GLe.refl _) ok1 rfl)
theorem tt_w (h : TPW X W a ta) : TPT X W a ta := PW.pt h
theorem tt_not (ha : TPT X W a ta) : TPT X W (.UnaryOp .Not a pos) (cNot ta) := PT.weak (pt_not ha) fun σ H Q ⟨G, loc, sh, ok, p⟩ => by
  refine ⟨G, loc, sh, ok, (post.bind (Rp := rpB) p).imp ?_⟩
  rintro k H1 ⟨G1, k', s1, l1, ok1, rfl, p1⟩
  exact p1 (!k) H1 G1 (GLe.refl _) ok1 rfl

/-! ### argument lists -/
variable {e : Expr} {es : List Expr} {eL : EvL}
def aNil : EvL := fun _ s => .ok [] s
def aCons (a : Ev) (r : EvL) : EvL := fun l s => (a l s).bind fun x s1 => (r l s1).bind fun xs s2 => .ok (x :: xs) s2
theorem ta_nil : TPA X W [] aNil := PA.weak pa_nil fun σ H Q ⟨G, loc, sh, ok, p⟩ => p [] H G (GLe.refl _) ok rfl
theorem ta_cons (ha : TPE X W e ea) (hr : TPA X W es eL) (hs : starEach (e :: es) X.env = (false, eval e X.env) :: starEach es X.env := by rfl) : TPA X W (e :: es) (aCons ea eL) := PA.weak (pa_cons ha hr hs) fun σ H Q ⟨G, loc, sh, ok, p⟩ => by
  refine ⟨G, loc, sh, ok, (post.bind (Rp := rpV X.K) p).imp ?_⟩
  rintro x H1 ⟨G1, tx, s1, l1, ok1, r1, p1⟩
  refine ⟨G1, loc, s1, ok1, (post.bind (Rp := rpL X.K) p1).imp ?_⟩
  rintro xs H2 ⟨G2, txs, s2, l2, ok2, r2, p2⟩
  exact p2 (x :: xs) H2 G2 (GLe.refl _) ok2 ⟨x, xs, rfl, rep_le l2 r1, r2⟩
theorem tk_nil : TPK X W [] aNil := PK.weak pk_nil fun σ H Q ⟨G, loc, sh, ok, p⟩ => p [] H G (GLe.refl _) ok rfl
theorem tk_cons {nm : Option Str} {kpos : Pos} {kws : List Keyword} (ha : TPE X W e ea) (hr : TPK X W kws eL) : TPK X W (⟨nm, e, kpos⟩ :: kws) (aCons ea eL) := PK.weak (pk_cons ha hr) fun σ H Q ⟨G, loc, sh, ok, p⟩ => by
  refine ⟨G, loc, sh, ok, (post.bind (Rp := rpV X.K) p).imp ?_⟩
  rintro x H1 ⟨G1, tx, s1, l1, ok1, r1, p1⟩
  refine ⟨G1, loc, s1, ok1, (post.bind (Rp := rpL X.K) p1).imp ?_⟩
  rintro xs H2 ⟨G2, txs, s2, l2, ok2, r2, p2⟩
  exact p2 (x :: xs) H2 G2 (GLe.refl _) ok2 ⟨x, xs, rfl, rep_le l2 r1, r2⟩

/-! ### displays -/
def dLst : List T → Sh → Res T := fun xs s => if xs.length ≤ sizeLine then .ok (.lst xs) s else .bad
def dTup : List T → Sh → Res T := fun xs s => if xs.length ≤ sizeLine then .ok (.tup xs) s else .bad
def eA (f : List T → Sh → Res T) (a : EvL) : Ev := fun l s => (a l s).bind fun xs s1 => f xs s1
theorem t_lst (h : TPA X W es eL) : TPO X W (.List es pos) (eA dLst eL) := PE.weak (pe_lst h) fun σ H Q ⟨G, loc, sh, ok, p⟩ => by
  refine ⟨G, loc, sh, ok, (post.bind (Rp := rpL X.K) p).imp ?_⟩
  rintro xs H1 ⟨G1, txs, s1, l1, ok1, r1, p1⟩
  by_cases hz : txs.length ≤ sizeLine
  · have e : dLst txs s1 = .ok (.lst txs) s1 := if_pos hz
    rw [e] at p1
    refine ⟨by rw [RepL.length r1]; exact hz, fun q hq => ?_⟩
    obtain ⟨ok2, o⟩ := ok1.newOwn (o := .lst xs) (t := .lst txs) hq ⟨xs, upd_same, r1, hz⟩
    exact p1 _ _ G1 (GLe.refl _) ok2 o
  · have e : dLst txs s1 = .bad := if_neg hz
    rw [e] at p1
    exact p1.elim
theorem t_tup {k} (h : TPA X W es eL) : TPE X W (.Tuple es k pos) (eA dTup eL) := PE.weak (pe_tup h) fun σ H Q ⟨G, loc, sh, ok, p⟩ => by
  refine ⟨G, loc, sh, ok, (post.bind (Rp := rpL X.K) p).imp ?_⟩
  rintro xs H1 ⟨G1, txs, s1, l1, ok1, r1, p1⟩
  by_cases hz : txs.length ≤ sizeLine
  · have e : dTup txs s1 = .ok (.tup txs) s1 := if_pos hz
    rw [e] at p1
    refine ⟨by rw [RepL.length r1]; exact hz, fun q hq => ?_⟩
    obtain ⟨G2, l2, ok2, r2⟩ := ok1.newTup hq r1 hz
    exact p1 _ _ G2 l2 ok2 r2
  · have e : dTup txs s1 = .bad := if_neg hz
    rw [e] at p1
    exact p1.elim
/-- {} -/
theorem t_dnew : TPO X W (.Dict [] [] pos) (eC (.dct [])) := PE.weak pe_dnewK fun σ H Q ⟨G, loc, sh, ok, p⟩ => fun q hq => by
  obtain ⟨ok2, o⟩ := ok.newOwn (o := .dK []) (t := .dct []) hq ⟨[], upd_same, rfl, DOk.nil⟩
  exact p _ _ G (GLe.refl _) ok2 o
end
end TL

/-! the T-layer, 2: statements, targets, loops -/
namespace TL
open PySem PySem.Spec L2

/-! ### slots -/
theorem Loc.at_set {l : Loc} {i j : Nat} {s : Slot} : Loc.at (l.set i s) j = if i = j ∧ j < l.length then s else l.at j := by
  unfold Loc.at
  rw [List.getElem?_set]
  by_cases e : i = j
  · subst e
    by_cases h : i < l.length
    · simp [h]
    · simp [h, List.getElem?_eq_none (Nat.le_of_not_lt h)]
  · simp [e]
section
variable {K : PySem.W.Frag} {G G' : Gh} {loc loc' : Loc} {sh sh' : Sh} {σ σ' : St} {H H' : Hp} {i : Nat}
theorem Ok.setT (ok : Ok K G loc sh σ H) {t : T} {v : V} (r : rep K G t v) : Ok K G (loc.set i (.t t)) sh (σ.set i (some v)) H := by
  refine ⟨ok.toGok, by rw [List.length_set, List.length_set]; exact ok.len, fun j => ?_, fun a b x y p h1 h2 h3 h4 => ?_⟩
  · rw [Loc.at_set]
    by_cases e : i = j ∧ j < loc.length
    · rw [if_pos e]
      obtain ⟨rfl, hj⟩ := e
      refine ⟨v, ?_, r⟩
      rw [List.getElem?_set_self (by rw [← ok.len]; exact hj)]
    · rw [if_neg e]
      by_cases e1 : i = j
      · subst e1
        have hj : loc.length ≤ i := Nat.le_of_not_lt fun z => e ⟨rfl, z⟩
        rw [List.set_eq_of_length_le (by rw [← ok.len]; exact hj)]
        exact ok.sl i
      · rw [List.getElem?_set_ne e1]
        exact ok.sl j
  · rw [Loc.at_set] at h2 h3
    by_cases ea : i = a ∧ a < loc.length
    · rw [if_pos ea] at h2; cases h2
    · by_cases eb : i = b ∧ b < loc.length
      · rw [if_pos eb] at h3; cases h3
      · rw [if_neg ea] at h2
        rw [if_neg eb] at h3
        have st : ∀ {c : Nat}, ¬ (i = c ∧ c < loc.length) → (σ.set i (some v))[c]? = σ[c]? := fun {c} q => by
          by_cases e1 : i = c
          · subst e1
            have hj : loc.length ≤ i := Nat.le_of_not_lt fun z => q ⟨rfl, z⟩
            rw [List.set_eq_of_length_le (by rw [← ok.len]; exact hj)]
          · exact List.getElem?_set_ne e1
        rw [st ea] at h4
        rw [st eb]
        exact ok.sep a b x y p h1 h2 h3 h4
theorem Ok.setO (ok : Ok K G loc sh σ H) {t : T} {v : V} (r : OwnR K G loc σ H t v) : Ok K G (loc.set i (.own t)) sh (σ.set i (some v)) H := by
  obtain ⟨p, rfl, nF, nB, nA, nS, hs⟩ := r
  have st : ∀ {c : Nat}, ¬ (i = c ∧ c < loc.length) → (σ.set i (some (.ref p)))[c]? = σ[c]? := fun {c} q => by
    by_cases e1 : i = c
    · subst e1
      have hj : loc.length ≤ i := Nat.le_of_not_lt fun z => q ⟨rfl, z⟩
      rw [List.set_eq_of_length_le (by rw [← ok.len]; exact hj)]
    · exact List.getElem?_set_ne e1
  have se : ∀ {c : Nat}, (i = c ∧ c < loc.length) → (σ.set i (some (V.ref p)))[c]? = some (some (.ref p)) := fun {c} q => by
    obtain ⟨rfl, q⟩ := q
    exact List.getElem?_set_self (by rw [← ok.len]; exact q)
  refine ⟨ok.toGok, by rw [List.length_set, List.length_set]; exact ok.len, fun j => ?_, fun a b x y q h1 h2 h3 h4 => ?_⟩
  · rw [Loc.at_set]
    by_cases e : i = j ∧ j < loc.length
    · rw [if_pos e, se e]
      exact ⟨p, rfl, nF, nB, nA, hs⟩
    · rw [if_neg e, st e]
      exact ok.sl j
  · rw [Loc.at_set] at h2 h3
    by_cases ea : i = a ∧ a < loc.length
    · by_cases eb : i = b ∧ b < loc.length
      · exact absurd (ea.1.symm.trans eb.1) h1
      · rw [if_neg eb] at h3
        rw [se ea] at h4
        cases h4
        rw [st eb]
        exact nS b y h3
    · rw [if_neg ea] at h2
      rw [st ea] at h4
      by_cases eb : i = b ∧ b < loc.length
      · rw [se eb]
        intro z
        cases z
        exact nS a x h2 h4
      · rw [if_neg eb] at h3
        rw [st eb]
        exact ok.sep a b x y q h1 h2 h3 h4
/-- a slot's own thing, handed on: no slot has it any more -/
theorem Ok.takeO (ok : Ok K G loc sh σ H) {t : T} (e : loc.at i = .own t) : ∃ v, σ[i]? = some (some v) ∧ Ok K G (loc.set i .no) sh σ H ∧ OwnR K G (loc.set i .no) σ H t v := by
  have h := ok.sl i
  rw [e] at h
  obtain ⟨a, es, nF, nB, nA, hs⟩ := h
  refine ⟨_, es, ⟨ok.toGok, by rw [List.length_set]; exact ok.len, fun j => ?_, fun p q x y b h1 h2 h3 => ?_⟩, a, rfl, nF, nB, nA, fun j x ej eo => ?_, hs⟩
  · rw [Loc.at_set]
    by_cases c : i = j ∧ j < loc.length
    · rw [if_pos c]; trivial
    · rw [if_neg c]; exact ok.sl j
  · rw [Loc.at_set] at h2 h3
    by_cases c : i = p ∧ p < loc.length
    · rw [if_pos c] at h2; cases h2
    · by_cases d : i = q ∧ q < loc.length
      · rw [if_pos d] at h3; cases h3
      · rw [if_neg c] at h2
        rw [if_neg d] at h3
        exact ok.sep p q x y b h1 h2 h3
  · rw [Loc.at_set] at ej
    by_cases c : i = j ∧ j < loc.length
    · rw [if_pos c] at ej; cases ej
    · rw [if_neg c] at ej
      by_cases d : i = j
      · subst d
        have hi : i < loc.length := by
          rw [ok.len]
          exact (List.getElem?_eq_some_iff.mp es).1
        exact c ⟨rfl, hi⟩
      · exact ok.sep i j t x a d e ej es eo
/-- a slot's own thing is changed -/
theorem Ok.mutO (ok : Ok K G loc sh σ H) {x y : T} {a : Addr} {o : HO} (e : loc.at i = .own x) (es : σ[i]? = some (some (.ref a))) (hs : Sha K G (upd H a o) a y) : Ok K G (loc.set i (.own y)) sh σ (upd H a o) := by
  have h := ok.sl i
  rw [e] at h
  obtain ⟨a', es', nF, nB, nA, hx⟩ := h
  rw [es] at es'
  cases es'
  have hi : i < loc.length := by
    rw [ok.len]
    exact (List.getElem?_eq_some_iff.mp es).1
  refine ⟨⟨fun b u hb => ?_, fun b u hb => ?_, ok.dis, ok.alf, ok.ali, ok.all, fun k u hk => ?_⟩, by rw [List.length_set]; exact ok.len, fun j => ?_, fun p q z y' b h1 h2 h3 h4 => ?_⟩
  · rw [upd_ne (ne_of_none hb nF)]; exact ok.fh b u hb
  · rw [upd_ne (ne_of_none hb nB)]; exact ok.bh b u hb
  · obtain ⟨b, h1, h2⟩ := ok.shr k u hk
    refine ⟨b, h1, h2.le (GLe.refl _) (upd_ne fun z => nA k (z ▸ h1)) fun dx hd => ⟨(upd_ne fun z => ?_).trans hd, id, id⟩⟩
    subst z
    rcases hx.is with ⟨_, q⟩ | ⟨_, q⟩ <;> rw [q] at hd <;> cases hd
  · rw [Loc.at_set]
    by_cases c : i = j ∧ j < loc.length
    · rw [if_pos c, ← c.1, es]
      exact ⟨a, rfl, nF, nB, nA, hs⟩
    · rw [if_neg c]
      have d : i ≠ j := fun z => c ⟨z, z ▸ hi⟩
      refine (ok.sl j).le (GLe.refl _) fun b z ez eb n1 n2 n3 n4 => ⟨upd_ne fun w => ?_, n1, n3⟩
      subst w
      exact ok.sep i j x z b d e ez es eb
  · rw [Loc.at_set] at h2 h3
    have f : ∀ {c : Nat} {z : T}, (if i = c ∧ c < loc.length then Slot.own y else loc.at c) = .own z → ∃ z', loc.at c = .own z' := fun {c z} q => by
      by_cases w : i = c ∧ c < loc.length
      · exact ⟨x, w.1 ▸ e⟩
      · rw [if_neg w] at q; exact ⟨z, q⟩
    obtain ⟨z1, f1⟩ := f h2
    obtain ⟨z2, f2⟩ := f h3
    exact ok.sep p q z1 z2 b h1 f1 f2 h4
/-- the object of a slot that is a shared one is changed -/
theorem Ok.mutC (ok : Ok K G loc sh σ H) {k : Nat} {a : Addr} {so so' : SO} {o : HO} (ek : G.al[k]? = some a) (es : sh[k]? = some so) (hno : ∀ x, H a ≠ some (.own x)) (hs : ShRep K G (upd H a o) a so') : Ok K G loc (sh.set k so') σ (upd H a o) := by
  obtain ⟨nF, nB⟩ := ok.alf k a ek
  have hk : k < sh.length := (List.getElem?_eq_some_iff.mp es).1
  refine ⟨⟨fun b u hb => ?_, fun b u hb => ?_, ok.dis, ok.alf, ok.ali, by rw [List.length_set]; exact ok.all, fun j u hj => ?_⟩, ok.len, fun j => ?_, ok.sep⟩
  · rw [upd_ne (ne_of_none hb nF)]; exact ok.fh b u hb
  · rw [upd_ne (ne_of_none hb nB)]; exact ok.bh b u hb
  · by_cases e : k = j
    · subst e
      rw [List.getElem?_set_self hk] at hj
      cases hj
      exact ⟨a, ek, hs⟩
    · rw [List.getElem?_set_ne e] at hj
      obtain ⟨b, h1, h2⟩ := ok.shr j u hj
      refine ⟨b, h1, h2.le (GLe.refl _) (upd_ne fun z => e (ok.ali k j a ek (z ▸ h1))) fun dx hd => ⟨(upd_ne fun z => ?_).trans hd, id, id⟩⟩
      subst z
      exact hno _ hd
  · refine (ok.sl j).le (GLe.refl _) fun b z ez eb n1 n2 n3 n4 => ⟨upd_ne fun w => ?_, n1, n3⟩
    subst w
    exact n3 k ek
/-- slots forgotten -/
def wipeL (l : Loc) : List Nat → Loc
  | [] => l
  | v :: vs => (wipeL l vs).set v .no
theorem wipeL_length (l : Loc) : ∀ vs, (wipeL l vs).length = l.length
  | [] => rfl
  | v :: vs => by
    show ((wipeL l vs).set v .no).length = _
    rw [List.length_set]; exact wipeL_length l vs
theorem wipeL_at (l : Loc) : ∀ (vs : List Nat) (j : Nat), (wipeL l vs).at j = if j ∈ vs then .no else l.at j
  | [], j => by simp [wipeL]
  | v :: vs, j => by
    show Loc.at ((wipeL l vs).set v .no) j = _
    rw [Loc.at_set, wipeL_length]
    by_cases e : v = j
    · subst e
      by_cases h : v < l.length
      · simp [h]
      · have : l.at v = .no := by unfold Loc.at; rw [List.getElem?_eq_none (Nat.le_of_not_lt h)]; rfl
        rw [if_neg (fun z => h z.2), wipeL_at l vs v, this]
        simp
    · rw [if_neg (fun z => e z.1), wipeL_at l vs j]
      have : j ∈ v :: vs ↔ j ∈ vs := by simp [Ne.symm e]
      simp only [this]
theorem wipe_at (σ : St) : ∀ (vs : List Nat) (j : Nat), j ∉ vs → (wipe σ vs)[j]? = σ[j]?
  | [], _, _ => rfl
  | v :: vs, j, h => by
    show ((wipe σ vs).set v none)[j]? = _
    rw [List.getElem?_set_ne (fun z => h (by simp [z]))]
    exact wipe_at σ vs j fun z => h (by simp [z])
theorem Ok.wiped (ok : Ok K G loc sh σ H) (vs : List Nat) : Ok K G (wipeL loc vs) sh (wipe σ vs) H := by
  refine ⟨ok.toGok, by rw [wipeL_length, wipe_length]; exact ok.len, fun j => ?_, fun a b x y p h1 h2 h3 h4 => ?_⟩
  · rw [wipeL_at]
    by_cases e : j ∈ vs
    · rw [if_pos e]; trivial
    · rw [if_neg e, wipe_at σ vs j e]; exact ok.sl j
  · rw [wipeL_at] at h2 h3
    by_cases ea : a ∈ vs
    · rw [if_pos ea] at h2; cases h2
    · by_cases eb : b ∈ vs
      · rw [if_pos eb] at h3; cases h3
      · rw [if_neg ea] at h2
        rw [if_neg eb] at h3
        rw [wipe_at σ vs a ea] at h4
        rw [wipe_at σ vs b eb]
        exact ok.sep a b x y p h1 h2 h3 h4
def noOwn (l : Loc) (vs : List Nat) : Bool := vs.all fun i => match l.at i with
  | .own _ => false
  | _ => true
/-- back from a block whose own slots are vs -/
theorem Ok.unwiped (ok : Ok K G loc sh σ H) {vs : List Nat} (hn : noOwn loc vs = true) (l : GLe G G') (ok' : Ok K G' loc' sh' σ' H') (hl : ∀ j, j ∉ vs → loc'.at j = loc.at j) (hs : ∀ j, j ∉ vs → σ'[j]? = σ[j]?) : Ok K G' loc sh' σ H' := by
  have no : ∀ j, j ∈ vs → ∀ x, loc.at j ≠ .own x := fun j hj x e => by
    have := List.all_eq_true.mp hn j hj
    rw [e] at this
    cases this
  refine ⟨ok'.toGok, ok.len, fun j => ?_, ok.sep⟩
  by_cases e : j ∈ vs
  · refine (ok.sl j).le l fun a x ex _ _ _ _ _ => absurd ex (no j e x)
  · have := ok'.sl j
    rw [hl j e, hs j e] at this
    exact this
end

/-! ### statements -/
/-- what a def hands back: a tree, or (m) a list or dict that nobody else has -/
def rpR (K : PySem.W.Frag) (m : Bool) : Gh → Hp → T → V → Prop := fun G H t v => if m then OwnR K G [] [] H t v else rep K G t v
def postS (K : PySem.W.Frag) (W : WX) (m : Bool) (G : Gh) (r : Fl) (D : Ends) : Prop := match r with
  | .nx loc sh => ∀ σ' H' G', GLe G G' → Ok K G' loc sh σ' H' → D.nx σ' H'
  | .bk loc sh => ∀ σ' H' G', GLe G G' → Ok K G' loc sh σ' H' → D.bk σ' H'
  | .ct loc sh => ∀ σ' H' G', GLe G G' → Ok K G' loc sh σ' H' → D.ct σ' H'
  | .rt t sh => ∀ v H' G', GLe G G' → Gok K G' sh H' → rpR K m G' H' t v → D.rt v H'
  | .exc e loc sh => ∀ d σ' H' G', GLe G G' → Ok K G' loc sh σ' H' → ExOk K G' H' e d → W (.ref (He.ga K e.cls)) d σ' H'
  | .bad => False
def liftS (K : PySem.W.Frag) (W : WX) (m : Bool) (sv : Sv) : TS := fun D σ H => ∃ G loc sh, Ok K G loc sh σ H ∧ postS K W m G (sv loc sh) D
abbrev TPS (X : Cx) (W : WX) (m : Bool) (st : Stmt) (sv : Sv) : Prop := PS X st (liftS X.K W m sv)
abbrev TPSs (X : Cx) (W : WX) (m : Bool) (st : List Stmt) (sv : Sv) : Prop := PSs X st (liftS X.K W m sv)
section
variable {K : PySem.W.Frag} {W : WX} {m : Bool} {G G' : Gh} {r : Fl} {D D' : Ends}
theorem postS.le (l : GLe G G') (h : postS K W m G r D) : postS K W m G' r D := by
  cases r with
  | nx a b => exact fun σ' H' G2 l2 => h σ' H' G2 (l.trans l2)
  | bk a b => exact fun σ' H' G2 l2 => h σ' H' G2 (l.trans l2)
  | ct a b => exact fun σ' H' G2 l2 => h σ' H' G2 (l.trans l2)
  | rt a b => exact fun σ' H' G2 l2 => h σ' H' G2 (l.trans l2)
  | exc e a b => exact fun d σ' H' G2 l2 => h d σ' H' G2 (l.trans l2)
  | bad => exact h
/-- first one, then the other -/
def sSeq (a b : Sv) : Sv := fun l s => match a l s with
  | .nx l1 s1 => b l1 s1
  | r => r
def sNil : Sv := fun l s => .nx l s
variable {X : Cx} {st : Stmt} {rest : List Stmt} {sa sb : Sv} {e : Expr} {ev : Ev} {pos : Pos}
theorem ts_nil : TPSs X W m [] sNil := PSs.weak pss_nil fun D σ H ⟨G, loc, sh, ok, p⟩ => p σ H G (GLe.refl _) ok
theorem ts_cons (ha : TPS X W m st sa) (hb : TPSs X W m rest sb) : TPSs X W m (st :: rest) (sSeq sa sb) := PSs.weak (pss_cons ha hb) fun D σ H ⟨G, loc, sh, ok, p⟩ => by
  refine ⟨G, loc, sh, ok, ?_⟩
  unfold sSeq at p
  cases h : sa loc sh with
  | nx l1 s1 =>
    rw [h] at p
    exact fun σ' H' G' l ok' => ⟨G', l1, s1, ok', postS.le l p⟩
  | bk a b => rw [h] at p; exact p
  | ct a b => rw [h] at p; exact p
  | rt a b => rw [h] at p; exact p
  | exc e a b => rw [h] at p; exact p
  | bad => rw [h] at p; exact p
theorem ts_one (ha : TPS X W m st sa) : TPSs X W m [st] sa := pss_one ha
theorem ts_doc {x j pos'} : TPS X W m (.Expr (.Constant (.str x) j pos) pos') sNil := PS.weak ps_doc fun D σ H ⟨G, loc, sh, ok, p⟩ => p σ H G (GLe.refl _) ok
theorem ts_pass : TPS X W m (.Pass pos) sNil := PS.weak ps_pass fun D σ H ⟨G, loc, sh, ok, p⟩ => p σ H G (GLe.refl _) ok
/-- a value, then a statement with it -/
def sE {α : Type} (ev : Loc → Sh → Res α) (k : α → Sv) : Sv := fun l s => match ev l s with
  | .ok t s1 => k t l s1
  | .exc x s1 => .exc x l s1
  | .bad => .bad
theorem postS.val {α β : Type} {Rp : Gh → Hp → α → β → Prop} {ev : Loc → Sh → Res α} {k : α → Sv} {loc : Loc} {sh : Sh} {σ : St} (h : postS K W m G (sE ev k loc sh) D) :
    post Rp K W G loc σ (ev loc sh) (fun v H' => ∃ G' t sh', GLe G G' ∧ Ok K G' loc sh' σ H' ∧ Rp G' H' t v ∧ postS K W m G' (k t loc sh') D) := by
  unfold sE at h
  cases q : ev loc sh with
  | ok t s => rw [q] at h; exact fun v H' G2 l2 o p => ⟨G2, t, s, l2, o, p, postS.le l2 h⟩
  | exc x s => rw [q] at h; exact fun d H' G2 l2 o p => h d σ H' G2 l2 o p
  | bad => rw [q] at h; exact h
def sDrop (ev : Ev) : Sv := sE ev fun _ l s => .nx l s
theorem ts_expr (he : TPE X W e ev) (hs : swapsWith e none pos.line X.env = pure false := by rfl) : TPS X W m (.Expr e pos) (sDrop ev) := PS.weak (ps_expr he hs) fun D σ H ⟨G, loc, sh, ok, p⟩ => by
  refine ⟨G, loc, sh, ok, (postS.val (Rp := rpV X.K) p).imp ?_⟩
  rintro v H1 ⟨G1, t, s1, l1, ok1, r1, p1⟩
  exact p1 σ H1 G1 (GLe.refl _) ok1
def sIf (c : Et) (a b : Sv) : Sv := sE c fun k => if k then a else b
theorem ts_if {c : Expr} {tc : Et} {a b : List Stmt} (hc : TPT X W c tc) (ha : TPSs X W m a sa) (hb : TPSs X W m b sb) : TPS X W m (.If c a b pos) (sIf tc sa sb) := PS.weak (ps_if hc ha hb) fun D σ H ⟨G, loc, sh, ok, p⟩ => by
  refine ⟨G, loc, sh, ok, (postS.val (Rp := rpB) p).imp ?_⟩
  rintro k H1 ⟨G1, k', s1, l1, ok1, rfl, p1⟩
  cases k with
  | true => exact iteT ⟨G1, loc, s1, ok1, p1⟩
  | false => exact iteF ⟨G1, loc, s1, ok1, p1⟩
def sRet (ev : Ev) : Sv := sE ev fun t _ s => .rt t s
theorem ts_ret (he : TPE X W e ev) : TPS X W false (.Return (some e) pos) (sRet ev) := PS.weak (ps_ret he) fun D σ H ⟨G, loc, sh, ok, p⟩ => by
  refine ⟨G, loc, sh, ok, (postS.val (Rp := rpV X.K) p).imp ?_⟩
  rintro v H1 ⟨G1, t, s1, l1, ok1, r1, p1⟩
  exact p1 v H1 G1 (GLe.refl _) ok1.toGok r1
theorem OwnR.bare {loc : Loc} {σ : St} {H : Hp} {t : T} {v : V} (h : OwnR K G loc σ H t v) : OwnR K G [] [] H t v := by
  obtain ⟨a, e, h1, h2, h3, _, h5⟩ := h
  exact ⟨a, e, h1, h2, h3, fun i x z => (by cases z), h5⟩
theorem ts_retO (he : TPO X W e ev) : TPS X W true (.Return (some e) pos) (sRet ev) := PS.weak (ps_ret he) fun D σ H ⟨G, loc, sh, ok, p⟩ => by
  refine ⟨G, loc, sh, ok, (postS.val (Rp := fun G H t v => OwnR X.K G loc σ H t v) p).imp ?_⟩
  rintro v H1 ⟨G1, t, s1, l1, ok1, r1, p1⟩
  exact p1 v H1 G1 (GLe.refl _) ok1.toGok r1.bare
/-- return x, x an own list or dict -/
def sRetV (i : Nat) : Sv := fun l s => match l.at i with
  | .own t => .rt t s
  | _ => .bad
theorem ts_retV {i : Nat} {x : Str} {p : Pos} (h : PE X (.Name x p) (tVar i)) : TPS X W true (.Return (some (.Name x p)) pos) (sRetV i) := PS.weak (ps_ret h) fun D σ H ⟨G, loc, sh, ok, p⟩ => by
  unfold sRetV at p
  cases q : loc.at i with
  | no => rw [q] at p; exact p.elim
  | t x => rw [q] at p; exact p.elim
  | own x =>
    rw [q] at p
    obtain ⟨v, e, ok', o⟩ := ok.takeO q
    exact ⟨v, e, p v H G (GLe.refl _) ok.toGok o.bare⟩
theorem ts_retVF {i : Nat} {x : Str} {p : Pos} (h : PE X (.Name x p) (tVar i)) : TPS X W false (.Return (some (.Name x p)) pos) (sRetV i) := PS.weak (ps_ret h) fun D σ H ⟨G, loc, sh, ok, p⟩ => by
  unfold sRetV at p
  cases q : loc.at i with
  | no => rw [q] at p; exact p.elim
  | t x => rw [q] at p; exact p.elim
  | own x =>
    rw [q] at p
    obtain ⟨v, e, ok', o⟩ := ok.takeO q
    obtain ⟨G2, l2, ok2, r⟩ := OwnR.freeze ok' o
    exact ⟨v, e, p v H G2 l2 ok2.toGok r⟩
def sRetN : Sv := fun _ s => .rt .non s
theorem ts_retN : TPS X W false (.Return none pos) sRetN := PS.weak ps_retN fun D σ H ⟨G, loc, sh, ok, p⟩ => p .non H G (GLe.refl _) ok.toGok rfl
theorem ts_break : TPS X W m (.Break pos) (fun l s => .bk l s) := PS.weak ps_break fun D σ H ⟨G, loc, sh, ok, p⟩ => p σ H G (GLe.refl _) ok
theorem ts_cont : TPS X W m (.Continue pos) (fun l s => .ct l s) := PS.weak ps_continue fun D σ H ⟨G, loc, sh, ok, p⟩ => p σ H G (GLe.refl _) ok

/-! ### name = value -/
def sAsg (i : Nat) (ev : Ev) : Sv := sE ev fun t l s => .nx (l.set i (.t t)) s
def sAsgO (i : Nat) (ev : Ev) : Sv := sE ev fun t l s => .nx (l.set i (.own t)) s
theorem ts_asg {i : Nat} {x : Str} {p : Pos} (h : PS X (.Assign [.Name x p] e pos) (tAsg (lift X.K W ev) (gName i))) : TPS X W m (.Assign [.Name x p] e pos) (sAsg i ev) := PS.weak h fun D σ H ⟨G, loc, sh, ok, p⟩ => by
  refine ⟨G, loc, sh, ok, (postS.val (Rp := rpV X.K) p).imp ?_⟩
  rintro v H1 ⟨G1, t, s1, l1, ok1, r1, p1⟩
  exact p1 _ H1 G1 (GLe.refl _) (ok1.setT r1)
theorem ts_asgO {i : Nat} {x : Str} {p : Pos} (h : PS X (.Assign [.Name x p] e pos) (tAsg (liftO X.K W ev) (gName i))) : TPS X W m (.Assign [.Name x p] e pos) (sAsgO i ev) := PS.weak h fun D σ H ⟨G, loc, sh, ok, p⟩ => by
  refine ⟨G, loc, sh, ok, (postS.val (Rp := fun G H t v => OwnR X.K G loc σ H t v) p).imp ?_⟩
  rintro v H1 ⟨G1, t, s1, l1, ok1, r1, p1⟩
  exact p1 _ H1 G1 (GLe.refl _) (ok1.setO r1)
end
end TL

/-! the T-layer, 3: targets, loops, comprehensions -/
namespace TL
open PySem PySem.Spec L2

/-! ### targets -/
inductive Tgt where
  | nm (i : Nat) | tp (is : List Nat)
def setAll : List Nat → List T → Loc → Option Loc
  | [], [], l => some l
  | i :: is, t :: ts, l => setAll is ts (l.set i (.t t))
  | _, _, _ => none
def setT : Tgt → T → Loc → Option Loc
  | .nm i, t, l => some (l.set i (.t t))
  | .tp is, .tup ts, l => setAll is ts l
  | .tp _, _, _ => none
def Tgt.slots : Tgt → List Nat
  | .nm i => [i]
  | .tp is => is
theorem wipe_set {σ : St} {i : Nat} {x : Option V} : ∀ {vs : List Nat}, i ∈ vs → wipe (σ.set i x) vs = wipe σ vs
  | v :: vs, h => by
    show (wipe (σ.set i x) vs).set v none = (wipe σ vs).set v none
    by_cases e : i ∈ vs
    · rw [wipe_set e]
    · have e1 : i = v := by
        rcases List.mem_cons.mp h with h | h
        · exact h
        · exact absurd h e
      subst e1
      have q : ∀ {ws : List Nat}, i ∉ ws → wipe (σ.set i x) ws = (wipe σ ws).set i x := by
        intro ws
        induction ws with
        | nil => intro _; rfl
        | cons w ws ih =>
          intro hw
          show (wipe (σ.set i x) ws).set w none = ((wipe σ ws).set w none).set i x
          rw [ih fun z => hw (by simp [z]), List.set_comm _ _ (fun z => hw (by simp [z]))]
      rw [q e, List.set_set]
def TgSem (K : PySem.W.Frag) (g : TG) (tt : Tgt) : Prop := ∀ (G : Gh) (loc : Loc) (sh : Sh) (σ : St) (H : Hp) (t : T) (v : V) (loc' : Loc) (Q : St → Hp → Prop), Ok K G loc sh σ H → rep K G t v → setT tt t loc = some loc' →
    (∀ σ', Ok K G loc' sh σ' H → (∀ j, j ∉ tt.slots → σ'[j]? = σ[j]? ∧ loc'.at j = loc.at j) → (∀ vs, (∀ i, i ∈ tt.slots → i ∈ vs) → wipe σ' vs = wipe σ vs) → Q σ' H) → g v σ H Q
structure TgOk (X : Cx) (tg : Expr) (g : TG) (tt : Tgt) : Prop where
  pg : PG X tg g
  sem : TgSem X.K g tt
section
variable {X : Cx} {pos : Pos}
theorem nm_sem {K : PySem.W.Frag} (i : Nat) : TgSem K (gName i) (.nm i) := by
  intro G loc sh σ H t v loc' Q ok r e k
  cases e
  refine k _ (ok.setT r) (fun j hj => ?_) fun vs hv => wipe_set (hv i (by simp [Tgt.slots]))
  have hij : i ≠ j := fun z => hj (by simp [Tgt.slots, z])
  exact ⟨List.getElem?_set_ne hij, by rw [Loc.at_set, if_neg (fun z => hij z.1)]⟩
theorem tg_nm {i : Nat} {x : Str} (h : PG X (.Name x pos) (gName i)) : TgOk X (.Name x pos) (gName i) (.nm i) := ⟨h, nm_sem i⟩
def gNames : List Nat → TGs
  | [] => gNil
  | i :: is => gCons (gName i) (gNames is)
theorem gNames_sem {K : PySem.W.Frag} {G : Gh} {sh : Sh} {H : Hp} {Q : St → Hp → Prop} : ∀ (is : List Nat) (ts : List T) (vs : List V) (loc loc' : Loc) (σ : St), Ok K G loc sh σ H → repL K G ts vs → setAll is ts loc = some loc' →
    (∀ σ', Ok K G loc' sh σ' H → (∀ j, j ∉ is → σ'[j]? = σ[j]? ∧ loc'.at j = loc.at j) → (∀ ws, (∀ i, i ∈ is → i ∈ ws) → wipe σ' ws = wipe σ ws) → Q σ' H) → gNames is vs σ H Q
  | [], [], vs, loc, loc', σ, ok, r, e, k => by
    cases r
    cases e
    exact ⟨rfl, k σ ok (fun _ _ => ⟨rfl, rfl⟩) fun _ _ => rfl⟩
  | [], _ :: _, _, _, _, _, _, _, e, _ => by cases e
  | _ :: _, [], _, _, _, _, _, _, e, _ => by cases e
  | i :: is, t :: ts, _, loc, loc', σ, ok, r, e, k => by
    obtain ⟨v, rest, rfl, r1, r2⟩ := r
    refine ⟨v, rest, rfl, ?_⟩
    refine gNames_sem is ts rest _ loc' _ (ok.setT r1) r2 e fun σ' ok' h1 h2 => k σ' ok' (fun j hj => ?_) fun ws hw => ?_
    · obtain ⟨q1, q2⟩ := h1 j fun z => hj (by simp [z])
      have hij : i ≠ j := fun z => hj (by simp [z])
      exact ⟨q1.trans (List.getElem?_set_ne hij), q2.trans (by rw [Loc.at_set, if_neg (fun z => hij z.1)])⟩
    · rw [h2 ws fun i hi => hw i (by simp [hi]), wipe_set (hw i (by simp))]
theorem Gok.fle {K : PySem.W.Frag} {G : Gh} {sh : Sh} {H : Hp} (ok : Gok K G sh H) : FLe G.F H := ok.fh
theorem setAll_len : ∀ (is : List Nat) (ts : List T) (l : Loc) {l' : Loc}, setAll is ts l = some l' → ts.length = is.length
  | [], [], _, _, _ => rfl
  | [], _ :: _, _, _, e => by cases e
  | _ :: _, [], _, _, e => by cases e
  | i :: is, t :: ts, l, _, e => by rw [List.length_cons, List.length_cons, setAll_len is ts _ e]
theorem tp_sem {K : PySem.W.Frag} (is : List Nat) : TgSem K (gTup K is.length (gNames is)) (.tp is) := by
  intro G loc sh σ H t v loc' Q ok r e k
  cases t with
  | tup ts =>
    obtain ⟨a, vs, rfl, q, r, l⟩ := r
    exact ⟨a, vs, rfl, SqT.fle ok.fle q, by rw [RepL.length r]; exact setAll_len _ _ _ e, gNames_sem is ts vs loc loc' σ ok r e k⟩
  | _ => cases e
theorem tg_tp {es : List Expr} {k : Nat} {is : List Nat} (h : PG X (.Tuple es k pos) (gTup X.K is.length (gNames is))) : TgOk X (.Tuple es k pos) (gTup X.K is.length (gNames is)) (.tp is) := ⟨h, tp_sem is⟩
end

/-! ### what is walked -/
def Items (K : PySem.W.Frag) (G : Gh) (J : It) (items : List T) : Prop :=
  ∀ (G2 : Gh) (loc2 : Loc) (sh2 : Sh) (σ2 : St) (H2 : Hp), FLe G.F G2.F → ALe G.al G2.al → Ok K G2 loc2 sh2 σ2 H2 → ∀ i : Nat,
    (∀ t, items[i]? = some t → J.go i H2 ∧ ∀ x H3, J.yld i H2 x H3 → ∃ G3, GLe G2 G3 ∧ Ok K G3 loc2 sh2 σ2 H3 ∧ rep K G3 t x) ∧ (items.length ≤ i → J.stop i H2)
def liftI (K : PySem.W.Frag) (W : WX) (it : EvL) : TI := fun σ H R => ∃ G loc sh, Ok K G loc sh σ H ∧ post (fun G _ items J => Items K G J items) K W G loc σ (it loc sh) R
abbrev TPI (X : Cx) (W : WX) (tg e : Expr) (it : EvL) : Prop := PI X tg e (liftI X.K W it)
def charsT (x : Str) : List T := x.cps.toList.map fun c => .str ⟨#[c]⟩
def itemsT : T → Sh → Res (List T)
  | .lst xs, s => .ok xs s
  | .tup xs, s => .ok xs s
  | .str x, s => .ok (charsT x) s
  | _, _ => .bad
def itV (ev : Ev) : EvL := fun l s => (ev l s).bind itemsT
section
variable {K : PySem.W.Frag} {G : Gh}
theorem items_lst {a : Addr} {vs : List V} {xs : List T} (h : G.F a = some (.lst vs)) (r : repL K G xs vs) : Items K G (Itl K a) xs := by
  intro G2 loc2 sh2 σ2 H2 lF lA ok i
  have hH : SqL K H2 a vs := .of (ok.fh _ _ (lF _ _ h))
  refine ⟨fun t e => ?_, fun hi => ⟨vs, hH, by rw [RepL.length r]; exact hi⟩⟩
  obtain ⟨v, ev, rv⟩ := RepL.get r e
  refine ⟨⟨vs, v, hH, ev⟩, fun x H3 y => ?_⟩
  obtain ⟨rfl, y⟩ := y
  have : x = v := Option.some.inj ((y vs hH).symm.trans ev)
  subst this
  exact ⟨G2, GLe.refl _, ok, Rep.mono lF lA _ _ rv⟩
theorem items_tup {a : Addr} {vs : List V} {xs : List T} (h : SqT K G.F a vs) (r : repL K G xs vs) : Items K G (Itt K a) xs := by
  intro G2 loc2 sh2 σ2 H2 lF lA ok i
  have hH : SqT K H2 a vs := SqT.fle ok.fle (SqT.fle lF h)
  refine ⟨fun t e => ?_, fun hi => ⟨vs, hH, by rw [RepL.length r]; exact hi⟩⟩
  obtain ⟨v, ev, rv⟩ := RepL.get r e
  refine ⟨⟨vs, v, hH, ev⟩, fun x H3 y => ?_⟩
  obtain ⟨rfl, y⟩ := y
  have : x = v := Option.some.inj ((y vs hH).symm.trans ev)
  subst this
  exact ⟨G2, GLe.refl _, ok, Rep.mono lF lA _ _ rv⟩
theorem one_le : (1 : Nat) ≤ sizeLine := by decide
theorem items_str {x : Str} : Items K G (Its x) (charsT x) := by
  intro G2 loc2 sh2 σ2 H2 lF lA ok i
  have hl : (charsT x).length = x.cps.size := by unfold charsT; rw [List.length_map]; rfl
  refine ⟨fun t e => ?_, fun hi => by rw [hl] at hi; exact hi⟩
  have hi : i < x.cps.size := by rw [← hl]; exact (List.getElem?_eq_some_iff.mp e).1
  refine ⟨hi, fun v H3 y => ?_⟩
  obtain ⟨rfl, c, ec, rfl⟩ := y
  have e2 : t = .str ⟨#[c]⟩ := by
    unfold charsT at e
    rw [List.getElem?_map, Array.getElem?_toList, ec] at e
    exact (Option.some.inj e).symm
  subst e2
  exact ⟨G2, GLe.refl _, ok, rfl, one_le⟩
def rangeT (lo : Int) (n : Nat) : List T := (List.range n).map fun (i : Nat) => .int (lo + (i : Int))
theorem items_range {lo : Int} {n : Nat} : Items K G (Itr lo n) (rangeT lo n) := by
  intro G2 loc2 sh2 σ2 H2 lF lA ok i
  have hl : (rangeT lo n).length = n := by unfold rangeT; rw [List.length_map, List.length_range]
  refine ⟨fun t e => ?_, fun hi => by rw [hl] at hi; exact hi⟩
  have hi : i < n := by rw [← hl]; exact (List.getElem?_eq_some_iff.mp e).1
  refine ⟨hi, fun v H3 y => ?_⟩
  obtain ⟨rfl, rfl⟩ := y
  have e2 : t = .int (lo + (i : Int)) := by
    unfold rangeT at e
    rw [List.getElem?_map, List.getElem?_range hi] at e
    exact (Option.some.inj e).symm
  subst e2
  exact ⟨G2, GLe.refl _, ok, rfl⟩
end
section
variable {X : Cx} {W : WX} {tg e a b : Expr} {ev : Ev} {eL : EvL} {p pos : Pos}
theorem ti_val (h : TPE X W e ev) : TPI X W tg e (itV ev) := PI.weak (PI.or (pi_list h) (PI.or (pi_tup h) (pi_str h))) fun σ H R ⟨G, loc, sh, ok, p⟩ => by
  unfold itV at p
  cases q : ev loc sh with
  | bad => rw [q] at p; exact p.elim
  | exc x s => rw [q] at p; exact .inl ⟨G, loc, sh, ok, by rw [q]; exact p⟩
  | ok t s =>
    rw [q] at p
    cases t with
    | lst xs =>
      refine .inl ⟨G, loc, sh, ok, ?_⟩
      rw [q]
      rintro v H1 G1 l1 ok1 ⟨c, vs, rfl, h1, h2, h3⟩
      exact ⟨c, rfl, ⟨vs, .of (ok1.fh _ _ h1)⟩, p _ H1 G1 l1 ok1 (items_lst h1 h2)⟩
    | tup xs =>
      refine .inr (.inl ⟨G, loc, sh, ok, ?_⟩)
      rw [q]
      rintro v H1 G1 l1 ok1 ⟨c, vs, rfl, h1, h2, h3⟩
      exact ⟨c, rfl, ⟨vs, SqT.fle ok1.fle h1⟩, p _ H1 G1 l1 ok1 (items_tup h1 h2)⟩
    | str x =>
      refine .inr (.inr ⟨G, loc, sh, ok, ?_⟩)
      rw [q]
      rintro v H1 G1 l1 ok1 ⟨rfl, h3⟩
      exact ⟨x, rfl, p _ H1 G1 l1 ok1 items_str⟩
    | _ => exact p.elim
def rg1 : List T → Sh → Res (List T)
  | [.int j], s => if -(2 ^ 62) ≤ j ∧ j < 2 ^ 62 then .ok (rangeT 0 j.toNat) s else .bad
  | _, _ => .bad
def rg2 : List T → Sh → Res (List T)
  | [.int i, .int j], s => if -(2 ^ 62) ≤ i ∧ i < 2 ^ 62 ∧ -(2 ^ 62) ≤ j ∧ j < 2 ^ 62 then .ok (rangeT i (j - i).toNat) s else .bad
  | _, _ => .bad
def itA (f : List T → Sh → Res (List T)) (a : EvL) : EvL := fun l s => (a l s).bind f
theorem RepL.int1 {K : PySem.W.Frag} {F : Hp} {al : List Addr} {j : Int} {vs : List V} (r : RepL K F al [.int j] vs) : vs = [.int j] := by
  obtain ⟨v, q, rfl, rfl, rfl⟩ := r
  rfl
theorem RepL.int2 {K : PySem.W.Frag} {F : Hp} {al : List Addr} {i j : Int} {vs : List V} (r : RepL K F al [.int i, .int j] vs) : vs = [.int i, .int j] := by
  obtain ⟨v, q, rfl, rfl, v, q, rfl, rfl, rfl⟩ := r
  rfl
theorem ti_range1 (hg : Gl X "range") (hm : X.mg "range" = none) (ha : TPA X W [a] eL) (hs : starEach [a] X.env = [(false, eval a X.env)] := by rfl) : TPI X W tg (.Call (.Name "range" p) [a] [] pos) (itA rg1 eL) := PI.weak (pi_range1 hg hm ha hs) fun σ H R ⟨G, loc, sh, ok, p⟩ => by
  refine ⟨G, loc, sh, ok, (post.bind (Rp := rpL X.K) p).imp ?_⟩
  rintro vs H1 ⟨G1, ts, s1, l1, ok1, r1, p1⟩
  unfold rg1 at p1
  split at p1
  · rename_i j
    cases RepL.int1 r1
    split at p1
    · rename_i h
      exact ⟨j, rfl, h.1, h.2, p1 _ H1 G1 (GLe.refl _) ok1 items_range⟩
    · exact p1.elim
  · exact p1.elim
theorem ti_range2 (hg : Gl X "range") (hm : X.mg "range" = none) (ha : TPA X W [a, b] eL) (hs : starEach [a, b] X.env = [(false, eval a X.env), (false, eval b X.env)] := by rfl) (hs2 : starEach [b] X.env = [(false, eval b X.env)] := by rfl) : TPI X W tg (.Call (.Name "range" p) [a, b] [] pos) (itA rg2 eL) := PI.weak (pi_range2 hg hm ha hs hs2) fun σ H R ⟨G, loc, sh, ok, p⟩ => by
  refine ⟨G, loc, sh, ok, (post.bind (Rp := rpL X.K) p).imp ?_⟩
  rintro vs H1 ⟨G1, ts, s1, l1, ok1, r1, p1⟩
  unfold rg2 at p1
  split at p1
  · rename_i i j
    cases RepL.int2 r1
    split at p1
    · rename_i h
      exact ⟨i, j, rfl, h, p1 _ H1 G1 (GLe.refl _) ok1 items_range⟩
    · exact p1.elim
  · exact p1.elim
end

/-! ### for -/
def forL (tt : Tgt) (body : Sv) : List T → Sv
  | [], l, s => .nx l s
  | x :: xs, l, s => match setT tt x l with
    | none => .bad
    | some l1 => match body l1 s with
      | .nx l2 s2 => forL tt body xs l2 s2
      | .ct l2 s2 => forL tt body xs l2 s2
      | .bk l2 s2 => .nx l2 s2
      | r => r
def sFor (it : EvL) (tt : Tgt) (body : Sv) : Sv := sE it fun items => forL tt body items
section
variable {X : Cx} {W : WX} {m : Bool} {tg iter : Expr} {it : EvL} {g : TG} {tt : Tgt} {body : List Stmt} {sb : Sv} {pos : Pos}
theorem for_core {wi : TI} {D : Ends} {σ : St} {H : Hp} {G : Gh} {loc : Loc} {sh : Sh} (ok : Ok X.K G loc sh σ H) (hw : ∀ R, post (fun G _ items J => Items X.K G J items) X.K W G loc σ (it loc sh) R → wi σ H R) (hg : TgSem X.K g tt) (p : postS X.K W m G (sFor it tt sb loc sh) D) : tFor wi g (liftS X.K W m sb) D σ H := by
  refine hw _ ((postS.val (Rp := fun G _ items J => Items X.K G J items) p).imp ?_)
  rintro J H1 ⟨G1, items, s1, l1, ok1, r1, p1⟩
  refine ⟨fun i n σ2 H2 => ∃ G2 loc2 s2, GLe G1 G2 ∧ Ok X.K G2 loc2 s2 σ2 H2 ∧ i ≤ items.length ∧ n = items.length - i ∧ postS X.K W m G2 (forL tt sb (items.drop i) loc2 s2) D,
    ⟨items.length, G1, loc, s1, GLe.refl _, ok1, Nat.zero_le _, rfl, p1⟩, ?_⟩
  rintro i n σ2 H2 ⟨G2, loc2, s2, l2, ok2, hi, rfl, p2⟩
  obtain ⟨ig, is⟩ := r1 G2 loc2 s2 σ2 H2 l2.f l2.a ok2 i
  by_cases hlt : i < items.length
  · have ei : items[i]? = some items[i] := List.getElem?_eq_getElem hlt
    obtain ⟨go, yl⟩ := ig _ ei
    refine .inr ⟨go, fun σ' H' => ∃ m', m' < items.length - i ∧ ∃ G2 loc2 s2, GLe G1 G2 ∧ Ok X.K G2 loc2 s2 σ' H' ∧ i + 1 ≤ items.length ∧ m' = items.length - (i + 1) ∧ postS X.K W m G2 (forL tt sb (items.drop (i + 1)) loc2 s2) D, fun σ' H' h => h, fun x H3 y => ?_⟩
    obtain ⟨G3, l3, ok3, r3⟩ := yl x H3 y
    rw [List.drop_eq_getElem_cons hlt] at p2
    unfold forL at p2
    cases q : setT tt items[i] loc2 with
    | none => rw [q] at p2; exact p2.elim
    | some l1 =>
      rw [q] at p2
      refine hg G3 loc2 s2 σ2 H3 items[i] x l1 _ ok3 r3 q fun σ' ok' _ _ => ⟨G3, l1, s2, ok', ?_⟩
      have nxt : ∀ (l4 : Loc) (s4 : Sh), postS X.K W m G2 (forL tt sb (items.drop (i + 1)) l4 s4) D → ∀ σ' H' G', GLe G3 G' → Ok X.K G' l4 s4 σ' H' → ∃ m', m' < items.length - i ∧ ∃ G2 loc2 s2, GLe G1 G2 ∧ Ok X.K G2 loc2 s2 σ' H' ∧ i + 1 ≤ items.length ∧ m' = items.length - (i + 1) ∧ postS X.K W m G2 (forL tt sb (items.drop (i + 1)) loc2 s2) D :=
        fun l4 s4 p4 σ' H' G' l ok => ⟨_, by omega, G', l4, s4, l2.trans (l3.trans l), ok, hlt, rfl, postS.le (l3.trans l) p4⟩
      cases r : sb l1 s2 with
      | nx l4 s4 => simp only [r] at p2; exact nxt l4 s4 p2
      | ct l4 s4 => simp only [r] at p2; exact nxt l4 s4 p2
      | bk l4 s4 => simp only [r] at p2; exact fun σ' H' G' l ok => p2 σ' H' G' (l3.trans l) ok
      | rt t s4 => simp only [r] at p2; exact fun v H' G' l => p2 v H' G' (l3.trans l)
      | exc e l4 s4 => simp only [r] at p2; exact fun d σ' H' G' l => p2 d σ' H' G' (l3.trans l)
      | bad => simp only [r] at p2; exact p2
  · have e : i = items.length := by omega
    subst e
    refine .inl ⟨is (Nat.le_refl _), ?_⟩
    rw [List.drop_length] at p2
    exact p2 σ2 H2 G2 (GLe.refl _) ok2
theorem ts_for (hp : PassesOwn (model X.prog X.w) X.A X.env X.xe) (hc : X.calm = true) (hi : TPI X W tg iter it) (hg : TgOk X tg g tt) (hb : TPSs X W m body sb) (hs : ∀ x, foldedSetIterable iter X.env x = pure x := by intro _; rfl) : TPS X W m (.For tg iter body [] pos) (sFor it tt sb) :=
  PS.weak (ps_for hp hc hi hg.pg hb hs) fun D σ H ⟨G, loc, sh, ok, p⟩ => for_core ok (fun R q => ⟨G, loc, sh, ok, q⟩) hg.sem p
end

/-! ### comprehensions -/
def compL (tt : Tgt) (c : Et) (elt : Ev) : List T → Loc → Sh → Res (List T)
  | [], _, s => .ok [] s
  | x :: xs, l, s => match setT tt x l with
    | none => .bad
    | some l1 => (c l1 s).bind fun k s1 => if k then (elt l1 s1).bind fun y s2 => (compL tt c elt xs l s2).bind fun ys s3 => .ok (y :: ys) s3 else compL tt c elt xs l s1
def Res.noexc {α : Type} : Res α → Res α
  | .exc _ _ => .bad
  | r => r
def eComp (vs : List Nat) (it : EvL) (tt : Tgt) (c : Et) (elt : Ev) : Ev := fun l s => if noOwn l vs then (it l s).bind fun items s1 => (compL tt c elt items (wipeL l vs) s1).noexc.bind dLst else .bad
def cYes : Et := fun _ s => .ok true s
abbrev W0 : WX := fun _ _ _ _ => False
/-- nobody's -/
structure Nob (G : Gh) (loc : Loc) (σ : St) (D : Addr) : Prop where
  f : G.F D = none
  b : G.B D = none
  a : ∀ k : Nat, G.al[k]? ≠ some D
  s : ∀ (i : Nat) (x : T), loc.at i = .own x → σ[i]? ≠ some (some (.ref D))
section
variable {K : PySem.W.Frag} {G G' : Gh} {loc loc' : Loc} {sh sh' : Sh} {σ σ' : St} {H H' : Hp} {D : Addr}
theorem Ok.nob (ok : Ok K G loc sh σ H) (hp : H D = none) : Nob G loc σ D := by
  refine ⟨ok.freeF hp, ok.freeB hp, ok.freeA hp, fun i x es eo => ?_⟩
  have h := ok.sl i
  rw [es] at h
  obtain ⟨a, e, _, _, _, h4⟩ := h
  rw [eo] at e
  cases e
  obtain ⟨u, e⟩ := h4.there
  rw [hp] at e
  cases e
/-- something that is nobody's changes -/
theorem Ok.other (ok : Ok K G loc sh σ H) (n : Nob G loc σ D) {u o : HO} (hD : H D = some u) (hu : ∀ x, u ≠ .own x) : Ok K G loc sh σ (upd H D o) := by
  refine ⟨⟨fun a u h => ?_, fun a u h => ?_, ok.dis, ok.alf, ok.ali, ok.all, fun k u h => ?_⟩, ok.len, fun i => ?_, ok.sep⟩
  · rw [upd_ne (ne_of_none h n.f)]; exact ok.fh a u h
  · rw [upd_ne (ne_of_none h n.b)]; exact ok.bh a u h
  · obtain ⟨a, h1, h2⟩ := ok.shr k u h
    refine ⟨a, h1, h2.le (GLe.refl _) (upd_ne fun z => n.a k (z ▸ h1)) fun dx hd => ⟨(upd_ne fun z => ?_).trans hd, id, id⟩⟩
    subst z
    rw [hD] at hd
    exact hu _ (Option.some.inj hd)
  · refine (ok.sl i).le (GLe.refl _) fun a x es eo n1 _ n3 _ => ⟨upd_ne fun z => ?_, n1, n3⟩
    subst z
    exact n.s i x es eo
abbrev Gh.prot (G : Gh) (D : Addr) (u : HO) : Gh := { G with B := upd G.B D u }
theorem Ok.prot (ok : Ok K G loc sh σ H) (n : Nob G loc σ D) {u : HO} (hD : H D = some u) (hu : ∀ x, u ≠ .own x) : Ok K (G.prot D u) loc sh σ H := by
  refine ⟨⟨ok.fh, fun a o h => ?_, fun a => ?_, fun k a h => ?_, ok.ali, ok.all, fun k o h => ?_⟩, ok.len, fun i => ?_, ok.sep⟩
  · by_cases e : a = D
    · subst e
      have h' : upd G.B a u a = some o := h
      rw [upd_same] at h'
      cases h'
      exact hD
    · have h' : upd G.B D u a = some o := h
      rw [upd_ne e] at h'
      exact ok.bh a o h'
  · by_cases e : a = D
    · subst e; exact .inl n.f
    · rcases ok.dis a with h | h
      · exact .inl h
      · exact .inr ((upd_ne e).trans h)
  · obtain ⟨h1, h2⟩ := ok.alf k a h
    have hne : a ≠ D := fun z => n.a k (by rw [← z]; exact h)
    exact ⟨h1, (upd_ne hne).trans h2⟩
  · obtain ⟨a, h1, h2⟩ := ok.shr k o h
    refine ⟨a, h1, ?_⟩
    cases o with
    | lst xs => exact h2
    | dct kvs => exact h2
    | ins C fs =>
      obtain ⟨dx, fv, q1, q2, q3, q4, q5, q6⟩ := h2
      refine ⟨dx, fv, q1, q2, q3, q4, (upd_ne fun z => ?_).trans q5, q6⟩
      subst z
      rw [hD] at q3
      exact hu _ (Option.some.inj q3)
  · have h := ok.sl i
    cases e : loc.at i with
    | no => trivial
    | t x => rw [e] at h; exact h
    | own x =>
      rw [e] at h
      obtain ⟨a, h0, h1, h2, h3, h4⟩ := h
      refine ⟨a, h0, h1, (upd_ne fun z => ?_).trans h2, h3, ?_⟩
      · subst z
        exact n.s i x e h0
      · cases x <;> exact h4
theorem Sha.reB {B' : Hp} {a : Addr} {t : T} (h : Sha K G H a t) : Sha K { G with B := B' } H a t := by cases t <;> exact h
theorem Ok.unprot {B : Hp} {u : HO} (ok : Ok K { G with B := upd B D u } loc sh σ H) (hB : B D = none) : Ok K { G with B := B } loc sh σ H ∧ Nob { G with B := B } loc σ D ∧ H D = some u := by
  have le : ∀ {a : Addr}, (upd B D u) a = none → B a = none := fun {a} h => by
    by_cases e : a = D
    · subst e; exact hB
    · rw [upd_ne e] at h; exact h
  have hD : H D = some u := ok.bh D u (show upd B D u D = some u from upd_same)
  have fD : G.F D = none := by
    rcases ok.dis D with h | h
    · exact h
    · have h' : upd B D u D = none := h
      rw [upd_same] at h'
      cases h'
  refine ⟨⟨⟨ok.fh, fun a o h => ok.bh a o ?_, fun a => (ok.dis a).imp id le, fun k a h => ⟨(ok.alf k a h).1, le (ok.alf k a h).2⟩, ok.ali, ok.all, fun k o h => ?_⟩, ok.len, fun i => ?_, ok.sep⟩, ⟨fD, hB, fun k h => ?_, fun i x es eo => ?_⟩, hD⟩
  · show upd B D u a = some o
    rw [upd_ne (ne_of_none h hB)]
    exact h
  · obtain ⟨a, h1, h2⟩ := ok.shr k o h
    refine ⟨a, h1, ?_⟩
    cases o with
    | lst xs => exact h2
    | dct kvs => exact h2
    | ins C fs =>
      obtain ⟨dx, fv, q1, q2, q3, q4, q5, q6⟩ := h2
      exact ⟨dx, fv, q1, q2, q3, q4, le q5, q6⟩
  · have h := ok.sl i
    cases e : loc.at i with
    | no => trivial
    | t x => rw [e] at h; exact h
    | own x =>
      rw [e] at h
      obtain ⟨a, h0, h1, h2, h3, h4⟩ := h
      exact ⟨a, h0, h1, le h2, h3, h4.reB⟩
  · have h' : upd B D u D = none := (ok.alf k D h).2
    rw [upd_same] at h'
    cases h'
  · have h := ok.sl i
    rw [es] at h
    obtain ⟨a, h0, h1, h2, h3, h4⟩ := h
    rw [eo] at h0
    cases h0
    have h' : upd B D u D = none := h2
    rw [upd_same] at h'
    cases h'
end
section
variable {X : Cx} {W : WX} {m : Bool} {elt tg iter : Expr} {ifs : List Expr} {scope : Scope} {own : List (Str × Nat)} {pos : Pos} {it : EvL} {g : TG} {tt : Tgt} {c : Et} {ee : Ev}
abbrev TPTs (X : Cx) (W : WX) (ifs : List Expr) (c : Et) : Prop := PTs X ifs (liftT X.K W c)
theorem PTs.weak {X : Cx} {e : List Expr} {t t' : TT} (h : PTs X e t) (w : ∀ σ H Q, t' σ H Q → t σ H Q) : PTs X e t' := ⟨fun pins s σ H Q I q => h.run pins s σ H Q I (w σ H Q q)⟩
theorem tts_nil : TPTs X W [] cYes := PTs.weak pts_nil fun σ H Q ⟨G, loc, sh, ok, p⟩ => p true H G (GLe.refl _) ok rfl
theorem tts_one {e : Expr} (h : TPT X W e c) : TPTs X W [e] c := pts_one h
theorem comp_core {wi : TI} {vs : List Nat} {σ : St} {H : Hp} {Q : VK} {G : Gh} {loc : Loc} {sh : Sh} (ok : Ok X.K G loc sh σ H) (hw : ∀ R, post (fun G _ items J => Items X.K G J items) X.K W G loc σ (it loc sh) R → wi σ H R) (hv : ∀ i, i ∈ tt.slots → i ∈ vs)
    (hg : TgSem X.K g tt)
    (p : post (fun G H t v => OwnR X.K G loc σ H t v) X.K W G loc σ (eComp vs it tt c ee loc sh) Q) : tLc wi g (liftT X.K W0 c) (lift X.K W0 ee) vs σ H Q := by
  unfold eComp at p
  by_cases hn : noOwn loc vs = true
  case neg => rw [if_neg hn] at p; exact p.elim
  rw [if_pos hn] at p
  refine hw _ ((post.bind (Rp := fun G _ items J => Items X.K G J items) p).imp ?_)
  rintro J H1 ⟨G1, items, s1, l1, ok1, r1, p1⟩
  intro D hD
  have nD := ok1.nob hD
  refine ⟨fun i n H2 => ∃ G2 s2 acc accT, GLe G1 G2 ∧ Ok X.K G2 loc s2 σ H2 ∧ Nob G2 loc σ D ∧ H2 D = some (.lst acc) ∧ repL X.K G2 accT acc ∧ i ≤ items.length ∧ n = items.length - i ∧
      post (fun G H t v => OwnR X.K G loc σ H t v) X.K W G2 loc σ ((compL tt c ee (items.drop i) (wipeL loc vs) s2).noexc.bind fun ys s => dLst (accT ++ ys) s) Q,
    ⟨items.length, G1, s1, [], [], GLe.refl _, ok1.grow hD, nD, upd_same, rfl, Nat.zero_le _, rfl, p1⟩, ?_⟩
  rintro i n H2 ⟨G2, s2, acc, accT, l2, ok2, n2, h2, r2, hi, rfl, p2⟩
  have okP := ok2.prot n2 h2 (fun _ z => nomatch z)
  have okW := okP.wiped vs
  obtain ⟨ig, is⟩ := r1 (G2.prot D (.lst acc)) (wipeL loc vs) s2 (wipe σ vs) H2 l2.f l2.a okW i
  by_cases hlt : i < items.length
  · have ei : items[i]? = some items[i] := List.getElem?_eq_getElem hlt
    obtain ⟨go, yl⟩ := ig _ ei
    refine .inr ⟨go, fun H' => ∃ m', m' < items.length - i ∧ ∃ G2 s2 acc accT, GLe G1 G2 ∧ Ok X.K G2 loc s2 σ H' ∧ Nob G2 loc σ D ∧ H' D = some (.lst acc) ∧ repL X.K G2 accT acc ∧ i + 1 ≤ items.length ∧ m' = items.length - (i + 1) ∧
      post (fun G H t v => OwnR X.K G loc σ H t v) X.K W G2 loc σ ((compL tt c ee (items.drop (i + 1)) (wipeL loc vs) s2).noexc.bind fun ys s => dLst (accT ++ ys) s) Q, fun H' h => h, fun x H3 y => ?_⟩
    obtain ⟨G3, l3, ok3, r3⟩ := yl x H3 y
    rw [List.drop_eq_getElem_cons hlt] at p2
    unfold compL at p2
    cases q : setT tt items[i] (wipeL loc vs) with
    | none => rw [q] at p2; exact p2.elim
    | some l1' =>
      rw [q] at p2
      refine hg G3 (wipeL loc vs) s2 (wipe σ vs) H3 items[i] x l1' _ ok3 r3 q fun σ' ok' hj hwp => ⟨?_, G3, l1', s2, ok', ?_⟩
      · have q1 := hwp vs hv
        rw [q1]
        have : ∀ ws : List Nat, (∀ w ∈ ws, w ∈ vs) → wipe (wipe σ vs) ws = wipe σ vs := by
          intro ws
          induction ws with
          | nil => intro _; rfl
          | cons w ws ih =>
            intro hws
            show (wipe (wipe σ vs) ws).set w none = _
            rw [ih fun z hz => hws z (by simp [hz])]
            apply List.ext_getElem?
            intro j
            by_cases e : w = j
            · subst e
              by_cases hl : w < (wipe σ vs).length
              · rw [List.getElem?_set_self hl]
                cases hx : (wipe σ vs)[w]? with
                | none => rw [List.getElem?_eq_none_iff] at hx; omega
                | some o =>
                  cases o with
                  | none => rfl
                  | some z => exact absurd (hws w (by simp)) (wipe_some hx).2
              · rw [List.set_eq_of_length_le (by omega)]
            · rw [List.getElem?_set_ne e]
        exact this vs fun _ h => h
      · -- the tests, the element
        have back : ∀ {G4 : Gh} {s4 : Sh} {H4 : Hp}, GLe G3 G4 → Ok X.K G4 l1' s4 σ' H4 → Ok X.K { G4 with B := G2.B } loc s4 σ H4 ∧ Nob { G4 with B := G2.B } loc σ D ∧ H4 D = some (.lst acc) ∧ GLe G2 { G4 with B := G2.B } := by
          intro G4 s4 H4 l4 ok4
          have le : GLe (G2.prot D (.lst acc)) G4 := l3.trans l4
          have u := okP.unwiped hn le ok4 (fun j hjv => by
            have := (hj j fun z => hjv (hv j z)).2
            rw [this, wipeL_at, if_neg hjv]) (fun j hjv => by
            have := (hj j fun z => hjv (hv j z)).1
            rw [this, wipe_at σ vs j hjv])
          obtain ⟨F4, al4, B4⟩ := G4
          have eB : B4 = upd G2.B D (.lst acc) := le.b
          subst eB
          obtain ⟨a1, a2, a3⟩ := Ok.unprot (G := ⟨F4, al4, G2.B⟩) u n2.b
          exact ⟨a1, a2, a3, le.f, le.a, rfl⟩
        have fin : ∀ {G4 : Gh} {s4 : Sh} {H4 : Hp} {acc' : List V} {accT' : List T}, GLe G2 G4 → Ok X.K G4 loc s4 σ H4 → Nob G4 loc σ D → H4 D = some (.lst acc') → repL X.K G4 accT' acc' →
            post (fun G H t v => OwnR X.K G loc σ H t v) X.K W G2 loc σ ((compL tt c ee (items.drop (i + 1)) (wipeL loc vs) s4).noexc.bind fun ys s => dLst (accT' ++ ys) s) Q → ∃ m', m' < items.length - i ∧ ∃ G2 s2 acc accT, GLe G1 G2 ∧ Ok X.K G2 loc s2 σ H4 ∧ Nob G2 loc σ D ∧ H4 D = some (.lst acc) ∧ repL X.K G2 accT acc ∧ i + 1 ≤ items.length ∧ m' = items.length - (i + 1) ∧
              post (fun G H t v => OwnR X.K G loc σ H t v) X.K W G2 loc σ ((compL tt c ee (items.drop (i + 1)) (wipeL loc vs) s2).noexc.bind fun ys s => dLst (accT ++ ys) s) Q :=
          fun l ok n h r p => ⟨_, by omega, _, _, _, _, l2.trans l, ok, n, h, r, hlt, rfl, post.le l p⟩
        have p3 := p2
        dsimp only at p3
        cases hc : c l1' s2 with
        | bad => rw [hc] at p3; exact p3.elim
        | exc x s => rw [hc] at p3; exact p3.elim
        | ok k s3 =>
          rw [hc] at p3
          rintro b H4 G4 l4 ok4 rfl
          cases b with
          | false =>
            refine iteF ?_
            obtain ⟨b1, b2, b3, b4⟩ := back l4 ok4
            exact fin b4 b1 b2 b3 (repL_le b4 r2) p3
          | true =>
            refine iteT ⟨G4, l1', s3, ok4, ?_⟩
            simp only [Res.bind_ok, if_true] at p3
            cases he : ee l1' s3 with
            | bad => rw [he] at p3; exact p3.elim
            | exc x s => rw [he] at p3; exact p3.elim
            | ok y s5 =>
              rw [he] at p3
              simp only [Res.bind_ok] at p3
              intro v H5 G5 l5 ok5 rv
              obtain ⟨b1, b2, b3, b4⟩ := back (l4.trans l5) ok5
              -- the length
              have hz : acc.length < sizeLine := by
                rw [RepL.length r2]
                cases hx : compL tt c ee (items.drop (i + 1)) (wipeL loc vs) s5 with
                | bad => rw [hx] at p3; exact p3.elim
                | exc x s => rw [hx] at p3; exact p3.elim
                | ok ys s6 =>
                  rw [hx] at p3
                  have p4 : post (fun G H t v => OwnR X.K G loc σ H t v) X.K W G2 loc σ (dLst (accT ++ y :: ys) s6) Q := p3
                  unfold dLst at p4
                  by_cases hs : (accT ++ y :: ys).length ≤ sizeLine
                  · rw [List.length_append, List.length_cons] at hs; omega
                  · rw [if_neg hs] at p4; exact p4.elim
              refine ⟨acc, b3, hz, ?_⟩
              refine fin (acc' := acc ++ [v]) (accT' := accT ++ [y]) b4 (b1.other b2 b3 (fun _ z => nomatch z)) b2 upd_same (RepL.append (repL_le b4 r2) (RepL.cons rv RepL.nil)) ?_
              have e : ∀ r : Res (List T), ((r.bind fun ys s3 => Res.ok (y :: ys) s3).noexc.bind fun ys s => dLst (accT ++ ys) s) = (r.noexc.bind fun ys s => dLst (accT ++ [y] ++ ys) s) := by
                intro r
                cases r with
                | ok ys s => simp [Res.bind, Res.noexc]
                | exc _ _ => rfl
                | bad => rfl
              rw [← e]
              exact p3
  · have e : i = items.length := by omega
    subst e
    refine .inl ⟨is (Nat.le_refl _), ?_⟩
    rw [List.drop_length] at p2
    have p3 : post (fun G H t v => OwnR X.K G loc σ H t v) X.K W G2 loc σ (dLst (accT ++ []) s2) Q := p2
    rw [List.append_nil] at p3
    unfold dLst at p3
    by_cases hs : accT.length ≤ sizeLine
    · rw [if_pos hs] at p3
      exact p3 _ H2 G2 (GLe.refl _) ok2 ⟨D, rfl, n2.f, n2.b, n2.a, n2.s, acc, h2, r2, hs⟩
    · rw [if_neg hs] at p3; exact p3.elim
theorem t_comp (hc : X.calm = true) (hN : X.N.Nodup) (hi : TPI X W tg iter it) (ok : BlkOk X.N X.env.scope scope own) (hv : (tt.slots.all fun i => (own.map (·.2)).contains i) = true)
    (hgs : TgSem X.K g tt) (hg : ∀ (s : Shared) (H : Hp) (C : Addr) (cl : List (Str × Addr)) (fp : List Addr), PG (X.blk s H scope (compEnvC scope cl C X.env) fp) tg g)
    (ht : ∀ (s : Shared) (H : Hp) (C : Addr) (cl : List (Str × Addr)) (fp : List Addr), TPTs (X.blk s H scope (compEnvC scope cl C X.env) fp) W0 ifs c)
    (he : ∀ (s : Shared) (H : Hp) (C : Addr) (cl : List (Str × Addr)) (fp : List Addr), TPE (X.blk s H scope (compEnvC scope cl C X.env) fp) W0 elt ee)
    (hs : ∀ x, foldedSetIterable iter X.env x = pure x := by intro _; rfl) : TPO X W (.ListComp elt [⟨tg, iter, ifs, 0⟩] scope pos) (eComp (own.map (·.2)) it tt c ee) :=
  PE.weak (pe_lc (wi := liftI X.K W it) (g := g) (tt := liftT X.K W0 c) (te := lift X.K W0 ee) hc hN hi ok hg ht he hs) fun σ H Q ⟨G, loc, sh, ok, p⟩ => comp_core ok (fun R q => ⟨G, loc, sh, ok, q⟩) (fun i hi => by
    have := List.all_eq_true.mp hv i hi
    simpa using this) hgs p
end
end TL

/-! the T-layer, 4: defs and calls -/
namespace TL
open PySem PySem.Spec L2

/-- the own dict of a shared instance -/
def isDx (al : List Addr) (H : Hp) (a : Addr) : Prop := ∃ (k : Nat) (b C : Addr) (fv : List (Str × V)), al[k]? = some b ∧ H b = some (.ins C a fv)
open Classical in
/-- what a callee may not touch -/
noncomputable def protB (G : Gh) (H : Hp) : Hp := fun a => if G.F a = none ∧ (∀ k : Nat, G.al[k]? ≠ some a) ∧ ¬ isDx G.al H a then H a else none
theorem protB_yes {G : Gh} {H : Hp} {a : Addr} (h1 : G.F a = none) (h2 : ∀ k : Nat, G.al[k]? ≠ some a) (h3 : ¬ isDx G.al H a) : protB G H a = H a := if_pos ⟨h1, h2, h3⟩
theorem protB_some {G : Gh} {H : Hp} {a : Addr} {o : HO} (h : protB G H a = some o) : H a = some o ∧ G.F a = none ∧ (∀ k : Nat, G.al[k]? ≠ some a) ∧ ¬ isDx G.al H a := by
  unfold protB at h
  split at h
  · rename_i q; exact ⟨h, q⟩
  · cases h
theorem protB_none {G : Gh} {H : Hp} {a : Addr} (h : ¬ (G.F a = none ∧ (∀ k : Nat, G.al[k]? ≠ some a) ∧ ¬ isDx G.al H a)) : protB G H a = none := if_neg h
def spT (K : PySem.W.Frag) (m : Bool) (np : Nat) (φ : Fn) : Sp := fun vs H Q E => vs.length = np ∧ ∃ G ts sh, Gok K G sh H ∧ repL K G ts vs ∧ match φ ts sh with
  | .ok t sh' => ∀ v H' G', GLe G G' → Gok K G' sh' H' → rpR K m G' H' t v → Q v H'
  | .exc e sh' => ∀ d H' G', GLe G G' → Gok K G' sh' H' → ExOk K G' H' e d → E (.ref (He.ga K e.cls)) d H'
  | .bad => False
/-- how a def hands on what is asked of its value: as a tree, as something that nobody has -/
def rpM (K : PySem.W.Frag) (m : Bool) (loc : Loc) (σ : L2.St) : Gh → Hp → T → V → Prop := fun G H t v => if m then OwnR K G loc σ H t v else rep K G t v
section
variable {K : PySem.W.Frag} {W : WX} {G : Gh} {loc : Loc} {sh : Sh} {σ : L2.St} {H : Hp} {m : Bool}
theorem Ok.callee (ok : Ok K G loc sh σ H) : Gok K { G with B := protB G H } sh H := by
  refine ⟨ok.fh, fun a o h => (protB_some h).1, fun a => ?_, fun k a h => ⟨(ok.alf k a h).1, protB_none fun z => z.2.1 k h⟩, ok.ali, ok.all, fun k o h => ?_⟩
  · cases e : protB G H a with
    | none => exact .inr e
    | some o => exact .inl (protB_some e).2.1
  · obtain ⟨a, h1, h2⟩ := ok.shr k o h
    refine ⟨a, h1, ?_⟩
    cases o with
    | lst xs => exact Sha.reB (t := .lst xs) h2
    | dct kvs => exact Sha.reB (t := .dct kvs) h2
    | ins C fs =>
      obtain ⟨dx, fv, q1, q2, q3, q4, q5, q6⟩ := h2
      exact ⟨dx, fv, q1, q2, q3, q4, protB_none fun z => z.2.2 ⟨k, a, _, fv, h1, q1⟩, q6⟩
/-- back from a callee -/
theorem Ok.back (ok : Ok K G loc sh σ H) {G' : Gh} {sh' : Sh} {H' : Hp} (l : GLe { G with B := protB G H } G') (g : Gok K G' sh' H') :
    Ok K { G' with B := G.B } loc sh' σ H' ∧ GLe G { G' with B := G.B } ∧ (∀ t v, rpR K m G' H' t v → rpM K m loc σ { G' with B := G.B } H' t v) := by
  have hB : G'.B = protB G H := l.b
  have pB : ∀ {a o}, G.B a = some o → protB G H a = some o := fun {a o} h => by
    have e : G.F a = none := by
      rcases ok.dis a with q | q
      · exact q
      · rw [h] at q; cases q
    refine (protB_yes e (fun k q => ?_) fun ⟨k, b, C, fv, q1, q2⟩ => ?_).trans (ok.bh a o h)
    · rw [(ok.alf k a q).2] at h; cases h
    · have hk : k < sh.length := by
        rw [← ok.all]
        exact (List.getElem?_eq_some_iff.mp q1).1
      obtain ⟨b', hb, r⟩ := ok.shr k sh[k] (List.getElem?_eq_getElem hk)
      rw [q1] at hb
      cases hb
      cases hs : sh[k] with
      | lst xs => rw [hs] at r; obtain ⟨_, z, _⟩ := r; rw [q2] at z; cases z
      | dct xs => rw [hs] at r; obtain ⟨_, z, _⟩ := r; rw [q2] at z; cases z
      | ins C' fs =>
        rw [hs] at r
        obtain ⟨dx, fv', z1, _, _, _, z5, _⟩ := r
        rw [q2] at z1
        cases z1
        rw [z5] at h
        cases h
  have pN : ∀ {a}, protB G H a = none → G.B a = none := fun {a} h => by
    cases e : G.B a with
    | none => rfl
    | some o => rw [pB e] at h; cases h
  have own : ∀ {i : Nat} {x : T}, loc.at i = .own x → ∃ a o, σ[i]? = some (some (.ref a)) ∧ protB G H a = some o ∧ H a = some o ∧ G.B a = none ∧ Sha K G H a x := fun {i x} e => by
    have h := ok.sl i
    rw [e] at h
    obtain ⟨a, e0, h1, h2, h3, h4⟩ := h
    have nd : ¬ isDx G.al H a := fun ⟨k, b, C, fv, q1, q2⟩ => by
      have hk : k < sh.length := by
        rw [← ok.all]
        exact (List.getElem?_eq_some_iff.mp q1).1
      obtain ⟨b', hb, r⟩ := ok.shr k sh[k] (List.getElem?_eq_getElem hk)
      rw [q1] at hb
      cases hb
      cases hs : sh[k] with
      | lst xs => rw [hs] at r; obtain ⟨_, z, _⟩ := r; rw [q2] at z; cases z
      | dct xs => rw [hs] at r; obtain ⟨_, z, _⟩ := r; rw [q2] at z; cases z
      | ins C' fs =>
        rw [hs] at r
        obtain ⟨dx, fv', z1, _, z3, _⟩ := r
        rw [q2] at z1
        cases z1
        rcases h4.is with ⟨_, w⟩ | ⟨_, w⟩ <;> rw [w] at z3 <;> cases z3
    obtain ⟨o, eo⟩ := h4.there
    exact ⟨a, o, e0, (protB_yes h1 h3 nd).trans eo, eo, h2, h4⟩
  have le : GLe G { G' with B := G.B } := ⟨l.f, l.a, rfl⟩
  refine ⟨⟨⟨g.fh, fun a o h => g.bh a o (by rw [hB]; exact pB h), fun a => ?_, fun k a h => ⟨(g.alf k a h).1, pN (by rw [← hB]; exact (g.alf k a h).2)⟩, g.ali, g.all, fun k o h => ?_⟩, ok.len, fun i => ?_, ok.sep⟩, le, fun t v r => ?_⟩
  · rcases g.dis a with h | h
    · exact .inl h
    · exact .inr (pN (by rw [← hB]; exact h))
  · obtain ⟨a, h1, h2⟩ := g.shr k o h
    refine ⟨a, h1, ?_⟩
    cases o with
    | lst xs => exact Sha.reB (t := .lst xs) h2
    | dct kvs => exact Sha.reB (t := .dct kvs) h2
    | ins C fs =>
      obtain ⟨dx, fv, q1, q2, q3, q4, q5, q6⟩ := h2
      exact ⟨dx, fv, q1, q2, q3, q4, pN (by rw [← hB]; exact q5), q6⟩
  · have h := ok.sl i
    cases e : loc.at i with
    | no => trivial
    | t x => rw [e] at h; obtain ⟨v, e0, r⟩ := h; exact ⟨v, e0, rep_le le r⟩
    | own x =>
      obtain ⟨a, o, e0, h1, h2, h3, h4⟩ := own e
      have fa : G'.F a = none := by
        rcases g.dis a with q | q
        · exact q
        · rw [hB, h1] at q; cases q
      refine ⟨a, e0, fa, h3, fun k q => ?_, (h4.le (H' := H') le ?_)⟩
      · have := (g.alf k a q).2
        rw [hB, h1] at this
        cases this
      · rw [g.bh a o (by rw [hB]; exact h1), h2]
  · unfold rpR at r
    unfold rpM
    cases m with
    | false => exact r
    | true =>
      obtain ⟨a, rfl, h1, h2, h3, _, h5⟩ := r
      refine ⟨a, rfl, h1, pN (by rw [← hB]; exact h2), h3, fun i x ei eo => ?_, h5.reB⟩
      obtain ⟨b, o, e0, q1, _, _, _⟩ := own ei
      rw [eo] at e0
      cases e0
      rw [hB, q1] at h2
      cases h2
theorem call_core (ok : Ok K G loc sh σ H) {φ : Fn} {ts : List T} {vs : List V} {Q : VK} (r : repL K G ts vs) (p : post (rpM K m loc σ) K W G loc σ (φ ts sh) Q) : spT K m ts.length φ vs H Q (WE W σ) := by
  refine ⟨RepL.length r, { G with B := protB G H }, ts, sh, ok.callee, r, ?_⟩
  cases e : φ ts sh with
  | ok t s =>
    rw [e] at p
    intro v H' G' l g rv
    obtain ⟨b1, b2, b3⟩ := ok.back (m := m) l g
    exact p v H' _ b2 b1 (b3 t v rv)
  | exc x s =>
    rw [e] at p
    intro d H' G' l g ⟨dd, fv, e1, e2, e3⟩
    obtain ⟨b1, b2, b3⟩ := ok.back (m := m) l g
    exact p d H' _ b2 b1 ⟨dd, fv, e1, e2, e3⟩
  | bad => rw [e] at p; exact p
end

/-! ### a def's body -/
def startL (n : Nat) (ts : List T) : Loc := ts.map Slot.t ++ List.replicate (n - ts.length) .no
def runB (m : Bool) (n : Nat) (sv : Sv) : Fn := fun ts sh => match sv (startL n ts) sh with
  | .nx _ s => if m then .bad else .ok .non s
  | .rt t s => .ok t s
  | .exc e _ s => .exc e s
  | _ => .bad
theorem start_ok {K : PySem.W.Frag} {G : Gh} {sh : Sh} {H : Hp} {N : List Str} {ts : List T} {vs : List V} (g : Gok K G sh H) (r : repL K G ts vs) : Ok K G (startL N.length ts) sh (L2.start N vs) H := by
  have hl := RepL.length r
  have no : ∀ (i : Nat) (x : T), (startL N.length ts).at i ≠ .own x := fun i x e => by
    unfold startL Loc.at at e
    rw [List.getElem?_append] at e
    split at e
    · rw [List.getElem?_map] at e
      cases q : ts[i]? with
      | none => rw [q] at e; cases e
      | some t => rw [q] at e; cases e
    · rw [List.getElem?_replicate] at e
      split at e <;> cases e
  refine ⟨g, ?_, fun i => ?_, fun i j x y a _ e _ _ => absurd e (no i x)⟩
  · unfold startL L2.start
    rw [List.length_append, List.length_append, List.length_map, List.length_map, List.length_replicate, List.length_replicate, hl]
  · cases e : (startL N.length ts).at i with
    | no => trivial
    | own x => exact absurd e (no i x)
    | t x =>
      unfold startL Loc.at at e
      rw [List.getElem?_append] at e
      split at e
      · rename_i hi
        rw [List.length_map] at hi
        rw [List.getElem?_map] at e
        cases q : ts[i]? with
        | none => rw [q] at e; cases e
        | some t =>
          rw [q] at e
          cases e
          obtain ⟨v, ev, rv⟩ := RepL.get r q
          refine ⟨v, ?_, rv⟩
          unfold L2.start
          rw [List.getElem?_append_left (by rw [List.length_map, hl]; exact hi), List.getElem?_map, ev]
          rfl
      · rw [List.getElem?_replicate] at e
        split at e <;> cases e
section
variable {P : Program} {w : World} {K : PySem.W.Frag} {mg : Str → Option Value} {base : Heap} {x qual : Str} {params : Arguments} {body : List Stmt} {scope : Scope} {dvs : List V} {kws : List (Str × V)} {f : Addr} {fd : FuncData}
abbrev WD (E : XK) : WX := fun cls d _ H => E cls d H
theorem fn_tl {CX : CXT} {N ps : List Str} {k : Nat} {m : Bool} {sv : Sv} (F : FunD K x qual params body scope dvs kws f fd) (S : FnScope N ps scope)
    (hbody : ∀ (cdv : Value) (A : Around) (outer : List Env) (s : Shared) (H : Hp) (E : XK), Room k (A.deeper (PyProof.Rows.envOfC qual scope s.heap.objs.size f cdv)) → TPSs (cxOf CX P w K mg base N qual scope f cdv A outer s H E) (WD E) m body sv) :
    FnOk P w K mg base CX (k + 1) f fd ps (spT K m ps.length (runB m N.length sv)) := by
  refine F.ok S (fun vs H Q E h => h.1) fun cdv A outer s H vs Q E hr h => ⟨_, hbody cdv A outer s H E hr, ?_⟩
  obtain ⟨hl, G, ts, sh, g, r, p⟩ := h
  refine ⟨G, startL N.length ts, sh, start_ok g r, ?_⟩
  unfold runB at p
  cases e : sv (startL N.length ts) sh with
  | nx l s1 =>
    rw [e] at p
    cases m with
    | true => exact p.elim
    | false => exact fun σ' H' G' l ok => p .non H' G' l ok.toGok rfl
  | rt t s1 => rw [e] at p; exact fun v H' G' l ok => p v H' G' l ok
  | exc x l s1 => rw [e] at p; exact fun d σ' H' G' l ok => p d H' G' l ok.toGok
  | bk l s1 => rw [e] at p; exact p.elim
  | ct l s1 => rw [e] at p; exact p.elim
  | bad => rw [e] at p; exact p.elim
/-- nothing is promised of a def that is never called -/
theorem fn_bad {CX : CXT} {k : Nat} {m : Bool} {ps : List Str} : FnOk P w K mg base CX k f fd ps (spT K m ps.length fun _ _ => .bad) :=
  ⟨fun vs H Q E h => h.1, fun A outer s H args us vs Q E _ _ _ _ h => by obtain ⟨_, _, _, _, _, _, z⟩ := h; exact z.elim⟩
end

/-! ### calls -/
def eCall (φ : Fn) (a : EvL) : Ev := fun l s => (a l s).bind φ
def eCallK (φ : Fn) (g : List T → List T → List T) (a b : EvL) : Ev := fun l s => (a l s).bind fun ts s1 => (b l s1).bind fun us s2 => φ (g ts us) s2
section
variable {X : Cx} {W : WX} {CX : CXT} {k : Nat} {f : Addr} {fd : FuncData} {ps ks : List Str} {m : Bool} {φ : Fn} {x : Str} {p pos : Pos} {e : Expr} {es : List Expr} {kws : List Keyword} {eL eK : EvL} {ds : List Value} {dvs : List V} {dts : List T}
theorem run_fnA {pins : List (Addr × Obj)} {σ : L2.St} {H : Hp} {s : Shared} {Q : VK} {vs : List V} {E : XK} {sp : Sp} {args : Args} {us' : List Value} (F : FnOk X.prog X.w X.K X.mg X.base CX k f fd ps sp) (hr : Room k X.A) (b : BindsTo s fd args (ps.zip us')) (hx : PassesAt CX X σ E)
    (I : Inv X pins σ H s) (r : Vals vs us') (h : sp vs H Q E) : codeAny (model X.prog X.w) X.A (.call (.ref f) args) (fun r s' => match r with
      | .ok (.ret u) => EP X pins σ Q u s'
      | .ok _ => False
      | .error e => X.xe e s') s := by
  refine codeAny_mono (F.run X.A X.stack s H args us' vs Q E hr I.env0 b r h) fun r s' hq => ?_
  cases r with
  | error e => exact hx pins H s e s' I hq
  | ok fl =>
    cases fl with
    | ret u => exact I.after hq
    | next => exact False.elim hq
    | brk => exact False.elim hq
    | cont => exact False.elim hq
/-- positional arguments, defaults behind them -/
theorem pe_callD {sp : Sp} {E : L2.St → XK} {t : TA} (F : FnOk X.prog X.w X.K X.mg X.base CX k f fd ps sp) (hr : Room k X.A) (hg : Gl X x) (hm : X.mg x = some (.ref f)) (hk : PySem.W.keepIn X.K (.ref f) = true) (hb : Binds X.K fd ps ds) (hd : Vals dvs ds) (hx : ∀ σ, PassesAt CX X σ (E σ))
    (ha : PA X (e :: es) t) (hdb : (x == ("__debug__" : Str)) = false := by decide) (he : starEach (e :: es) X.env = (false, eval e X.env) :: starEach es X.env := by rfl) (hpl : (backTo pos (starEach es X.env)).any (·.1) = false := by rfl) :
    PE X (.Call (.Name x p) (e :: es) [] pos) (fun σ H Q => t σ H fun vs H1 => sp (vs ++ dvs) H1 Q (E σ)) := by
  refine ⟨fun pins s σ H Q I h => ?_⟩
  refine wpAny_Call_Name_kw (ld_glob I hg hm ?_ hdb)
  refine PySem.W.callWith_K (h₀ := X.base) I.ok.mod.kin hk (thn (ha.run pos pins s σ H _ I h) fun us s1 ⟨vs, H1, I1, r, q⟩ => ⟨I1.kIn, ?_⟩) he hpl
  have r2 := Vals.append r hd
  have hl : (us ++ ds).length = ps.length := by rw [← r2.length]; exact F.len _ _ _ _ q
  exact wpAny_call (codeAny_mono (run_fnA F hr (hb s1 us I1.kIn hl) (hx σ) I1 r2 q) fun r s' h => h)
theorem pe_callN {sp : Sp} {E : L2.St → XK} {t tk : TA} {n : Nat} {g : List Value → List Value → List Value} {gV : List V → List V → List V} (F : FnOk X.prog X.w X.K X.mg X.base CX k f fd ps sp) (hr : Room k X.A) (hg : Gl X x) (hm : X.mg x = some (.ref f)) (hk : PySem.W.keepIn X.K (.ref f) = true) (hb : KBn X.K fd ps n ks g gV) (hx : ∀ σ, PassesAt CX X σ (E σ))
    (ha : PA X (e :: es) t) (hkw : PK X kws tk) (hall : (backToKw pos (keywordEach kws X.env)).all (·.1.isSome) = true := by rfl) (hks : (backToKw pos (keywordEach kws X.env)).filterMap (·.1) = ks := by rfl)
    (hdb : (x == ("__debug__" : Str)) = false := by decide) (he : starEach (e :: es) X.env = (false, eval e X.env) :: starEach es X.env := by rfl)
    (hpl : ((backTo pos (starEach (e :: es) X.env)).any (·.1) || (backToKw pos (keywordEach kws X.env)).any (·.1.isNone)) = false := by rfl) :
    PE X (.Call (.Name x p) (e :: es) kws pos) (fun σ H Q => t σ H fun vs H1 => tk σ H1 fun zs H2 => vs.length = n ∧ zs.length = ks.length ∧ sp (gV vs zs) H2 Q (E σ)) := by
  refine ⟨fun pins s σ H Q I h => ?_⟩
  refine wpAny_Call_Name_kw (ld_glob I hg hm ?_ hdb)
  refine PySem.W.callWith_KW (h₀ := X.base) I.ok.mod.kin hk hall (thn (ha.run pos pins s σ H _ I h) fun us s1 ⟨vs, H1, I1, r, q⟩ => ?_) hpl he
  refine thn (hkw.run pos pins s1 σ H1 _ I1 q) fun ws s2 ⟨zs, H2, I2, rz, l1, l2, q2⟩ => ⟨I2.kIn, ?_⟩
  rw [hks]
  exact wpAny_call (codeAny_mono (run_fnA F hr (hb.to s2 us ws I2.kIn (r.length.symm.trans l1) (rz.length.symm.trans l2)) (hx σ) I2 (hb.rel r rz) q2) fun r s' h => h)
def TPR (X : Cx) (W : WX) (m : Bool) (e : Expr) (ev : Ev) : Prop := PE X e (fun σ H Q => ∃ G loc sh, Ok X.K G loc sh σ H ∧ post (rpM X.K m loc σ) X.K W G loc σ (ev loc sh) Q)
theorem TPR.toE {ev : Ev} (h : TPR X W false e ev) : TPE X W e ev := PE.weak h fun σ H Q ⟨G, loc, sh, ok, p⟩ => ⟨G, loc, sh, ok, p⟩
theorem TPR.toO {ev : Ev} (h : TPR X W true e ev) : TPO X W e ev := PE.weak h fun σ H Q ⟨G, loc, sh, ok, p⟩ => ⟨G, loc, sh, ok, p⟩
theorem t_call (F : FnOk X.prog X.w X.K X.mg X.base CX k f fd ps (spT X.K m ps.length φ)) (hr : Room k X.A) (hg : Gl X x) (hm : X.mg x = some (.ref f)) (hk : PySem.W.keepIn X.K (.ref f) = true) (hb : Binds X.K fd ps []) (hx : ∀ σ, PassesAt CX X σ (WE W σ))
    (ha : TPA X W (e :: es) eL) (hl : ∀ l s ts s', eL l s = .ok ts s' → ts.length = ps.length) (hdb : (x == ("__debug__" : Str)) = false := by decide) (he : starEach (e :: es) X.env = (false, eval e X.env) :: starEach es X.env := by rfl) (hpl : (backTo pos (starEach es X.env)).any (·.1) = false := by rfl) :
    TPR X W m (.Call (.Name x p) (e :: es) [] pos) (eCall φ eL) := PE.weak (pe_callD F hr hg hm hk hb .nil hx ha hdb he hpl) fun σ H Q ⟨G, loc, sh, ok, p⟩ => by
  refine ⟨G, loc, sh, ok, ?_⟩
  have q := post.bind (Rp := rpL X.K) p
  cases ea : eL loc sh with
  | bad => rw [ea] at q; exact q
  | exc x s => rw [ea] at q; exact q
  | ok ts s1 =>
    rw [ea] at q
    intro vs H1 G1 l1 ok1 r1
    obtain ⟨G1', a, s2, l2, ok2, r2, p2⟩ := q vs H1 G1 l1 ok1 r1
    rw [List.append_nil]
    have e0 := p
    unfold eCall at e0
    rw [ea] at e0
    have := call_core ok1 r1 (post.le l1 e0)
    rw [hl loc sh ts s1 ea] at this
    exact this
end
/-- the length of an argument list -/
def ALen (a : EvL) (n : Nat) : Prop := ∀ l s ts s', a l s = .ok ts s' → ts.length = n
theorem alen_nil : ALen aNil 0 := fun l s ts s' h => by cases h; rfl
theorem alen_cons {a : Ev} {r : EvL} {n : Nat} (h : ALen r n) : ALen (aCons a r) (n + 1) := fun l s ts s' e => by
  unfold aCons at e
  cases q : a l s with
  | bad => rw [q] at e; cases e
  | exc x s => rw [q] at e; cases e
  | ok t s1 =>
    rw [q] at e
    simp only [Res.bind_ok] at e
    cases q2 : r l s1 with
    | bad => rw [q2] at e; cases e
    | exc x s => rw [q2] at e; cases e
    | ok xs s2 =>
      rw [q2] at e
      have e' : Res.ok (t :: xs) s2 = Res.ok ts s' := e
      injection e' with e1 e2
      rw [← e1, List.length_cons, h l s1 xs s2 q2]
end TL

/-! the T-layer, 5: operators, subscripts, builtins -/
namespace TL
open PySem PySem.Spec L2

section
variable {K : PySem.W.Frag} {W : WX} {G : Gh} {loc : Loc} {sh : Sh} {σ : L2.St} {H : Hp}
/-- a list is made: as a tree's -/
theorem Ok.newL (ok : Ok K G loc sh σ H) {vs : List V} {xs : List T} {Q : VK} (r : repL K G xs vs) (l : xs.length ≤ sizeLine) (p : post (rpV K) K W G loc σ (.ok (.lst xs) sh) Q) : ∀ q, H q = none → Q (.ref q) (upd H q (.lst vs)) := fun q hq => by
  obtain ⟨ok2, o⟩ := ok.newOwn (o := .lst vs) (t := .lst xs) hq ⟨vs, upd_same, r, l⟩
  obtain ⟨G2, l2, ok3, r3⟩ := OwnR.freeze ok2 o
  exact p _ _ G2 l2 ok3 r3
theorem Ok.newLO (ok : Ok K G loc sh σ H) {vs : List V} {xs : List T} {Q : VK} (r : repL K G xs vs) (l : xs.length ≤ sizeLine) (p : post (fun G H t v => OwnR K G loc σ H t v) K W G loc σ (.ok (.lst xs) sh) Q) : ∀ q, H q = none → Q (.ref q) (upd H q (.lst vs)) := fun q hq => by
  obtain ⟨ok2, o⟩ := ok.newOwn (o := .lst vs) (t := .lst xs) hq ⟨vs, upd_same, r, l⟩
  exact p _ _ G (GLe.refl _) ok2 o
theorem Ok.newT (ok : Ok K G loc sh σ H) {vs : List V} {xs : List T} {Q : VK} (r : repL K G xs vs) (l : xs.length ≤ sizeLine) (p : post (rpV K) K W G loc σ (.ok (.tup xs) sh) Q) : ∀ q, H q = none → Q (.ref q) (upd H q (.tup vs)) := fun q hq => by
  obtain ⟨G2, l2, ok3, r3⟩ := ok.newTup hq r l
  exact p _ _ G2 l2 ok3 r3
theorem Ok.hl (ok : Ok K G loc sh σ H) {xs : List T} {v : V} (r : rep K G (.lst xs) v) : ∃ a vs, v = .ref a ∧ H a = some (.lst vs) ∧ repL K G xs vs ∧ xs.length ≤ sizeLine := by
  obtain ⟨a, vs, e, h, r, l⟩ := r
  exact ⟨a, vs, e, ok.fh _ _ h, r, l⟩
theorem Ok.ht (ok : Ok K G loc sh σ H) {xs : List T} {v : V} (r : rep K G (.tup xs) v) : ∃ a vs, v = .ref a ∧ SqT K H a vs ∧ repL K G xs vs ∧ xs.length ≤ sizeLine := by
  obtain ⟨a, vs, e, h, r, l⟩ := r
  exact ⟨a, vs, e, SqT.fle ok.fle h, r, l⟩
theorem Ok.hd (ok : Ok K G loc sh σ H) {xs : List (Key × T)} {v : V} (r : rep K G (.dct xs) v) : ∃ a vs, v = .ref a ∧ Rd H a (.dK vs) ∧ RepD K G.F G.al xs vs ∧ DOk xs := by
  obtain ⟨a, vs, e, h, r, l⟩ := r
  exact ⟨a, vs, e, FLe.rd ok.fle h, r, l⟩
/-- a shared list -/
theorem Ok.hc (ok : Ok K G loc sh σ H) {k : Nat} {xs : List T} {v : V} (r : rep K G (.cel k) v) (e : sh[k]? = some (.lst xs)) : ∃ a vs, v = .ref a ∧ G.al[k]? = some a ∧ H a = some (.lst vs) ∧ repL K G xs vs ∧ xs.length ≤ sizeLine := by
  obtain ⟨a, e1, h⟩ := r
  obtain ⟨a', h', s⟩ := ok.shr k _ e
  rw [h] at h'
  cases h'
  obtain ⟨vs, q1, q2, q3⟩ := s
  exact ⟨a, vs, e1, h, q1, q2, q3⟩
end

/-! ### + -/
def opAdd : T → T → Sh → Res T
  | .int i, .int j, s => .ok (.int (i + j)) s
  | .str x, .str y, s => if x.length + y.length ≤ sizeLine then .ok (.str (x ++ y)) s else .bad
  | .lst xs, .lst ys, s => if xs.length + ys.length ≤ sizeLine then .ok (.lst (xs ++ ys)) s else .bad
  | .tup xs, .tup ys, s => if xs.length + ys.length ≤ sizeLine then .ok (.tup (xs ++ ys)) s else .bad
  | _, _, _ => .bad
def rAddA (K : PySem.W.Frag) : R2 := fun x y H Q => rI0 (fun i j => .int (i + j)) x y H Q ∨ (∃ i j, x = .str i ∧ y = .str j ∧ i.length + j.length ≤ sizeLine ∧ Q (.str (i ++ j)) H) ∨ rCat x y H Q ∨ rCatA K x y H Q
theorem str_app_len (x y : Str) : (x ++ y).length = x.length + y.length := by
  show (x.cps ++ y.cps).size = x.cps.size + y.cps.size
  exact Array.size_append
theorem sv_add {K : PySem.W.Frag} : Sv2 K (rAddA K) opAdd := by
  intro W G loc sh σ H x y tx ty Q ok rx ry p
  cases tx with
  | int i =>
    cases ty with
    | int j =>
      cases rx; cases ry
      exact .inl ⟨i, j, rfl, rfl, p _ H G (GLe.refl _) ok rfl⟩
    | _ => exact p.elim
  | str i =>
    cases ty with
    | str j =>
      obtain ⟨rfl, lx⟩ := rx
      obtain ⟨rfl, ly⟩ := ry
      by_cases h : i.length + j.length ≤ sizeLine
      · have e : opAdd (.str i) (.str j) sh = .ok (.str (i ++ j)) sh := if_pos h
        rw [e] at p
        exact .inr (.inl ⟨i, j, rfl, rfl, h, p _ H G (GLe.refl _) ok ⟨rfl, by rw [str_app_len]; exact h⟩⟩)
      · have e : opAdd (.str i) (.str j) sh = .bad := if_neg h
        rw [e] at p
        exact p.elim
    | _ => exact p.elim
  | lst xs =>
    cases ty with
    | lst ys =>
      obtain ⟨a, vs, rfl, h1, r1, _⟩ := ok.hl rx
      obtain ⟨b, ws, rfl, h2, r2, _⟩ := ok.hl ry
      by_cases h : xs.length + ys.length ≤ sizeLine
      · have e : opAdd (.lst xs) (.lst ys) sh = .ok (.lst (xs ++ ys)) sh := if_pos h
        rw [e] at p
        exact .inr (.inr (.inl ⟨a, b, vs, ws, rfl, rfl, h1, h2, by rw [RepL.length r1, RepL.length r2]; exact h, ok.newL (RepL.append r1 r2) (by rw [List.length_append]; exact h) p⟩))
      · have e : opAdd (.lst xs) (.lst ys) sh = .bad := if_neg h
        rw [e] at p
        exact p.elim
    | _ => exact p.elim
  | tup xs =>
    cases ty with
    | tup ys =>
      by_cases h : xs.length + ys.length ≤ sizeLine
      · have e : opAdd (.tup xs) (.tup ys) sh = .ok (.tup (xs ++ ys)) sh := if_pos h
        rw [e] at p
        obtain ⟨a, vs, rfl, h1, r1, _⟩ := ok.ht rx
        obtain ⟨b, ws, rfl, h2, r2, _⟩ := ok.ht ry
        refine .inr (.inr (.inr ⟨a, b, vs, ws, rfl, rfl, h1, h2, by rw [RepL.length r1, RepL.length r2]; exact h, fun e => ?_, fun _ e => ?_, fun _ _ => ok.newT (RepL.append r1 r2) (by rw [List.length_append]; exact h) p⟩))
        · subst e
          have : xs = [] := by
            have := RepL.length r1
            exact List.length_eq_zero_iff.mp this.symm
          subst this
          exact p _ H G (GLe.refl _) ok ry
        · subst e
          have : ys = [] := by
            have := RepL.length r2
            exact List.length_eq_zero_iff.mp this.symm
          subst this
          rw [List.append_nil] at p
          exact p _ H G (GLe.refl _) ok rx
      · have e : opAdd (.tup xs) (.tup ys) sh = .bad := if_neg h
        rw [e] at p
        exact p.elim
    | _ => exact p.elim
  | _ => exact p.elim
theorem orp_add {X : Cx} : OpR X (binaryOp .Add) (rAddA X.K) := OpR.or op_add (OpR.or op_add_str (OpR.or op_cat op_catA))
/-- two lists to a new one -/
def opCat : T → T → Sh → Res T
  | .lst xs, .lst ys, s => if xs.length + ys.length ≤ sizeLine then .ok (.lst (xs ++ ys)) s else .bad
  | _, _, _ => .bad
theorem sv_catO {K : PySem.W.Frag} : Sv2O K rCat opCat := by
  intro W G loc sh σ H x y tx ty Q ok rx ry p
  cases tx with
  | lst xs =>
    cases ty with
    | lst ys =>
      obtain ⟨a, vs, rfl, h1, r1, _⟩ := ok.hl rx
      obtain ⟨b, ws, rfl, h2, r2, _⟩ := ok.hl ry
      by_cases h : xs.length + ys.length ≤ sizeLine
      · have e : opCat (.lst xs) (.lst ys) sh = .ok (.lst (xs ++ ys)) sh := if_pos h
        rw [e] at p
        exact ⟨a, b, vs, ws, rfl, rfl, h1, h2, by rw [RepL.length r1, RepL.length r2]; exact h, ok.newLO (RepL.append r1 r2) (by rw [List.length_append]; exact h) p⟩
      · have e : opCat (.lst xs) (.lst ys) sh = .bad := if_neg h
        rw [e] at p
        exact p.elim
    | _ => exact p.elim
  | _ => exact p.elim

/-! ### ints -/
/-- ints in, under c, an int out -/
def opI (c : Int → Int → Bool) (f : Int → Int → Int) : T → T → Sh → Res T
  | .int i, .int j, s => if c i j then .ok (.int (f i j)) s else .bad
  | _, _, _ => .bad
theorem sv_I {K : PySem.W.Frag} {C : Int → Int → Prop} {c : Int → Int → Bool} {f : Int → Int → Int} (hc : ∀ i j, c i j = true → C i j) : Sv2 K (rI C fun i j => .int (f i j)) (opI c f) := by
  intro W G loc sh σ H x y tx ty Q ok rx ry p
  cases tx with
  | int i =>
    cases ty with
    | int j =>
      cases rx; cases ry
      cases e : c i j with
      | true =>
        have e : opI c f (.int i) (.int j) sh = .ok (.int (f i j)) sh := if_pos e
        rw [e] at p
        exact ⟨i, j, rfl, rfl, hc i j ‹_›, p _ H G (GLe.refl _) ok rfl⟩
      | false =>
        have e : opI c f (.int i) (.int j) sh = .bad := if_neg (by simp [e])
        rw [e] at p
        exact p.elim
    | _ => exact p.elim
  | _ => exact p.elim
def opSub : T → T → Sh → Res T
  | .int i, .int j, s => .ok (.int (i - j)) s
  | _, _, _ => .bad
theorem sv_sub {K : PySem.W.Frag} : Sv2 K (rI0 fun i j => .int (i - j)) opSub := by
  intro W G loc sh σ H x y tx ty Q ok rx ry p
  cases tx with
  | int i =>
    cases ty with
    | int j => cases rx; cases ry; exact ⟨i, j, rfl, rfl, p _ H G (GLe.refl _) ok rfl⟩
    | _ => exact p.elim
  | _ => exact p.elim
def cDiv (i j : Int) : Bool := decide (j ≠ 0) && decide (j.natAbs < 1073741824)
def cMod (i j : Int) : Bool := decide (j ≠ 0)
def cPow (i j : Int) : Bool := decide (0 ≤ j) && decide (j ≤ 1000000) && decide (i.natAbs < 2 ^ 64)
def opFdiv := opI cDiv Int.fdiv
def opMod := opI cMod Int.fmod
def opPow := opI cPow fun i j => i ^ j.toNat
theorem sv_fdiv {K : PySem.W.Frag} : Sv2 K (rI CDivN fun i j => .int (i.fdiv j)) opFdiv := sv_I fun i j h => by
  have h1 : (decide (j ≠ 0) && decide (j.natAbs < 1073741824)) = true := h
  rw [Bool.and_eq_true] at h1
  exact ⟨of_decide_eq_true h1.1, of_decide_eq_true h1.2⟩
theorem sv_mod {K : PySem.W.Frag} : Sv2 K (rI (fun _ j => j ≠ 0) fun i j => .int (i.fmod j)) opMod := sv_I fun i j h => of_decide_eq_true h
theorem sv_pow {K : PySem.W.Frag} : Sv2 K (rI CPow fun i j => .int (i ^ j.toNat)) opPow := sv_I fun i j h => by
  have h1 : (decide (0 ≤ j) && decide (j ≤ 1000000) && decide (i.natAbs < 2 ^ 64)) = true := h
  rw [Bool.and_eq_true, Bool.and_eq_true] at h1
  exact ⟨of_decide_eq_true h1.1.1, of_decide_eq_true h1.1.2, of_decide_eq_true h1.2⟩
/-! ### * -/
def cMul (i j : Int) : Bool := (decide (-(2 ^ 64) < i) && decide (i < 2 ^ 64)) || (decide (-(2 ^ 64) < j) && decide (j < 2 ^ 64))
def opMul : T → T → Sh → Res T
  | .int i, .int j, s => if cMul i j then .ok (.int (i * j)) s else .bad
  | .str x, .int n, s => if 0 ≤ n ∧ n ≤ 1000 ∧ x.length ≤ 1000 then .ok (.str ⟨(List.replicate n.toNat x.cps.toList).flatten.toArray⟩) s else .bad
  | .lst xs, .int n, s => if -(2 ^ 63) ≤ n ∧ n < 2 ^ 63 ∧ xs.length * n.toNat ≤ sizeLine then .ok (.lst (List.replicate n.toNat xs).flatten) s else .bad
  | _, _, _ => .bad
theorem foldl_app (a : Array Nat) : ∀ (k : Nat) (acc : Array Nat), (List.replicate k a).foldl (· ++ ·) acc = acc ++ (List.replicate k a.toList).flatten.toArray
  | 0, acc => by simp
  | k + 1, acc => by
    rw [List.replicate_succ, List.foldl_cons, foldl_app a k, List.replicate_succ, List.flatten_cons, Array.append_assoc]
    congr 1
    simp
theorem mul_eq (x : Str) {n : Int} (h : 0 ≤ n) : Txt.mul x n = ⟨(List.replicate n.toNat x.cps.toList).flatten.toArray⟩ := by
  unfold Txt.mul
  by_cases h1 : n < 1
  · have : n = 0 := by omega
    subst this
    rw [if_pos (by decide)]
    rfl
  · rw [if_neg h1]
    by_cases h2 : (n == 1 || x.length == 0) = true
    · rw [if_pos h2]
      rcases Bool.or_eq_true_iff.mp h2 with h3 | h3
      · have : n = 1 := by simpa using h3
        subst this
        simp
      · have h4 : x.cps.size = 0 := by
          have : x.length = 0 := by simpa using h3
          exact this
        have h5 : x.cps = #[] := Array.eq_empty_of_size_eq_zero h4
        cases x with
        | mk c =>
          simp only at h5
          subst h5
          congr 1
          simp
    · rw [if_neg h2]
      congr 1
      rw [foldl_app]
      simp
theorem flat_len {α : Type} (l : List α) : ∀ k : Nat, (List.replicate k l).flatten.length = k * l.length
  | 0 => by simp
  | k + 1 => by rw [List.replicate_succ, List.flatten_cons, List.length_append, flat_len l k, Nat.succ_mul]; omega
def rMulS : R2 := fun x y H Q => ∃ (z : Str) (n : Int), x = .str z ∧ y = .int n ∧ 0 ≤ n ∧ n ≤ 1000 ∧ z.length ≤ 1000 ∧ Q (.str ⟨(List.replicate n.toNat z.cps.toList).flatten.toArray⟩) H
theorem op_mulS {X : Cx} : OpR X (binaryOp .Mult) rMulS := by
  intro pins s σ H x y v u Q I rx ry h
  obtain ⟨z, n, rfl, rfl, h0, h1, h2, q⟩ := h
  obtain ⟨t, rfl⟩ := rx
  obtain ⟨t', rfl⟩ := ry
  have e : z.length = z.cps.size := rfl
  have a1 : (z.length : Int) ≤ 1000 := by omega
  refine SB.mul ⟨?_, fun g1 _ => ?_, fun g1 _ => ?_⟩ fun t2 k => ?_
  · rw [Bool.or_eq_false_iff]
    exact ⟨decide_eq_false (by omega), decide_eq_false (by omega)⟩
  · intro hc
    have b1 : (1000 : Int) ≤ (2 ^ 63 - 1) / n := by
      refine (Int.le_ediv_iff_mul_le (by omega)).mpr ?_
      omega
    omega
  · show decide _ = false
    refine decide_eq_false ?_
    have b2 : z.length * n.toNat ≤ 1000 * 1000 := Nat.mul_le_mul (by omega) (by omega)
    have b3 : (1000 * 1000 : Nat) ≤ sizeLine := by decide
    omega
  · rw [mul_eq z h0]
    exact ⟨.str _, H, I.tok _, ⟨t2, rfl⟩, q⟩
def rMulA (K : PySem.W.Frag) : R2 := fun x y H Q => rI CMul (fun i j => .int (i * j)) x y H Q ∨ rMulS x y H Q ∨ rRep x y H Q
theorem orp_mul {X : Cx} : OpR X (binaryOp .Mult) (rMulA X.K) := OpR.or op_mul (OpR.or op_mulS op_rep)
theorem sv_mul {K : PySem.W.Frag} : Sv2 K (rMulA K) opMul := by
  intro W G loc sh σ H x y tx ty Q ok rx ry p
  cases tx with
  | int i =>
    cases ty with
    | int j =>
      cases rx; cases ry
      by_cases e : cMul i j = true
      · have e2 : opMul (.int i) (.int j) sh = .ok (.int (i * j)) sh := if_pos e
        rw [e2] at p
        have e3 : ((decide (-(2 ^ 64) < i) && decide (i < 2 ^ 64)) || (decide (-(2 ^ 64) < j) && decide (j < 2 ^ 64))) = true := e
        refine .inl ⟨i, j, rfl, rfl, ?_, p _ H G (GLe.refl _) ok rfl⟩
        rcases Bool.or_eq_true_iff.mp e3 with q | q
        · exact .inl ⟨of_decide_eq_true (Bool.and_eq_true_iff.mp q).1, of_decide_eq_true (Bool.and_eq_true_iff.mp q).2⟩
        · exact .inr ⟨of_decide_eq_true (Bool.and_eq_true_iff.mp q).1, of_decide_eq_true (Bool.and_eq_true_iff.mp q).2⟩
      · have e2 : opMul (.int i) (.int j) sh = .bad := if_neg e
        rw [e2] at p
        exact p.elim
    | _ => exact p.elim
  | str z =>
    cases ty with
    | int n =>
      obtain ⟨rfl, lz⟩ := rx
      cases ry
      by_cases e : 0 ≤ n ∧ n ≤ 1000 ∧ z.length ≤ 1000
      · have e2 : opMul (.str z) (.int n) sh = .ok (.str ⟨(List.replicate n.toNat z.cps.toList).flatten.toArray⟩) sh := if_pos e
        rw [e2] at p
        refine .inr (.inl ⟨z, n, rfl, rfl, e.1, e.2.1, e.2.2, p _ H G (GLe.refl _) ok ⟨rfl, ?_⟩⟩)
        show ((List.replicate n.toNat z.cps.toList).flatten.toArray).size ≤ _
        rw [List.size_toArray, flat_len, Array.length_toList]
        have b2 : n.toNat * z.cps.size ≤ 1000 * 1000 := Nat.mul_le_mul (by omega) e.2.2
        have : (1000 * 1000 : Nat) ≤ sizeLine := by decide
        omega
      · have e2 : opMul (.str z) (.int n) sh = .bad := if_neg e
        rw [e2] at p
        exact p.elim
    | _ => exact p.elim
  | lst xs =>
    cases ty with
    | int n =>
      obtain ⟨a, vs, rfl, h1, r1, _⟩ := ok.hl rx
      cases ry
      by_cases e : -(2 ^ 63) ≤ n ∧ n < 2 ^ 63 ∧ xs.length * n.toNat ≤ sizeLine
      · have e2 : opMul (.lst xs) (.int n) sh = .ok (.lst (List.replicate n.toNat xs).flatten) sh := if_pos e
        rw [e2] at p
        exact .inr (.inr ⟨a, n, vs, rfl, rfl, h1, e.1, e.2.1, by rw [RepL.length r1]; exact e.2.2, ok.newL (RepL.replicate _ r1) (by rw [flat_len, Nat.mul_comm]; exact e.2.2) p⟩)
      · have e2 : opMul (.lst xs) (.int n) sh = .bad := if_neg e
        rw [e2] at p
        exact p.elim
    | _ => exact p.elim
  | _ => exact p.elim
def opNeg : T → Sh → Res T
  | .int i, s => .ok (.int (-i)) s
  | _, _ => .bad
section
variable {X : Cx} {W : WX} {a : Expr} {ea : Ev} {pos : Pos}
theorem t_neg (ha : TPE X W a ea) : TPE X W (.UnaryOp .USub a pos) (e1 opNeg ea) := PE.weak (pe_un un_neg ha) fun σ H Q ⟨G, loc, sh, ok, p⟩ => by
  refine ⟨G, loc, sh, ok, (post.bind (Rp := rpV X.K) p).imp ?_⟩
  rintro x H1 ⟨G1, tx, s1, l1, ok1, r1, p1⟩
  cases tx with
  | int i => exact ⟨i, r1, p1 _ H1 G1 (GLe.refl _) ok1 rfl⟩
  | _ => exact p1.elim
end
end TL

/-! tuples compared: only the first place that differs is asked -/
namespace PySem.SeqAt
open AutoSeq1 (wpAny_loadPart')
open MeetsSeq MeetsSeq2 MeetsSeq3 SeqRoads2
/-- pairs walked: k comes out -/
def CmpSeq (op : CmpOp) (A : Around) (s : Shared) (fin k : Bool) : List (Value × Value) → Prop
  | [] => k = fin
  | p :: t => ∃ b, EqAt A s p.1 p.2 b ∧ (b = true → CmpSeq op A s fin k t) ∧ (b = false → RcOp op A s p.1 p.2 k)
theorem tuple_ltS (l b : Addr) (items items2 : Array Value) (n n2 : Nat) (dd dd2 : Option Addr) (sl sl2 : Array (Option Value)) (k : Bool) :
    Meets (Builtin.«tuple.__lt__» ⟨[.ref l, .ref b], []⟩)
      (fun A R s => s.heap.get? l = some { cls := .type "tuple", dict := dd, data := .seq items n, slots := sl } ∧ s.heap.get? b = some { cls := .type "tuple", dict := dd2, data := .seq items2 n2, slots := sl2 } ∧
        CmpSeq .Lt A.in1 s (decide (items.size < items2.size)) k (items.toList.zip items2.toList) ∧ R (.ok (.ret (.bool k))) s) :=
  .of_wp fun prog w A R s h => by
    obtain ⟨hp, g, d, tk, os⟩ := s; obtain ⟨hl, hb, hc, h⟩ := h
    have f2 := AutoSeq1.sub_tuple_tuple
    wp_walk using wpAny_loadPart' hl, wpAny_loadPart' hb, wpAny_forIn_list _ (fun rest b s' => b.1 = none ∧ s' = ⟨hp, g, d, tk, os⟩ ∧ CmpSeq .Lt A.in1 ⟨hp, g, d, tk, os⟩ (decide (items.size < items2.size)) k rest) _
    case turn =>
      rintro ⟨y, x⟩ rest b s' ⟨hb', rfl, q, q1, q2, q3⟩
      refine wpAny_bind (q1 prog w _ _ ?_)
      cases q with
      | true =>
        wp_walk
        exact ⟨rfl, rfl, q2 rfl⟩
      | false =>
        have key : ∀ (E Q : Value → Shared → Prop), Q (.bool k) ⟨hp, g, d, tk, os⟩ → wpAny (model prog w) A.in1 (richCompare CmpOp.Lt y x) Q E ⟨hp, g, d, tk, os⟩ := fun E Q => q3 rfl prog w E Q
        dsimp only
        generalize richCompare CmpOp.Lt y x = rc at key ⊢
        wp_walk
        refine key _ _ ?_
        wp_walk
        exact ⟨_, rfl, h⟩
    case fin =>
      rintro ⟨b1, b2⟩ s' ⟨hb', rfl, hz⟩
      simp only at hb'
      subst hb'
      have hz : k = decide (items.size < items2.size) := hz
      rw [hz] at h
      wp_walk
      exact ⟨_, rfl, by simpa [Builtin.Tuple.tupleCompareSizes] using h⟩
    case h =>
      exact ⟨rfl, rfl, hc⟩
theorem tuple_gtS (l b : Addr) (items items2 : Array Value) (n n2 : Nat) (dd dd2 : Option Addr) (sl sl2 : Array (Option Value)) (k : Bool) :
    Meets (Builtin.«tuple.__gt__» ⟨[.ref l, .ref b], []⟩)
      (fun A R s => s.heap.get? l = some { cls := .type "tuple", dict := dd, data := .seq items n, slots := sl } ∧ s.heap.get? b = some { cls := .type "tuple", dict := dd2, data := .seq items2 n2, slots := sl2 } ∧
        CmpSeq .Gt A.in1 s (decide (items2.size < items.size)) k (items.toList.zip items2.toList) ∧ R (.ok (.ret (.bool k))) s) :=
  .of_wp fun prog w A R s h => by
    obtain ⟨hp, g, d, tk, os⟩ := s; obtain ⟨hl, hb, hc, h⟩ := h
    have f2 := AutoSeq1.sub_tuple_tuple
    wp_walk using wpAny_loadPart' hl, wpAny_loadPart' hb, wpAny_forIn_list _ (fun rest b s' => b.1 = none ∧ s' = ⟨hp, g, d, tk, os⟩ ∧ CmpSeq .Gt A.in1 ⟨hp, g, d, tk, os⟩ (decide (items2.size < items.size)) k rest) _
    case turn =>
      rintro ⟨y, x⟩ rest b s' ⟨hb', rfl, q, q1, q2, q3⟩
      refine wpAny_bind (q1 prog w _ _ ?_)
      cases q with
      | true =>
        wp_walk
        exact ⟨rfl, rfl, q2 rfl⟩
      | false =>
        have key : ∀ (E Q : Value → Shared → Prop), Q (.bool k) ⟨hp, g, d, tk, os⟩ → wpAny (model prog w) A.in1 (richCompare CmpOp.Gt y x) Q E ⟨hp, g, d, tk, os⟩ := fun E Q => q3 rfl prog w E Q
        dsimp only
        generalize richCompare CmpOp.Gt y x = rc at key ⊢
        wp_walk
        refine key _ _ ?_
        wp_walk
        exact ⟨_, rfl, h⟩
    case fin =>
      rintro ⟨b1, b2⟩ s' ⟨hb', rfl, hz⟩
      simp only at hb'
      subst hb'
      have hz : k = decide (items2.size < items.size) := hz
      rw [hz] at h
      wp_walk
      exact ⟨_, rfl, by simpa [Builtin.Tuple.tupleCompareSizes] using h⟩
    case h =>
      exact ⟨rfl, rfl, hc⟩
section
variable {A : Around} {s : Shared} {l b : Addr} {items items2 : Array Value} {k : Bool}
theorem rc_tuples_lt (hl : s.heap.IsTuple l items) (hb : s.heap.IsTuple b items2) (hu : A.units < cLine) (hc : CmpSeq .Lt A.in1 s (decide (items.size < items2.size)) k (items.toList.zip items2.toList)) : RcOp .Lt A s (.ref l) (.ref b) k := fun prog w E Q h => by
  obtain ⟨⟨c1, d1, da1, s1⟩, ho, hc1, n, hd⟩ := hl
  obtain ⟨⟨c2, d2, da2, s2⟩, ho2, hc2, n2, hd2⟩ := hb
  cases hc1; cases hc2; cases hd; cases hd2
  exact richCompare_meets_room (op := .Lt) ⟨_, ho, rfl⟩ ⟨_, ho2, rfl⟩ F.slot_tuple_lt F.entry_tuple_lt (F.args_tuple_lt_2 _ _) (tuple_ltS l b items items2 n n2 d1 d2 s1 s2 k)
    ⟨ho, ho2, hc, show Value.bool k ≠ Value.notImplemented ∧ Q (.bool k) s from ⟨(fun x => nomatch x), h⟩⟩ hu
theorem rc_tuples_gt (hl : s.heap.IsTuple l items) (hb : s.heap.IsTuple b items2) (hu : A.units < cLine) (hc : CmpSeq .Gt A.in1 s (decide (items2.size < items.size)) k (items.toList.zip items2.toList)) : RcOp .Gt A s (.ref l) (.ref b) k := fun prog w E Q h => by
  obtain ⟨⟨c1, d1, da1, s1⟩, ho, hc1, n, hd⟩ := hl
  obtain ⟨⟨c2, d2, da2, s2⟩, ho2, hc2, n2, hd2⟩ := hb
  cases hc1; cases hc2; cases hd; cases hd2
  exact richCompare_meets_room (op := .Gt) ⟨_, ho, rfl⟩ ⟨_, ho2, rfl⟩ F.slot_tuple_gt F.entry_tuple_gt (F.args_tuple_gt_2 _ _) (tuple_gtS l b items items2 n n2 d1 d2 s1 s2 k)
    ⟨ho, ho2, hc, show Value.bool k ≠ Value.notImplemented ∧ Q (.bool k) s from ⟨(fun x => nomatch x), h⟩⟩ hu
end
end PySem.SeqAt

/-! data that is compared: numbers, texts, tuples of these -/
namespace PySem.SeqAt
open PySem.W (eqv_comm eqv_all_cons)
mutual
/-- x < y, where Python says it -/
def ordD : PyData → PyData → Option Bool
  | .int a, .int b => some (decide (a < b))
  | .str a, .str b => some (decide (a.cps.toList < b.cps.toList))
  | .tuple xs, .tuple ys => ordDs xs ys
  | _, _ => none
def ordDs : List PyData → List PyData → Option Bool
  | [], [] => some false
  | [], _ :: _ => some true
  | _ :: _, [] => some false
  | x :: xs, y :: ys => if PyData.eqv x y then ordDs xs ys else ordD x y
end
theorem plain_cons {x : PyData} {xs : List PyData} (h : PyData.plainAll (x :: xs) = true) : x.plain = true ∧ PyData.plainAll xs = true := by
  have h' : (x.plain && PyData.plainAll xs) = true := h
  rw [Bool.and_eq_true] at h'
  exact h'
mutual
theorem rcLt_ord : ∀ (da db : PyData) (A : Around) (s : Shared) (a b : Value) (as bs : List Addr) (k : Bool), Reads s.heap a da as → Reads s.heap b db bs → da.plain = true → db.plain = true → A.units + min da.depth db.depth < cLine → ordD da db = some k → RcOp .Lt A s a b k
  | .int x, .int y, A, s, _, _, _, _, k, .int _ t, .int _ u, _, _, _, h => fun prog w E Q hq => by
    cases Option.some.inj h
    exact P.lt_int hq
  | .str x, .str y, A, s, _, _, _, _, k, .str _ t, .str _ u, _, _, _, h => fun prog w E Q hq => by
    cases Option.some.inj h
    exact P.lt_str hq
  | .tuple xs, .tuple ys, A, s, _, _, _, _, k, @Reads.tuple _ l o vs n _ _ h1 h2 h3 h4, @Reads.tuple _ l' o' vs' n' _ _ k1 k2 k3 k4, p1, p2, hu, h => by
    have n1 : vs.size = xs.length := by simpa using ReadsAll.length _ _ _ h4
    have n2 : vs'.size = ys.length := by simpa using ReadsAll.length _ _ _ k4
    refine rc_tuples_lt ⟨_, h1, h2, _, h3⟩ ⟨_, k1, k2, _, k3⟩ (room_here hu) ?_
    rw [n1, n2]
    exact seqLt_ord xs ys A.in1 s vs.toList vs'.toList _ _ k h4 k4 p1 p2 (room_in hu) h
  | .none, _, _, _, _, _, _, _, _, _, _, _, _, _, h => by simp [ordD] at h
  | .bool _, _, _, _, _, _, _, _, _, _, _, _, _, _, h => by simp [ordD] at h
  | .list _, _, _, _, _, _, _, _, _, _, _, _, _, _, h => by simp [ordD] at h
  | .dict _, _, _, _, _, _, _, _, _, _, _, _, _, _, h => by simp [ordD] at h
  | .int _, .none, _, _, _, _, _, _, _, _, _, _, _, _, h => by simp [ordD] at h
  | .int _, .bool _, _, _, _, _, _, _, _, _, _, _, _, _, h => by simp [ordD] at h
  | .int _, .str _, _, _, _, _, _, _, _, _, _, _, _, _, h => by simp [ordD] at h
  | .int _, .list _, _, _, _, _, _, _, _, _, _, _, _, _, h => by simp [ordD] at h
  | .int _, .tuple _, _, _, _, _, _, _, _, _, _, _, _, _, h => by simp [ordD] at h
  | .int _, .dict _, _, _, _, _, _, _, _, _, _, _, _, _, h => by simp [ordD] at h
  | .str _, .none, _, _, _, _, _, _, _, _, _, _, _, _, h => by simp [ordD] at h
  | .str _, .bool _, _, _, _, _, _, _, _, _, _, _, _, _, h => by simp [ordD] at h
  | .str _, .int _, _, _, _, _, _, _, _, _, _, _, _, _, h => by simp [ordD] at h
  | .str _, .list _, _, _, _, _, _, _, _, _, _, _, _, _, h => by simp [ordD] at h
  | .str _, .tuple _, _, _, _, _, _, _, _, _, _, _, _, _, h => by simp [ordD] at h
  | .str _, .dict _, _, _, _, _, _, _, _, _, _, _, _, _, h => by simp [ordD] at h
  | .tuple _, .none, _, _, _, _, _, _, _, _, _, _, _, _, h => by simp [ordD] at h
  | .tuple _, .bool _, _, _, _, _, _, _, _, _, _, _, _, _, h => by simp [ordD] at h
  | .tuple _, .int _, _, _, _, _, _, _, _, _, _, _, _, _, h => by simp [ordD] at h
  | .tuple _, .str _, _, _, _, _, _, _, _, _, _, _, _, _, h => by simp [ordD] at h
  | .tuple _, .list _, _, _, _, _, _, _, _, _, _, _, _, _, h => by simp [ordD] at h
  | .tuple _, .dict _, _, _, _, _, _, _, _, _, _, _, _, _, h => by simp [ordD] at h
theorem seqLt_ord : ∀ (xs ys : List PyData) (A : Around) (s : Shared) (vs ws : List Value) (as bs : List Addr) (k : Bool), ReadsAll s.heap vs xs as → ReadsAll s.heap ws ys bs → PyData.plainAll xs = true → PyData.plainAll ys = true → A.units + min (PyData.depthAll xs) (PyData.depthAll ys) < cLine → ordDs xs ys = some k → CmpSeq .Lt A s (decide (xs.length < ys.length)) k (vs.zip ws)
  | [], [], _, _, _, _, _, _, k, ra, rb, _, _, _, h => by
    cases ra; cases rb
    have h' : some false = some k := by simpa [ordDs] using h
    cases h'
    rfl
  | [], y :: ys, _, _, _, _, _, _, k, ra, rb, _, _, _, h => by
    cases ra
    have h' : some true = some k := by simpa [ordDs] using h
    cases h'
    rw [List.zip_nil_left]
    exact (decide_eq_true (Nat.succ_pos _)).symm
  | x :: xs, [], _, _, _, _, _, _, k, ra, rb, _, _, _, h => by
    cases rb
    have h' : some false = some k := by simpa [ordDs] using h
    cases h'
    rw [List.zip_nil_right]
    exact (decide_eq_false (Nat.not_lt_zero _)).symm
  | x :: xs, y :: ys, A, s, _, _, _, _, k, ra, rb, p1, p2, hu, h => by
    cases ra with
    | cons r rs =>
      cases rb with
      | cons r' rs' =>
        obtain ⟨p1, p3⟩ := plain_cons p1
        obtain ⟨p2, p4⟩ := plain_cons p2
        rw [List.zip_cons_cons]
        refine ⟨PyData.eqv x y, eqAt_plain x y A s _ _ _ _ r r' p1 p2 (room_head hu), fun e => ?_, fun e => ?_⟩
        · have h' : ordDs xs ys = some k := by simpa [ordDs, e] using h
          have := seqLt_ord xs ys A s _ _ _ _ k rs rs' p3 p4 (room_tail hu) h'
          simpa [Nat.add_lt_add_iff_right] using this
        · have h' : ordD x y = some k := by simpa [ordDs, e] using h
          exact rcLt_ord x y A s _ _ _ _ k r r' p1 p2 (room_head hu) h'
end
mutual
theorem rcGt_ord : ∀ (da db : PyData) (A : Around) (s : Shared) (a b : Value) (as bs : List Addr) (k : Bool), Reads s.heap a da as → Reads s.heap b db bs → da.plain = true → db.plain = true → A.units + min da.depth db.depth < cLine → ordD db da = some k → RcOp .Gt A s a b k
  | .int x, .int y, A, s, _, _, _, _, k, .int _ t, .int _ u, _, _, _, h => fun prog w E Q hq => by
    cases Option.some.inj h
    exact P.gt_int hq
  | .str x, .str y, A, s, _, _, _, _, k, .str _ t, .str _ u, _, _, _, h => fun prog w E Q hq => by
    cases Option.some.inj h
    exact P.gt_str hq
  | .tuple xs, .tuple ys, A, s, _, _, _, _, k, @Reads.tuple _ l o vs n _ _ h1 h2 h3 h4, @Reads.tuple _ l' o' vs' n' _ _ k1 k2 k3 k4, p1, p2, hu, h => by
    have n1 : vs.size = xs.length := by simpa using ReadsAll.length _ _ _ h4
    have n2 : vs'.size = ys.length := by simpa using ReadsAll.length _ _ _ k4
    refine rc_tuples_gt ⟨_, h1, h2, _, h3⟩ ⟨_, k1, k2, _, k3⟩ (room_here hu) ?_
    rw [n1, n2]
    exact seqGt_ord xs ys A.in1 s vs.toList vs'.toList _ _ k h4 k4 p1 p2 (room_in hu) h
  | .none, _, _, _, _, _, _, _, _, _, _, _, _, _, h => by simp [ordD] at h
  | .bool _, _, _, _, _, _, _, _, _, _, _, _, _, _, h => by simp [ordD] at h
  | .list _, _, _, _, _, _, _, _, _, _, _, _, _, _, h => by simp [ordD] at h
  | .dict _, _, _, _, _, _, _, _, _, _, _, _, _, _, h => by simp [ordD] at h
  | .int _, .none, _, _, _, _, _, _, _, _, _, _, _, _, h => by simp [ordD] at h
  | .int _, .bool _, _, _, _, _, _, _, _, _, _, _, _, _, h => by simp [ordD] at h
  | .int _, .str _, _, _, _, _, _, _, _, _, _, _, _, _, h => by simp [ordD] at h
  | .int _, .list _, _, _, _, _, _, _, _, _, _, _, _, _, h => by simp [ordD] at h
  | .int _, .tuple _, _, _, _, _, _, _, _, _, _, _, _, _, h => by simp [ordD] at h
  | .int _, .dict _, _, _, _, _, _, _, _, _, _, _, _, _, h => by simp [ordD] at h
  | .str _, .none, _, _, _, _, _, _, _, _, _, _, _, _, h => by simp [ordD] at h
  | .str _, .bool _, _, _, _, _, _, _, _, _, _, _, _, _, h => by simp [ordD] at h
  | .str _, .int _, _, _, _, _, _, _, _, _, _, _, _, _, h => by simp [ordD] at h
  | .str _, .list _, _, _, _, _, _, _, _, _, _, _, _, _, h => by simp [ordD] at h
  | .str _, .tuple _, _, _, _, _, _, _, _, _, _, _, _, _, h => by simp [ordD] at h
  | .str _, .dict _, _, _, _, _, _, _, _, _, _, _, _, _, h => by simp [ordD] at h
  | .tuple _, .none, _, _, _, _, _, _, _, _, _, _, _, _, h => by simp [ordD] at h
  | .tuple _, .bool _, _, _, _, _, _, _, _, _, _, _, _, _, h => by simp [ordD] at h
  | .tuple _, .int _, _, _, _, _, _, _, _, _, _, _, _, _, h => by simp [ordD] at h
  | .tuple _, .str _, _, _, _, _, _, _, _, _, _, _, _, _, h => by simp [ordD] at h
  | .tuple _, .list _, _, _, _, _, _, _, _, _, _, _, _, _, h => by simp [ordD] at h
  | .tuple _, .dict _, _, _, _, _, _, _, _, _, _, _, _, _, h => by simp [ordD] at h
theorem seqGt_ord : ∀ (xs ys : List PyData) (A : Around) (s : Shared) (vs ws : List Value) (as bs : List Addr) (k : Bool), ReadsAll s.heap vs xs as → ReadsAll s.heap ws ys bs → PyData.plainAll xs = true → PyData.plainAll ys = true → A.units + min (PyData.depthAll xs) (PyData.depthAll ys) < cLine → ordDs ys xs = some k → CmpSeq .Gt A s (decide (ys.length < xs.length)) k (vs.zip ws)
  | [], [], _, _, _, _, _, _, k, ra, rb, _, _, _, h => by
    cases ra; cases rb
    have h' : some false = some k := by simpa [ordDs] using h
    cases h'
    rfl
  | [], y :: ys, _, _, _, _, _, _, k, ra, rb, _, _, _, h => by
    cases ra
    have h' : some false = some k := by simpa [ordDs] using h
    cases h'
    rw [List.zip_nil_left]
    exact (decide_eq_false (Nat.not_lt_zero _)).symm
  | x :: xs, [], _, _, _, _, _, _, k, ra, rb, _, _, _, h => by
    cases rb
    have h' : some true = some k := by simpa [ordDs] using h
    cases h'
    rw [List.zip_nil_right]
    exact (decide_eq_true (Nat.succ_pos _)).symm
  | x :: xs, y :: ys, A, s, _, _, _, _, k, ra, rb, p1, p2, hu, h => by
    cases ra with
    | cons r rs =>
      cases rb with
      | cons r' rs' =>
        obtain ⟨p1, p3⟩ := plain_cons p1
        obtain ⟨p2, p4⟩ := plain_cons p2
        rw [List.zip_cons_cons]
        refine ⟨PyData.eqv x y, eqAt_plain x y A s _ _ _ _ r r' p1 p2 (room_head hu), fun e => ?_, fun e => ?_⟩
        · have h' : ordDs ys xs = some k := by simpa [ordDs, eqv_comm y x, e] using h
          have := seqGt_ord xs ys A s _ _ _ _ k rs rs' p3 p4 (room_tail hu) h'
          simpa [Nat.add_lt_add_iff_right] using this
        · have h' : ordD y x = some k := by simpa [ordDs, eqv_comm y x, e] using h
          exact rcGt_ord x y A s _ _ _ _ k r r' p1 p2 (room_head hu) h'
end
end PySem.SeqAt

/-! the T-layer, 6: comparisons -/
namespace TL
open PySem PySem.Spec L2

/-! ### is None -/
def isNonT : T → Bool
  | .non => true
  | _ => false
def opIsN : T → T → Sh → Res T
  | x, .non, s => .ok (.bl (isNonT x)) s
  | _, _, _ => .bad
def opNotN : T → T → Sh → Res T
  | x, .non, s => .ok (.bl (!isNonT x)) s
  | _, _, _ => .bad
theorem rep_non {K : PySem.W.Frag} {G : Gh} {t : T} {v : V} (r : rep K G t v) : decide (v = V.non) = isNonT t := by
  cases t with
  | non => cases r; rfl
  | bl b => cases r; rfl
  | int i => cases r; rfl
  | str x => obtain ⟨rfl, _⟩ := r; rfl
  | lst xs => obtain ⟨_, _, rfl, _⟩ := r; rfl
  | tup xs => obtain ⟨_, _, rfl, _⟩ := r; rfl
  | dct xs => obtain ⟨_, _, rfl, _⟩ := r; rfl
  | cel k => obtain ⟨_, rfl, _⟩ := r; rfl
  | glo x => cases r; rfl
  | ty n => cases r; rfl
  | scr n => obtain ⟨_, rfl, _⟩ := r; rfl
theorem sv_isN {K : PySem.W.Frag} : Sv2 K (fun x y H Q => y = .non ∧ Q (.bl (decide (x = .non))) H) opIsN := by
  intro W G loc sh σ H x y tx ty Q ok rx ry p
  cases ty with
  | non => cases ry; exact ⟨rfl, by rw [rep_non rx]; exact p _ H G (GLe.refl _) ok rfl⟩
  | _ => cases tx <;> exact p.elim
theorem sv_notN {K : PySem.W.Frag} : Sv2 K (fun x y H Q => y = .non ∧ Q (.bl (!decide (x = .non))) H) opNotN := by
  intro W G loc sh σ H x y tx ty Q ok rx ry p
  cases ty with
  | non =>
    cases ry
    refine ⟨rfl, ?_⟩
    rw [rep_non rx]
    exact p _ H G (GLe.refl _) ok rfl
  | _ => cases tx <;> exact p.elim

/-! ### == and != -/
mutual
def toD : T → PyData
  | .non => .none
  | .bl b => .bool b
  | .int i => .int i
  | .str x => .str x
  | .lst xs => .list (toDs xs)
  | .tup xs => .tuple (toDs xs)
  | _ => .dict []
def toDs : List T → List PyData
  | [] => []
  | x :: xs => toD x :: toDs xs
end
mutual
def plainT : T → Bool
  | .non => true
  | .bl _ => true
  | .int _ => true
  | .str _ => true
  | .lst xs => plainTs xs
  | .tup xs => plainTs xs
  | _ => false
def plainTs : List T → Bool
  | [] => true
  | x :: xs => plainT x && plainTs xs
end
mutual
theorem plain_toD : ∀ t : T, plainT t = true → (toD t).plain = true
  | .non, _ => rfl
  | .bl _, _ => rfl
  | .int _, _ => rfl
  | .str _, _ => rfl
  | .lst xs, h => plain_toDs xs h
  | .tup xs, h => plain_toDs xs h
  | .dct _, h => by cases h
  | .cel _, h => by cases h
  | .glo _, h => by cases h
  | .ty _, h => by cases h
  | .scr _, h => by cases h
theorem plain_toDs : ∀ ts : List T, plainTs ts = true → PyData.plainAll (toDs ts) = true
  | [], _ => rfl
  | x :: xs, h => by
    have h1 : (plainT x && plainTs xs) = true := h
    rw [Bool.and_eq_true] at h1
    show ((toD x).plain && PyData.plainAll (toDs xs)) = true
    rw [plain_toD x h1.1, plain_toDs xs h1.2]
    rfl
end
mutual
theorem dp_of {K : PySem.W.Frag} {G : Gh} {H : Hp} (f : FLe G.F H) : ∀ (t : T) (v : V), plainT t = true → rep K G t v → Dp K H v (toD t)
  | .non, _, _, r => by cases r; exact .non
  | .bl _, _, _, r => by cases r; exact .bl _
  | .int _, _, _, r => by cases r; exact .int _
  | .str _, _, _, r => by obtain ⟨rfl, _⟩ := r; exact .str _
  | .lst xs, v, h, r => by
    obtain ⟨a, vs, rfl, q, r, _⟩ := r
    exact .lst (.of (f _ _ q)) (dps_of f xs vs h r)
  | .tup xs, v, h, r => by
    obtain ⟨a, vs, rfl, q, r, _⟩ := r
    exact .tup (SqT.fle f q) (dps_of f xs vs h r)
  | .dct _, _, h, _ => by cases h
  | .cel _, _, h, _ => by cases h
  | .glo _, _, h, _ => by cases h
  | .ty _, _, h, _ => by cases h
  | .scr _, _, h, _ => by cases h
theorem dps_of {K : PySem.W.Frag} {G : Gh} {H : Hp} (f : FLe G.F H) : ∀ (ts : List T) (vs : List V), plainTs ts = true → repL K G ts vs → DpAll K H vs (toDs ts)
  | [], _, _, r => by cases r; exact .nil
  | x :: xs, _, h, r => by
    obtain ⟨v, q, rfl, r1, r2⟩ := r
    have h1 : (plainT x && plainTs xs) = true := h
    rw [Bool.and_eq_true] at h1
    exact .cons (dp_of f x v h1.1 r1) (dps_of f xs q h1.2 r2)
end
/-- == of plain data -/
def eqT (x y : T) : Bool := PyData.eqv (toD x) (toD y)
def eqOk (x y : T) : Bool := plainT x && plainT y && decide (min (toD x).depth (toD y).depth ≤ 150)
def opEqv (neg : Bool) : T → T → Sh → Res T := fun x y s => match x, y with
  | .lst xs, .lst ys => if xs.length ≠ ys.length then .ok (.bl neg) s else if xs.isEmpty then .ok (.bl (!neg)) s else if eqOk x y then .ok (.bl (neg ^^ eqT x y)) s else .bad
  | .dct xs, .dct ys => if xs.length ≠ ys.length then .ok (.bl neg) s else if xs.isEmpty then .ok (.bl (!neg)) s else .bad
  | _, _ => if eqOk x y then .ok (.bl (neg ^^ eqT x y)) s else .bad
def opEq := opEqv false
def opNe := opEqv true
/-- the rule: plain data, or two lists or dicts of unlike lengths, or both empty -/
def rEqA (K : PySem.W.Frag) (neg : Bool) : R2 := fun x y H Q => (∃ d e, Dp K H x d ∧ Dp K H y e ∧ d.plain = true ∧ e.plain = true ∧ min d.depth e.depth ≤ 150 ∧ Q (.bl (neg ^^ PyData.eqv d e)) H) ∨
  (∃ a b xs ys, x = .ref a ∧ y = .ref b ∧ SqL K H a xs ∧ SqL K H b ys ∧ (xs.length ≠ ys.length ∨ xs = []) ∧ Q (.bl (neg ^^ decide (xs.length = ys.length))) H) ∨
  (∃ a b xs ys, x = .ref a ∧ y = .ref b ∧ Rd H a (.dK xs) ∧ Rd H b (.dK ys) ∧ (xs.length ≠ ys.length ∨ xs = []) ∧ Q (.bl (neg ^^ decide (xs.length = ys.length))) H)
section
variable {X : Cx}
theorem orp_eq (hu : X.A.units + 150 < cLine) : OpR X (compareOp .Eq) (rEqA X.K false) := by
  intro pins s σ H x y v u Q I rx ry h
  rcases h with ⟨d, e, hd, he, p1, p2, hm, q⟩ | ⟨a, b, xs, ys, rfl, rfl, ha, hb, hl, q⟩ | ⟨a, b, xs, ys, rfl, rfl, ha, hb, hl, q⟩
  · obtain ⟨as, r1⟩ := Dp.reads I d x v hd rx
    obtain ⟨bs, r2⟩ := Dp.reads I e y u he ry
    exact SeqAt.eq_plain r1 r2 p1 p2 (by omega) ⟨.bl _, H, I, by rw [Bool.false_xor]; rfl, q⟩
  · cases rx; cases ry
    obtain ⟨its, ra, la, za⟩ := I.list ha
    obtain ⟨itb, rb, lb, zb⟩ := I.list hb
    have e1 := ra.length
    have e2 := rb.length
    by_cases hz : xs.length = ys.length
    · have : xs = [] := hl.resolve_left (fun z => z hz)
      subst this
      have h1 : its = [] := List.length_eq_zero_iff.mp e1.symm
      have h2 : itb = [] := List.length_eq_zero_iff.mp (by rw [← e2, ← hz]; rfl)
      subst h1 h2
      refine SeqAt.RcAt.lists (e := fun _ => true) la.isList lb.isList rfl (by omega) (fun j h1 => absurd h1 (by simp)) X.prog X.w _ _ ?_
      refine ⟨.bl _, H, I, ?_, q⟩
      rw [decide_eq_true hz]
      rfl
    · refine SeqAt.RcAt.lists_lengths la.isList lb.isList (by simp only [List.size_toArray, bne_iff_ne]; omega) (by omega) X.prog X.w _ _ ?_
      refine ⟨.bl _, H, I, ?_, q⟩
      rw [decide_eq_false hz]
      rfl
  · cases rx; cases ry
    obtain ⟨_, ya, va, ra, da⟩ := dk_rd I.hok ha
    obtain ⟨_, yb, vb, rb, db⟩ := dk_rd I.hok hb
    have e1 := ra.length
    have e2 := rb.length
    refine PySem.W.keq_eq (knd := mixKind X.prog X.w) (r := true) ya yb da db (by omega) (fun hz => ?_) ?_
    · have h3 : xs.length = ys.length := by omega
      have : xs = [] := hl.resolve_left (fun z => z h3)
      subst this
      have h1 : va = [] := List.length_eq_zero_iff.mp e1.symm
      subst h1
      exact .nil
    · refine ⟨.bl _, H, I, ?_, q⟩
      show _ = Value.bool _
      rw [Bool.false_xor, Bool.and_true, Bool.beq_eq_decide_eq, e1, e2]
theorem orp_ne (hu : X.A.units + 150 < cLine) : OpR X (compareOp .NotEq) (rEqA X.K true) := by
  intro pins s σ H x y v u Q I rx ry h
  rcases h with ⟨d, e, hd, he, p1, p2, hm, q⟩ | ⟨a, b, xs, ys, rfl, rfl, ha, hb, hl, q⟩ | ⟨a, b, xs, ys, rfl, rfl, ha, hb, hl, q⟩
  · obtain ⟨as, r1⟩ := Dp.reads I d x v hd rx
    obtain ⟨bs, r2⟩ := Dp.reads I e y u he ry
    exact SeqAt.ne_plain r1 r2 p1 p2 (by omega) ⟨.bl _, H, I, by rw [Bool.true_xor]; rfl, q⟩
  · cases rx; cases ry
    obtain ⟨its, ra, la, za⟩ := I.list ha
    obtain ⟨itb, rb, lb, zb⟩ := I.list hb
    have e1 := ra.length
    have e2 := rb.length
    by_cases hz : xs.length = ys.length
    · have : xs = [] := hl.resolve_left (fun z => z hz)
      subst this
      have h1 : its = [] := List.length_eq_zero_iff.mp e1.symm
      have h2 : itb = [] := List.length_eq_zero_iff.mp (by rw [← e2, ← hz]; rfl)
      subst h1 h2
      refine SeqAt.RcNeAt.lists (e := fun _ => true) la.isList lb.isList rfl (by omega) (fun j h1 => absurd h1 (by simp)) X.prog X.w _ _ ?_
      refine ⟨.bl _, H, I, ?_, q⟩
      rw [decide_eq_true hz]
      rfl
    · refine SeqAt.RcNeAt.lists_lengths la.isList lb.isList (by simp only [List.size_toArray, bne_iff_ne]; omega) (by omega) X.prog X.w _ _ ?_
      refine ⟨.bl _, H, I, ?_, q⟩
      rw [decide_eq_false hz]
      rfl
  · cases rx; cases ry
    obtain ⟨_, ya, va, ra, da⟩ := dk_rd I.hok ha
    obtain ⟨_, yb, vb, rb, db⟩ := dk_rd I.hok hb
    have e1 := ra.length
    have e2 := rb.length
    refine PySem.W.keq_ne (knd := mixKind X.prog X.w) (r := true) ya yb da db (by omega) (fun hz => ?_) ?_
    · have h3 : xs.length = ys.length := by omega
      have : xs = [] := hl.resolve_left (fun z => z h3)
      subst this
      have h1 : va = [] := List.length_eq_zero_iff.mp e1.symm
      subst h1
      exact .nil
    · refine ⟨.bl _, H, I, ?_, q⟩
      show _ = Value.bool _
      rw [Bool.true_xor, Bool.and_true, Bool.beq_eq_decide_eq, e1, e2]
end
theorem sv_eqv {K : PySem.W.Frag} {neg : Bool} : Sv2 K (rEqA K neg) (opEqv neg) := by
  intro W G loc sh σ H x y tx ty Q ok rx ry p
  have gen : post (rpV K) K W G loc σ (if eqOk tx ty then .ok (.bl (neg ^^ eqT tx ty)) sh else .bad : Res T) Q → rEqA K neg x y H Q := fun p => by
    by_cases h : eqOk tx ty = true
    · rw [if_pos h] at p
      have h1 : (plainT tx && plainT ty && decide (min (toD tx).depth (toD ty).depth ≤ 150)) = true := h
      rw [Bool.and_eq_true, Bool.and_eq_true] at h1
      exact .inl ⟨_, _, dp_of ok.fle tx x h1.1.1 rx, dp_of ok.fle ty y h1.1.2 ry, plain_toD _ h1.1.1, plain_toD _ h1.1.2, of_decide_eq_true h1.2, p _ H G (GLe.refl _) ok rfl⟩
    · rw [if_neg h] at p
      exact p.elim
  unfold opEqv at p
  split at p
  · rename_i xs ys
    obtain ⟨a, vs, rfl, h1, r1, _⟩ := ok.hl rx
    obtain ⟨b, ws, rfl, h2, r2, _⟩ := ok.hl ry
    have e1 := RepL.length r1
    have e2 := RepL.length r2
    by_cases hz : xs.length ≠ ys.length
    · rw [if_pos hz] at p
      have n : vs.length ≠ ws.length := by omega
      refine .inr (.inl ⟨a, b, vs, ws, rfl, rfl, .of h1, .of h2, .inl n, ?_⟩)
      rw [decide_eq_false n, Bool.xor_false]
      exact p _ H G (GLe.refl _) ok rfl
    · rw [if_neg hz] at p
      by_cases he : xs.isEmpty = true
      · rw [if_pos he] at p
        have ex : xs = [] := List.isEmpty_iff.mp he
        subst ex
        have ev : vs = [] := List.length_eq_zero_iff.mp e1
        have n : vs.length = ws.length := by
          have : ([] : List T).length = ys.length := Classical.not_not.mp hz
          omega
        refine .inr (.inl ⟨a, b, vs, ws, rfl, rfl, .of h1, .of h2, .inr ev, ?_⟩)
        rw [decide_eq_true n, Bool.xor_true]
        exact p _ H G (GLe.refl _) ok rfl
      · rw [if_neg he] at p
        exact gen p
  · rename_i xs ys
    obtain ⟨a, vs, rfl, h1, r1, _⟩ := ok.hd rx
    obtain ⟨b, ws, rfl, h2, r2, _⟩ := ok.hd ry
    have e1 := RepD.length r1
    have e2 := RepD.length r2
    by_cases hz : xs.length ≠ ys.length
    · rw [if_pos hz] at p
      have n : vs.length ≠ ws.length := by omega
      refine .inr (.inr ⟨a, b, vs, ws, rfl, rfl, h1, h2, .inl n, ?_⟩)
      rw [decide_eq_false n, Bool.xor_false]
      exact p _ H G (GLe.refl _) ok rfl
    · rw [if_neg hz] at p
      by_cases he : xs.isEmpty = true
      · rw [if_pos he] at p
        have ex : xs = [] := List.isEmpty_iff.mp he
        subst ex
        have ev : vs = [] := List.length_eq_zero_iff.mp e1
        have n : vs.length = ws.length := by
          have : ([] : List (Key × T)).length = ys.length := Classical.not_not.mp hz
          simp at this
          omega
        refine .inr (.inr ⟨a, b, vs, ws, rfl, rfl, h1, h2, .inr ev, ?_⟩)
        rw [decide_eq_true n, Bool.xor_true]
        exact p _ H G (GLe.refl _) ok rfl
      · rw [if_neg he] at p
        exact p.elim
  · exact gen p

/-! ### in, not in -/
def keyOf : T → Option Key
  | .int i => some (.inl i)
  | .str x => some (.inr x)
  | _ => none
/-- a text within a text -/
def inStr (x y : Str) : Bool := match x.cps.toList with
  | [c] => decide (c ∈ y.cps.toList)
  | _ => !(Builtin.Str.occurrences y x 0 y.length 1).isEmpty
def inT (x : T) (ys : List T) : Bool := ys.any fun y => eqT y x
def inOk (x : T) (ys : List T) : Bool := plainT x && plainTs ys && decide (min (PyData.depthAll (toDs ys)) (toD x).depth ≤ 150)
def opInv (neg : Bool) : T → T → Sh → Res T := fun x y s => match x, y with
  | .str z, .str t => .ok (.bl (neg ^^ inStr z t)) s
  | _, .dct kvs => match keyOf x with
    | some k => .ok (.bl (neg ^^ (dgetT kvs k).isSome)) s
    | none => .bad
  | _, .lst ys => if inOk x ys then .ok (.bl (neg ^^ inT x ys)) s else .bad
  | _, .tup ys => if inOk x ys then .ok (.bl (neg ^^ inT x ys)) s else .bad
  | _, _ => .bad
def opIn := opInv false
def opNotIn := opInv true
def rInA (K : PySem.W.Frag) (neg : Bool) : R2 := fun x y H Q => (∃ i j, x = .str i ∧ y = .str j ∧ Q (.bl (neg ^^ inStr i j)) H) ∨ (∃ a o, y = .ref a ∧ DGet H a x o ∧ Q (.bl (neg ^^ o.isSome)) H) ∨
  (∃ d ds, Dp K H x d ∧ (Dp K H y (.list ds) ∨ Dp K H y (.tuple ds)) ∧ d.plain = true ∧ PyData.plainAll ds = true ∧ min (PyData.depthAll ds) d.depth ≤ 150 ∧ Q (.bl (neg ^^ ds.any fun z => PyData.eqv z d)) H)
theorem Str.one {x : Str} {c : Nat} (h : x.cps.toList = [c]) : x = ⟨#[c]⟩ := by
  cases x with
  | mk a =>
    have : a = #[c] := by
      apply Array.toList_inj.mp
      rw [h]
    rw [this]
section
variable {X : Cx}
theorem orp_in (hu : X.A.units + 160 < cLine) : OpR X (compareOp .In) (rInA X.K false) := by
  intro pins s σ H x y v u Q I rx ry h
  rcases h with ⟨i, j, rfl, rfl, q⟩ | ⟨a, o, rfl, g, q⟩ | ⟨d, ds, hd, he, p1, p2, hm, q⟩
  · rw [Bool.false_xor] at q
    unfold inStr at q
    split at q
    · rename_i c e
      have := Str.one e
      subst this
      exact op_in_sign pins s σ H _ _ v u Q I rx ry ⟨c, j, rfl, rfl, q⟩
    · exact op_in_str pins s σ H _ _ v u Q I rx ry ⟨i, j, rfl, rfl, q⟩
  · cases ry
    rw [Bool.false_xor] at q
    exact d_in (by omega) I g rx fun s' I' => ⟨.bl _, H, I', rfl, q⟩
  · rw [Bool.false_xor] at q
    obtain ⟨as, r1⟩ := Dp.reads I d x v hd rx
    rcases he with he | he
    · obtain ⟨bs, r2⟩ := Dp.reads I _ y u he ry
      exact SeqAt.in_list_data r2 r1 p2 p1 (by omega) ⟨.bl _, H, I, rfl, q⟩
    · obtain ⟨bs, r2⟩ := Dp.reads I _ y u he ry
      exact SeqAt.in_tuple_data r2 r1 p2 p1 (by omega) ⟨.bl _, H, I, rfl, q⟩
theorem orp_notin (hu : X.A.units + 160 < cLine) : OpR X (compareOp .NotIn) (rInA X.K true) := by
  intro pins s σ H x y v u Q I rx ry h
  rcases h with ⟨i, j, rfl, rfl, q⟩ | ⟨a, o, rfl, g, q⟩ | ⟨d, ds, hd, he, p1, p2, hm, q⟩
  · rw [Bool.true_xor] at q
    unfold inStr at q
    split at q
    · rename_i c e
      have := Str.one e
      subst this
      exact op_notIn_sign pins s σ H _ _ v u Q I rx ry ⟨c, j, rfl, rfl, q⟩
    · exact op_notin_str pins s σ H _ _ v u Q I rx ry ⟨i, j, rfl, rfl, q⟩
  · cases ry
    rw [Bool.true_xor] at q
    exact d_notIn (by omega) I g rx fun s' I' => ⟨.bl _, H, I', rfl, q⟩
  · rw [Bool.true_xor] at q
    obtain ⟨as, r1⟩ := Dp.reads I d x v hd rx
    rcases he with he | he
    · obtain ⟨bs, r2⟩ := Dp.reads I _ y u he ry
      exact SeqAt.notIn_list_data r2 r1 p2 p1 (by omega) ⟨.bl _, H, I, rfl, q⟩
    · obtain ⟨bs, r2⟩ := Dp.reads I _ y u he ry
      exact SeqAt.notIn_tuple_data r2 r1 p2 p1 (by omega) ⟨.bl _, H, I, rfl, q⟩
end
theorem any_toDs (x : T) : ∀ ys : List T, (toDs ys).any (fun z => PyData.eqv z (toD x)) = inT x ys
  | [] => rfl
  | y :: ys => by
    show (PyData.eqv (toD y) (toD x) || (toDs ys).any fun z => PyData.eqv z (toD x)) = (eqT y x || ys.any fun y => eqT y x)
    rw [any_toDs x ys]
    rfl
theorem keyOf_rep {K : PySem.W.Frag} {G : Gh} {t : T} {v : V} {k : Key} (r : rep K G t v) (e : keyOf t = some k) : v = kV k := by
  cases t with
  | int i => cases e; exact r
  | str x => cases e; exact r.1
  | _ => cases e
theorem sv_inv {K : PySem.W.Frag} {neg : Bool} : Sv2 K (rInA K neg) (opInv neg) := by
  intro W G loc sh σ H x y tx ty Q ok rx ry p
  have seq : ∀ ds : List T, (Dp K H y (.list (toDs ds)) ∨ Dp K H y (.tuple (toDs ds)) ∨ plainTs ds = false) → post (rpV K) K W G loc σ (if inOk tx ds then .ok (.bl (neg ^^ inT tx ds)) sh else .bad : Res T) Q → rInA K neg x y H Q := fun ds hd p => by
    by_cases h : inOk tx ds = true
    · rw [if_pos h] at p
      have h1 : (plainT tx && plainTs ds && decide (min (PyData.depthAll (toDs ds)) (toD tx).depth ≤ 150)) = true := h
      rw [Bool.and_eq_true, Bool.and_eq_true] at h1
      have hd' : Dp K H y (.list (toDs ds)) ∨ Dp K H y (.tuple (toDs ds)) := by
        rcases hd with q | q | q
        · exact .inl q
        · exact .inr q
        · rw [q] at h1; cases h1.1.2
      refine .inr (.inr ⟨_, _, dp_of ok.fle tx x h1.1.1 rx, hd', plain_toD _ h1.1.1, plain_toDs _ h1.1.2, of_decide_eq_true h1.2, ?_⟩)
      rw [any_toDs]
      exact p _ H G (GLe.refl _) ok rfl
    · rw [if_neg h] at p
      exact p.elim
  have dct : ∀ kvs : List (Key × T), rep K G (.dct kvs) y → post (rpV K) K W G loc σ (match keyOf tx with | some k => .ok (.bl (neg ^^ (dgetT kvs k).isSome)) sh | none => .bad : Res T) Q → rInA K neg x y H Q := fun kvs ry p => by
    obtain ⟨a, vs, rfl, h1, r1, _⟩ := ok.hd ry
    cases e : keyOf tx with
    | none => rw [e] at p; exact p.elim
    | some k =>
      rw [e] at p
      refine .inr (.inl ⟨a, valV vs k, rfl, .inl ⟨vs, k, h1, keyOf_rep rx e, rfl⟩, ?_⟩)
      have : (valV vs k).isSome = (dgetT kvs k).isSome := by
        rcases RepD.get (k := k) r1 with ⟨q1, q2⟩ | ⟨t, v, q1, q2, _⟩ <;> rw [q1, q2] <;> rfl
      rw [this]
      exact p _ H G (GLe.refl _) ok rfl
  have lst : ∀ ys : List T, rep K G (.lst ys) y → (Dp K H y (.list (toDs ys)) ∨ Dp K H y (.tuple (toDs ys)) ∨ plainTs ys = false) := fun ys ry => by
    cases e : plainTs ys with
    | false => exact .inr (.inr rfl)
    | true => exact .inl (dp_of ok.fle (.lst ys) y e ry)
  have tup : ∀ ys : List T, rep K G (.tup ys) y → (Dp K H y (.list (toDs ys)) ∨ Dp K H y (.tuple (toDs ys)) ∨ plainTs ys = false) := fun ys ry => by
    cases e : plainTs ys with
    | false => exact .inr (.inr rfl)
    | true => exact .inr (.inl (dp_of ok.fle (.tup ys) y e ry))
  cases ty with
  | str t =>
    cases tx with
    | str z =>
      obtain ⟨rfl, _⟩ := rx
      obtain ⟨rfl, _⟩ := ry
      exact .inl ⟨z, t, rfl, rfl, p _ H G (GLe.refl _) ok rfl⟩
    | _ => exact p.elim
  | dct kvs => cases tx <;> exact dct kvs ry p
  | lst ys => cases tx <;> exact seq ys (lst ys ry) p
  | tup ys => cases tx <;> exact seq ys (tup ys ry) p
  | _ => cases tx <;> exact p.elim

/-! ### < <= > >= of ints, of texts; < > of tuples of these -/
def ltS (x y : Str) : Bool := decide (x.cps.toList < y.cps.toList)
def ordT (x y : T) : Option Bool := if plainT x && plainT y && decide (min (toD x).depth (toD y).depth ≤ 150) then SeqAt.ordD (toD x) (toD y) else none
def opCmp (fi : Int → Int → Bool) (fs : Str → Str → Bool) (ft : T → T → Option Bool) : T → T → Sh → Res T
  | .int i, .int j, s => .ok (.bl (fi i j)) s
  | .str x, .str y, s => .ok (.bl (fs x y)) s
  | .tup xs, .tup ys, s => match ft (.tup xs) (.tup ys) with
    | some k => .ok (.bl k) s
    | none => .bad
  | _, _, _ => .bad
def opLt := opCmp (fun i j => decide (i < j)) ltS ordT
def opLe := opCmp (fun i j => decide (i ≤ j)) (fun x y => !ltS y x) fun _ _ => none
def opGt := opCmp (fun i j => decide (j < i)) (fun x y => ltS y x) fun x y => ordT y x
def opGe := opCmp (fun i j => decide (j ≤ i)) (fun x y => !ltS x y) fun _ _ => none
def rCmpA (fi : Int → Int → Bool) (fs : Str → Str → Bool) : R2 := fun x y H Q => rI0 (fun i j => .bl (fi i j)) x y H Q ∨ ∃ i j, x = .str i ∧ y = .str j ∧ Q (.bl (fs i j)) H
/-- plain data that can be compared by f -/
def rOrd (K : PySem.W.Frag) (f : PyData → PyData → Option Bool) : R2 := fun x y H Q => ∃ d e k, Dp K H x d ∧ Dp K H y e ∧ d.plain = true ∧ e.plain = true ∧ min d.depth e.depth ≤ 150 ∧ f d e = some k ∧ Q (.bl k) H
def rCmpT (K : PySem.W.Frag) (fi : Int → Int → Bool) (fs : Str → Str → Bool) (f : PyData → PyData → Option Bool) : R2 := fun x y H Q => rCmpA fi fs x y H Q ∨ rOrd K f x y H Q
theorem sv_cmp0 {K : PySem.W.Frag} {fi : Int → Int → Bool} {fs : Str → Str → Bool} {ft : T → T → Option Bool} {r : R2} (h1 : ∀ x y H Q, rCmpA fi fs x y H Q → r x y H Q)
    (h2 : ∀ {G : Gh} {H : Hp} {xs ys : List T} {x y : V} {k : Bool} {Q : VK}, FLe G.F H → rep K G (.tup xs) x → rep K G (.tup ys) y → ft (.tup xs) (.tup ys) = some k → Q (.bl k) H → r x y H Q) : Sv2 K r (opCmp fi fs ft) := by
  intro W G loc sh σ H x y tx ty Q ok rx ry p
  cases tx with
  | int i =>
    cases ty with
    | int j => cases rx; cases ry; exact h1 _ _ _ _ (.inl ⟨i, j, rfl, rfl, p _ H G (GLe.refl _) ok rfl⟩)
    | _ => exact p.elim
  | str i =>
    cases ty with
    | str j => obtain ⟨rfl, _⟩ := rx; obtain ⟨rfl, _⟩ := ry; exact h1 _ _ _ _ (.inr ⟨i, j, rfl, rfl, p _ H G (GLe.refl _) ok rfl⟩)
    | _ => exact p.elim
  | tup xs =>
    cases ty with
    | tup ys =>
      have p' : post (rpV K) K W G loc σ (match ft (.tup xs) (.tup ys) with | some k => .ok (.bl k) sh | none => .bad : Res T) Q := p
      cases e : ft (.tup xs) (.tup ys) with
      | none => rw [e] at p'; exact p'.elim
      | some k => rw [e] at p'; exact h2 ok.fle rx ry e (p' _ H G (GLe.refl _) ok rfl)
    | _ => exact p.elim
  | _ => exact p.elim
theorem ordT_is {x y : T} {k : Bool} (h : ordT x y = some k) : plainT x = true ∧ plainT y = true ∧ min (toD x).depth (toD y).depth ≤ 150 ∧ SeqAt.ordD (toD x) (toD y) = some k := by
  unfold ordT at h
  split at h
  · rename_i q
    rw [Bool.and_eq_true, Bool.and_eq_true] at q
    exact ⟨q.1.1, q.1.2, of_decide_eq_true q.2, h⟩
  · cases h
theorem sv_cmp {K : PySem.W.Frag} {fi : Int → Int → Bool} {fs : Str → Str → Bool} : Sv2 K (rCmpA fi fs) (opCmp fi fs fun _ _ => none) := sv_cmp0 (fun _ _ _ _ h => h) fun _ _ _ e _ => by cases e
theorem sv_lt {K : PySem.W.Frag} : Sv2 K (rCmpT K (fun i j => decide (i < j)) ltS SeqAt.ordD) opLt := sv_cmp0 (fun _ _ _ _ h => .inl h) fun f rx ry e q => by
  obtain ⟨h1, h2, h3, h4⟩ := ordT_is e
  exact .inr ⟨_, _, _, dp_of f _ _ h1 rx, dp_of f _ _ h2 ry, plain_toD _ h1, plain_toD _ h2, h3, h4, q⟩
theorem sv_gt {K : PySem.W.Frag} : Sv2 K (rCmpT K (fun i j => decide (j < i)) (fun x y => ltS y x) fun d e => SeqAt.ordD e d) opGt := sv_cmp0 (fun _ _ _ _ h => .inl h) fun f rx ry e q => by
  obtain ⟨h1, h2, h3, h4⟩ := ordT_is e
  exact .inr ⟨_, _, _, dp_of f _ _ h2 rx, dp_of f _ _ h1 ry, plain_toD _ h2, plain_toD _ h1, by rw [Nat.min_comm]; exact h3, h4, q⟩
section
variable {X : Cx}
theorem op_ltOrd (hu : X.A.units + 150 < cLine) : OpR X (compareOp .Lt) (rOrd X.K SeqAt.ordD) := by
  intro pins s σ H x y v u Q I rx ry ⟨d, e, k, hd, he, p1, p2, hm, hk, q⟩
  obtain ⟨as, r1⟩ := Dp.reads I d x v hd rx
  obtain ⟨bs, r2⟩ := Dp.reads I e y u he ry
  exact SeqAt.rcLt_ord d e X.A s v u as bs k r1 r2 p1 p2 (by omega) hk X.prog X.w _ _ ⟨.bl k, H, I, rfl, q⟩
theorem op_gtOrd (hu : X.A.units + 150 < cLine) : OpR X (compareOp .Gt) (rOrd X.K fun d e => SeqAt.ordD e d) := by
  intro pins s σ H x y v u Q I rx ry ⟨d, e, k, hd, he, p1, p2, hm, hk, q⟩
  obtain ⟨as, r1⟩ := Dp.reads I d x v hd rx
  obtain ⟨bs, r2⟩ := Dp.reads I e y u he ry
  exact SeqAt.rcGt_ord d e X.A s v u as bs k r1 r2 p1 p2 (by omega) hk X.prog X.w _ _ ⟨.bl k, H, I, rfl, q⟩
theorem orp_lt (hu : X.A.units + 150 < cLine) : OpR X (compareOp .Lt) (rCmpT X.K (fun i j => decide (i < j)) ltS SeqAt.ordD) := OpR.or (OpR.or op_lt op_lt_str) (op_ltOrd hu)
theorem orp_le : OpR X (compareOp .LtE) (rCmpA (fun i j => decide (i ≤ j)) fun x y => !ltS y x) := OpR.or op_le op_le_str
theorem orp_gt (hu : X.A.units + 150 < cLine) : OpR X (compareOp .Gt) (rCmpT X.K (fun i j => decide (j < i)) (fun x y => ltS y x) fun d e => SeqAt.ordD e d) := OpR.or (OpR.or op_gt op_gt_str) (op_gtOrd hu)
theorem orp_ge : OpR X (compareOp .GtE) (rCmpA (fun i j => decide (j ≤ i)) fun x y => !ltS x y) := OpR.or op_ge op_ge_str
end

/-! ### a chain -/
section
variable {X : Cx} {W : WX} {a b c : Expr} {ea eb ec : Ev} {pos : Pos}
def eChain (f g : T → T → Sh → Res T) (a b c : Ev) : Ev := fun l s => (a l s).bind fun x s1 => (b l s1).bind fun y s2 => (f x y s2).bind fun z s3 => match z with
  | .bl true => (c l s3).bind fun w s4 => g y w s4
  | .bl false => .ok (.bl false) s3
  | _ => .bad
theorem liftChain {r r' : R2} {f g : T → T → Sh → Res T} (hf : Sv2 X.K r f) (hg : Sv2 X.K r' g) {σ : L2.St} {H : Hp} {Q : VK} (h : lift X.K W (eChain f g ea eb ec) σ H Q) : tChain r r' (lift X.K W ea) (lift X.K W eb) (lift X.K W ec) σ H Q := by
  obtain ⟨G, loc, sh, ok, p⟩ := h
  refine ⟨G, loc, sh, ok, (post.bind (Rp := rpV X.K) p).imp ?_⟩
  rintro x H1 ⟨G1, tx, s1, l1, ok1, r1, p1⟩
  refine ⟨G1, loc, s1, ok1, (post.bind (Rp := rpV X.K) p1).imp ?_⟩
  rintro y H2 ⟨G2, ty, s2, l2, ok2, r2, p2⟩
  refine hf W G2 loc s2 σ H2 x y tx ty _ ok2 (rep_le l2 r1) r2 ((post.bind (Rp := rpV X.K) p2).imp ?_)
  rintro z H3 ⟨G3, tz, s3, l3, ok3, r3, p3⟩
  cases tz with
  | bl k =>
    cases k with
    | true =>
      refine ⟨true, r3, iteT ⟨G3, loc, s3, ok3, (post.bind (Rp := rpV X.K) p3).imp ?_⟩⟩
      rintro w H4 ⟨G4, tw, s4, l4, ok4, r4, p4⟩
      exact hg W G4 loc s4 σ H4 y w ty tw Q ok4 (rep_le (l3.trans l4) r2) r4 p4
    | false => exact ⟨false, r3, iteF (p3 (.bl false) H3 G3 (GLe.refl _) ok3 rfl)⟩
  | _ => exact p3.elim
theorem t_chain {op op' : CmpOp} {r r' : R2} {f g : T → T → Sh → Res T} (ho : OpR X (compareOp op) r) (hf : Sv2 X.K r f) (ho' : OpR X (compareOp op') r') (hg : Sv2 X.K r' g) (ha : TPE X W a ea) (hb : TPE X W b eb) (hc : TPE X W c ec)
    (hm : lastMarks [op, op'] [b, c] = false := by with_unfolding_all rfl) : TPE X W (.Compare a [op, op'] [b, c] pos) (eChain f g ea eb ec) := PE.weak (pe_chain ho ho' ha hb hc hm) fun σ H Q h => liftChain hf hg h
theorem tt_chain {op op' : CmpOp} {r r' : R2} {f g : T → T → Sh → Res T} (ho : OpR X (compareOp op) r) (hf : Sv2 X.K r f) (ho' : OpR X (compareOp op') r') (hg : Sv2 X.K r' g) (ha : TPE X W a ea) (hb : TPE X W b eb) (hc : TPE X W c ec)
    (hm : lastMarks [op, op'] [b, c] = false := by with_unfolding_all rfl) : TPT X W (.Compare a [op, op'] [b, c] pos) (eT (eChain f g ea eb ec)) := PT.weak (pt_chain ho ho' ha hb hc hm) fun σ H Q h => liftTB (te := tChain r r' (lift X.K W ea) (lift X.K W eb) (lift X.K W ec)) (fun _ => liftChain hf hg) h
end
end TL

/-! the T-layer, 7: builtins -/
namespace TL
open PySem PySem.Spec L2

def SvL (K : PySem.W.Frag) (r : List V → Hp → VK → Prop) (f : List T → Sh → Res T) : Prop :=
  ∀ (W : WX) (G : Gh) (loc : Loc) (sh : Sh) (σ : L2.St) (H : Hp) (vs : List V) (ts : List T) (Q : VK), Ok K G loc sh σ H → repL K G ts vs → post (rpV K) K W G loc σ (f ts sh) Q → r vs H Q
def SvLO (K : PySem.W.Frag) (r : List V → Hp → VK → Prop) (f : List T → Sh → Res T) : Prop :=
  ∀ (W : WX) (G : Gh) (loc : Loc) (sh : Sh) (σ : L2.St) (H : Hp) (vs : List V) (ts : List T) (Q : VK), Ok K G loc sh σ H → repL K G ts vs → post (fun G H t v => OwnR K G loc σ H t v) K W G loc σ (f ts sh) Q → r vs H Q
section
variable {X : Cx} {W : WX} {x : Str} {p pos : Pos} {e : Expr} {es : List Expr} {eL : EvL} {id Ty : String} {r : List V → Hp → VK → Prop} {f : List T → Sh → Res T}
theorem liftCB (hf : SvL X.K r f) {σ : L2.St} {H : Hp} {Q : VK} (h : lift X.K W (eA f eL) σ H Q) : tCB r (liftA X.K W eL) σ H Q := by
  obtain ⟨G, loc, sh, ok, p⟩ := h
  refine ⟨G, loc, sh, ok, (post.bind (Rp := rpL X.K) p).imp ?_⟩
  rintro vs H1 ⟨G1, ts, s1, l1, ok1, r1, p1⟩
  exact hf W G1 loc s1 σ H1 vs ts Q ok1 r1 p1
theorem liftCBO (hf : SvLO X.K r f) {σ : L2.St} {H : Hp} {Q : VK} (h : liftO X.K W (eA f eL) σ H Q) : tCB r (liftA X.K W eL) σ H Q := by
  obtain ⟨G, loc, sh, ok, p⟩ := h
  refine ⟨G, loc, sh, ok, (post.bind (Rp := rpL X.K) p).imp ?_⟩
  rintro vs H1 ⟨G1, ts, s1, l1, ok1, r1, p1⟩
  exact hf W G1 loc s1 σ H1 vs ts Q ok1 r1 p1
theorem t_bi (hc : CallR X (.builtin id) r) (hf : SvL X.K r f) (hg : Gl X x) (hm : X.mg x = none) (hv : bootBuiltins x = some (.builtin id)) (ha : TPA X W (e :: es) eL) (hn : x ≠ "__name__" := by decide) (hdb : (x == ("__debug__" : Str)) = false := by decide)
    (he : starEach (e :: es) X.env = (false, eval e X.env) :: starEach es X.env := by rfl) (hpl : (backTo pos (starEach es X.env)).any (·.1) = false := by rfl) : TPE X W (.Call (.Name x p) (e :: es) [] pos) (eA f eL) := PE.weak (pe_callB hc hg hm hv ha hn hdb he hpl) fun _ _ _ h => liftCB hf h
theorem t_biO (hc : CallR X (.builtin id) r) (hf : SvLO X.K r f) (hg : Gl X x) (hm : X.mg x = none) (hv : bootBuiltins x = some (.builtin id)) (ha : TPA X W (e :: es) eL) (hn : x ≠ "__name__" := by decide) (hdb : (x == ("__debug__" : Str)) = false := by decide)
    (he : starEach (e :: es) X.env = (false, eval e X.env) :: starEach es X.env := by rfl) (hpl : (backTo pos (starEach es X.env)).any (·.1) = false := by rfl) : TPO X W (.Call (.Name x p) (e :: es) [] pos) (eA f eL) := PE.weak (pe_callB hc hg hm hv ha hn hdb he hpl) fun _ _ _ h => liftCBO hf h
theorem t_ty (hc : CallR X (.type Ty) r) (hf : SvL X.K r f) (hg : Gl X x) (hm : X.mg x = none) (hv : bootBuiltins x = some (.type Ty)) (ha : TPA X W (e :: es) eL) (hn : x ≠ "__name__" := by decide) (hdb : (x == ("__debug__" : Str)) = false := by decide)
    (he : starEach (e :: es) X.env = (false, eval e X.env) :: starEach es X.env := by rfl) (hpl : (backTo pos (starEach es X.env)).any (·.1) = false := by rfl) : TPE X W (.Call (.Name x p) (e :: es) [] pos) (eA f eL) := PE.weak (pe_callTy hc hg hm hv ha hn hdb he hpl) fun _ _ _ h => liftCB hf h
theorem t_tyO (hc : CallR X (.type Ty) r) (hf : SvLO X.K r f) (hg : Gl X x) (hm : X.mg x = none) (hv : bootBuiltins x = some (.type Ty)) (ha : TPA X W (e :: es) eL) (hn : x ≠ "__name__" := by decide) (hdb : (x == ("__debug__" : Str)) = false := by decide)
    (he : starEach (e :: es) X.env = (false, eval e X.env) :: starEach es X.env := by rfl) (hpl : (backTo pos (starEach es X.env)).any (·.1) = false := by rfl) : TPO X W (.Call (.Name x p) (e :: es) [] pos) (eA f eL) := PE.weak (pe_callTy hc hg hm hv ha hn hdb he hpl) fun _ _ _ h => liftCBO hf h
/-- a built-in type as a value -/
theorem t_tyv {n : String} (hg : Gl X x) (hm : X.mg x = none) (hv : bootBuiltins x = some (.type n)) (hn : x ≠ "__name__" := by decide) (hd : (x == ("__debug__" : Str)) = false := by decide) : TPE X W (.Name x pos) (eC (.ty n)) := t_c (pe_bltn (v := .ty n) hg hm hv rfl hn hd) fun _ _ => rfl
end
theorem RepL.one {K : PySem.W.Frag} {F : Hp} {al : List Addr} {t : T} {vs : List V} (r : RepL K F al [t] vs) : ∃ v, vs = [v] ∧ Rep K F al t v := by
  obtain ⟨v, q, rfl, h, rfl⟩ := r
  exact ⟨v, rfl, h⟩
theorem RepL.two {K : PySem.W.Frag} {F : Hp} {al : List Addr} {t u : T} {vs : List V} (r : RepL K F al [t, u] vs) : ∃ v w, vs = [v, w] ∧ Rep K F al t v ∧ Rep K F al u w := by
  obtain ⟨v, q, rfl, h, w, q2, rfl, h2, rfl⟩ := r
  exact ⟨v, w, rfl, h, h2⟩

/-! ### isinstance -/
def tyName : T → Sh → Option String
  | .non, _ => some "NoneType"
  | .bl _, _ => some "bool"
  | .int _, _ => some "int"
  | .str _, _ => some "str"
  | .lst _, _ => some "list"
  | .tup _, _ => some "tuple"
  | .dct _, _ => some "dict"
  | .cel k, s => match s[k]? with
    | some (.lst _) => some "list"
    | some (.dct _) => some "dict"
    | _ => none
  | _, _ => none
def isTy (a n : String) : Bool := a == n || (a == "bool" && n == "int")
def tyKn (n : String) : Bool := ["str", "list", "dict", "int", "bool", "tuple"].contains n
def biIsI : List T → Sh → Res T
  | [x, .ty n], s => match tyName x s with
    | some a => if tyKn n then .ok (.bl (isTy a n)) s else .bad
    | none => .bad
  | _, _ => .bad
def tyAll : List String := ["NoneType", "bool", "int", "str", "list", "tuple", "dict"]
theorem kit_all : (tyAll.all fun a => ["str", "list", "dict", "int", "bool", "tuple"].all fun n => decide (kitB a n = some (isTy a n))) = true := by decide +kernel
theorem kit_one {K : PySem.W.Frag} {a n : String} (ha : a ∈ tyAll) (hn : tyKn n = true) : PySem.W.kitOne K (.type a) (.type n) = some (isTy a n) := by
  refine kit_ty (of_decide_eq_true (List.all_eq_true.mp (List.all_eq_true.mp kit_all a ha) n ?_))
  exact List.contains_iff_mem.mp hn
section
variable {K : PySem.W.Frag} {W : WX} {G : Gh} {loc : Loc} {sh : Sh} {σ : L2.St} {H : Hp}
theorem ty_of (ok : Ok K G loc sh σ H) {t : T} {v : V} {a : String} (r : rep K G t v) (e : tyName t sh = some a) : TyX K H v (.type a) ∧ a ∈ tyAll := by
  cases t with
  | non => cases e; cases r; exact ⟨.base .non, by decide⟩
  | bl b => cases e; cases r; exact ⟨.base (.bl _), by decide⟩
  | int i => cases e; cases r; exact ⟨.base (.int _), by decide⟩
  | str x => cases e; obtain ⟨rfl, _⟩ := r; exact ⟨.base (.str _), by decide⟩
  | lst xs => cases e; obtain ⟨b, vs, rfl, h, _⟩ := ok.hl r; exact ⟨.base (.lst h), by decide⟩
  | tup xs =>
    cases e
    obtain ⟨b, vs, rfl, h, _⟩ := ok.ht r
    refine ⟨?_, by decide⟩
    rcases h with (h | ⟨o, h⟩) | ⟨o, its, n, h1, h2, _⟩
    · exact .base (.tup h)
    · exact .fTuple h
    · exact .kTuple h1 h2
  | dct kvs =>
    cases e
    obtain ⟨b, vs, rfl, h, _⟩ := ok.hd r
    refine ⟨?_, by decide⟩
    rcases h with h | ⟨o, h⟩
    · exact .base (.dK h)
    · exact .fDict h
  | cel k =>
    obtain ⟨b, rfl, h⟩ := r
    unfold tyName at e
    cases q : sh[k]? with
    | none => simp only [q] at e; cases e
    | some so =>
      simp only [q] at e
      obtain ⟨b', h', s⟩ := ok.shr k so q
      rw [h] at h'
      cases h'
      cases so with
      | lst xs => cases e; obtain ⟨vs, q1, _⟩ := s; exact ⟨.base (.lst q1), by decide⟩
      | dct xs => cases e; obtain ⟨vs, q1, _⟩ := s; exact ⟨.base (.dK q1), by decide⟩
      | ins C fs => cases e
  | _ => cases e
end
theorem kitAny_of {K : PySem.W.Frag} {a : String} (ha : a ∈ tyAll) : ∀ ns : List String, (∀ n ∈ ns, tyKn n = true) → PySem.W.kitAny K (.type a) (ns.map Value.type) = some (ns.any fun n => isTy a n)
  | [], _ => kitAny_nil
  | n :: ns, h => by
    have ih := kitAny_of (K := K) ha ns fun k hk => h k (by simp [hk])
    rw [List.map_cons]
    refine kitAny_cons (kit_one ha (h n (by simp))) (fun e => ?_) fun e => ?_
    · rw [List.any_cons, e, Bool.false_or]; exact ih
    · rw [List.any_cons, e, Bool.true_or]
theorem sv_isi {K : PySem.W.Frag} : SvL K (rIsi K) biIsI := by
  intro W G loc sh σ H vs ts Q ok r p
  unfold biIsI at p
  split at p
  · rename_i x n
    obtain ⟨v, c, rfl, r1, r2⟩ := RepL.two r
    cases r2
    split at p
    · rename_i a e
      split at p
      · rename_i hn
        obtain ⟨h1, h2⟩ := ty_of ok r1 e
        exact ⟨v, .ty n, .type a, .type n, isTy a n, rfl, .ty n, h1, kit_one h2 hn, p _ H G (GLe.refl _) ok rfl⟩
      · exact p.elim
    · exact p.elim
  · exact p.elim
/-- isinstance(e, (T1, T2)) -/
def eIsT (ns : List String) (a : Ev) : Ev := fun l s => (a l s).bind fun x s1 => match tyName x s1 with
  | some a => .ok (.bl (ns.any fun n => isTy a n)) s1
  | none => .bad
def tTys (ns : List String) : TA := fun _ H Q => Q (ns.map V.ty) H
section
variable {X : Cx} {W : WX} {x : Str} {p pos q : Pos} {e a : Expr} {es cs : List Expr} {ea : Ev} {ns : List String}
theorem pa_tys_nil : PA X [] (tTys []) := PA.weak pa_nil fun σ H Q h => h
theorem pa_tys_cons {n : String} (hg : Gl X x) (hm : X.mg x = none) (hv : bootBuiltins x = some (.type n)) (hr : PA X es (tTys ns)) (hn : x ≠ "__name__" := by decide) (hd : (x == ("__debug__" : Str)) = false := by decide) (hs : starEach (.Name x pos :: es) X.env = (false, eval (.Name x pos) X.env) :: starEach es X.env := by rfl) : PA X (.Name x pos :: es) (tTys (n :: ns)) :=
  PA.weak (pa_cons (pe_bltn (v := .ty n) hg hm hv rfl hn hd) hr hs) fun σ H Q h => h
theorem tys_cls : ∀ ns : List String, Paired ClsV (ns.map V.ty) (ns.map Value.type)
  | [] => .nil
  | n :: ns => .cons (.ty n) (tys_cls ns)
theorem t_isT {k} (ha : TPE X W a ea) (hcs : PA X cs (tTys ns)) (hn : ns.all tyKn = true) (hl : ns.length ≤ sizeLine) (hg : Gl X x) (hm : X.mg x = none) (hv : bootBuiltins x = some (.builtin "isinstance")) (hnm : x ≠ "__name__" := by decide) (hdb : (x == ("__debug__" : Str)) = false := by decide)
    (he : starEach [a, .Tuple cs k q] X.env = (false, eval a X.env) :: starEach [.Tuple cs k q] X.env := by rfl) (hpl : (backTo pos (starEach [.Tuple cs k q] X.env)).any (·.1) = false := by rfl) (hs : starEach [.Tuple cs k q] X.env = (false, eval (.Tuple cs k q) X.env) :: starEach [] X.env := by rfl) :
    TPE X W (.Call (.Name x p) [a, .Tuple cs k q] [] pos) (eIsT ns ea) := PE.weak (pe_callB call_isiT hg hm hv (pa_cons ha (pa_cons (pe_tup hcs) pa_nil hs) he) hnm hdb he hpl) fun σ H Q ⟨G, loc, sh, ok, p⟩ => by
  refine ⟨G, loc, sh, ok, (post.bind (Rp := rpV X.K) p).imp ?_⟩
  rintro v H1 ⟨G1, t, s1, l1, ok1, r1, p1⟩
  refine ⟨by rw [List.length_map]; exact hl, fun b hb => ?_⟩
  have ok2 : Ok X.K G1 loc s1 σ (upd H1 b (.tup (ns.map V.ty))) := ok1.grow hb
  cases e : tyName t s1 with
  | none => simp only [e] at p1; exact p1.elim
  | some a' =>
    simp only [e] at p1
    obtain ⟨h1, h2⟩ := ty_of ok2 r1 e
    exact ⟨v, b, ns.map V.ty, .type a', ns.map Value.type, _, rfl, upd_same, tys_cls ns, h1, kitAny_of h2 ns (fun n hn' => List.all_eq_true.mp hn n hn'), p1 _ _ G1 (GLe.refl _) ok2 rfl⟩
end
end TL

/-! the T-layer, 8: subscripts, slices, stores, methods -/
namespace TL
open PySem PySem.Spec L2

section
variable {K : PySem.W.Frag} {F : Hp} {al : List Addr}
theorem RepL.atI {ts : List T} {vs : List V} {i : Int} {t : T} (r : RepL K F al ts vs) (e : atI ts i = some t) : ∃ v, L2.atI vs i = some v ∧ Rep K F al t v := by
  unfold L2.atI at e ⊢
  rw [RepL.length r]
  cases q : ixN ts.length i with
  | none => rw [q] at e; cases e
  | some j =>
    rw [q] at e
    exact RepL.get r e
end
def isDc : T → Sh → Bool
  | .dct _, _ => true
  | .cel k, s => match s[k]? with
    | some (.dct _) => true
    | _ => false
  | _, _ => false
def opIx : T → T → Sh → Res T
  | .lst xs, .int i, s => match atI xs i with
    | some t => .ok t s
    | none => .bad
  | .tup xs, .int i, s => match atI xs i with
    | some t => .ok t s
    | none => .bad
  | .str z, .int i, s => match atI z.cps.toList i with
    | some c => .ok (.str ⟨#[c]⟩) s
    | none => .bad
  | .scr ns, .int i, s => match atI ns i with
    | some n => .ok (.int n) s
    | none => .bad
  | .dct kvs, k, s => match keyOf k with
    | some k => match dgetT kvs k with
      | some t => .ok t s
      | none => .bad
    | none => .bad
  | .cel c, k, s => match s[c]? with
    | some (.lst xs) => match k with
      | .int i => match atI xs i with
        | some t => .ok t s
        | none => .bad
      | _ => .bad
    | some (.dct kvs) => match keyOf k with
      | some k => match dgetT kvs k with
        | some t => .ok t s
        | none => .bad
      | none => .bad
    | _ => .bad
  | _, _, _ => .bad
def rIxA (K : PySem.W.Frag) : R2 := fun x y H Q => rIxL K x y H Q ∨ rIxT K x y H Q ∨ rIxS x y H Q
def rIxD : R2 := fun x y H Q => ∃ a v, x = .ref a ∧ DGet H a y (some v) ∧ Q v H
section
variable {K : PySem.W.Frag} {W : WX} {G : Gh} {loc : Loc} {sh : Sh} {σ : L2.St} {H : Hp} {tx ty : T} {x y : V} {Q : VK}
theorem atI_map {α β : Type} (f : α → β) (xs : List α) (i : Int) : atI (xs.map f) i = (atI xs i).map f := by
  unfold atI
  rw [List.length_map]
  cases ixN xs.length i with
  | none => rfl
  | some j => simp
theorem ix_core (ok : Ok K G loc sh σ H) (rx : rep K G tx x) (ry : rep K G ty y) (p : post (rpV K) K W G loc σ (opIx tx ty sh) Q) : if isDc tx sh then rIxD x y H Q else rIxA K x y H Q := by
  have dg : ∀ (a : Addr) (kvs : List (Key × T)) (kv : List (Key × V)), Rd H a (.dK kv) → RepD K G.F G.al kvs kv → post (rpV K) K W G loc σ (match keyOf ty with
      | some k => match dgetT kvs k with
        | some t => .ok t sh
        | none => .bad
      | none => .bad) Q → rIxD (.ref a) y H Q := fun a kvs kv h1 r1 p => by
    cases e : keyOf ty with
    | none => rw [e] at p; exact p.elim
    | some k =>
      rw [e] at p
      rcases RepD.get (k := k) r1 with ⟨q1, q2⟩ | ⟨t, v, q1, q2, q3⟩
      · simp only [q1] at p; exact p.elim
      · simp only [q1] at p
        exact ⟨a, v, rfl, .inl ⟨kv, k, h1, keyOf_rep ry e, q2.symm⟩, p v H G (GLe.refl _) ok q3⟩
  have li : ∀ (a : Addr) (xs : List T) (vs : List V) (i : Int), (SqL K H a vs ∨ SqT K H a vs) → repL K G xs vs → post (rpV K) K W G loc σ (match atI xs i with
      | some t => .ok t sh
      | none => .bad) Q → rIxA K (.ref a) (.int i) H Q := fun a xs vs i h1 r1 p => by
    cases e : atI xs i with
    | none => rw [e] at p; exact p.elim
    | some t =>
      rw [e] at p
      obtain ⟨v, ev, rv⟩ := RepL.atI r1 e
      rcases h1 with h1 | h1
      · exact .inl ⟨a, vs, i, v, rfl, rfl, h1, ev, p v H G (GLe.refl _) ok rv⟩
      · exact .inr (.inl ⟨a, vs, i, v, rfl, rfl, h1, ev, p v H G (GLe.refl _) ok rv⟩)
  cases tx with
  | lst xs =>
    show rIxA K x y H Q
    obtain ⟨a, vs, rfl, h1, r1, _⟩ := ok.hl rx
    cases ty with
    | int i => cases ry; exact li a xs vs i (.inl (.of h1)) r1 p
    | _ => exact p.elim
  | tup xs =>
    show rIxA K x y H Q
    obtain ⟨a, vs, rfl, h1, r1, _⟩ := ok.ht rx
    cases ty with
    | int i => cases ry; exact li a xs vs i (.inr h1) r1 p
    | _ => exact p.elim
  | str z =>
    show rIxA K x y H Q
    obtain ⟨rfl, hz⟩ := rx
    cases ty with
    | int i =>
      cases ry
      have p' : post (rpV K) K W G loc σ (match atI z.cps.toList i with
        | some c => .ok (.str ⟨#[c]⟩) sh
        | none => .bad) Q := p
      cases e : atI z.cps.toList i with
      | none => rw [e] at p'; exact p'.elim
      | some c =>
        rw [e] at p'
        exact .inr (.inr ⟨z, i, c, rfl, rfl, hz, e, p' _ H G (GLe.refl _) ok ⟨rfl, one_le⟩⟩)
    | _ => exact p.elim
  | scr ns =>
    show rIxA K x y H Q
    obtain ⟨a, rfl, h1, _⟩ := rx
    cases ty with
    | int i =>
      cases ry
      have p' : post (rpV K) K W G loc σ (match atI ns i with
        | some n => .ok (.int n) sh
        | none => .bad) Q := p
      cases e : atI ns i with
      | none => rw [e] at p'; exact p'.elim
      | some n =>
        rw [e] at p'
        exact .inl ⟨a, _, i, .int n, rfl, rfl, SqL.fle ok.fle h1, by rw [atI_map, e]; rfl, p' _ H G (GLe.refl _) ok rfl⟩
    | _ => exact p.elim
  | dct kvs =>
    show rIxD x y H Q
    obtain ⟨a, kv, rfl, h1, r1, _⟩ := ok.hd rx
    exact dg a kvs kv h1 r1 p
  | cel c =>
    obtain ⟨a, rfl, ha⟩ := rx
    cases e : sh[c]? with
    | none =>
      have : opIx (.cel c) ty sh = .bad := by unfold opIx; simp only [e]
      rw [this] at p
      exact p.elim
    | some so =>
      obtain ⟨a', ha', s⟩ := ok.shr c so e
      rw [ha] at ha'
      cases ha'
      cases so with
      | lst xs =>
        have hi : isDc (.cel c) sh = false := by unfold isDc; simp only [e]
        rw [hi]
        show rIxA K _ y H Q
        obtain ⟨vs, q1, q2, q3⟩ := s
        cases ty with
        | int i =>
          cases ry
          have : opIx (.cel c) (.int i) sh = (match atI xs i with
            | some t => .ok t sh
            | none => .bad) := by unfold opIx; simp only [e]
          rw [this] at p
          exact li a xs vs i (.inl (.of q1)) q2 p
        | _ =>
          exfalso
          unfold opIx at p
          simp only [e] at p
          exact p
      | dct kvs =>
        have hi : isDc (.cel c) sh = true := by unfold isDc; simp only [e]
        rw [hi]
        show rIxD _ y H Q
        obtain ⟨kv, q1, q2, q3⟩ := s
        refine dg a kvs kv (.inl q1) q2 ?_
        have : opIx (.cel c) ty sh = (match keyOf ty with
          | some k => match dgetT kvs k with
            | some t => .ok t sh
            | none => .bad
          | none => .bad) := by unfold opIx; simp only [e]
        rw [this] at p
        exact p
      | ins C fs =>
        have : opIx (.cel c) ty sh = .bad := by unfold opIx; simp only [e]
        rw [this] at p
        exact p.elim
  | _ => exact p.elim
end
section
variable {X : Cx} {W : WX} {a b c : Expr} {ea eb ec : Ev} {pos p2 : Pos}
theorem t_ix (hu : X.A.units + 1 < cLine) (ha : TPE X W a ea) (hb : TPE X W b eb) (hs : NoSl b := by intro _ _; rfl) : TPE X W (.Subscript a b pos) (e2 opIx ea eb) :=
  PE.weak (PE.or (pe_dget hu ha hb hs) (pe_ix (IxR.or ix_list (IxR.or ix_tup ix_str)) ha hb hs)) fun σ H Q ⟨G, loc, sh, ok, p⟩ => by
    cases e1 : ea loc sh with
    | bad => unfold e2 at p; rw [e1] at p; exact p.elim
    | exc x s =>
      unfold e2 at p
      rw [e1] at p
      exact .inl ⟨G, loc, sh, ok, by rw [e1]; exact p⟩
    | ok tx s1 =>
      unfold e2 at p
      rw [e1] at p
      simp only [Res.bind_ok] at p
      cases e2 : eb loc s1 with
      | bad => rw [e2] at p; exact p.elim
      | exc x s =>
        rw [e2] at p
        refine .inl ⟨G, loc, sh, ok, ?_⟩
        rw [e1]
        intro v H1 G1 l1 ok1 r1
        refine ⟨G1, loc, s1, ok1, ?_⟩
        rw [e2]
        exact fun d H2 G2 l2 => p d H2 G2 (l1.trans l2)
      | ok ty s2 =>
        rw [e2] at p
        simp only [Res.bind_ok] at p
        have key : ∀ v H1 G1, GLe G G1 → Ok X.K G1 loc s1 σ H1 → rep X.K G1 tx v → ∀ u H2 G2, GLe G1 G2 → Ok X.K G2 loc s2 σ H2 → rep X.K G2 ty u → if isDc tx s2 then rIxD v u H2 Q else rIxA X.K v u H2 Q :=
          fun v H1 G1 l1 ok1 r1 u H2 G2 l2 ok2 r2 => ix_core (W := W) ok2 (rep_le l2 r1) r2 (post.le (l1.trans l2) p)
        cases hd : isDc tx s2 with
        | true =>
          rw [hd] at key
          refine .inl ⟨G, loc, sh, ok, ?_⟩
          rw [e1]
          intro v H1 G1 l1 ok1 r1
          refine ⟨G1, loc, s1, ok1, ?_⟩
          rw [e2]
          exact fun u H2 G2 l2 ok2 r2 => key v H1 G1 l1 ok1 r1 u H2 G2 l2 ok2 r2
        | false =>
          rw [hd] at key
          refine .inr ⟨G, loc, sh, ok, ?_⟩
          rw [e1]
          intro v H1 G1 l1 ok1 r1
          refine ⟨G1, loc, s1, ok1, ?_⟩
          rw [e2]
          exact fun u H2 G2 l2 ok2 r2 => key v H1 G1 l1 ok1 r1 u H2 G2 l2 ok2 r2

/-! ### slices -/
def cutA {α : Type} (xs : List α) (lo hi : Option Int) : List α := (xs.drop (HT.sIx xs.length 0 lo)).take (HT.sIx xs.length xs.length hi - HT.sIx xs.length 0 lo)
theorem cutA_length {α : Type} (xs : List α) (lo hi : Option Int) : (cutA xs lo hi).length ≤ xs.length := by
  unfold cutA
  rw [List.length_take, List.length_drop]
  omega
theorem cutA_map {α β : Type} (f : α → β) (xs : List α) (lo hi : Option Int) : (cutA xs lo hi).map f = cutA (xs.map f) lo hi := by
  unfold cutA
  rw [List.length_map, List.map_take, List.map_drop]
theorem RepL.cut {K : PySem.W.Frag} {F : Hp} {al : List Addr} {ts : List T} {vs : List V} (lo hi : Option Int) (r : RepL K F al ts vs) : RepL K F al (cutA ts lo hi) (cutV vs lo hi) := by
  unfold cutA cutV
  rw [RepL.length r]
  exact RepL.take _ (RepL.drop _ r)
abbrev EvO := Loc → Sh → Res (Option Int)
def oNone : EvO := fun _ s => .ok none s
def oSome (a : Ev) : EvO := fun l s => (a l s).bind fun x s1 => match x with
  | .int i => .ok (some i) s1
  | _ => .bad
def liftPo (K : PySem.W.Frag) (W : WX) (ev : EvO) : TO := fun σ H Q => ∃ G loc sh, Ok K G loc sh σ H ∧ post (fun _ _ a b => b = a) K W G loc σ (ev loc sh) Q
abbrev TPO' (X : Cx) (W : WX) (o : Option Expr) (ev : EvO) : Prop := PO X o (liftPo X.K W ev)
theorem PO.weak {X : Cx} {e : Option Expr} {t t' : TO} (h : PO X e t) (w : ∀ σ H Q, t' σ H Q → t σ H Q) : PO X e t' := ⟨fun pins s σ H Q I q => h.run pins s σ H Q I (w σ H Q q)⟩
theorem tpo_none : TPO' X W none oNone := PO.weak po_none fun σ H Q ⟨G, loc, sh, ok, p⟩ => p none H G (GLe.refl _) ok rfl
theorem tpo_some (h : TPE X W a ea) : TPO' X W (some a) (oSome ea) := PO.weak (po_some h) fun σ H Q ⟨G, loc, sh, ok, p⟩ => by
  refine ⟨G, loc, sh, ok, (post.bind (Rp := rpV X.K) p).imp ?_⟩
  rintro v H1 ⟨G1, t, s1, l1, ok1, r1, p1⟩
  cases t with
  | int i => exact ⟨i, r1, p1 (some i) H1 G1 (GLe.refl _) ok1 rfl⟩
  | _ => exact p1.elim
def opSl : T → Option Int → Option Int → Sh → Res T
  | .lst xs, lo, hi, s => .ok (.lst (cutA xs lo hi)) s
  | .scr ns, lo, hi, s => .ok (.lst ((cutA ns lo hi).map T.int)) s
  | .tup xs, lo, hi, s => .ok (.tup (cutA xs lo hi)) s
  | .str z, lo, hi, s => .ok (.str (cutS z lo hi)) s
  | .cel k, lo, hi, s => match s[k]? with
    | some (.lst xs) => .ok (.lst (cutA xs lo hi)) s
    | _ => .bad
  | _, _, _, _ => .bad
/-- a list's -/
def opSlL : T → Option Int → Option Int → Sh → Res T
  | .lst xs, lo, hi, s => .ok (.lst (cutA xs lo hi)) s
  | .scr ns, lo, hi, s => .ok (.lst ((cutA ns lo hi).map T.int)) s
  | .cel k, lo, hi, s => match s[k]? with
    | some (.lst xs) => .ok (.lst (cutA xs lo hi)) s
    | _ => .bad
  | _, _, _, _ => .bad
def eSl (f : T → Option Int → Option Int → Sh → Res T) (a : Ev) (lo hi : EvO) : Ev := fun l s => (a l s).bind fun x s1 => (lo l s1).bind fun i s2 => (hi l s2).bind fun j s3 => f x i j s3
theorem cutS_len (z : Str) (lo hi : Option Int) : (cutS z lo hi).length ≤ z.length := by
  show ((z.cps.toList.drop _).take _).toArray.size ≤ _
  rw [List.size_toArray, List.length_take, List.length_drop, Array.length_toList]
  show min _ (z.cps.size - _) ≤ z.cps.size
  omega
def rSlX (K : PySem.W.Frag) : V → Option Int → Option Int → Hp → VK → Prop := fun x lo hi H Q => rSlL K x lo hi H Q ∨ rSlA K x lo hi H Q ∨ rSlS x lo hi H Q
theorem cut_whole {α : Type} {xs : List α} {lo hi : Option Int} (h : HT.sIx xs.length 0 lo = 0 ∧ HT.sIx xs.length xs.length hi = xs.length) : cutA xs lo hi = xs := by
  unfold cutA
  rw [h.1, h.2]
  simp
theorem sl_coreO {K : PySem.W.Frag} {G : Gh} {loc : Loc} {sh : Sh} {σ : L2.St} {H : Hp} {x : V} {t : T} {lo hi : Option Int} {Q : VK} (ok : Ok K G loc sh σ H) (rx : rep K G t x) (p : post (fun G H t v => OwnR K G loc σ H t v) K W G loc σ (opSlL t lo hi sh) Q) : rSlX K x lo hi H Q := by
  cases t with
  | lst xs =>
    obtain ⟨a, vs, rfl, h1, r1, hz⟩ := ok.hl rx
    exact .inl ⟨a, vs, rfl, .of h1, ok.newLO (RepL.cut lo hi r1) (Nat.le_trans (cutA_length _ _ _) hz) p⟩
  | scr ns =>
    obtain ⟨a, rfl, h1, hz⟩ := rx
    refine .inl ⟨a, _, rfl, SqL.fle ok.fle h1, ok.newLO (xs := (cutA ns lo hi).map T.int) ?_ (by rw [List.length_map]; exact Nat.le_trans (cutA_length _ _ _) hz) p⟩
    rw [cutA_map]
    exact RepL.cut lo hi (RepL.ints ns)
  | cel k =>
    obtain ⟨a, rfl, ha⟩ := rx
    cases e : sh[k]? with
    | none => have : opSlL (.cel k) lo hi sh = .bad := by unfold opSlL; simp only [e]
              rw [this] at p; exact p.elim
    | some so =>
      cases so with
      | lst xs =>
        have : opSlL (.cel k) lo hi sh = .ok (.lst (cutA xs lo hi)) sh := by unfold opSlL; simp only [e]
        rw [this] at p
        obtain ⟨b, vs, e1, _, h1, r1, hz⟩ := ok.hc (K := K) (v := .ref a) ⟨a, rfl, ha⟩ e
        cases e1
        exact .inl ⟨a, vs, rfl, .of h1, ok.newLO (RepL.cut lo hi r1) (Nat.le_trans (cutA_length _ _ _) hz) p⟩
      | _ => have : opSlL (.cel k) lo hi sh = .bad := by unfold opSlL; simp only [e]
             rw [this] at p; exact p.elim
  | _ => exact p.elim
theorem sl_core {K : PySem.W.Frag} {G : Gh} {loc : Loc} {sh : Sh} {σ : L2.St} {H : Hp} {x : V} {t : T} {lo hi : Option Int} {Q : VK} (ok : Ok K G loc sh σ H) (rx : rep K G t x) (p : post (rpV K) K W G loc σ (opSl t lo hi sh) Q) : rSlX K x lo hi H Q := by
  have up : ∀ {r : Res T}, post (rpV K) K W G loc σ r Q → post (fun G H t v => OwnR K G loc σ H t v) K W G loc σ r Q := fun {r} p => by
    cases r with
    | ok t s =>
      intro v H' G' le ok' o
      obtain ⟨G2, l2, ok2, r⟩ := OwnR.freeze ok' o
      exact p v H' G2 (le.trans l2) ok2 r
    | exc x s => exact p
    | bad => exact p
  cases t with
  | lst xs => exact sl_coreO (W := W) ok rx (up p)
  | scr ns => exact sl_coreO (W := W) ok rx (up p)
  | cel k => exact sl_coreO (W := W) ok rx (up p)
  | tup xs =>
    obtain ⟨a, vs, rfl, h1, r1, hz⟩ := ok.ht rx
    refine .inr (.inl ⟨a, vs, rfl, h1, fun h => ?_, fun _ => ok.newT (RepL.cut lo hi r1) (Nat.le_trans (cutA_length _ _ _) hz) p⟩)
    rw [RepL.length r1] at h
    have p' : post (rpV K) K W G loc σ (.ok (.tup (cutA xs lo hi)) sh) Q := p
    rw [cut_whole h] at p'
    exact p' _ H G (GLe.refl _) ok rx
  | str z =>
    obtain ⟨rfl, hz⟩ := rx
    exact .inr (.inr ⟨z, rfl, hz, p _ H G (GLe.refl _) ok ⟨rfl, Nat.le_trans (cutS_len z lo hi) hz⟩⟩)
  | _ => exact p.elim
variable {lo hi : Option Expr} {el eh : EvO}
theorem t_sl (ha : TPE X W a ea) (hl : TPO' X W lo el) (hh : TPO' X W hi eh) : TPE X W (.Subscript a (.Slice lo hi none p2) pos) (eSl opSl ea el eh) := PE.weak (pe_slice (SlR.or sl_list (SlR.or sl_tupA sl_str)) ha hl hh) fun σ H Q ⟨G, loc, sh, ok, p⟩ => by
  refine ⟨G, loc, sh, ok, (post.bind (Rp := rpV X.K) p).imp ?_⟩
  rintro v H1 ⟨G1, t, s1, l1, ok1, r1, p1⟩
  refine ⟨G1, loc, s1, ok1, (post.bind (Rp := fun _ _ a b => b = a) p1).imp ?_⟩
  rintro i H2 ⟨G2, i', s2, l2, ok2, rfl, p2⟩
  refine ⟨G2, loc, s2, ok2, (post.bind (Rp := fun _ _ a b => b = a) p2).imp ?_⟩
  rintro j H3 ⟨G3, j', s3, l3, ok3, rfl, p3⟩
  exact sl_core ok3 (rep_le (l2.trans l3) r1) p3
theorem t_slO (ha : TPE X W a ea) (hl : TPO' X W lo el) (hh : TPO' X W hi eh) : TPO X W (.Subscript a (.Slice lo hi none p2) pos) (eSl opSlL ea el eh) := PE.weak (pe_slice (SlR.or sl_list (SlR.or sl_tupA sl_str)) ha hl hh) fun σ H Q ⟨G, loc, sh, ok, p⟩ => by
  refine ⟨G, loc, sh, ok, (post.bind (Rp := rpV X.K) p).imp ?_⟩
  rintro v H1 ⟨G1, t, s1, l1, ok1, r1, p1⟩
  refine ⟨G1, loc, s1, ok1, (post.bind (Rp := fun _ _ a b => b = a) p1).imp ?_⟩
  rintro i H2 ⟨G2, i', s2, l2, ok2, rfl, p2⟩
  refine ⟨G2, loc, s2, ok2, (post.bind (Rp := fun _ _ a b => b = a) p2).imp ?_⟩
  rintro j H3 ⟨G3, j', s3, l3, ok3, rfl, p3⟩
  exact sl_coreO ok3 (rep_le (l2.trans l3) r1) p3
end
end TL

/-! the T-layer, 9: built-in functions -/
namespace TL
open PySem PySem.Spec L2

def blsOf : List T → Option (List Bool)
  | [] => some []
  | .bl b :: r => (blsOf r).map (b :: ·)
  | _ => none
def intsOf : List T → Option (List Int)
  | [] => some []
  | .int b :: r => (intsOf r).map (b :: ·)
  | _ => none
def strsOf : List T → Option (List Str)
  | [] => some []
  | .str b :: r => (strsOf r).map (b :: ·)
  | _ => none
theorem blsOf_map (bs : List Bool) : blsOf (bs.map T.bl) = some bs := by
  induction bs with
  | nil => rfl
  | cons b bs ih => simp [blsOf, ih]
theorem intsOf_map (bs : List Int) : intsOf (bs.map T.int) = some bs := by
  induction bs with
  | nil => rfl
  | cons b bs ih => simp [intsOf, ih]
theorem strsOf_map (bs : List Str) : strsOf (bs.map T.str) = some bs := by
  induction bs with
  | nil => rfl
  | cons b bs ih => simp [strsOf, ih]
section
variable {K : PySem.W.Frag} {F : Hp} {al : List Addr}
theorem RepL.bls : ∀ {ts : List T} {vs : List V} {bs : List Bool}, RepL K F al ts vs → blsOf ts = some bs → vs = bs.map V.bl
  | [], _, _, r, e => by cases r; cases e; rfl
  | t :: ts, _, bs, r, e => by
    obtain ⟨v, q, rfl, r1, r2⟩ := r
    cases t with
    | bl b =>
      cases h : blsOf ts with
      | none => simp [blsOf, h] at e
      | some cs =>
        have e' : some (b :: cs) = some bs := by rw [← e]; simp [blsOf, h]
        cases e'
        cases r1
        rw [List.map_cons, RepL.bls r2 h]
    | _ => cases e
theorem RepL.ints' : ∀ {ts : List T} {vs : List V} {bs : List Int}, RepL K F al ts vs → intsOf ts = some bs → vs = bs.map V.int
  | [], _, _, r, e => by cases r; cases e; rfl
  | t :: ts, _, bs, r, e => by
    obtain ⟨v, q, rfl, r1, r2⟩ := r
    cases t with
    | int b =>
      cases h : intsOf ts with
      | none => simp [intsOf, h] at e
      | some cs =>
        have e' : some (b :: cs) = some bs := by rw [← e]; simp [intsOf, h]
        cases e'
        cases r1
        rw [List.map_cons, RepL.ints' r2 h]
    | _ => cases e
theorem RepL.strs : ∀ {ts : List T} {vs : List V} {bs : List Str}, RepL K F al ts vs → strsOf ts = some bs → vs = bs.map V.str ∧ ∀ b ∈ bs, b.length ≤ sizeLine
  | [], _, _, r, e => by cases r; cases e; exact ⟨rfl, fun _ h => by cases h⟩
  | t :: ts, _, bs, r, e => by
    obtain ⟨v, q, rfl, r1, r2⟩ := r
    cases t with
    | str b =>
      cases h : strsOf ts with
      | none => simp [strsOf, h] at e
      | some cs =>
        have e' : some (b :: cs) = some bs := by rw [← e]; simp [strsOf, h]
        cases e'
        obtain ⟨rfl, hl⟩ := r1
        obtain ⟨q1, q2⟩ := RepL.strs r2 h
        refine ⟨by rw [List.map_cons, q1], fun c hc => ?_⟩
        rcases List.mem_cons.mp hc with rfl | hc
        · exact hl
        · exact q2 c hc
    | _ => cases e
theorem RepL.ofStrs : ∀ (bs : List Str), (∀ b ∈ bs, b.length ≤ sizeLine) → RepL K F al (bs.map T.str) (bs.map V.str)
  | [], _ => rfl
  | b :: bs, h => ⟨_, _, rfl, ⟨rfl, h b (by simp)⟩, RepL.ofStrs bs fun c hc => h c (by simp [hc])⟩
end
theorem strsOf_len : ∀ {ts : List T} {bs : List Str}, strsOf ts = some bs → bs.length = ts.length
  | [], _, e => by cases e; rfl
  | t :: ts, bs, e => by
    cases t with
    | str b =>
      cases h : strsOf ts with
      | none => simp [strsOf, h] at e
      | some cs =>
        have e' : some (b :: cs) = some bs := by rw [← e]; simp [strsOf, h]
        cases e'
        rw [List.length_cons, List.length_cons, strsOf_len h]
    | _ => cases e

/-! ### len -/
def lenT : T → Sh → Option Nat
  | .lst xs, _ => some xs.length
  | .tup xs, _ => some xs.length
  | .str x, _ => some x.length
  | .dct kvs, _ => some kvs.length
  | .scr ns, _ => some ns.length
  | .cel k, s => match s[k]? with
    | some (.lst xs) => some xs.length
    | some (.dct xs) => some xs.length
    | _ => none
  | _, _ => none
def biLen : List T → Sh → Res T
  | [x], s => match lenT x s with
    | some n => .ok (.int n) s
    | none => .bad
  | _, _ => .bad
def rLenD : List V → Hp → VK → Prop := fun xs H Q => ∃ a kvs, xs = [V.ref a] ∧ Rd H a (.dK kvs) ∧ Q (.int kvs.length) H
theorem call_lenR {X : Cx} : CallR X (.builtin "len") rLenD := by
  intro pins s σ H xs us Q I r h
  obtain ⟨a, kvs, rfl, ha, q⟩ := h
  obtain ⟨u, rfl, ru⟩ := vals1 r
  cases ru
  exact d_len I ha fun t s' I' => ⟨.int kvs.length, H, I', ⟨t, rfl⟩, q⟩
theorem CallR.or {X : Cx} {f : Value} {r r' : List V → Hp → VK → Prop} (h : CallR X f r) (h' : CallR X f r') : CallR X f (fun x H Q => r x H Q ∨ r' x H Q) := fun pins s σ H xs us Q I rv q => q.elim (h pins s σ H xs us Q I rv) (h' pins s σ H xs us Q I rv)
def rLenV (K : PySem.W.Frag) : List V → Hp → VK → Prop := fun xs H Q => ∃ x n, xs = [x] ∧ LenV K x H n ∧ Q (.int n) H
def rLenA (K : PySem.W.Frag) : List V → Hp → VK → Prop := fun x H Q => rLenV K x H Q ∨ rLenD x H Q
theorem call_lenA {X : Cx} : CallR X (.builtin "len") (rLenA X.K) := CallR.or call_len call_lenR
theorem sv_len {K : PySem.W.Frag} : SvL K (rLenA K) biLen := by
  intro W G loc sh σ H vs ts Q ok r p
  unfold biLen at p
  split at p
  · rename_i x
    obtain ⟨v, rfl, r1⟩ := RepL.one r
    cases e : lenT x sh with
    | none => rw [e] at p; exact p.elim
    | some n =>
      rw [e] at p
      have q : Q (.int n) H := p _ H G (GLe.refl _) ok rfl
      cases x with
      | lst xs => cases e; obtain ⟨a, vs, rfl, h, h2, _⟩ := ok.hl r1; exact .inl ⟨_, _, rfl, .inl ⟨vs, .of h, by rw [RepL.length h2]⟩, q⟩
      | tup xs => cases e; obtain ⟨a, vs, rfl, h, h2, _⟩ := ok.ht r1; exact .inl ⟨_, _, rfl, .inr ⟨vs, h, by rw [RepL.length h2]⟩, q⟩
      | str x => cases e; obtain ⟨rfl, h⟩ := r1; exact .inl ⟨_, _, rfl, ⟨h, rfl⟩, q⟩
      | dct xs => cases e; obtain ⟨a, vs, rfl, h, h2, _⟩ := ok.hd r1; exact .inr ⟨a, vs, rfl, h, by rw [RepD.length h2]; exact q⟩
      | scr ns => cases e; obtain ⟨a, rfl, h, _⟩ := r1; exact .inl ⟨_, _, rfl, .inl ⟨_, SqL.fle ok.fle h, by rw [List.length_map]⟩, q⟩
      | cel k =>
        obtain ⟨a, rfl, ha⟩ := r1
        unfold lenT at e
        cases hs : sh[k]? with
        | none => simp only [hs] at e; cases e
        | some so =>
          simp only [hs] at e
          obtain ⟨a', ha', s⟩ := ok.shr k so hs
          rw [ha] at ha'
          cases ha'
          cases so with
          | lst xs => cases e; obtain ⟨vs, q1, q2, _⟩ := s; exact .inl ⟨_, _, rfl, .inl ⟨vs, .of q1, by rw [RepL.length q2]⟩, q⟩
          | dct xs => cases e; obtain ⟨vs, q1, q2, _⟩ := s; exact .inr ⟨a, vs, rfl, .inl q1, by rw [RepD.length q2]; exact q⟩
          | ins C fs => cases e
      | _ => cases e
  · exact p.elim

/-! ### all, any, sum, max, min of a list -/
def biAll : List T → Sh → Res T
  | [.lst xs], s => match blsOf xs with
    | some bs => .ok (.bl (bs.all id)) s
    | none => .bad
  | _, _ => .bad
def biAny : List T → Sh → Res T
  | [.lst xs], s => match blsOf xs with
    | some bs => .ok (.bl (bs.any id)) s
    | none => .bad
  | _, _ => .bad
theorem sv_all {K : PySem.W.Frag} : SvL K (rAll K) biAll := by
  intro W G loc sh σ H vs ts Q ok r p
  unfold biAll at p
  split at p
  · rename_i xs
    obtain ⟨v, rfl, r1⟩ := RepL.one r
    obtain ⟨a, vs, rfl, h1, r1, _⟩ := ok.hl r1
    cases e : blsOf xs with
    | none => rw [e] at p; exact p.elim
    | some bs => rw [e] at p; cases RepL.bls r1 e; exact ⟨a, bs, rfl, .of h1, p _ H G (GLe.refl _) ok rfl⟩
  · exact p.elim
theorem sv_any {K : PySem.W.Frag} : SvL K (rAny K) biAny := by
  intro W G loc sh σ H vs ts Q ok r p
  unfold biAny at p
  split at p
  · rename_i xs
    obtain ⟨v, rfl, r1⟩ := RepL.one r
    obtain ⟨a, vs, rfl, h1, r1, _⟩ := ok.hl r1
    cases e : blsOf xs with
    | none => rw [e] at p; exact p.elim
    | some bs => rw [e] at p; cases RepL.bls r1 e; exact ⟨a, bs, rfl, .of h1, p _ H G (GLe.refl _) ok rfl⟩
  · exact p.elim
def biSum : List T → Sh → Res T
  | [.lst xs], s => match intsOf xs with
    | some bs => .ok (.int bs.sum) s
    | none => .bad
  | _, _ => .bad
theorem sv_sum {K : PySem.W.Frag} : SvL K (rSum K) biSum := by
  intro W G loc sh σ H vs ts Q ok r p
  unfold biSum at p
  split at p
  · rename_i xs
    obtain ⟨v, rfl, r1⟩ := RepL.one r
    obtain ⟨a, vs, rfl, h1, r1, _⟩ := ok.hl r1
    cases e : intsOf xs with
    | none => rw [e] at p; exact p.elim
    | some bs => rw [e] at p; cases RepL.ints' r1 e; exact ⟨a, bs, rfl, .of h1, p _ H G (GLe.refl _) ok rfl⟩
  · exact p.elim
/-- keywords: the rule of a call with keywords -/
def SvK (K : PySem.W.Frag) (r : List V → List V → Hp → VK → Prop) (f : List T → List T → Sh → Res T) : Prop :=
  ∀ (W : WX) (G : Gh) (loc : Loc) (sh : Sh) (σ : L2.St) (H : Hp) (vs zs : List V) (ts us : List T) (Q : VK), Ok K G loc sh σ H → repL K G ts vs → repL K G us zs → post (rpV K) K W G loc σ (f ts us sh) Q → r vs zs H Q
def eAK (f : List T → List T → Sh → Res T) (a b : EvL) : Ev := fun l s => (a l s).bind fun xs s1 => (b l s1).bind fun ys s2 => f xs ys s2
section
variable {X : Cx} {W : WX} {x : Str} {p pos : Pos} {e : Expr} {es : List Expr} {kws : List Keyword} {eL eK : EvL} {id : String} {ks : List Str} {r : List V → List V → Hp → VK → Prop} {f : List T → List T → Sh → Res T}
theorem t_bik (hc : CallRK X (.builtin id) ks r) (hf : SvK X.K r f) (hg : Gl X x) (hm : X.mg x = none) (hv : bootBuiltins x = some (.builtin id)) (ha : TPA X W (e :: es) eL) (hk : TPK X W kws eK) (hn : x ≠ "__name__" := by decide) (hdb : (x == ("__debug__" : Str)) = false := by decide)
    (he : backTo pos (starEach (e :: es) X.env) = (false, eval e X.env) :: backTo pos (starEach es X.env) := by rfl) (hpl : (backTo pos (starEach (e :: es) X.env)).any (·.1) = false := by rfl)
    (hall : (backToKw pos (keywordEach kws X.env)).all (·.1.isSome) = true := by rfl) (hnone : (backToKw pos (keywordEach kws X.env)).any (·.1.isNone) = false := by rfl) (hks : (backToKw pos (keywordEach kws X.env)).filterMap (·.1) = ks := by rfl) :
    TPE X W (.Call (.Name x p) (e :: es) kws pos) (eAK f eL eK) := PE.weak (pe_callBK hc hg hm hv ha hk hn hdb he hpl hall hnone hks) fun σ H Q ⟨G, loc, sh, ok, p⟩ => by
  refine ⟨G, loc, sh, ok, (post.bind (Rp := rpL X.K) p).imp ?_⟩
  rintro vs H1 ⟨G1, ts, s1, l1, ok1, r1, p1⟩
  refine ⟨G1, loc, s1, ok1, (post.bind (Rp := rpL X.K) p1).imp ?_⟩
  rintro zs H2 ⟨G2, us, s2, l2, ok2, r2, p2⟩
  exact hf W G2 loc s2 σ H2 vs zs ts us Q ok2 (repL_le l2 r1) r2 p2
end
/-- sum(xs, start=i) -/
def rSumS (K : PySem.W.Frag) : List V → List V → Hp → VK → Prop := fun vs zs H Q => ∃ (a : Addr) (ns : List Int), vs = [V.ref a] ∧ zs = [V.int 0] ∧ SqL K H a (ns.map V.int) ∧ Q (.int ns.sum) H
theorem args_sum_start (a v : Value) : argsOk "sum" ⟨[a], [(Str.ofString "start", v)]⟩ := by unfold argsOk; kernel_rfl
theorem call_sum_start {prog : Program} {w : World} {A : Around} {E : Value → Shared → Prop} {s : Shared} {x : Value} {t0 : Tok} {Q : Value → Shared → Prop}
    (h : wpAny (model prog w) A.in1 (pyIter x) (fun it s₂ => ∃ I fp wr G n P St val, it = .ref I ∧ WalksS prog w A.in1 I fp wr G n P St ∧ St 0 s₂ ∧ (∀ b ∈ fp, b < s₂.heap.objs.size) ∧
      (∀ i v, P i v → ∃ t, v = .int (val i) t) ∧
      ∀ s' t', Moved wr G s₂ s' → Q (.int (preSum val n) t') s') E s) :
    wpAny (model prog w) A (call (.builtin "sum") [x] [(Str.ofString "start", .int 0 t0)]) Q E s := by
  refine PyProof.Rows.kmk_tree F.kind_sum F.plain_sum F.entry_sum (args_sum_start _ _) ?_
  unfold Builtin.«sum»
  simp only [List.length_cons, List.length_nil]
  rw [if_neg (by decide)]
  refine wpAny_bind (wpAny_of_eq (show Builtin.Builtins.bindParams "sum" ["start"] 0 ⟨[], [(Str.ofString "start", .int 0 t0)]⟩ = pure [some (.int 0 t0)] from rfl) ?_)
  refine wpAny_bind (wpAny_mono h (fun it s₂ h₂ => ?_) fun _ _ e => e)
  obtain ⟨I, fp, wr, G, n, P, St, val, rfl, W, hst, hfp, hval, hQ⟩ := h₂
  refine wpAny_bind ?_
  refine wpAny_rule ?_
  refine wpAny_bind (wpAny_mkInt ?_)
  refine wpAny_bind (wpAny_pure ?_)
  simp only [List.forIn_cons, List.forIn_nil]
  refine wpAny_bind (wpAny_bind (wpAny_bind (wpAny_isInstance (T := "int") (b := false) (typeIs_int _ _ _) sub_int_str ?_)))
  simp only [Bool.false_eq_true, if_false]
  refine wpAny_pure (wpAny_bind (wpAny_bind (wpAny_isInstance (T := "int") (b := false) (typeIs_int _ _ _) sub_int_bytes ?_)))
  simp only [Bool.false_eq_true, if_false]
  refine wpAny_pure (wpAny_bind (wpAny_bind (wpAny_isInstance (T := "int") (b := false) (typeIs_int _ _ _) sub_int_bytearray ?_)))
  simp only [Bool.false_eq_true, if_false]
  refine wpAny_pure (wpAny_pure ?_)
  refine wpAny_bind (wpAny_newObj_type ?_)
  have hSf : s₂.heap.objs.size ∉ fp := fun hm => Nat.lt_irrefl _ (hfp _ hm)
  refine wpAny_pure ⟨plainId_quiet F.plain_sum_loop _, codeAny_sum_loopAnyS W val hval s₂.heap.objs.size hSf n 0 _ s₂.toks 0 0 (.inl rfl) rfl (Nat.zero_le _)
    (W.frame 0 s₂ _ _ hst (by first | exact Nat.le_refl _ | exact Nat.le_succ _ | omega) fun b _ o e => Heap.get?_push_of_some _ e) (Heap.get?_push_size _ rfl) fun s' t' hm => ?_⟩
  exact hQ s' t' (hm.drop_new (by first | exact Nat.le_refl _ | exact Nat.le_succ _ | omega))
theorem vals_int_at : ∀ {ns : List Int} {us : List Value} {i : Nat} {v : Value}, Vals (ns.map V.int) us → us[i]? = some v → ∃ t, v = .int (ns.getD i 0) t
  | [], _, _, _, r, e => by cases r; simp at e
  | n :: ns, _, i, v, r, e => by
    rw [List.map_cons] at r
    cases r with
    | cons r1 r2 =>
      cases i with
      | zero =>
        obtain ⟨t, rfl⟩ := r1
        simp at e
        exact ⟨t, by rw [← e]; rfl⟩
      | succ i =>
        obtain ⟨t, q⟩ := vals_int_at (i := i) r2 (by simpa using e)
        exact ⟨t, by rw [q]; simp⟩
theorem cr_sumS {X : Cx} (hc : X.calm = true) : CallRK X (.builtin "sum") [Str.ofString "start"] (rSumS X.K) := by
  intro pins s σ H vs zs us ws Q I r rz h
  obtain ⟨a, ns, rfl, rfl, hs, q⟩ := h
  obtain rfl := Vals.ref1 r
  obtain ⟨w1, rfl, t0, rfl⟩ := vals1 rz
  obtain ⟨its, rv, hl, hz⟩ := I.list hs
  refine call_sum_start (PySem.W.iter_listW (A := X.A.in1) (I.ok.hd hc) hl.isList fun s₂ e W st hfp hw hk => ⟨_, _, _, _, _, _, _, (fun i => ns.getD i 0), rfl, W, st, hfp, fun i v e => ?_, fun s' t' m => ?_⟩)
  · exact vals_int_at rv (by simpa using e)
  · obtain ⟨h', tk, rfl, hk'⟩ := PySem.W.moved_old e rfl m
    refine ⟨.int ns.sum, H, I.kept hk', ⟨t', ?_⟩, q⟩
    rw [PyProof.Rows.preSum_getD, List.take_of_length_le (by rw [List.size_toArray, ← rv.length, List.length_map]; exact Nat.le_refl _)]
def biSumS : List T → List T → Sh → Res T
  | [.lst xs], [.int i], s => if i = 0 then match intsOf xs with
      | some bs => .ok (.int bs.sum) s
      | none => .bad
    else .bad
  | _, _, _ => .bad
theorem sv_sumS {K : PySem.W.Frag} : SvK K (rSumS K) biSumS := by
  intro W G loc sh σ H vs zs ts us Q ok r rz p
  unfold biSumS at p
  split at p
  · rename_i xs i
    obtain ⟨v, rfl, r1⟩ := RepL.one r
    obtain ⟨u, rfl, r2⟩ := RepL.one rz
    cases r2
    obtain ⟨a, vs, rfl, h1, r1, _⟩ := ok.hl r1
    by_cases h : i = 0
    · rw [if_pos h] at p
      subst h
      cases e : intsOf xs with
      | none => rw [e] at p; exact p.elim
      | some bs => rw [e] at p; cases RepL.ints' r1 e; exact ⟨a, bs, rfl, rfl, .of h1, p _ H G (GLe.refl _) ok rfl⟩
    · rw [if_neg h] at p; exact p.elim
  · exact p.elim
/-! ### max(xs, default=d), min(xs, default=d) of ints -/
def rMaxDf (K : PySem.W.Frag) : List V → List V → Hp → VK → Prop := fun vs zs H Q => ∃ (a : Addr) (ns : List Int) (d : Int), vs = [V.ref a] ∧ zs = [V.int d] ∧ SqL K H a (ns.map V.int) ∧ Q (.int (match ns with
  | [] => d
  | n :: r => r.foldl max n)) H
def rMinDf (K : PySem.W.Frag) : List V → List V → Hp → VK → Prop := fun vs zs H Q => ∃ (a : Addr) (ns : List Int) (d : Int), vs = [V.ref a] ∧ zs = [V.int d] ∧ SqL K H a (ns.map V.int) ∧ Q (.int (match ns with
  | [] => d
  | n :: r => r.foldl min n)) H
theorem reads_ints {h : Heap} : ∀ {ns : List Int} {us : List Value}, Vals (ns.map V.int) us → PySem.ReadsAll h us (ns.map PyData.int) []
  | [], _, r => by cases r; exact .nil
  | n :: ns, _, r => by
    rw [List.map_cons] at r
    cases r with
    | cons r1 r2 =>
      obtain ⟨t, rfl⟩ := r1
      exact .cons (as := []) (.int _ _) (reads_ints r2)
theorem alike_ints (ns : List Int) : PySem.W.AlikeAll (ns.map PyData.int) := by
  refine ⟨fun x hx y hy => ?_, fun x hx => ?_⟩
  · obtain ⟨i, _, rfl⟩ := List.mem_map.mp hx
    obtain ⟨j, _, rfl⟩ := List.mem_map.mp hy
    rfl
  · obtain ⟨i, _, rfl⟩ := List.mem_map.mp hx
    exact fun z => nomatch z
theorem depth_ints : ∀ ns : List Int, PyData.depthAll (ns.map PyData.int) ≤ 1
  | [] => Nat.zero_le _
  | n :: ns => by
    have := depth_ints ns
    show max _ _ ≤ 1
    exact Nat.max_le.mpr ⟨by simp [PyData.depth], this⟩
theorem reads_int {h : Heap} {v : Value} {i : Int} {as : List Addr} (r : PySem.Reads h v (.int i) as) : ∃ t, v = .int i t := by
  cases r
  exact ⟨_, rfl⟩
theorem cr_maxDf {X : Cx} (hc : X.calm = true) (hu : X.A.units + 2 < cLine) : CallRK X (.builtin "max") [Str.ofString "default"] (rMaxDf X.K) := by
  intro pins s σ H vs zs us ws Q I r rz h
  obtain ⟨a, ns, d, rfl, rfl, hs, q⟩ := h
  obtain rfl := Vals.ref1 r
  obtain ⟨w1, rfl, t0, rfl⟩ := vals1 rz
  obtain ⟨its, rv, hl, hz⟩ := I.list hs
  refine PySem.W.max_list_default (xs := ns.map PyData.int) (I.ok.hd hc) hl.isList (reads_ints (h := s.heap) (by simpa using rv)) (alike_ints ns) (by have := depth_ints ns; omega) (fun e h' tk hk => ?_) fun y ys i v h' tk bs e ev rd hk => ?_
  · have : ns = [] := List.map_eq_nil_iff.mp e
    subst this
    exact ⟨.int d, H, I.kept hk, ⟨_, rfl⟩, q⟩
  · cases ns with
    | nil => cases e
    | cons n ns =>
      cases e
      rw [PySem.W.maxD_ints] at rd
      obtain ⟨t, rfl⟩ := reads_int rd
      exact ⟨.int _, H, I.kept hk, ⟨_, rfl⟩, q⟩
theorem cr_minDf {X : Cx} (hc : X.calm = true) (hu : X.A.units + 2 < cLine) : CallRK X (.builtin "min") [Str.ofString "default"] (rMinDf X.K) := by
  intro pins s σ H vs zs us ws Q I r rz h
  obtain ⟨a, ns, d, rfl, rfl, hs, q⟩ := h
  obtain rfl := Vals.ref1 r
  obtain ⟨w1, rfl, t0, rfl⟩ := vals1 rz
  obtain ⟨its, rv, hl, hz⟩ := I.list hs
  refine PySem.W.min_list_default (xs := ns.map PyData.int) (I.ok.hd hc) hl.isList (reads_ints (h := s.heap) (by simpa using rv)) (alike_ints ns) (by have := depth_ints ns; omega) (fun e h' tk hk => ?_) fun y ys i v h' tk bs e ev rd hk => ?_
  · have : ns = [] := List.map_eq_nil_iff.mp e
    subst this
    exact ⟨.int d, H, I.kept hk, ⟨_, rfl⟩, q⟩
  · cases ns with
    | nil => cases e
    | cons n ns =>
      cases e
      rw [PySem.W.minD_ints] at rd
      obtain ⟨t, rfl⟩ := reads_int rd
      exact ⟨.int _, H, I.kept hk, ⟨_, rfl⟩, q⟩
def maxL : List Int → Int → Int
  | [], d => d
  | n :: r, _ => r.foldl max n
def minL : List Int → Int → Int
  | [], d => d
  | n :: r, _ => r.foldl min n
def biMaxDf : List T → List T → Sh → Res T
  | [.lst xs], [.int i], s => match intsOf xs with
    | some bs => .ok (.int (maxL bs i)) s
    | none => .bad
  | _, _, _ => .bad
def biMinDf : List T → List T → Sh → Res T
  | [.lst xs], [.int i], s => match intsOf xs with
    | some bs => .ok (.int (minL bs i)) s
    | none => .bad
  | _, _, _ => .bad
theorem sv_maxDf {K : PySem.W.Frag} : SvK K (rMaxDf K) biMaxDf := by
  intro W G loc sh σ H vs zs ts us Q ok r rz p
  unfold biMaxDf at p
  split at p
  · rename_i xs i
    obtain ⟨v, rfl, r1⟩ := RepL.one r
    obtain ⟨u, rfl, r2⟩ := RepL.one rz
    cases r2
    obtain ⟨a, vs, rfl, h1, r1, _⟩ := ok.hl r1
    cases e : intsOf xs with
    | none => rw [e] at p; exact p.elim
    | some bs =>
      rw [e] at p
      cases RepL.ints' r1 e
      refine ⟨a, bs, i, rfl, rfl, .of h1, ?_⟩
      have := p (.int (maxL bs i)) H G (GLe.refl _) ok rfl
      cases bs <;> exact this
  · exact p.elim
theorem sv_minDf {K : PySem.W.Frag} : SvK K (rMinDf K) biMinDf := by
  intro W G loc sh σ H vs zs ts us Q ok r rz p
  unfold biMinDf at p
  split at p
  · rename_i xs i
    obtain ⟨v, rfl, r1⟩ := RepL.one r
    obtain ⟨u, rfl, r2⟩ := RepL.one rz
    cases r2
    obtain ⟨a, vs, rfl, h1, r1, _⟩ := ok.hl r1
    cases e : intsOf xs with
    | none => rw [e] at p; exact p.elim
    | some bs =>
      rw [e] at p
      cases RepL.ints' r1 e
      refine ⟨a, bs, i, rfl, rfl, .of h1, ?_⟩
      have := p (.int (minL bs i)) H G (GLe.refl _) ok rfl
      cases bs <;> exact this
  · exact p.elim
end TL

/-! sorting of data that is compared (U1): numbers, texts, tuples of these -/
namespace PySem.W
open PySem PySem.Calls PyProof.Rows PySem.SeqAt
abbrev lexT (a b : List (Int ⊕ List Nat)) : Bool := PyProof.Rows.lexLt itemOrd a b
mutual
theorem toksE : ∀ (x y : PyData), PyData.eqv x y = true → keyToks x = keyToks y
  | .none, y, h => by cases y <;> first | rfl | simp [PyData.eqv] at h
  | .bool a, y, h => by
    cases y with
    | bool b => have e : a = b := by simpa [PyData.eqv] using h
                rw [e]
    | int j => have e : (if a = true then (1 : Int) else 0) = j := by simpa [PyData.eqv] using h
               simp only [keyToks]
               rw [e]
    | _ => simp [PyData.eqv] at h
  | .int i, y, h => by
    cases y with
    | bool b => have e : i = (if b = true then (1 : Int) else 0) := by simpa [PyData.eqv] using h
                simp only [keyToks]
                rw [e]
    | int j => have e : i = j := by simpa [PyData.eqv] using h
               rw [e]
    | _ => simp [PyData.eqv] at h
  | .str a, y, h => by
    cases y with
    | str b => have e : a = b := by simpa [PyData.eqv] using h
               rw [e]
    | _ => simp [PyData.eqv] at h
  | .list xs, y, h => by
    cases y with
    | list ys => simp only [keyToks]; exact toksEs xs ys (by simpa [PyData.eqv] using h)
    | _ => simp [PyData.eqv] at h
  | .tuple xs, y, h => by
    cases y with
    | tuple ys => simp only [keyToks]; exact toksEs xs ys (by simpa [PyData.eqv] using h)
    | _ => simp [PyData.eqv] at h
  | .dict _, y, h => by cases y <;> simp [PyData.eqv] at h
theorem toksEs : ∀ (xs ys : List PyData), PyData.eqvAll xs ys = true → keyToksAll xs = keyToksAll ys
  | [], [], _ => rfl
  | [], _ :: _, h => by simp [PyData.eqvAll] at h
  | _ :: _, [], h => by simp [PyData.eqvAll] at h
  | x :: xs, y :: ys, h => by
    rw [eqv_all_cons, Bool.and_eq_true] at h
    rw [toks_all_cons, toks_all_cons, toksE x y h.1, toksEs xs ys h.2]
end
mutual
/-- what is told of x < y, the rows of signs tell, whatever stands behind; of like ones: no -/
theorem toksO : ∀ (x y : PyData) (k : Bool), ordD x y = some k → (PyData.eqv x y = false → ∀ l m, lexT (keyToks x ++ l) (keyToks y ++ m) = k) ∧ (PyData.eqv x y = true → k = false)
  | .int a, .int b, k, h => by
    cases Option.some.inj h
    refine ⟨fun e l m => ?_, fun e => ?_⟩
    · have hne : a ≠ b := fun q => by subst q; simp [PyData.eqv] at e
      simp only [keyToks, List.cons_append, List.nil_append]
      exact (lex_atom (fun q => hne (Sum.inl.inj q)) l m).trans (lex_one _ _)
    · have e' : a = b := by simpa [PyData.eqv] using e
      rw [e']
      exact decide_eq_false (by omega)
  | .str a, .str b, k, h => by
    cases Option.some.inj h
    refine ⟨fun e l m => ?_, fun e => ?_⟩
    · have hne : a ≠ b := fun q => by subst q; simp [PyData.eqv] at e
      simp only [keyToks, List.cons_append, List.nil_append]
      exact (lex_atom (fun q => hne (str_of_cps (Sum.inr.inj q))) l m).trans (lex_one _ _)
    · have e' : a = b := by simpa [PyData.eqv] using e
      rw [e']
      exact decide_eq_false (List.lt_irrefl _)
  | .tuple xs, .tuple ys, k, h => by
    have t := toksOs xs ys k (by simpa [ordD] using h)
    simp only [keyToks, PyData.eqv]
    exact t
  | .none, _, _, h => by simp [ordD] at h
  | .bool _, _, _, h => by simp [ordD] at h
  | .list _, _, _, h => by simp [ordD] at h
  | .dict _, _, _, h => by simp [ordD] at h
  | .int _, .none, _, h => by simp [ordD] at h
  | .int _, .bool _, _, h => by simp [ordD] at h
  | .int _, .str _, _, h => by simp [ordD] at h
  | .int _, .list _, _, h => by simp [ordD] at h
  | .int _, .tuple _, _, h => by simp [ordD] at h
  | .int _, .dict _, _, h => by simp [ordD] at h
  | .str _, .none, _, h => by simp [ordD] at h
  | .str _, .bool _, _, h => by simp [ordD] at h
  | .str _, .int _, _, h => by simp [ordD] at h
  | .str _, .list _, _, h => by simp [ordD] at h
  | .str _, .tuple _, _, h => by simp [ordD] at h
  | .str _, .dict _, _, h => by simp [ordD] at h
  | .tuple _, .none, _, h => by simp [ordD] at h
  | .tuple _, .bool _, _, h => by simp [ordD] at h
  | .tuple _, .int _, _, h => by simp [ordD] at h
  | .tuple _, .str _, _, h => by simp [ordD] at h
  | .tuple _, .list _, _, h => by simp [ordD] at h
  | .tuple _, .dict _, _, h => by simp [ordD] at h
theorem toksOs : ∀ (xs ys : List PyData) (k : Bool), ordDs xs ys = some k → (PyData.eqvAll xs ys = false → ∀ l m, lexT (keyToksAll xs ++ l) (keyToksAll ys ++ m) = k) ∧ (PyData.eqvAll xs ys = true → k = false)
  | [], [], k, h => by
    have h' : some false = some k := by simpa [ordDs] using h
    cases h'
    exact ⟨fun e => by simp [PyData.eqvAll] at e, fun _ => rfl⟩
  | [], y :: ys, k, h => by
    have h' : some true = some k := by simpa [ordDs] using h
    cases h'
    refine ⟨fun _ l m => ?_, fun e => by simp [PyData.eqvAll] at e⟩
    rw [toks_all_cons]
    simp only [keyToksAll, List.cons_append, List.nil_append]
    exact (lex_atom (by simp) _ _).trans (lex_one _ _)
  | x :: xs, [], k, h => by
    have h' : some false = some k := by simpa [ordDs] using h
    cases h'
    refine ⟨fun _ l m => ?_, fun e => by simp [PyData.eqvAll] at e⟩
    rw [toks_all_cons]
    simp only [keyToksAll, List.cons_append, List.nil_append]
    exact (lex_atom (by simp) _ _).trans (lex_one _ _)
  | x :: xs, y :: ys, k, h => by
    rw [eqv_all_cons, toks_all_cons, toks_all_cons]
    cases e : PyData.eqv x y with
    | true =>
      have h' : ordDs xs ys = some k := by simpa [ordDs, e] using h
      obtain ⟨q1, q2⟩ := toksOs xs ys k h'
      rw [Bool.true_and]
      refine ⟨fun e2 l m => ?_, q2⟩
      rw [toksE x y e]
      simp only [List.cons_append, List.append_assoc]
      exact (lex_self (O := itemOrd) _ _ _).trans ((lex_pre _ _ _).trans (q1 e2 l m))
    | false =>
      have h' : ordD x y = some k := by simpa [ordDs, e] using h
      obtain ⟨q1, q2⟩ := toksO x y k h'
      rw [Bool.false_and]
      refine ⟨fun _ l m => ?_, fun e2 => absurd e2 Bool.false_ne_true⟩
      simp only [List.cons_append, List.append_assoc]
      exact (lex_self (O := itemOrd) _ _ _).trans (q1 e _ _)
end
theorem ord_is {x y : PyData} {k : Bool} (h : ordD x y = some k) : dataLt x y = k := by
  obtain ⟨q1, q2⟩ := toksO x y k h
  unfold dataLt
  cases e : PyData.eqv x y with
  | true =>
    rw [toksE x y e, q2 e]
    exact lex_irrefl _
  | false =>
    have := q1 e [] []
    simpa using this
section
variable {prog : Program} {w : World} {A : Around} {s : Shared}
theorem oneLt_ord {f : Bool} {da db : PyData} {a b : Value} {as bs : List Addr} {k : Bool} {E : Value → Shared → Prop} {Q : Bool → Shared → Prop} (hf : f = true → ∀ xs, da ≠ .tuple xs) (ra : Reads s.heap a da as) (rb : Reads s.heap b db bs) (p1 : da.plain = true) (p2 : db.plain = true) (h : ordD da db = some k)
    (hu : A.units + min da.depth db.depth < cLine) (hq : Q k s) : wpAny (model prog w) A (oneLt' f a b) Q E s := by
  cases f with
  | false =>
    rw [oneLt'_eq]
    simp only [Bool.false_eq_true, if_false]
    exact wpAny_bind (rcLt_ord da db A s a b as bs k ra rb p1 p2 hu h prog w E _ (wpAny_truthy_bool hq))
  | true =>
    cases da with
    | int x =>
      cases db with
      | int y =>
        cases ra; cases rb
        cases Option.some.inj h
        exact oneLt_int hq
      | _ => simp [ordD] at h
    | str x =>
      cases db with
      | str y =>
        cases ra; cases rb
        cases Option.some.inj h
        exact oneLt_str hq
      | _ => simp [ordD] at h
    | tuple xs => exact absurd rfl (hf rfl xs)
    | _ => simp [ordD] at h
theorem katLex_ord {b fin k : Bool} {Q : Bool → Shared → Prop} : ∀ (xs ys : List PyData) (i : Nat) (vs ws : List Value) (as bs : List Addr), ReadsAll s.heap vs xs as → ReadsAll s.heap ws ys bs → PyData.plainAll xs = true → PyData.plainAll ys = true → ordDs xs ys = some k →
    A.units + min (PyData.depthAll xs) (PyData.depthAll ys) < cLine → (b = true → i = 0 → ∀ x r t, xs = x :: r → x ≠ .tuple t) → fin = decide (xs.length < ys.length) → Q k s → KatLex prog w A b fin Q (vs.zip ws) i s
  | [], [], i, _, _, _, _, ra, rb, _, _, h, _, _, hf, hq => by
    cases ra; cases rb
    have h' : some false = some k := by simpa [ordDs] using h
    cases h'
    subst hf
    exact kat_nil hq
  | [], y :: ys, i, _, _, _, _, ra, rb, _, _, h, _, _, hf, hq => by
    cases ra
    have h' : some true = some k := by simpa [ordDs] using h
    cases h'
    have e : fin = true := hf.trans (decide_eq_true (Nat.succ_pos _))
    subst e
    rw [List.zip_nil_left]
    exact kat_nil hq
  | x :: xs, [], i, _, _, _, _, ra, rb, _, _, h, _, _, hf, hq => by
    cases rb
    have h' : some false = some k := by simpa [ordDs] using h
    cases h'
    have e : fin = false := hf.trans (decide_eq_false (Nat.not_lt_zero _))
    subst e
    rw [List.zip_nil_right]
    exact kat_nil hq
  | x :: xs, y :: ys, i, _, _, _, _, ra, rb, p1, p2, h, hu, hb, hf, hq => by
    obtain ⟨p1, p3⟩ := plain_cons p1
    obtain ⟨p2, p4⟩ := plain_cons p2
    have hf' : fin = decide (xs.length < ys.length) := by
      rw [hf]
      simp only [List.length_cons, Nat.add_lt_add_iff_right]
    cases ra with
    | cons r rs =>
      cases rb with
      | cons r' rs' =>
        rw [List.zip_cons_cons]
        refine kat_cons (eqAt_plain x y A s _ _ _ _ r r' p1 p2 (room_head hu) prog w _ _ ?_)
        cases e : PyData.eqv x y with
        | true =>
          have h' : ordDs xs ys = some k := by simpa [ordDs, e] using h
          exact kat_yes (katLex_ord xs ys (i + 1) _ _ _ _ rs rs' p3 p4 h' (room_tail hu) (fun _ hi => absurd hi (Nat.succ_ne_zero i)) hf' hq)
        | false =>
          have h' : ordD x y = some k := by simpa [ordDs, e] using h
          refine kat_no (oneLt_ord (fun hbi t => ?_) r r' p1 p2 h' (room_head hu) hq)
          rw [Bool.and_eq_true] at hbi
          exact hb hbi.1 (by simpa using hbi.2) x xs t rfl
/-- plain, each two of them compared -/
def AllOrd (ds : List PyData) : Prop := (∀ d ∈ ds, d.plain = true) ∧ ∀ d ∈ ds, ∀ e ∈ ds, ∃ k, ordD d e = some k
/-- tuples whose first items are of one kind, or numbers, or texts -/
def SortOrd (ds : List PyData) : Prop := (∃ t, ∀ d ∈ ds, ∃ x r, d = .tuple (x :: r) ∧ dataType x = t) ∨ ∃ t, ∀ d ∈ ds, dataType d = t ∧ ∀ xs, d ≠ .tuple xs
theorem ordKind_some {h : Heap} {ds : List PyData} (hal : AllOrd ds) {v : Value} {d : PyData} {as : List Addr} (hd : d ∈ ds) (r : Reads h v d as) : (dataKind h ds).keyOf v = some (keyToks d) := by
  have q : ∃ d, d ∈ ds ∧ ∃ as, Reads h v d as := ⟨d, hd, as, r⟩
  have e : (dataKind h ds).keyOf v = some (keyToks q.choose) := by
    show (open Classical in if q : ∃ d, d ∈ ds ∧ ∃ as, Reads h v d as then some (keyToks q.choose) else none) = _
    rw [dif_pos q]
  obtain ⟨h1, as', h2⟩ := q.choose_spec
  rw [e, plain_unique _ _ _ _ _ (hal.1 _ h1) h2 r]
theorem SortsAt.ord {vs : List Value} {ds : List PyData} (e : EachIs (fun v d => ∃ as, Reads s.heap v d as) vs ds) (hal : AllOrd ds) (hk : SortOrd ds) (hu : ∀ d, d ∈ ds → A.units + d.depth < cLine) : SortsAt prog w A s (dataKind s.heap ds) vs := by
  have room : ∀ {d d' : PyData}, d ∈ ds → A.units + min d.depth d'.depth < cLine := fun {d d'} hd => Nat.lt_of_le_of_lt (Nat.add_le_add_left (Nat.min_le_left _ _) _) (hu d hd)
  refine ⟨fun v hv => ?_, ?_⟩
  · obtain ⟨d, hd, as, r⟩ := e.left v hv
    exact ⟨_, ordKind_some hal hd r⟩
  · rcases hk with ⟨T, ht⟩ | ⟨T, hn⟩
    · refine ⟨tuples' (T != Value.type "tuple"), ?_, fun h2 E Q hq => ?_⟩
      · intro E x y a b Q ha hb hq
        obtain ⟨d, as, hd, ra, rfl⟩ := dataKind_inv ha
        obtain ⟨d', as', hd', rb, rfl⟩ := dataKind_inv hb
        obtain ⟨k, hk⟩ := hal.2 d hd d' hd'
        have p1 := hal.1 d hd
        have p2 := hal.1 d' hd'
        have hroom := room (d' := d') hd
        obtain ⟨x1, r1, rfl, t1⟩ := ht d hd
        obtain ⟨x2, r2, rfl, t2⟩ := ht d' hd'
        have hq' : Q (dataLt (.tuple (x1 :: r1)) (.tuple (x2 :: r2))) s := hq
        rw [ord_is hk] at hq'
        cases ra with
        | @tuple l o xs n _ _ h1 h2 h3 h4 =>
          cases rb with
          | @tuple l' o' xs' n' _ _ k1 k2 k3 k4 =>
            have n1 : xs.size = (x1 :: r1).length := by simpa using SeqAt.ReadsAll.length _ _ _ h4
            have n2 : xs'.size = (x2 :: r2).length := by simpa using SeqAt.ReadsAll.length _ _ _ k4
            refine kat_lt h1 h3 k1 k3 (katLex_ord (x1 :: r1) (x2 :: r2) 0 _ _ _ _ h4 k4 p1 p2 (by simpa [ordD] using hk) (by have q := SeqAt.room_in hroom; omega) (fun hb _ x r t ex => ?_) (by rw [n1, n2]) hq')
            obtain ⟨rfl, rfl⟩ := List.cons.inj ex
            rw [← t1] at hb
            exact dataType_tuple hb t
      · obtain ⟨fs, t1, t2, t3⟩ := each_katTups e fun d hd => (ht d hd).imp fun x h => h.imp fun r h => h.1
        refine kat_kind (T := T) t1 (by omega) (fun f hf => ?_) (beq_self_eq_true _) hq
        obtain ⟨x, r, as, m1, m2⟩ := t3 f hf
        obtain ⟨x', r', e1, e2⟩ := ht _ m1
        cases e1
        rw [← e2]
        exact looks_reads m2
    · refine ⟨oneType', ?_, fun h2 E Q hq => ?_⟩
      · intro E x y a b Q ha hb hq
        obtain ⟨d, as, hd, ra, rfl⟩ := dataKind_inv ha
        obtain ⟨d', as', hd', rb, rfl⟩ := dataKind_inv hb
        obtain ⟨k, hk⟩ := hal.2 d hd d' hd'
        have hq' : Q (dataLt d d') s := hq
        rw [ord_is hk] at hq'
        rw [keyLt'_oneType]
        exact oneLt_ord (fun _ => (hn d hd).2) ra rb (hal.1 d hd) (hal.1 d' hd') hk (room hd) hq'
      · cases ds with
        | nil =>
          cases e
          exact absurd h2 (by simp)
        | cons d₀ ds₀ =>
          refine kas_kind (T := T) h2 (fun v hv => ?_) ?_ (beq_self_eq_true _) hq
          · obtain ⟨d, hd, as, r⟩ := e.left v hv
            rw [← (hn d hd).1]
            exact looks_reads r
          · rw [← (hn d₀ (List.mem_cons_self ..)).1]
            exact dataType_other (hn d₀ (List.mem_cons_self ..)).2
end
end PySem.W

/-! sorted(xs) of data that is compared, by values -/
namespace L2
open PySem PySem.Spec PySem.W PyProof.Rows
theorem each_ord {h : Heap} {ds : List PyData} (hal : AllOrd ds) {vs : List Value} (e : EachIs (fun v d => ∃ as, Reads h v d as) vs ds) : EachIs (fun v d => (dataKind h ds).keyOf v = some (keyToks d)) vs ds :=
  (each_mem e).mono fun _ _ ⟨⟨_, r⟩, hd⟩ => ordKind_some hal hd r
theorem vals_each {α : Type} {f : α → V} : ∀ {bs : List α} {us : List Value}, Vals (bs.map f) us → EachIs (fun v b => RelV (f b) v) us bs
  | [], _, r => by cases r; exact .nil
  | b :: bs, _, r => by
    rw [List.map_cons] at r
    cases r with
    | cons r1 r2 => exact .cons r1 (vals_each r2)
theorem each_vals {α : Type} {f : α → V} : ∀ {bs : List α} {us : List Value}, EachIs (fun v b => RelV (f b) v) us bs → Vals (bs.map f) us
  | _, _, .nil => .nil
  | _, _, .cons h t => .cons h (each_vals t)
theorem each_and {α β : Type} {R S : α → β → Prop} : ∀ {as : List α} {bs : List β}, EachIs R as bs → (∀ a b, b ∈ bs → R a b → S a b) → EachIs S as bs
  | _, _, .nil, _ => .nil
  | _, _, .cons h t, f => .cons (f _ _ (List.mem_cons_self ..) h) (each_and t fun a b hb => f a b (List.mem_cons_of_mem _ hb))
abbrev leVP : V × PyData → V × PyData → Bool := dataLe false fun b => b.2
/-- sorted(xs): each item with its data -/
def rSortO (K : PySem.W.Frag) : List V → Hp → VK → Prop := fun vs H Q => ∃ (a : Addr) (bs : List (V × PyData)), vs = [.ref a] ∧ SqL K H a (bs.map (·.1)) ∧ (∀ p ∈ bs, Dp K H p.1 p.2 ∧ p.2.depth ≤ 150) ∧ AllOrd (bs.map (·.2)) ∧ SortOrd (bs.map (·.2)) ∧
  ∀ q, H q = none → Q (.ref q) (upd H q (.lst ((bs.mergeSort leVP).map (·.1))))
theorem cr_sortedO {X : Cx} (hu : X.A.units + 160 < cLine) : CallR X (.builtin "sorted") (rSortO X.K) := by
  intro pins s σ H vs us Q I r ⟨a, bs, e0, hs, hd, hal, hk, q⟩
  subst e0
  obtain ⟨its, rv, hl, hz⟩ := I.list hs
  rw [Vals.ref1 r]
  have e : EachIs (fun v (b : V × PyData) => RelV b.1 v) its bs := vals_each rv
  have er : EachIs (fun v (b : V × PyData) => ∃ as, Reads (sortingHeap (copyHeap s.heap its) (s.heap.objs.size + 1) its) v b.2 as) its bs := each_and e fun v b hb rb => by
    obtain ⟨as, q⟩ := Dp.reads I b.2 b.1 v (hd b hb).1 rb
    exact ⟨as, PyProof.Rows.Reads.keeps (fun _ _ => sorting_copy_old) q⟩
  have hlen : its.length = bs.length := by rw [← rv.length, List.length_map]
  rw [List.length_map] at hz
  refine sorted_vals hl.isList (SortsAt.ord (s := { s with heap := sortingHeap (copyHeap s.heap its) (s.heap.objs.size + 1) its }) (ds := bs.map (·.2)) (each_map (R := fun v d => ∃ as, Reads (sortingHeap (copyHeap s.heap its) (s.heap.objs.size + 1) its) v d as) (fun b : V × PyData => b.2) er) hal hk (fun d hd' => ?_)) (by omega) ?_
  · obtain ⟨b, hb, rfl⟩ := List.mem_map.mp hd'
    have := (hd b hb).2
    show X.A.units + 1 + 1 + b.2.depth < cLine
    omega
  · have out := sortVals_each (κ := dataKind (sortingHeap (copyHeap s.heap its) (s.heap.objs.size + 1) its) (bs.map fun b : V × PyData => b.2)) (rev := false) (fun b : V × PyData => keyToks b.2) e
      (each_of_map (fun b : V × PyData => b.2) (each_ord hal (each_map (R := fun v d => ∃ as, Reads (sortingHeap (copyHeap s.heap its) (s.heap.objs.size + 1) its) v d as) (fun b : V × PyData => b.2) er)))
    obtain ⟨ep, he'⟩ := PyProof.Rows.sortedAll_at s.heap its (sortVals (dataKind (sortingHeap (copyHeap s.heap its) (s.heap.objs.size + 1) its) (bs.map fun b : V × PyData => b.2)) false its its).toArray
    have hl2 : ((bs.mergeSort leVP).map (·.1)).length ≤ sizeLine := by
      rw [List.length_map, List.length_mergeSort]
      exact hz
    exact ⟨.ref _, upd H (s.heap.objs.size + 1) (.lst ((bs.mergeSort leVP).map (·.1))), I.laid (t' := s.toks) (fun _ _ => PyProof.Rows.sortedAll_old) (Nat.le_succ _) ⟨hl2, _, ep, each_vals out, he'⟩, rfl, q _ (I.hok.fresh (Nat.le_succ _))⟩
end L2

/-! the T-layer, 10: conversions -/
namespace TL
open PySem PySem.Spec L2 PyProof.Rows

/-! ### list(x), tuple(x) -/
def biList : List T → Sh → Res T
  | [.lst xs], s => .ok (.lst xs) s
  | [.tup xs], s => .ok (.lst xs) s
  | [.scr ns], s => .ok (.lst (ns.map T.int)) s
  | [.cel k], s => match s[k]? with
    | some (.lst xs) => .ok (.lst xs) s
    | _ => .bad
  | _, _ => .bad
def rListOf (K : PySem.W.Frag) : List V → Hp → VK → Prop := fun xs H Q => ∃ p ys, xs = [.ref p] ∧ (SqL K H p ys ∨ SqT K H p ys) ∧ ∀ l, H l = none → Q (.ref l) (upd H l (.lst ys))
theorem sv_listO {K : PySem.W.Frag} : SvLO K (rListOf K) biList := by
  intro W G loc sh σ H vs ts Q ok r p
  unfold biList at p
  split at p
  · rename_i xs
    obtain ⟨v, rfl, r1⟩ := RepL.one r
    obtain ⟨a, vs, rfl, h1, r1, hz⟩ := ok.hl r1
    exact ⟨a, vs, rfl, .inl (.of h1), ok.newLO r1 hz p⟩
  · rename_i xs
    obtain ⟨v, rfl, r1⟩ := RepL.one r
    obtain ⟨a, vs, rfl, h1, r1, hz⟩ := ok.ht r1
    exact ⟨a, vs, rfl, .inr h1, ok.newLO r1 hz p⟩
  · rename_i ns
    obtain ⟨v, rfl, a, rfl, h1, hz⟩ := RepL.one r
    exact ⟨a, _, rfl, .inl (SqL.fle ok.fle h1), ok.newLO (RepL.ints ns) (by rw [List.length_map]; exact hz) p⟩
  · rename_i k
    obtain ⟨v, rfl, r1⟩ := RepL.one r
    split at p
    · rename_i xs e
      obtain ⟨a, vs, rfl, _, h1, r1, hz⟩ := ok.hc r1 e
      exact ⟨a, vs, rfl, .inl (.of h1), ok.newLO r1 hz p⟩
    · exact p.elim
  · exact p.elim
def biTuple : List T → Sh → Res T
  | [.lst xs], s => .ok (.tup xs) s
  | [.tup xs], s => .ok (.tup xs) s
  | [.cel k], s => match s[k]? with
    | some (.lst xs) => .ok (.tup xs) s
    | _ => .bad
  | _, _ => .bad
def rTupOf (K : PySem.W.Frag) : List V → Hp → VK → Prop := fun xs H Q => ∃ p ys, xs = [.ref p] ∧ ((SqL K H p ys ∧ ∀ l, H l = none → Q (.ref l) (upd H l (.tup ys))) ∨ (SqT K H p ys ∧ Q (.ref p) H))
theorem sv_tuple {K : PySem.W.Frag} : SvL K (rTupOf K) biTuple := by
  intro W G loc sh σ H vs ts Q ok r p
  unfold biTuple at p
  split at p
  · rename_i xs
    obtain ⟨v, rfl, r1⟩ := RepL.one r
    obtain ⟨a, vs, rfl, h1, r1, hz⟩ := ok.hl r1
    exact ⟨a, vs, rfl, .inl ⟨.of h1, ok.newT r1 hz p⟩⟩
  · rename_i xs
    obtain ⟨v, rfl, r1⟩ := RepL.one r
    have q := p _ H G (GLe.refl _) ok r1
    obtain ⟨a, vs, rfl, h1, r1, hz⟩ := ok.ht r1
    exact ⟨a, vs, rfl, .inr ⟨h1, q⟩⟩
  · rename_i k
    obtain ⟨v, rfl, r1⟩ := RepL.one r
    split at p
    · rename_i xs e
      obtain ⟨a, vs, rfl, _, h1, r1, hz⟩ := ok.hc r1 e
      exact ⟨a, vs, rfl, .inl ⟨.of h1, ok.newT r1 hz p⟩⟩
    · exact p.elim
  · exact p.elim

/-! ### dict(x) -/
def mergeT (kvs more : List (Key × T)) : List (Key × T) := more.foldl (fun acc kv => dputT acc kv.1 kv.2) kvs
theorem mergeT_length : ∀ (more kvs : List (Key × T)), (mergeT kvs more).length ≤ kvs.length + more.length
  | [], kvs => Nat.le_refl _
  | m :: more, kvs => by
    have h1 := mergeT_length more (dputT kvs m.1 m.2)
    have h2 := dputT_length kvs m.1 m.2
    show (mergeT (dputT kvs m.1 m.2) more).length ≤ _
    rw [List.length_cons]
    omega
def pairsOf : List T → Option (List (Key × T))
  | [] => some []
  | .tup [k, v] :: r => match keyOf k, pairsOf r with
    | some k, some r => some ((k, v) :: r)
    | _, _ => none
  | _ => none
def biDict : List T → Sh → Res T
  | [.lst xs], s => match pairsOf xs with
    | some kvs => .ok (.dct (mergeT [] kvs)) s
    | none => .bad
  | [.dct kvs], s => .ok (.dct kvs) s
  | [.cel k], s => match s[k]? with
    | some (.dct kvs) => .ok (.dct kvs) s
    | _ => .bad
  | _, _ => .bad
def rDictP (K : PySem.W.Frag) : List V → Hp → VK → Prop := fun xs H Q => ∃ (a : Addr) (ps : List Addr) (kvs : List (Key × V)), xs = [.ref a] ∧ SqL K H a (ps.map V.ref) ∧ Paired (fun p kv => SqT K H p [kV kv.1, kv.2]) ps kvs ∧
    ∀ p, H p = none → Q (.ref p) (upd H p (.dK (mergeK [] kvs)))
def rDictD : List V → Hp → VK → Prop := fun xs H Q => ∃ (a : Addr) (kvs : List (Key × V)), xs = [.ref a] ∧ Rd H a (.dK kvs) ∧ ∀ p, H p = none → Q (.ref p) (upd H p (.dK kvs))
section
variable {K : PySem.W.Frag} {W : WX} {G : Gh} {loc : Loc} {sh : Sh} {σ : L2.St} {H : Hp}
theorem Ok.newDO (ok : Ok K G loc sh σ H) {vs : List (Key × V)} {xs : List (Key × T)} {Q : VK} (r : RepD K G.F G.al xs vs) (l : DOk xs) (p : post (fun G H t v => OwnR K G loc σ H t v) K W G loc σ (.ok (.dct xs) sh) Q) : ∀ q, H q = none → Q (.ref q) (upd H q (.dK vs)) := fun q hq => by
  obtain ⟨ok2, o⟩ := ok.newOwn (o := .dK vs) (t := .dct xs) hq ⟨vs, upd_same, r, l⟩
  exact p _ _ G (GLe.refl _) ok2 o
theorem RepD.merge {F : Hp} {al : List Addr} : ∀ {more : List (Key × T)} {rs : List (Key × V)} {kvs : List (Key × T)} {vs : List (Key × V)}, RepD K F al more rs → RepD K F al kvs vs → RepD K F al (mergeT kvs more) (mergeK vs rs)
  | [], _, _, _, h, q => by cases h; exact q
  | (k, t) :: more, _, kvs, vs, h, q => by
    obtain ⟨v, r, rfl, h1, h2⟩ := h
    exact RepD.merge (kvs := dputT kvs k t) (vs := putK vs k v) h2 (RepD.put q h1)
theorem keyOf_ok {F : Hp} {al : List Addr} {t : T} {v : V} {k : Key} (r : Rep K F al t v) (e : keyOf t = some k) : KOk k := by
  cases t with
  | int i => cases e; trivial
  | str x => cases e; exact r.2
  | _ => cases e
theorem mergeT_ok : ∀ (more kvs : List (Key × T)), kvs.length + more.length ≤ sizeLine → (∀ p ∈ kvs, KOk p.1) → (∀ p ∈ more, KOk p.1) → DOk (mergeT kvs more)
  | [], kvs, h, h1, _ => ⟨by simpa [mergeT] using h, h1⟩
  | m :: more, kvs, h, h1, h2 => by
    rw [List.length_cons] at h
    have d := DOk.put (t := m.2) (k := m.1) (kvs := kvs) ⟨by omega, h1⟩ (by omega) (h2 m (by simp))
    exact mergeT_ok more (dputT kvs m.1 m.2) (by have := dputT_length kvs m.1 m.2; omega) d.2 fun p hp => h2 p (by simp [hp])
theorem pairs_rep (ok : Ok K G loc sh σ H) : ∀ {ts : List T} {vs : List V} {kvs : List (Key × T)}, repL K G ts vs → pairsOf ts = some kvs → ∃ (ps : List Addr) (kw : List (Key × V)), vs = ps.map V.ref ∧ Paired (fun p kv => SqT K H p [kV kv.1, kv.2]) ps kw ∧ RepD K G.F G.al kvs kw ∧ kvs.length = ts.length ∧ ∀ p ∈ kvs, KOk p.1
  | [], _, _, r, e => by cases r; cases e; exact ⟨[], [], rfl, .nil, rfl, rfl, fun _ h => (by cases h)⟩
  | t :: ts, _, kvs, r, e => by
    obtain ⟨v, q, rfl, r1, r2⟩ := r
    unfold pairsOf at e
    split at e
    · rename_i h; cases h
    · rename_i k x rest h
      cases h
      cases e1 : keyOf k with
      | none => rw [e1] at e; cases e
      | some k' =>
        cases e2 : pairsOf ts with
        | none => rw [e1, e2] at e; cases e
        | some kvs' =>
          rw [e1, e2] at e
          cases e
          obtain ⟨a, ws, rfl, h1, r3, _⟩ := ok.ht r1
          obtain ⟨u, w, rfl, r4, r5⟩ := RepL.two r3
          obtain ⟨ps, kw, rfl, q1, q2, q3, q4⟩ := pairs_rep ok r2 e2
          refine ⟨a :: ps, (k', w) :: kw, rfl, .cons ?_ q1, ⟨w, kw, rfl, r5, q2⟩, by rw [List.length_cons, List.length_cons, q3], fun p hp => ?_⟩
          · rw [← keyOf_rep r4 e1]
            exact h1
          · rcases List.mem_cons.mp hp with rfl | hp
            · exact keyOf_ok r4 e1
            · exact q4 p hp
    · cases e
theorem sv_dictO : SvLO K (fun xs H Q => rDictP K xs H Q ∨ rDictD xs H Q) biDict := by
  intro W G loc sh σ H vs ts Q ok r p
  unfold biDict at p
  split at p
  · rename_i xs
    obtain ⟨v, rfl, r1⟩ := RepL.one r
    obtain ⟨a, vs, rfl, h1, r1, hz⟩ := ok.hl r1
    cases e : pairsOf xs with
    | none => rw [e] at p; exact p.elim
    | some kvs =>
      rw [e] at p
      obtain ⟨ps, kw, rfl, q1, q2, q3, q4⟩ := pairs_rep ok r1 e
      exact .inl ⟨a, ps, kw, rfl, .of h1, q1, ok.newDO (RepD.merge q2 (kvs := []) rfl) (mergeT_ok kvs [] (by simp only [List.length_nil]; omega) (fun _ h => (by cases h)) q4) p⟩
  · rename_i kvs
    obtain ⟨v, rfl, r1⟩ := RepL.one r
    obtain ⟨a, kv, rfl, h1, r1, hz⟩ := ok.hd r1
    exact .inr ⟨a, kv, rfl, h1, ok.newDO r1 hz p⟩
  · rename_i k
    obtain ⟨v, rfl, a, rfl, ha⟩ := RepL.one r
    split at p
    · rename_i kvs e
      obtain ⟨a', ha', q1, q2⟩ := ok.shr k _ e
      rw [ha] at ha'
      cases ha'
      obtain ⟨q3, q4, q5⟩ := q2
      exact .inr ⟨a, q1, rfl, .inl q3, ok.newDO q4 q5 p⟩
    · exact p.elim
  · exact p.elim
end
theorem call_dictA {X : Cx} (hc : X.calm = true) : CallR X (.type "dict") (fun xs H Q => rDictP X.K xs H Q ∨ rDictD xs H Q) := CallR.or (call_dictP hc) call_dictD

/-! ### sorted of texts -/
def lebS (x y : Str) : Bool := !ltCps y.cps.toList x.cps.toList
def sortS (xs : List Str) : List Str := xs.mergeSort lebS
theorem ltCps_irrefl : ∀ a : List Nat, ltCps a a = false := by
  intro a
  induction a with
  | nil => rfl
  | cons x xs ih => simp [ltCps, ih]
theorem ltCps_trans : ∀ a b c : List Nat, ltCps a b = true → ltCps b c = true → ltCps a c = true
  | [], [], _, h, _ => by simp [ltCps] at h
  | [], _ :: _, [], _, h => by simp [ltCps] at h
  | [], _ :: _, _ :: _, _, _ => by simp [ltCps]
  | _ :: _, [], _, h, _ => by simp [ltCps] at h
  | _ :: _, _ :: _, [], _, h => by simp [ltCps] at h
  | x :: xs, y :: ys, z :: zs, h1, h2 => by
    simp only [ltCps] at h1 h2 ⊢
    have ih := ltCps_trans xs ys zs
    by_cases e1 : x = y
    · by_cases e2 : y = z
      · subst e1 e2
        simp at h1 h2 ⊢
        exact ih h1 h2
      · subst e1
        simp_all
    · by_cases e2 : y = z
      · subst e2
        simp_all
      · simp_all
        omega
theorem ltCps_total : ∀ a b : List Nat, ltCps a b = false → ltCps b a = false → a = b
  | [], [], _, _ => rfl
  | [], _ :: _, h, _ => by simp [ltCps] at h
  | _ :: _, [], _, h => by simp [ltCps] at h
  | x :: xs, y :: ys, h1, h2 => by
    simp only [ltCps] at h1 h2
    have ih := ltCps_total xs ys
    by_cases e : x = y
    · subst e
      simp at h1 h2
      rw [ih h1 h2]
    · simp_all
      omega
theorem str_cps {x y : Str} (h : x.cps.toList = y.cps.toList) : x = y := by
  cases x with
  | mk a =>
    cases y with
    | mk b =>
      congr 1
      exact Array.ext' h
theorem lebS_trans (a b c : Str) (h1 : lebS a b = true) (h2 : lebS b c = true) : lebS a c = true := by
  unfold lebS at *
  simp only [Bool.not_eq_true'] at *
  cases h : ltCps c.cps.toList a.cps.toList with
  | false => rfl
  | true =>
    cases q : ltCps b.cps.toList a.cps.toList with
    | true => rw [q] at h1; cases h1
    | false =>
      cases q2 : ltCps a.cps.toList b.cps.toList with
      | true =>
        have := ltCps_trans _ _ _ h q2
        rw [this] at h2; cases h2
      | false =>
        have := ltCps_total _ _ q2 q
        rw [this] at h
        rw [h] at h2; cases h2
theorem lebS_total (a b : Str) : (lebS a b || lebS b a) = true := by
  unfold lebS
  cases h : ltCps b.cps.toList a.cps.toList with
  | false => rfl
  | true =>
    cases q : ltCps a.cps.toList b.cps.toList with
    | false => rfl
    | true =>
      have := ltCps_trans _ _ _ h q
      rw [ltCps_irrefl] at this; cases this
theorem lebS_anti (a b : Str) (h1 : lebS a b = true) (h2 : lebS b a = true) : a = b := by
  unfold lebS at *
  simp only [Bool.not_eq_true'] at *
  exact str_cps (ltCps_total _ _ h2 h1)
theorem risingS_pw : ∀ (xs : List Str) (p : Str), risingS p xs = true → (∀ x ∈ xs, lebS p x = true) ∧ xs.Pairwise fun a b => lebS a b = true
  | [], _, _ => ⟨fun _ h => (by cases h), .nil⟩
  | x :: xs, p, h => by
    unfold risingS at h
    rw [Bool.and_eq_true] at h
    obtain ⟨q1, q2⟩ := risingS_pw xs x h.2
    refine ⟨fun y hy => ?_, .cons q1 q2⟩
    rcases List.mem_cons.mp hy with rfl | hy
    · exact h.1
    · exact lebS_trans p x y h.1 (q1 y hy)
theorem sortS_is {ys xs : List Str} (hp : ys.Perm xs) (hs : sortedS ys = true) : ys = sortS xs := by
  refine List.Perm.eq_of_pairwise (le := fun a b => lebS a b = true) (fun a b _ _ => lebS_anti a b) ?_ (List.pairwise_mergeSort lebS_trans lebS_total xs) (hp.trans (List.mergeSort_perm xs lebS).symm)
  cases ys with
  | nil => exact .nil
  | cons y ys => obtain ⟨q1, q2⟩ := risingS_pw ys y hs; exact .cons q1 q2
def keyStrs : List (Key × T) → Option (List Str)
  | [] => some []
  | (.inr x, _) :: r => (keyStrs r).map (x :: ·)
  | _ => none
theorem keyStrs_map : ∀ {kvs : List (Key × T)} {ks : List Str}, keyStrs kvs = some ks → kvs.map (·.1) = ks.map Sum.inr
  | [], _, e => by cases e; rfl
  | (k, v) :: kvs, ks, e => by
    cases k with
    | inl i => cases e
    | inr x =>
      cases h : keyStrs kvs with
      | none => simp [keyStrs, h] at e
      | some ks' =>
        have e' : some (x :: ks') = some ks := by rw [← e]; simp [keyStrs, h]
        cases e'
        rw [List.map_cons, List.map_cons, keyStrs_map h]
theorem keyStrs_len {kvs : List (Key × T)} {ks : List Str} (h : keyStrs kvs = some ks) : ks.length = kvs.length := by
  have := congrArg List.length (keyStrs_map h)
  rw [List.length_map, List.length_map] at this
  exact this.symm
theorem keyStrs_ok {kvs : List (Key × T)} {ks : List Str} (h : keyStrs kvs = some ks) (hd : DOk kvs) : ∀ b ∈ ks, b.length ≤ sizeLine := fun b hb => by
  have h1 : Sum.inr b ∈ kvs.map (·.1) := by rw [keyStrs_map h]; exact List.mem_map.mpr ⟨b, hb, rfl⟩
  obtain ⟨p, hp, e⟩ := List.mem_map.mp h1
  have := hd.2 p hp
  rw [e] at this
  exact this
def biSortS : List T → Sh → Res T
  | [.lst xs], s => match strsOf xs with
    | some ks => if ks.length < 64 then .ok (.lst ((sortS ks).map T.str)) s else .bad
    | none => .bad
  | [.dct kvs], s => match keyStrs kvs with
    | some ks => if ks.length < 64 then .ok (.lst ((sortS ks).map T.str)) s else .bad
    | none => .bad
  | _, _ => .bad
def rSortD : List V → Hp → VK → Prop := fun xs H Q => ∃ (a : Addr) (kvs : List (Key × V)) (ks : List Str), xs = [.ref a] ∧ Rd H a (.dK kvs) ∧ kvs.map (·.1) = ks.map Sum.inr ∧ ks.length < 64 ∧
    ∀ ys p, ys.Perm ks → sortedS ys = true → H p = none → Q (.ref p) (upd H p (.lst (ys.map V.str)))
theorem sv_sortSO {K : PySem.W.Frag} : SvLO K (fun xs H Q => rSortedS K xs H Q ∨ rSortD xs H Q) biSortS := by
  intro W G loc sh σ H vs ts Q ok r p
  have fin : ∀ (ks ys : List Str) (q : Addr), ks.length < 64 → (∀ b ∈ ks, b.length ≤ sizeLine) → post (fun G H t v => OwnR K G loc σ H t v) K W G loc σ (.ok (.lst ((sortS ks).map T.str)) sh) Q → ys.Perm ks → sortedS ys = true → H q = none → Q (.ref q) (upd H q (.lst (ys.map V.str))) := fun ks ys q hl hb p h1 h2 hq => by
    have e := sortS_is h1 h2
    subst e
    refine ok.newLO (RepL.ofStrs _ fun b hb' => hb b (h1.mem_iff.mp hb')) ?_ p q hq
    rw [List.length_map, h1.length_eq]
    exact small64 hl
  unfold biSortS at p
  split at p
  · rename_i xs
    obtain ⟨v, rfl, r1⟩ := RepL.one r
    obtain ⟨a, vs, rfl, h1, r1, hz⟩ := ok.hl r1
    cases e : strsOf xs with
    | none => rw [e] at p; exact p.elim
    | some ks =>
      simp only [e] at p
      obtain ⟨rfl, hb⟩ := RepL.strs r1 e
      by_cases hl : ks.length < 64
      · rw [if_pos hl] at p
        exact .inl ⟨a, ks, rfl, .of h1, hl, fun ys q q1 q2 q3 => fin ks ys q hl hb p q1 q2 q3⟩
      · rw [if_neg hl] at p; exact p.elim
  · rename_i kvs
    obtain ⟨v, rfl, r1⟩ := RepL.one r
    obtain ⟨a, kv, rfl, h1, r1, hz⟩ := ok.hd r1
    cases e : keyStrs kvs with
    | none => rw [e] at p; exact p.elim
    | some ks =>
      simp only [e] at p
      by_cases hl : ks.length < 64
      · rw [if_pos hl] at p
        exact .inr ⟨a, kv, ks, rfl, h1, (RepD.keys r1).trans (keyStrs_map e), hl, fun ys q q1 q2 q3 => fin ks ys q hl (keyStrs_ok e hz) p q1 q2 q3⟩
      · rw [if_neg hl] at p; exact p.elim
  · exact p.elim
theorem call_sortA {X : Cx} (hc : X.calm = true) : CallR X (.builtin "sorted") (fun xs H Q => rSortedS X.K xs H Q ∨ rSortD xs H Q) := CallR.or cr_sortedS (call_sortedD hc)

/-! ### int(x), bool(x) -/
def biInt : List T → Sh → Res T
  | [.int i], s => .ok (.int i) s
  | [.bl k], s => .ok (.int (if k then 1 else 0)) s
  | _, _ => .bad
def rInt1 : List V → Hp → VK → Prop := fun xs H Q => (∃ i, xs = [.int i] ∧ Q (.int i) H) ∨ ∃ k, xs = [.bl k] ∧ Q (.int (if k then 1 else 0)) H
theorem sv_int {K : PySem.W.Frag} : SvL K rInt1 biInt := by
  intro W G loc sh σ H vs ts Q ok r p
  unfold biInt at p
  split at p
  · obtain ⟨v, rfl, rfl⟩ := RepL.one r
    exact .inl ⟨_, rfl, p _ H G (GLe.refl _) ok rfl⟩
  · obtain ⟨v, rfl, rfl⟩ := RepL.one r
    exact .inr ⟨_, rfl, p _ H G (GLe.refl _) ok rfl⟩
  · exact p.elim
def biBool : List T → Sh → Res T
  | [.int i], s => .ok (.bl (i != 0)) s
  | [.bl k], s => .ok (.bl k) s
  | _, _ => .bad
def rBool1 : List V → Hp → VK → Prop := fun xs H Q => (∃ i, xs = [.int i] ∧ Q (.bl (i != 0)) H) ∨ ∃ k, xs = [.bl k] ∧ Q (.bl k) H
theorem sv_bool {K : PySem.W.Frag} : SvL K rBool1 biBool := by
  intro W G loc sh σ H vs ts Q ok r p
  unfold biBool at p
  split at p
  · obtain ⟨v, rfl, rfl⟩ := RepL.one r
    exact .inl ⟨_, rfl, p _ H G (GLe.refl _) ok rfl⟩
  · obtain ⟨v, rfl, rfl⟩ := RepL.one r
    exact .inr ⟨_, rfl, p _ H G (GLe.refl _) ok rfl⟩
  · exact p.elim

/-! ### sorted of data that is compared -/
def kindD : PyData → Nat
  | .none => 0
  | .bool _ => 1
  | .int _ => 2
  | .str _ => 3
  | .list _ => 4
  | .tuple _ => 5
  | .dict _ => 6
theorem kindD_type {x y : PyData} (h : kindD x = kindD y) : PySem.W.dataType x = PySem.W.dataType y := by
  cases x <;> cases y <;> first | rfl | (simp [kindD] at h)
def fstD : PyData → Option Nat
  | .tuple (x :: _) => some (kindD x)
  | _ => none
theorem fstD_is {d : PyData} {n : Nat} (h : fstD d = some n) : ∃ x r, d = .tuple (x :: r) ∧ kindD x = n := by
  unfold fstD at h
  split at h
  · exact ⟨_, _, rfl, Option.some.inj h⟩
  · cases h
def ordAllB (ds : List PyData) : Bool := (ds.all fun d => d.plain) && ds.all fun d => ds.all fun e => (SeqAt.ordD d e).isSome
def sortOrdB : List PyData → Bool
  | [] => true
  | d :: ds => ((fstD d).isSome && (d :: ds).all fun e => decide (fstD e = fstD d)) || ((d :: ds).all fun e => decide (kindD e = kindD d) && decide (kindD e ≠ 5))
theorem ordAllB_is {ds : List PyData} (h : ordAllB ds = true) : PySem.W.AllOrd ds := by
  unfold ordAllB at h
  rw [Bool.and_eq_true] at h
  exact ⟨fun d hd => List.all_eq_true.mp h.1 d hd, fun d hd e he => Option.isSome_iff_exists.mp (List.all_eq_true.mp (List.all_eq_true.mp h.2 d hd) e he)⟩
theorem sortOrdB_is {ds : List PyData} (h : sortOrdB ds = true) : PySem.W.SortOrd ds := by
  cases ds with
  | nil => exact .inl ⟨.none, fun d hd => (by cases hd)⟩
  | cons d ds =>
    have h' : (((fstD d).isSome && (d :: ds).all fun e => decide (fstD e = fstD d)) || ((d :: ds).all fun e => decide (kindD e = kindD d) && decide (kindD e ≠ 5))) = true := h
    rw [Bool.or_eq_true] at h'
    rcases h' with h' | h'
    · rw [Bool.and_eq_true] at h'
      obtain ⟨n, hn⟩ := Option.isSome_iff_exists.mp h'.1
      obtain ⟨x0, r0, rfl, k0⟩ := fstD_is hn
      refine .inl ⟨PySem.W.dataType x0, fun e he => ?_⟩
      have := of_decide_eq_true (List.all_eq_true.mp h'.2 e he)
      rw [hn] at this
      obtain ⟨x, r, rfl, k⟩ := fstD_is this
      exact ⟨x, r, rfl, kindD_type (k.trans k0.symm)⟩
    · refine .inr ⟨PySem.W.dataType d, fun e he => ?_⟩
      have := List.all_eq_true.mp h' e he
      rw [Bool.and_eq_true] at this
      refine ⟨kindD_type (of_decide_eq_true this.1), fun xs z => ?_⟩
      subst z
      exact of_decide_eq_true this.2 rfl
def leT (x y : T) : Bool := !PySem.W.dataLt (toD y) (toD x)
def sortTs (xs : List T) : List T := xs.mergeSort leT
def sortOkT (xs : List T) : Bool := (xs.all fun x => plainT x && decide ((toD x).depth ≤ 150)) && (ordAllB (xs.map toD) && sortOrdB (xs.map toD))
def biSort : List T → Sh → Res T
  | [.lst xs], s => match strsOf xs with
    | some ks => if ks.length < 64 then .ok (.lst ((sortS ks).map T.str)) s else .bad
    | none => if sortOkT xs then .ok (.lst (sortTs xs)) s else .bad
  | [.dct kvs], s => match keyStrs kvs with
    | some ks => if ks.length < 64 then .ok (.lst ((sortS ks).map T.str)) s else .bad
    | none => .bad
  | _, _ => .bad
theorem repL_pairs {K : PySem.W.Frag} {F : Hp} {al : List Addr} : ∀ {L : List (V × T)}, (∀ p ∈ L, Rep K F al p.2 p.1) → RepL K F al (L.map (·.2)) (L.map (·.1))
  | [], _ => rfl
  | p :: L, h => ⟨p.1, _, rfl, h p (by simp), repL_pairs fun q hq => h q (by simp [hq])⟩
theorem pairs_repL {K : PySem.W.Frag} {F : Hp} {al : List Addr} : ∀ {xs : List T} {vs : List V}, RepL K F al xs vs → (∀ p ∈ vs.zip xs, Rep K F al p.2 p.1 ∧ p.2 ∈ xs) ∧ (vs.zip xs).map (·.1) = vs ∧ (vs.zip xs).map (·.2) = xs
  | [], _, h => by cases h; exact ⟨fun _ h => (by cases h), rfl, rfl⟩
  | x :: xs, _, h => by
    obtain ⟨v, r, rfl, h1, h2⟩ := h
    obtain ⟨q1, q2, q3⟩ := pairs_repL h2
    rw [List.zip_cons_cons, List.map_cons, List.map_cons, q2, q3]
    refine ⟨fun p hp => ?_, rfl, rfl⟩
    rcases List.mem_cons.mp hp with rfl | hp
    · exact ⟨h1, by simp⟩
    · exact ⟨(q1 p hp).1, by simp [(q1 p hp).2]⟩
theorem sv_sortO {K : PySem.W.Frag} : SvLO K (fun xs H Q => (rSortedS K xs H Q ∨ rSortD xs H Q) ∨ rSortO K xs H Q) biSort := by
  intro W G loc sh σ H vs ts Q ok r p
  have old : post (fun G H t v => OwnR K G loc σ H t v) K W G loc σ (biSortS ts sh) Q → (rSortedS K vs H Q ∨ rSortD vs H Q) ∨ rSortO K vs H Q := fun p => .inl (sv_sortSO W G loc sh σ H vs ts Q ok r p)
  unfold biSort at p
  split at p
  · rename_i xs
    cases e : strsOf xs with
    | some ks =>
      refine old ?_
      have es : biSortS [.lst xs] sh = if ks.length < 64 then Res.ok (T.lst ((sortS ks).map T.str)) sh else Res.bad := by
        unfold biSortS
        simp only [e]
      rw [es]
      rw [e] at p
      exact p
    | none =>
      rw [e] at p
      simp only at p
      by_cases h : sortOkT xs = true
      · rw [if_pos h] at p
        unfold sortOkT at h
        rw [Bool.and_eq_true, Bool.and_eq_true] at h
        obtain ⟨v, rfl, r1⟩ := RepL.one r
        obtain ⟨a, vs, rfl, h1, r1, hz⟩ := ok.hl r1
        obtain ⟨q1, q2, q3⟩ := pairs_repL r1
        have pl : ∀ x ∈ xs, plainT x = true ∧ (toD x).depth ≤ 150 := fun x hx => by
          have := List.all_eq_true.mp h.1 x hx
          rw [Bool.and_eq_true] at this
          exact ⟨this.1, of_decide_eq_true this.2⟩
        have eb : ((vs.zip xs).map fun p => (p.1, toD p.2)).map (·.2) = xs.map toD := by
          rw [List.map_map, ← q3, List.map_map]
          rw [q3]
          rfl
        refine .inr ⟨a, (vs.zip xs).map fun p => (p.1, toD p.2), rfl, ?_, ?_, ?_, ?_, ?_⟩
        · rw [List.map_map]
          show SqL K H a ((vs.zip xs).map (·.1))
          rw [q2]
          exact .of h1
        · intro p hp
          obtain ⟨q, hq, rfl⟩ := List.mem_map.mp hp
          obtain ⟨w1, w2⟩ := q1 q hq
          exact ⟨dp_of ok.fle q.2 q.1 (pl q.2 w2).1 w1, (pl q.2 w2).2⟩
        · rw [eb]; exact ordAllB_is h.2.1
        · rw [eb]; exact sortOrdB_is h.2.2
        · have m1 := List.map_mergeSort (r := fun p q : V × T => leT p.2 q.2) (s := leVP) (f := fun p : V × T => (p.1, toD p.2)) (l := vs.zip xs) fun a _ b _ => rfl
          have m2 := List.map_mergeSort (r := fun p q : V × T => leT p.2 q.2) (s := leT) (f := fun p : V × T => p.2) (l := vs.zip xs) fun a _ b _ => rfl
          rw [q3] at m2
          rw [← m1, List.map_map]
          have rr := repL_pairs (K := K) (F := G.F) (al := G.al) (L := (vs.zip xs).mergeSort fun p q : V × T => leT p.2 q.2) fun p hp => (q1 p ((List.mergeSort_perm _ _).mem_iff.mp hp)).1
          rw [m2] at rr
          exact ok.newLO rr (by show (xs.mergeSort leT).length ≤ _; rw [List.length_mergeSort]; exact hz) p
      · rw [if_neg h] at p; exact p.elim
  · exact old p
  · exact p.elim
theorem call_sortO {X : Cx} (hc : X.calm = true) (hu : X.A.units + 160 < cLine) : CallR X (.builtin "sorted") (fun xs H Q => (rSortedS X.K xs H Q ∨ rSortD xs H Q) ∨ rSortO X.K xs H Q) := CallR.or (call_sortA hc) (cr_sortedO hu)
end TL

/-! the T-layer, 11: walks over dicts -/
namespace TL
open PySem PySem.Spec L2

section
variable {K : PySem.W.Frag} {W : WX} {m : Bool} {G G' : Gh} {loc loc' : Loc} {sh sh' : Sh} {σ σ' : L2.St} {H H' : Hp}
/-- the object at a, a tree's, is told anew -/
def Gh.sw (G : Gh) (a : Addr) (o : HO) : Gh := { G with F := upd G.F a o }
theorem fsim_lock {F : Hp} {a : Addr} {kv : List (Key × V)} (od : Obj) (h : F a = some (.dK kv)) : FSim F (upd F a (.frz od (.dK kv))) := by
  refine ⟨fun b vs q => ?_, fun b u nu q => ?_⟩
  · have : b ≠ a := fun e => by rw [e, h] at q; cases q
    rw [upd_ne this]; exact q
  · by_cases e : b = a
    · subst e
      rcases q with q | ⟨o, q⟩
      · rw [h] at q; cases q; exact .inr ⟨od, upd_same⟩
      · rw [h] at q; cases q
    · rcases q with q | ⟨o, q⟩
      · exact .inl ((upd_ne e).trans q)
      · exact .inr ⟨o, (upd_ne e).trans q⟩
theorem fsim_open {F : Hp} {a : Addr} {kv : List (Key × V)} {od : Obj} (h : F a = some (.frz od (.dK kv))) : FSim F (upd F a (.dK kv)) := by
  refine ⟨fun b vs q => ?_, fun b u nu q => ?_⟩
  · have : b ≠ a := fun e => by rw [e, h] at q; cases q
    rw [upd_ne this]; exact q
  · by_cases e : b = a
    · subst e
      rcases q with q | ⟨o, q⟩
      · rw [h] at q; cases q; exact absurd rfl (nu _ _)
      · rw [h] at q; cases q; exact .inl upd_same
    · rcases q with q | ⟨o, q⟩
      · exact .inl ((upd_ne e).trans q)
      · exact .inr ⟨o, (upd_ne e).trans q⟩
theorem RepFs.sim {F F' : Hp} {al : List Addr} (hF : FSim F F') : ∀ {fs : List (Str × T)} {vs : List (Str × V)}, RepFs K F al fs vs → RepFs K F' al fs vs
  | [], _, h => h
  | (_, _) :: _, _, h => by
    obtain ⟨v, r, e, h1, h2⟩ := h
    exact ⟨v, r, e, Rep.sim hF (ALe.refl _) _ _ h1, RepFs.sim hF h2⟩
theorem Sha.sim {a : Addr} {t : T} (hF : FSim G.F G'.F) (hA : G'.al = G.al) (e : H' a = H a) (h : Sha K G H a t) : Sha K G' H' a t := by
  cases t with
  | lst xs => obtain ⟨vs, h1, h2, h3⟩ := h; exact ⟨vs, e.trans h1, by rw [hA]; exact RepL.sim hF (ALe.refl _) _ _ h2, h3⟩
  | dct kvs => obtain ⟨vs, h1, h2, h3⟩ := h; exact ⟨vs, e.trans h1, by rw [hA]; exact RepD.sim hF (ALe.refl _) _ _ h2, h3⟩
  | _ => exact h.elim
theorem Ok.swap (ok : Ok K G loc sh σ H) {a : Addr} {o1 o2 : HO} (h1 : G.F a = some o1) (hs : FSim G.F (upd G.F a o2)) (no : ∀ x, o1 ≠ .own x) : Ok K (G.sw a o2) loc sh σ (upd H a o2) := by
  have nF : ∀ {b : Addr}, G.F b = none → b ≠ a := fun {b} h e => by rw [e, h1] at h; cases h
  have nn : ∀ {b : Addr}, G.F b = none → upd G.F a o2 b = none := fun {b} h => (upd_ne (nF h)).trans h
  refine ⟨⟨fun b u h => ?_, fun b u h => ?_, fun b => ?_, fun k b h => ?_, ok.ali, ok.all, fun k u h => ?_⟩, ok.len, fun i => ?_, ok.sep⟩
  · have h' : upd G.F a o2 b = some u := h
    by_cases e : b = a
    · subst e; rw [upd_same] at h' ⊢; exact h'
    · rw [upd_ne e] at h' ⊢; exact ok.fh b u h'
  · have : G.F b = none := by
      rcases ok.dis b with q | q
      · exact q
      · have h' : G.B b = some u := h
        rw [h'] at q; cases q
    rw [upd_ne (nF this)]; exact ok.bh b u h
  · rcases ok.dis b with q | q
    · exact .inl (nn q)
    · exact .inr q
  · obtain ⟨q1, q2⟩ := ok.alf k b h
    exact ⟨nn q1, q2⟩
  · obtain ⟨b, q1, q2⟩ := ok.shr k u h
    have hb := (ok.alf k b q1).1
    refine ⟨b, q1, ?_⟩
    cases u with
    | lst xs => exact Sha.sim (G := G) (G' := G.sw a o2) (t := .lst xs) hs rfl (upd_ne (nF hb)) q2
    | dct kvs => exact Sha.sim (G := G) (G' := G.sw a o2) (t := .dct kvs) hs rfl (upd_ne (nF hb)) q2
    | ins C fs =>
      obtain ⟨dx, fv, r1, r2, r3, r4, r5, r6⟩ := q2
      exact ⟨dx, fv, (upd_ne (nF hb)).trans r1, RepFs.sim hs r2, (upd_ne (nF r4)).trans r3, nn r4, r5, r6⟩
  · have h := ok.sl i
    cases e : loc.at i with
    | no => trivial
    | t x => rw [e] at h; obtain ⟨v, q, r⟩ := h; exact ⟨v, q, Rep.sim hs (ALe.refl _) _ _ r⟩
    | own x =>
      rw [e] at h
      obtain ⟨b, q1, q2, q3, q4, q5⟩ := h
      exact ⟨b, q1, nn q2, q3, q4, Sha.sim (G := G) (G' := G.sw a o2) hs rfl (upd_ne (nF q2)) q5⟩
theorem OwnR.swap {a : Addr} {o1 o2 : HO} (h1 : G.F a = some o1) (hs : FSim G.F (upd G.F a o2)) {t : T} {v : V} (h : OwnR K G loc σ H t v) : OwnR K (G.sw a o2) loc σ (upd H a o2) t v := by
  obtain ⟨b, e, q1, q2, q3, q4, q5⟩ := h
  have nF : b ≠ a := fun e => by rw [e, h1] at q1; cases q1
  exact ⟨b, e, (upd_ne nF).trans q1, q2, q3, q4, Sha.sim (G := G) (G' := G.sw a o2) hs rfl (upd_ne nF) q5⟩
theorem gle_sw {a : Addr} {kv : List (Key × V)} {od : Obj} (h1 : G.F a = some (.dK kv)) (l : GLe (G.sw a (.frz od (.dK kv))) G') : GLe G (G'.sw a (.dK kv)) := by
  refine ⟨fun b u q => ?_, l.a, l.b⟩
  show upd G'.F a (.dK kv) b = some u
  by_cases e : b = a
  · subst e; rw [upd_same, ← h1]; exact q
  · rw [upd_ne e]
    exact l.f b u ((upd_ne e).trans q)
/-- the keys, as they come -/
def keyT : Key → T
  | .inl i => .int i
  | .inr x => .str x
def itemsN : T → Sh → Res (List T)
  | .lst xs, s => .ok xs s
  | .tup xs, s => .ok xs s
  | .str x, s => .ok (charsT x) s
  | .dct kvs, s => .ok (kvs.map fun p => keyT p.1) s
  | _, _ => .bad
def itN (i : Nat) : EvL := fun l s => match l.at i with
  | .t x => itemsN x s
  | _ => .bad
theorem items_keys {a : Addr} {od : Obj} {kv : List (Key × V)} {kvs : List (Key × T)} (h : G.F a = some (.frz od (.dK kv))) (r : RepD K G.F G.al kvs kv) (hd : DOk kvs) : Items K G (Itk a od kv) (kvs.map fun p => keyT p.1) := by
  intro G2 loc2 sh2 σ2 H2 lF lA ok i
  have hH : H2 a = some (.frz od (.dK kv)) := ok.fh _ _ (lF _ _ h)
  have hk := RepD.keys r
  have hl := RepD.length r
  refine ⟨fun t e => ?_, fun hi => ⟨hH, by rw [List.length_map] at hi; omega⟩⟩
  have hi : i < kvs.length := by
    have := (List.getElem?_eq_some_iff.mp e).1
    rwa [List.length_map] at this
  refine ⟨⟨hH, by omega⟩, fun x H3 y => ?_⟩
  obtain ⟨rfl, k, v, e1, rfl⟩ := y
  have e2 : kvs[i]? = some kvs[i] := List.getElem?_eq_getElem hi
  have e3 : (kv.map (·.1))[i]? = some k := by rw [List.getElem?_map, e1]; rfl
  rw [hk, List.getElem?_map, e2] at e3
  rw [List.getElem?_map, e2] at e
  have e4 : kvs[i].1 = k := Option.some.inj e3
  have e5 : keyT kvs[i].1 = t := Option.some.inj e
  have := hd.2 kvs[i] (List.getElem_mem hi)
  rw [← e5, e4]
  rw [e4] at this
  refine ⟨G2, GLe.refl _, ok, ?_⟩
  cases k with
  | inl i => rfl
  | inr x => exact ⟨rfl, this⟩
/-- a dict's walk, locked by somebody else, or to be locked -/
theorem itN_cases (ok : Ok K G loc sh σ H) {i : Nat} {P : (List T → Sh → Res (List T)) → Prop} {kvs : List (Key × T)} (e : loc.at i = .t (.dct kvs)) :
    ∃ a kv, σ[i]? = some (some (.ref a)) ∧ RepD K G.F G.al kvs kv ∧ DOk kvs ∧ (G.F a = some (.dK kv) ∨ ∃ od, G.F a = some (.frz od (.dK kv))) := by
  have h := ok.sl i
  rw [e] at h
  obtain ⟨v, e1, a, kv, rfl, q, r, d⟩ := h
  exact ⟨a, kv, e1, r, d, q⟩
end
section
variable {X : Cx}
/-- as HandS.Iter's tLockE, and what stood there ahead of all was not locked -/
def tLockW (t : TE) : TE := fun σ H Q => ∃ d u, H d = some u ∧ Mut (some u) ∧ ∀ od, (∀ o' u', X.H_0 d ≠ some (.frz o' u')) → t σ (upd H d (.frz od u)) fun v H' => H' d = some (.frz od u) ∧ Q v (upd H' d u)
theorem pe_lockW {e : Expr} {t : TE} (h : PE X e t) : PE X e (tLockW (X := X) t) := by
  refine ⟨fun pins s σ H Q I hw => ?_⟩
  obtain ⟨d, u, hd, mu, hw⟩ := hw
  obtain ⟨od, I1⟩ := I.lock hd mu
  refine thn (h.run pins s σ _ _ I1 (hw od (I.nofrz hd mu))) fun v s1 ⟨x, H1, I2, r, e2, q⟩ => ?_
  exact ⟨x, _, I2.unlock e2 (I.nofrz hd mu), r, q⟩
def tLockS (t : TS) : TS := fun D σ H => ∃ d u, H d = some u ∧ Mut (some u) ∧ ∀ od, (∀ o' u', X.H_0 d ≠ some (.frz o' u')) → t ⟨fun σ' H' => H' d = some (.frz od u) ∧ D.nx σ' (upd H' d u), fun v H' => H' d = some (.frz od u) ∧ D.rt v (upd H' d u), fun σ' H' => H' d = some (.frz od u) ∧ D.bk σ' (upd H' d u), fun σ' H' => H' d = some (.frz od u) ∧ D.ct σ' (upd H' d u)⟩ σ (upd H d (.frz od u))
theorem ps_lockW {st : Stmt} {t : TS} (h : PS X st t) : PS X st (tLockS (X := X) t) := by
  refine ⟨fun pins s σ H D I hw => ?_⟩
  obtain ⟨d, u, hd, mu, hw⟩ := hw
  obtain ⟨od, I1⟩ := I.lock hd mu
  refine thn (h.run pins s σ _ _ I1 (hw od (I.nofrz hd mu))) fun f s1 q => ?_
  cases f with
  | next => obtain ⟨σ', H', I2, e, q⟩ := q; exact ⟨σ', _, I2.unlock e (I.nofrz hd mu), q⟩
  | brk => obtain ⟨σ', H', I2, e, q⟩ := q; exact ⟨σ', _, I2.unlock e (I.nofrz hd mu), q⟩
  | cont => obtain ⟨σ', H', I2, e, q⟩ := q; exact ⟨σ', _, I2.unlock e (I.nofrz hd mu), q⟩
  | ret v => obtain ⟨x, σ', H', I2, r, e, q⟩ := q; exact ⟨x, σ', _, I2.unlock e (I.nofrz hd mu), r, q⟩
/-- a wish that may be asked behind the unlocking -/
def Wopen (X : Cx) (W : WX) : Prop := ∀ cls d σ (H : Hp) (a : Addr) (od : Obj) (u : HO), (∀ o' u', X.H_0 a ≠ some (.frz o' u')) → H a = some (.frz od u) → W cls d σ (upd H a u) → W cls d σ H
theorem wopen0 : Wopen X W0 := fun _ _ _ _ _ _ _ _ _ h => h
variable {W : WX} {m : Bool} {elt tg iter : Expr} {ifs : List Expr} {scope : Scope} {own : List (Str × Nat)} {pos np : Pos} {g : TG} {tt : Tgt} {c : Et} {ee : Ev} {x : Str} {i : Nat}
theorem PS.or {st : Stmt} {t t' : TS} (h : PS X st t) (h' : PS X st t') : PS X st (fun D σ H => t D σ H ∨ t' D σ H) := ⟨fun pins s σ H D I q => q.elim (h.run pins s σ H D I) (h'.run pins s σ H D I)⟩
theorem compN_core {vs : List Nat} {Q : VK} {G : Gh} {loc : Loc} {sh : Sh} {σ : L2.St} {H : Hp} (hW : Wopen X W) (hsl : ∀ i, i ∈ tt.slots → i ∈ vs) (hgs : TgSem X.K g tt) (ok : Ok X.K G loc sh σ H)
    (p : post (fun G H t v => OwnR X.K G loc σ H t v) X.K W G loc σ (eComp vs (itN i) tt c ee loc sh) Q) :
    tLc (liftI X.K W (itV (eVar i))) g (liftT X.K W0 c) (lift X.K W0 ee) vs σ H Q ∨ tLc (iKeys (tVar i)) g (liftT X.K W0 c) (lift X.K W0 ee) vs σ H Q ∨
    ∃ d u, H d = some u ∧ Mut (some u) ∧ ∀ od, (∀ o' u', X.H_0 d ≠ some (.frz o' u')) → tLc (iKeys (tVar i)) g (liftT X.K W0 c) (lift X.K W0 ee) vs σ (upd H d (.frz od u)) fun v H' => H' d = some (.frz od u) ∧ Q v (upd H' d u) := by
  have seq : (∀ kvs, loc.at i ≠ .t (.dct kvs)) → itN i loc sh = itV (eVar i) loc sh := fun h => by
    unfold itN itV eVar
    cases e : loc.at i with
    | no => rfl
    | own x => rfl
    | t x =>
      cases x with
      | dct kvs => exact absurd e (h kvs)
      | _ => rfl
  by_cases hd : ∃ kvs, loc.at i = .t (.dct kvs)
  · obtain ⟨kvs, e⟩ := hd
    obtain ⟨a, kv, es, r, d, hF⟩ := itN_cases (P := fun _ => True) ok e
    have ei : ∀ s, itN i loc s = .ok (kvs.map fun p => keyT p.1) s := fun s => by unfold itN; rw [e]; rfl
    rcases hF with hF | ⟨od, hF⟩
    · refine .inr (.inr ⟨a, .dK kv, ok.fh _ _ hF, trivial, fun od hx => ?_⟩)
      have sim := fsim_lock od hF
      have ok1 := ok.swap hF sim (fun _ z => nomatch z)
      have F1 : (G.sw a (.frz od (.dK kv))).F a = some (.frz od (.dK kv)) := upd_same
      refine comp_core (W := W) (it := itN i) ok1 (fun R q => ?_) hsl hgs ?_
      · rw [ei] at q
        refine ⟨.ref a, es, a, od, rfl, .inl ⟨kv, ok1.fh _ _ F1, ?_⟩⟩
        exact q (Itk a od kv) _ _ (GLe.refl _) ok1 (items_keys F1 (RepD.sim sim (ALe.refl _) _ _ r) d)
      · cases q : eComp vs (itN i) tt c ee loc sh with
        | bad => rw [q] at p; exact p
        | exc y s =>
          rw [q] at p
          intro dd H2 G2 l2 ok2 ⟨dd', fv, h1, h2, h3⟩
          have F2 := l2.f _ _ F1
          have s2 := fsim_open F2
          refine hW _ _ _ _ a od (.dK kv) hx (ok2.fh _ _ F2) (p dd _ _ (gle_sw hF l2) (ok2.swap F2 s2 (fun _ z => nomatch z)) ⟨dd', fv, h1, (upd_ne fun z => ?_).trans h2, RepFs.sim s2 h3⟩)
          rw [z, ok2.fh _ _ F2] at h2
          cases h2
        | ok t s =>
          rw [q] at p
          intro v H2 G2 l2 ok2 o
          have F2 := l2.f _ _ F1
          have s2 := fsim_open F2
          exact ⟨ok2.fh _ _ F2, p v _ _ (gle_sw hF l2) (ok2.swap F2 s2 (fun _ z => nomatch z)) (o.swap F2 s2)⟩
    · refine .inr (.inl (comp_core (W := W) (it := itN i) ok (fun R q => ?_) hsl hgs p))
      rw [ei] at q
      exact ⟨.ref a, es, a, od, rfl, .inl ⟨kv, ok.fh _ _ hF, q (Itk a od kv) _ _ (GLe.refl _) ok (items_keys hF r d)⟩⟩
  · have hn : ∀ kvs, loc.at i ≠ .t (.dct kvs) := fun kvs e => hd ⟨kvs, e⟩
    refine .inl (comp_core (W := W) (it := itN i) ok (fun R q => ⟨G, loc, sh, ok, ?_⟩) hsl hgs p)
    rw [← seq hn]
    exact q
/-- [e for x in name if c], name a list, a tuple, a text or a dict -/
theorem t_compN (hW : Wopen X W) (hv' : PE X (.Name x np) (tVar i)) (hc : X.calm = true) (hN : X.N.Nodup) (ok : BlkOk X.N X.env.scope scope own) (hv : (tt.slots.all fun i => (own.map (·.2)).contains i) = true)
    (hgs : TgSem X.K g tt) (hg : ∀ (s : Shared) (H : Hp) (C : Addr) (cl : List (Str × Addr)) (fp : List Addr), PG (X.blk s H scope (compEnvC scope cl C X.env) fp) tg g)
    (ht : ∀ (s : Shared) (H : Hp) (C : Addr) (cl : List (Str × Addr)) (fp : List Addr), TPTs (X.blk s H scope (compEnvC scope cl C X.env) fp) W0 ifs c)
    (he : ∀ (s : Shared) (H : Hp) (C : Addr) (cl : List (Str × Addr)) (fp : List Addr), TPE (X.blk s H scope (compEnvC scope cl C X.env) fp) W0 elt ee)
    (hs : ∀ v, foldedSetIterable (.Name x np) X.env v = pure v := by intro _; rfl) : TPO X W (.ListComp elt [⟨tg, .Name x np, ifs, 0⟩] scope pos) (eComp (own.map (·.2)) (itN i) tt c ee) := by
  have hsl : ∀ i, i ∈ tt.slots → i ∈ own.map (·.2) := fun i hi => by
    have := List.all_eq_true.mp hv i hi
    simpa using this
  have keys := pe_lc (pos := pos) (wi := iKeys (tVar i)) (g := g) (tt := liftT X.K W0 c) (te := lift X.K W0 ee) hc hN (pi_keys (tg := tg) hv') ok hg ht he hs
  exact PE.weak (PE.or (pe_lc (wi := liftI X.K W (itV (eVar i))) (g := g) (tt := liftT X.K W0 c) (te := lift X.K W0 ee) hc hN (ti_val (t_var hv')) ok hg ht he hs) (PE.or keys (pe_lockW keys))) fun σ H Q ⟨G, loc, sh, ok, p⟩ => compN_core hW hsl hgs ok p
/-- .. on one line with its name -/
theorem ps_comp1N {y : Str} {py spos : Pos} {j : Nat} (hW : Wopen X W) (hv' : PE X (.Name x np) (tVar i)) (hc : X.calm = true) (hN : X.N.Nodup) (ok : BlkOk X.N X.env.scope scope own) (hv : (tt.slots.all fun i => (own.map (·.2)).contains i) = true)
    (hgs : TgSem X.K g tt) (hg : ∀ (s : Shared) (H : Hp) (C : Addr) (cl : List (Str × Addr)) (fp : List Addr), PG (X.blk s H scope (compEnvC scope cl C X.env) fp) tg g)
    (ht : ∀ (s : Shared) (H : Hp) (C : Addr) (cl : List (Str × Addr)) (fp : List Addr), TPTs (X.blk s H scope (compEnvC scope cl C X.env) fp) W0 ifs c)
    (he : ∀ (s : Shared) (H : Hp) (C : Addr) (cl : List (Str × Addr)) (fp : List Addr), TPE (X.blk s H scope (compEnvC scope cl C X.env) fp) W0 elt ee)
    (hsw : swapsWith (.ListComp elt [⟨tg, .Name x np, ifs, 0⟩] scope pos) (some (.Name y py)) spos.line X.env = pure true) (hy : X.N[j]? = some y := by rfl) (hyl : X.env.scope.names.lookup y = some .local := by rfl)
    (hs : ∀ v, foldedSetIterable (.Name x np) X.env v = pure v := by intro _; rfl) :
    PS X (.Assign [.Name y py] (.ListComp elt [⟨tg, .Name x np, ifs, 0⟩] scope pos) spos) (tAsg (liftO X.K W (eComp (own.map (·.2)) (itN i) tt c ee)) (gName j)) := by
  have hsl : ∀ i, i ∈ tt.slots → i ∈ own.map (·.2) := fun i hi => by
    have := List.all_eq_true.mp hv i hi
    simpa using this
  have keys := ps_setLc (i := j) (y := y) (py := py) (spos := spos) (pos := pos) (wi := iKeys (tVar i)) (g := g) (tt := liftT X.K W0 c) (te := lift X.K W0 ee) hc hN hy hyl hsw (pi_keys (tg := tg) hv') ok hg ht he hs
  exact PS.weak (PS.or (ps_setLc (wi := liftI X.K W (itV (eVar i))) (g := g) (tt := liftT X.K W0 c) (te := lift X.K W0 ee) hc hN hy hyl hsw (ti_val (t_var hv')) ok hg ht he hs) (PS.or keys (ps_lockW keys))) fun D σ H ⟨G, loc, sh, ok, p⟩ => compN_core hW hsl hgs ok p
/-- for x in name -/
theorem ts_forN {body : List Stmt} {sb : Sv} (hW : Wopen X W) (hv' : PE X (.Name x np) (tVar i)) (hp : PassesOwn (model X.prog X.w) X.A X.env X.xe) (hc : X.calm = true) (hg : TgOk X tg g tt) (hb : TPSs X W m body sb) (hs : ∀ v, foldedSetIterable (.Name x np) X.env v = pure v := by intro _; rfl) : TPS X W m (.For tg (.Name x np) body [] pos) (sFor (itN i) tt sb) := by
  have keys := ps_for (pos := pos) hp hc (pi_keys (tg := tg) hv') hg.pg hb hs
  refine PS.weak (PS.or (ps_for hp hc (ti_val (W := W) (t_var hv')) hg.pg hb hs) (PS.or keys (ps_lockW keys))) fun D σ H ⟨G, loc, sh, ok, p⟩ => ?_
  have seq : (∀ kvs, loc.at i ≠ .t (.dct kvs)) → itN i loc sh = itV (eVar i) loc sh := fun h => by
    unfold itN itV eVar
    cases e : loc.at i with
    | no => rfl
    | own x => rfl
    | t x =>
      cases x with
      | dct kvs => exact absurd e (h kvs)
      | _ => rfl
  by_cases hd : ∃ kvs, loc.at i = .t (.dct kvs)
  · obtain ⟨kvs, e⟩ := hd
    obtain ⟨a, kv, es, r, d, hF⟩ := itN_cases (P := fun _ => True) ok e
    have ei : ∀ s, itN i loc s = .ok (kvs.map fun p => keyT p.1) s := fun s => by unfold itN; rw [e]; rfl
    rcases hF with hF | ⟨od, hF⟩
    · refine .inr (.inr ⟨a, .dK kv, ok.fh _ _ hF, trivial, fun od hx => ?_⟩)
      have sim := fsim_lock od hF
      have ok1 := ok.swap hF sim (fun _ z => nomatch z)
      have F1 : (G.sw a (.frz od (.dK kv))).F a = some (.frz od (.dK kv)) := upd_same
      refine for_core (W := W) (it := itN i) ok1 (fun R q => ?_) hg.sem ?_
      · rw [ei] at q
        refine ⟨.ref a, es, a, od, rfl, .inl ⟨kv, ok1.fh _ _ F1, ?_⟩⟩
        exact q (Itk a od kv) _ _ (GLe.refl _) ok1 (items_keys F1 (RepD.sim sim (ALe.refl _) _ _ r) d)
      · cases q : sFor (itN i) tt sb loc sh with
        | bad => rw [q] at p; exact p
        | exc y l s =>
          rw [q] at p
          intro dd σ2 H2 G2 l2 ok2 ⟨dd', fv, h1, h2, h3⟩
          have F2 := l2.f _ _ F1
          have s2 := fsim_open F2
          refine hW _ _ _ _ a od (.dK kv) hx (ok2.fh _ _ F2) (p dd _ _ _ (gle_sw hF l2) (ok2.swap F2 s2 (fun _ z => nomatch z)) ⟨dd', fv, h1, (upd_ne fun z => ?_).trans h2, RepFs.sim s2 h3⟩)
          rw [z, ok2.fh _ _ F2] at h2
          cases h2
        | nx l s =>
          rw [q] at p
          intro σ2 H2 G2 l2 ok2
          have F2 := l2.f _ _ F1
          exact ⟨ok2.fh _ _ F2, p _ _ _ (gle_sw hF l2) (ok2.swap F2 (fsim_open F2) (fun _ z => nomatch z))⟩
        | bk l s =>
          rw [q] at p
          intro σ2 H2 G2 l2 ok2
          have F2 := l2.f _ _ F1
          exact ⟨ok2.fh _ _ F2, p _ _ _ (gle_sw hF l2) (ok2.swap F2 (fsim_open F2) (fun _ z => nomatch z))⟩
        | ct l s =>
          rw [q] at p
          intro σ2 H2 G2 l2 ok2
          have F2 := l2.f _ _ F1
          exact ⟨ok2.fh _ _ F2, p _ _ _ (gle_sw hF l2) (ok2.swap F2 (fsim_open F2) (fun _ z => nomatch z))⟩
        | rt t s =>
          rw [q] at p
          intro v H2 G2 l2 g2 o
          have F2 := l2.f _ _ F1
          have s2 := fsim_open F2
          have ok2 : Ok X.K G2 [] s [] H2 := ⟨g2, rfl, fun i => by simp [Loc.at]; trivial, fun i j x y b _ h => by cases h⟩
          refine ⟨g2.fh _ _ F2, p v _ _ (gle_sw hF l2) (ok2.swap F2 s2 (fun _ z => nomatch z)).toGok ?_⟩
          cases m with
          | false => exact Rep.sim s2 (ALe.refl _) _ _ o
          | true => exact OwnR.swap F2 s2 o
    · refine .inr (.inl (for_core (W := W) (it := itN i) ok (fun R q => ?_) hg.sem p))
      rw [ei] at q
      exact ⟨.ref a, es, a, od, rfl, .inl ⟨kv, ok.fh _ _ hF, q (Itk a od kv) _ _ (GLe.refl _) ok (items_keys hF r d)⟩⟩
  · have hn : ∀ kvs, loc.at i ≠ .t (.dct kvs) := fun kvs e => hd ⟨kvs, e⟩
    refine .inl (for_core (W := W) (it := itN i) ok (fun R q => ⟨G, loc, sh, ok, ?_⟩) hg.sem p)
    rw [← seq hn]
    exact q
end
end TL

/-! the T-layer, 12: stores, methods, shared objects, assignments -/
namespace TL
open PySem PySem.Spec L2

/-! ### a list or dict becomes a shared object -/
def shareT : T → Sh → Res T
  | .lst xs, s => .ok (.cel s.length) (s ++ [.lst xs])
  | .dct kvs, s => .ok (.cel s.length) (s ++ [.dct kvs])
  | _, _ => .bad
def eShare (a : Ev) : Ev := fun l s => (a l s).bind shareT
section
variable {K : PySem.W.Frag} {W : WX} {m : Bool} {G G' : Gh} {loc loc' : Loc} {sh sh' : Sh} {σ σ' : L2.St} {H H' : Hp}
theorem ale_snoc (al : List Addr) (a : Addr) : ALe al (al ++ [a]) := fun k b h => by
  rw [List.getElem?_append_left (List.getElem?_eq_some_iff.mp h).1]
  exact h
theorem snoc_get {α : Type} {l : List α} {a b : α} {k : Nat} (h : (l ++ [a])[k]? = some b) : l[k]? = some b ∨ (k = l.length ∧ b = a) := by
  rw [List.getElem?_append] at h
  split at h
  · exact .inl h
  · rename_i q
    right
    cases e : k - l.length with
    | zero => rw [e] at h; exact ⟨by omega, (Option.some.inj h).symm⟩
    | succ n => rw [e] at h; cases h
theorem Ok.share (ok : Ok K G loc sh σ H) {t : T} {v : V} {so : SO} (o : OwnR K G loc σ H t v) (hso : (∃ xs, t = .lst xs ∧ so = .lst xs) ∨ ∃ kvs, t = .dct kvs ∧ so = .dct kvs) : ∃ G', GLe G G' ∧ Ok K G' loc (sh ++ [so]) σ H ∧ rep K G' (.cel sh.length) v := by
  obtain ⟨a, rfl, nF, nB, nA, nS, hs⟩ := o
  have le : GLe G { G with al := G.al ++ [a] } := ⟨FLe.refl _, ale_snoc _ _, rfl⟩
  have na : ∀ x, H a ≠ some (.own x) := fun x e => by
    rcases hs.is with ⟨_, q⟩ | ⟨_, q⟩ <;> rw [q] at e <;> cases e
  have hsr : ShRep K { G with al := G.al ++ [a] } H a so := by
    rcases hso with ⟨xs, rfl, rfl⟩ | ⟨xs, rfl, rfl⟩
    · exact Sha.le (t := .lst xs) le rfl hs
    · exact Sha.le (t := .dct xs) le rfl hs
  refine ⟨_, le, ⟨⟨ok.fh, ok.bh, ok.dis, fun k b h => ?_, fun i j b h1 h2 => ?_, ?_, fun k u h => ?_⟩, ok.len, fun i => ?_, ok.sep⟩, a, rfl, ?_⟩
  · rcases snoc_get h with h | ⟨_, rfl⟩
    · exact ok.alf k b h
    · exact ⟨nF, nB⟩
  · rcases snoc_get h1 with g1 | ⟨e1, e2⟩
    · rcases snoc_get h2 with g2 | ⟨e3, e4⟩
      · exact ok.ali i j b g1 g2
      · exact (nA i (by rw [← e4]; exact g1)).elim
    · rcases snoc_get h2 with g2 | ⟨e3, e4⟩
      · exact (nA j (by rw [← e2]; exact g2)).elim
      · rw [e1, e3]
  · show (G.al ++ [a]).length = (sh ++ [so]).length
    rw [List.length_append, List.length_append, ok.all]
    rfl
  · rcases snoc_get h with h | ⟨rfl, rfl⟩
    · obtain ⟨b, h1, h2⟩ := ok.shr k u h
      refine ⟨b, le.a _ _ h1, ?_⟩
      refine h2.le le rfl fun dx hd => ⟨hd, id, fun q k' h' => ?_⟩
      rcases snoc_get h' with h' | ⟨_, rfl⟩
      · exact q k' h'
      · exact na _ hd
    · refine ⟨a, ?_, hsr⟩
      show (G.al ++ [a])[sh.length]? = some a
      rw [← ok.all]
      simp
  · refine (ok.sl i).le le fun b x es eo _ _ n3 _ => ⟨rfl, ‹_›, fun k h => ?_⟩
    rcases snoc_get h with h | ⟨_, rfl⟩
    · exact n3 k h
    · exact nS i x es eo
  · show (G.al ++ [a])[sh.length]? = some a
    rw [← ok.all]
    simp
end
section
variable {X : Cx} {W : WX} {m : Bool} {a b c e : Expr} {es : List Expr} {ea eb ek ev : Ev} {pos apos cpos p2 np : Pos} {i : Nat} {x : Str}
theorem t_share (h : TPO X W a ea) : TPE X W a (eShare ea) := PE.weak h fun σ H Q ⟨G, loc, sh, ok, p⟩ => by
  refine ⟨G, loc, sh, ok, (post.bind (Rp := fun G H t v => OwnR X.K G loc σ H t v) p).imp ?_⟩
  rintro v H1 ⟨G1, t, s1, l1, ok1, o, p1⟩
  cases t with
  | lst xs =>
    obtain ⟨G2, l2, ok2, r2⟩ := ok1.share o (.inl ⟨xs, rfl, rfl⟩)
    exact p1 v H1 G2 l2 ok2 r2
  | dct kvs =>
    obtain ⟨G2, l2, ok2, r2⟩ := ok1.share o (.inr ⟨kvs, rfl, rfl⟩)
    exact p1 v H1 G2 l2 ok2 r2
  | _ => exact p1.elim

/-! ### name[k] = v -/
def putOwn (t k v : T) : Option T := match t, k with
  | .lst xs, .int j => (ixN xs.length j).map fun n => .lst (xs.set n v)
  | .dct kvs, k => match keyOf k with
    | some k => if kvs.length < sizeLine then some (.dct (dputT kvs k v)) else none
    | none => none
  | _, _ => none
def soT : SO → T
  | .lst xs => .lst xs
  | .dct kvs => .dct kvs
  | .ins _ _ => .non
def tSo : T → SO
  | .lst xs => .lst xs
  | .dct kvs => .dct kvs
  | _ => .lst []
def slotMut : Slot → Bool
  | .own _ => true
  | .t (.cel _) => true
  | _ => false
def sPutK (i : Nat) (v k : T) : Sv := fun l s => match l.at i with
  | .own t => match putOwn t k v with
    | some t' => .nx (l.set i (.own t')) s
    | none => .bad
  | .t (.cel c) => match s[c]? with
    | some so => match putOwn (soT so) k v with
      | some t' => .nx l (s.set c (tSo t'))
      | none => .bad
    | none => .bad
  | _ => .bad
def sMut (i : Nat) (a : Sv) : Sv := fun l s => if slotMut (l.at i) then a l s else .bad
def sPut (i : Nat) (ek ev : Ev) : Sv := sE ev fun v => sMut i (sE ek fun k => sPutK i v k)
def rSetD : V → V → V → Hp → (Hp → Prop) → Prop := fun o i v H Q => ∃ a H', o = .ref a ∧ DPut H a i v H' ∧ Q H'
theorem set_dict (hu : X.A.units + 1 < cLine) : PSet X rSetD := by
  intro pins s σ H o i v ov iv u Q I ro ri rv h
  obtain ⟨a, H', rfl, g, q⟩ := h
  cases ro
  exact d_setItem hu I g ri rv fun s' I' => ⟨H', I', q⟩
theorem PSet.or {r r' : TSet} (h : PSet X r) (h' : PSet X r') : PSet X (fun o i v H Q => r o i v H Q ∨ r' o i v H Q) := fun pins s σ H o i v ov iv u Q I ro ri rv q => q.elim (h pins s σ H o i v ov iv u Q I ro ri rv) (h' pins s σ H o i v ov iv u Q I ro ri rv)
def rSetA : V → V → V → Hp → (Hp → Prop) → Prop := fun o i v H Q => rSetL o i v H Q ∨ rSetD o i v H Q
theorem put_rule {K : PySem.W.Frag} {G : Gh} {H : Hp} {A : Addr} {t t' tk tv : T} {k v : V} {Q : Hp → Prop} (hs : Sha K G H A t) (rk : rep K G tk k) (rv : rep K G tv v) (e : putOwn t tk tv = some t') (q : ∀ o, Sha K G (upd H A o) A t' → Q (upd H A o)) : rSetA (.ref A) k v H Q := by
  cases t with
  | lst xs =>
    obtain ⟨vs, h1, h2, h3⟩ := hs
    cases tk with
    | int j =>
      cases rk
      cases ej : ixN xs.length j with
      | none => simp [putOwn, ej] at e
      | some n =>
        have e' : some (T.lst (xs.set n tv)) = some t' := by rw [← e]; simp [putOwn, ej]
        cases e'
        refine .inl ⟨A, vs, j, n, rfl, rfl, h1, by rw [RepL.length h2]; exact ej, q _ ⟨_, upd_same, RepL.set n h2 rv, by rw [List.length_set]; exact h3⟩⟩
    | _ => cases e
  | dct kvs =>
    obtain ⟨kv, h1, h2, h3⟩ := hs
    cases ek : keyOf tk with
    | none => simp [putOwn, ek] at e
    | some k' =>
      by_cases hz : kvs.length < sizeLine
      · have e' : some (T.dct (dputT kvs k' tv)) = some t' := by rw [← e]; simp [putOwn, ek, hz]
        cases e'
        exact .inr ⟨A, _, rfl, .inl ⟨kv, k', h1, keyOf_rep rk ek, by rw [RepD.length h2]; exact hz, rfl⟩, q _ ⟨_, upd_same, RepD.put h2 rv, h3.put hz (keyOf_ok rk ek)⟩⟩
      · simp [putOwn, ek, hz] at e
  | _ => cases e
theorem sha_so {K : PySem.W.Frag} {G : Gh} {H : Hp} {A : Addr} {so : SO} {t' : T} {k v : T} (h : ShRep K G H A so) (e : putOwn (soT so) k v = some t') : Sha K G H A (soT so) := by
  cases so with
  | lst xs => exact h
  | dct xs => exact h
  | ins C fs => cases e
theorem so_sha {K : PySem.W.Frag} {G : Gh} {H : Hp} {A : Addr} {t : T} (h : Sha K G H A t) : ShRep K G H A (tSo t) := by
  cases t with
  | lst xs => exact h
  | dct xs => exact h
  | _ => exact h.elim
theorem putOwn_is {t k v t' : T} (e : putOwn t k v = some t') : (∃ xs, t' = .lst xs) ∨ ∃ xs, t' = .dct xs := by
  cases t with
  | lst xs =>
    cases k with
    | int j =>
      cases ej : ixN xs.length j with
      | none => simp [putOwn, ej] at e
      | some n => simp [putOwn, ej] at e; exact .inl ⟨_, e.symm⟩
    | _ => cases e
  | dct kvs =>
    cases ek : keyOf k with
    | none => simp [putOwn, ek] at e
    | some k' =>
      by_cases hz : kvs.length < sizeLine
      · simp [putOwn, ek, hz] at e; exact .inr ⟨_, e.symm⟩
      · simp [putOwn, ek, hz] at e
  | _ => cases e
/-- the slot's thing, ready to be changed -/
theorem slot_own {K : PySem.W.Frag} {G : Gh} {loc : Loc} {sh : Sh} {σ : L2.St} {H : Hp} {t : T} (ok : Ok K G loc sh σ H) (e : loc.at i = .own t) : ∃ A, σ[i]? = some (some (.ref A)) ∧ Sha K G H A t := by
  have h := ok.sl i
  rw [e] at h
  obtain ⟨A, es, _, _, _, hs⟩ := h
  exact ⟨A, es, hs⟩
theorem slot_cel {K : PySem.W.Frag} {G : Gh} {loc : Loc} {sh : Sh} {σ : L2.St} {H : Hp} {c : Nat} (ok : Ok K G loc sh σ H) (e : loc.at i = .t (.cel c)) : ∃ A, σ[i]? = some (some (.ref A)) ∧ G.al[c]? = some A := by
  have h := ok.sl i
  rw [e] at h
  obtain ⟨v, es, A, rfl, ha⟩ := h
  exact ⟨A, es, ha⟩
theorem slot_ref {K : PySem.W.Frag} {G : Gh} {loc : Loc} {sh : Sh} {σ : L2.St} {H : Hp} (ok : Ok K G loc sh σ H) (e : slotMut (loc.at i) = true) : ∃ A, σ[i]? = some (some (.ref A)) := by
  cases h : loc.at i with
  | no => rw [h] at e; cases e
  | own t => obtain ⟨A, es, _⟩ := slot_own ok h; exact ⟨A, es⟩
  | t x =>
    cases x with
    | cel c => obtain ⟨A, es, _⟩ := slot_cel ok h; exact ⟨A, es⟩
    | _ => rw [h] at e; cases e
theorem ts_put (hu : X.A.units + 1 < cLine) (hx : PE X (.Name x np) (tVar i)) (hk : TPE X W b ek) (hv : TPE X W e ev)
    (ha : ∀ v, assign (.Subscript (.Name x np) b p2) X.env v = (do
      let ov ← holding [v] (eval (.Name x np) X.env)
      let iv ← holding [v, ov] (eval b X.env)
      standAt p2
      holding [v, ov, iv] (setItem ov iv v)
      release [v, ov, iv] []) := by intro _; rfl)
    (hs : swapsWithSole [.Subscript (.Name x np) b p2] e pos.line X.env = pure false := by rfl) (hw : swappedStores [.Subscript (.Name x np) b p2] e X.env = pure none := by rfl)
    (h1 : (assignEach [.Subscript (.Name x np) b p2] X.env).map (·.2) = [assign (.Subscript (.Name x np) b p2) X.env] := by rfl) :
    TPS X W m (.Assign [.Subscript (.Name x np) b p2] e pos) (sPut i ek ev) := PS.weak (ps_asg hv (pg_sub hx hk (PSet.or set_list (set_dict hu)) ha) hs hw h1) fun D σ H ⟨G, loc, sh, ok, p⟩ => by
  refine ⟨G, loc, sh, ok, (postS.val (Rp := rpV X.K) p).imp ?_⟩
  rintro v H1 ⟨G1, tv, s1, l1, ok1, r1, p1⟩
  have hm : slotMut (loc.at i) = true ∧ postS X.K W m G1 (sE ek (fun k => sPutK i tv k) loc s1) D := by
    unfold sMut at p1
    by_cases h : slotMut (loc.at i) = true
    · rw [if_pos h] at p1; exact ⟨h, p1⟩
    · rw [if_neg h] at p1; exact p1.elim
  obtain ⟨hm, p1⟩ := hm
  obtain ⟨A, es⟩ := slot_ref ok1 hm
  refine ⟨.ref A, es, G1, loc, s1, ok1, (postS.val (Rp := rpV X.K) p1).imp ?_⟩
  rintro k H2 ⟨G2, tk, s2, l2, ok2, r2, p2⟩
  unfold sPutK at p2
  cases e1 : loc.at i with
  | no => rw [e1] at hm; cases hm
  | own t =>
    simp only [e1] at p2
    obtain ⟨A', es', hs⟩ := slot_own ok2 e1
    rw [es] at es'
    cases es'
    cases e2 : putOwn t tk tv with
    | none => simp only [e2] at p2; exact p2.elim
    | some t' =>
      simp only [e2] at p2
      exact put_rule hs r2 (rep_le l2 r1) e2 fun o ho => p2 _ _ G2 (GLe.refl _) (ok2.mutO e1 es ho)
  | t x =>
    cases x with
    | cel c =>
      simp only [e1] at p2
      obtain ⟨A', es', ha⟩ := slot_cel ok2 e1
      rw [es] at es'
      cases es'
      cases e3 : s2[c]? with
      | none => simp only [e3] at p2; exact p2.elim
      | some so =>
        simp only [e3] at p2
        obtain ⟨A', ha', hs⟩ := ok2.shr c so e3
        rw [ha] at ha'
        cases ha'
        cases e2 : putOwn (soT so) tk tv with
        | none => simp only [e2] at p2; exact p2.elim
        | some t' =>
          simp only [e2] at p2
          have hs' := sha_so hs e2
          exact put_rule hs' r2 (rep_le l2 r1) e2 fun o ho => p2 _ _ G2 (GLe.refl _) (ok2.mutC ha e3 (fun x q => by rcases hs'.is with ⟨_, z⟩ | ⟨_, z⟩ <;> rw [z] at q <;> cases q) (so_sha ho))
    | _ => rw [e1] at hm; cases hm
end
end TL

/-! the T-layer, 13: methods that change a list, tuple targets, comprehensions stored on one line -/
namespace TL
open PySem PySem.Spec L2

abbrev Mth := List T → List T → Option T
def MthOk (K : PySem.W.Frag) (r : V → List V → Hp → VK → Prop) (f : Mth) : Prop := ∀ (G : Gh) (H : Hp) (A : Addr) (xs : List T) (vs : List V) (ts : List T) (t' : T) (Q : VK),
  Sha K G H A (.lst xs) → FLe G.F H → repL K G ts vs → f xs ts = some t' → (∀ o, Sha K G (upd H A o) A t' → Q .non (upd H A o)) → r (.ref A) vs H Q
def slotLst (l : Loc) (s : Sh) (i : Nat) : Bool := match l.at i with
  | .own (.lst _) => true
  | .t (.cel c) => match s[c]? with
    | some (.lst _) => true
    | _ => false
  | _ => false
def sMthK (i : Nat) (f : Mth) (ts : List T) : Sv := fun l s => match l.at i with
  | .own (.lst xs) => match f xs ts with
    | some t' => .nx (l.set i (.own t')) s
    | none => .bad
  | .t (.cel c) => match s[c]? with
    | some (.lst xs) => match f xs ts with
      | some t' => .nx l (s.set c (tSo t'))
      | none => .bad
    | _ => .bad
  | _ => .bad
def sMth (i : Nat) (f : Mth) (a : EvL) : Sv := fun l s => if slotLst l s i then sE a (fun ts => sMthK i f ts) l s else .bad
section
variable {X : Cx} {W : WX} {m : Bool} {e : Expr} {es : List Expr} {eL : EvL} {ev : Ev} {pos apos cpos np : Pos} {i : Nat} {x name : Str} {id : String} {r : V → List V → Hp → VK → Prop} {f : Mth}
theorem slotLst_ref {K : PySem.W.Frag} {G : Gh} {loc : Loc} {sh : Sh} {σ : L2.St} {H : Hp} (ok : Ok K G loc sh σ H) (e : slotLst loc sh i = true) : ∃ A vs, σ[i]? = some (some (.ref A)) ∧ H A = some (.lst vs) := by
  unfold slotLst at e
  split at e
  · rename_i xs h
    obtain ⟨A, es, hs⟩ := slot_own ok h
    obtain ⟨vs, h1, _⟩ := hs
    exact ⟨A, vs, es, h1⟩
  · rename_i c h
    obtain ⟨A, es, ha⟩ := slot_cel ok h
    split at e
    · rename_i xs h2
      obtain ⟨A', ha', hs⟩ := ok.shr c _ h2
      rw [ha] at ha'
      cases ha'
      obtain ⟨vs, h1, _⟩ := hs
      exact ⟨A, vs, es, h1⟩
    · cases e
  · cases e
theorem mthK_core {K : PySem.W.Frag} {G : Gh} {loc : Loc} {sh : Sh} {σ : L2.St} {H : Hp} {A : Addr} {vs : List V} {ts : List T} {D : Ends} (hf : MthOk K r f) (ok : Ok K G loc sh σ H) (es : σ[i]? = some (some (.ref A))) (rv : repL K G ts vs) (p : postS K W m G (sMthK i f ts loc sh) D) : r (.ref A) vs H fun _ H' => D.nx σ H' := by
  unfold sMthK at p
  split at p
  · rename_i xs h
    obtain ⟨A', es', hs⟩ := slot_own ok h
    rw [es] at es'
    cases es'
    split at p
    · rename_i t' e
      exact hf G H A xs vs ts t' _ hs ok.fle rv e fun o ho => p _ _ G (GLe.refl _) (ok.mutO h es ho)
    · exact p.elim
  · rename_i c h
    obtain ⟨A', es', ha⟩ := slot_cel ok h
    rw [es] at es'
    cases es'
    split at p
    · rename_i xs h2
      obtain ⟨A', ha', hs⟩ := ok.shr c _ h2
      rw [ha] at ha'
      cases ha'
      split at p
      · rename_i t' e
        refine hf G H A xs vs ts t' _ hs ok.fle rv e fun o ho => p _ _ G (GLe.refl _) (ok.mutC ha h2 (fun x q => ?_) (so_sha ho))
        obtain ⟨_, z, _⟩ := hs
        rw [z] at q
        cases q
      · exact p.elim
    · exact p.elim
  · exact p.elim
theorem ts_mth (slot : PySem.Slot "list" name id) (hty : typeOf (.builtin id) = pure (.type "method_descriptor")) (hm : MtR X id r) (hf : MthOk X.K r f) (hx : PE X (.Name x np) (tVar i)) (ha : TPA X W (e :: es) eL)
    (hbase : attributeBase (.Name x np) name X.env (eval (.Name x np) X.env) = eval (.Name x np) X.env := by rfl)
    (hfew : ((backTo cpos (starEach (e :: es) X.env)).all (fun x => !x.1) && (backToKw cpos (keywordEach [] X.env)).all (fun x => x.1.isSome)
      && decide ((e :: es).length + ([] : List Keyword).length + (if ([] : List Keyword).isEmpty then 0 else 1) < 30)) = true := by rfl)
    (hline : (apos.endLine == cpos.line) = true := by rfl) (hs : starEach (e :: es) X.env = (false, eval e X.env) :: starEach es X.env := by rfl) (hplain : (backTo cpos (starEach es X.env)).any (·.1) = false := by rfl)
    (hsw : swapsWith (.Call (.Attribute (.Name x np) name apos) (e :: es) [] cpos) none pos.line X.env = pure false := by rfl) :
    TPS X W m (.Expr (.Call (.Attribute (.Name x np) name apos) (e :: es) [] cpos) pos) (sMth i f eL) := PS.weak (ps_expr (pe_bm PySem.F.plainAttrs_list slot hty hm hx ha hbase hfew hline hs hplain) hsw) fun D σ H ⟨G, loc, sh, ok, p⟩ => by
  unfold sMth at p
  by_cases h : slotLst loc sh i = true
  · rw [if_pos h] at p
    obtain ⟨A, vs, es, hA⟩ := slotLst_ref ok h
    refine ⟨.ref A, es, .inl ⟨rfl, vs, .of hA⟩, G, loc, sh, ok, (postS.val (Rp := rpL X.K) p).imp ?_⟩
    rintro ws H1 ⟨G1, ts, s1, l1, ok1, r1, p1⟩
    exact mthK_core hf ok1 es r1 p1
  · rw [if_neg h] at p; exact p.elim
theorem ts_mth0 (slot : PySem.Slot "list" name id) (hty : typeOf (.builtin id) = pure (.type "method_descriptor")) (hm : MtR X id r) (hf : MthOk X.K r f) (hx : PE X (.Name x np) (tVar i))
    (hbase : attributeBase (.Name x np) name X.env (eval (.Name x np) X.env) = eval (.Name x np) X.env := by rfl) (hline : (apos.endLine == cpos.line) = true := by rfl)
    (hsw : swapsWith (.Call (.Attribute (.Name x np) name apos) [] [] cpos) none pos.line X.env = pure false := by rfl) :
    TPS X W m (.Expr (.Call (.Attribute (.Name x np) name apos) [] [] cpos) pos) (sMth i f aNil) := PS.weak (ps_expr (pe_bm0 PySem.F.plainAttrs_list slot hty hm hx hbase hline) hsw) fun D σ H ⟨G, loc, sh, ok, p⟩ => by
  unfold sMth at p
  by_cases h : slotLst loc sh i = true
  · rw [if_pos h] at p
    obtain ⟨A, vs, es, hA⟩ := slotLst_ref ok h
    exact ⟨.ref A, es, .inl ⟨rfl, vs, .of hA⟩, mthK_core (vs := []) (ts := []) hf ok es rfl p⟩
  · rw [if_neg h] at p; exact p.elim
end
def mAppend : Mth := fun xs ts => match ts with
  | [t] => if xs.length < sizeLine then some (.lst (xs ++ [t])) else none
  | _ => none
theorem mk_append {K : PySem.W.Frag} : MthOk K rAppend mAppend := by
  intro G H A xs vs ts t' Q ⟨ws, h1, h2, h3⟩ hF rv e q
  unfold mAppend at e
  split at e
  · rename_i t
    obtain ⟨v, rfl, r1⟩ := RepL.one rv
    by_cases h : xs.length < sizeLine
    · rw [if_pos h] at e
      cases e
      exact ⟨A, ws, v, rfl, rfl, h1, by rw [RepL.length h2]; exact h, q _ ⟨_, upd_same, RepL.append h2 (RepL.cons r1 RepL.nil), by rw [List.length_append]; exact h⟩⟩
    · rw [if_neg h] at e; cases e
  · cases e
def mExtend : Mth := fun xs ts => match ts with
  | [.lst ys] => if xs.length + ys.length ≤ sizeLine then some (.lst (xs ++ ys)) else none
  | _ => none
theorem mk_extend {K : PySem.W.Frag} : MthOk K rExtend mExtend := by
  intro G H A xs vs ts t' Q ⟨ws, h1, h2, h3⟩ hF rv e q
  unfold mExtend at e
  split at e
  · rename_i ys
    obtain ⟨v, rfl, b, zs, rfl, q1, q2, q3⟩ := RepL.one rv
    by_cases h : xs.length + ys.length ≤ sizeLine
    · rw [if_pos h] at e
      cases e
      exact ⟨A, b, ws, zs, rfl, rfl, h1, hF _ _ q1, by rw [RepL.length h2, RepL.length q2]; exact h, q _ ⟨_, upd_same, RepL.append h2 q2, by rw [List.length_append]; exact h⟩⟩
    · rw [if_neg h] at e; cases e
  · cases e
def mReverse : Mth := fun xs ts => match ts with
  | [] => some (.lst xs.reverse)
  | _ => none
theorem mk_reverse {K : PySem.W.Frag} : MthOk K rReverse mReverse := by
  intro G H A xs vs ts t' Q ⟨ws, h1, h2, h3⟩ hF rv e q
  unfold mReverse at e
  split at e
  · cases rv
    cases e
    exact ⟨A, ws, rfl, rfl, h1, q _ ⟨_, upd_same, RepL.reverse h2, by rw [List.length_reverse]; exact h3⟩⟩
  · cases e

/-! ### a, b = .. -/
section
variable {X : Cx} {W : WX} {m : Bool} {tg a b e : Expr} {ev : Ev} {eL : EvL} {pos px py pt pt2 : Pos} {g : TG} {tt : Tgt} {i j : Nat} {x y : Str} {kt k2 : _}
def sAsgT (tt : Tgt) (ev : Ev) : Sv := sE ev fun t l s => match setT tt t l with
  | some l1 => .nx l1 s
  | none => .bad
theorem ts_asgT (he : TPE X W e ev) (hg : TgOk X tg g tt) (hs : swapsWithSole [tg] e pos.line X.env = pure false := by rfl) (hw : swappedStores [tg] e X.env = pure none := by rfl)
    (h1 : (assignEach [tg] X.env).map (·.2) = [assign tg X.env] := by rfl) : TPS X W m (.Assign [tg] e pos) (sAsgT tt ev) := PS.weak (ps_asg he hg.pg hs hw h1) fun D σ H ⟨G, loc, sh, ok, p⟩ => by
  refine ⟨G, loc, sh, ok, (postS.val (Rp := rpV X.K) p).imp ?_⟩
  rintro v H1 ⟨G1, t, s1, l1, ok1, r1, p1⟩
  cases q : setT tt t loc with
  | none => simp only [q] at p1; exact p1.elim
  | some l1 =>
    simp only [q] at p1
    exact hg.sem G1 loc s1 σ H1 t v l1 _ ok1 r1 q fun σ' ok' _ _ => p1 σ' H1 G1 (GLe.refl _) ok'
def sPar (i j : Nat) (a : EvL) : Sv := sE a fun ts l s => match ts with
  | [t, u] => .nx ((l.set i (.t t)).set j (.t u)) s
  | _ => .bad
theorem ts_par (hc : X.calm = true) (hN : X.N.Nodup) (ha : TPA X W [a, b] eL) (hi : X.N[i]? = some x := by rfl) (hj : X.N[j]? = some y := by rfl) (hij : i ≠ j := by decide)
    (hx : X.env.scope.names.lookup x = some .local := by rfl) (hy : X.env.scope.names.lookup y = some .local := by rfl)
    (hw : swappedStores [.Tuple [.Name x px, .Name y py] kt pt] (.Tuple [a, b] k2 pt2) X.env = pure (some [x, y]) := by rfl)
    (hs : swapsWithSole [.Tuple [.Name x px, .Name y py] kt pt] (.Tuple [a, b] k2 pt2) pos.line X.env = pure false := by rfl) :
    TPS X W m (.Assign [.Tuple [.Name x px, .Name y py] kt pt] (.Tuple [a, b] k2 pt2) pos) (sPar i j eL) := PS.weak (ps_par hc hN hi hj hij hx hy ha hw hs) fun D σ H ⟨G, loc, sh, ok, p⟩ => by
  refine ⟨G, loc, sh, ok, (postS.val (Rp := rpL X.K) p).imp ?_⟩
  rintro vs H1 ⟨G1, ts, s1, l1, ok1, r1, p1⟩
  match ts, r1, p1 with
  | [t, u], r1, p1 =>
    obtain ⟨v, w, rfl, r2, r3⟩ := RepL.two r1
    exact ⟨v, w, rfl, p1 _ _ G1 (GLe.refl _) ((ok1.setT r2).setT r3)⟩
  | [], _, p1 => exact p1.elim
  | [_], _, p1 => exact p1.elim
  | _ :: _ :: _ :: _, _, p1 => exact p1.elim
end

/-! ### name = [e for ..] on one line -/
section
variable {X : Cx} {W : WX} {m : Bool} {elt tg iter : Expr} {ifs : List Expr} {scope : Scope} {own : List (Str × Nat)} {pos np spos py : Pos} {it : EvL} {g : TG} {tt : Tgt} {c : Et} {ee : Ev} {x y : Str} {i j : Nat}
theorem PS.asgO {st : Stmt} (h : PS X st (tAsg (liftO X.K W (eComp (own.map (·.2)) it tt c ee)) (gName j))) : TPS X W m st (sAsgO j (eComp (own.map (·.2)) it tt c ee)) := PS.weak h fun D σ H ⟨G, loc, sh, ok, p⟩ => by
  refine ⟨G, loc, sh, ok, (postS.val (Rp := fun G H t v => OwnR X.K G loc σ H t v) p).imp ?_⟩
  rintro v H1 ⟨G1, t, s1, l1, ok1, r1, p1⟩
  exact p1 _ H1 G1 (GLe.refl _) (ok1.setO r1)
theorem PS.asgF {st : Stmt} {ev : Ev} (h : PS X st (tAsg (liftO X.K W ev) (gName j))) : TPS X W m st (sAsg j ev) := PS.weak h fun D σ H ⟨G, loc, sh, ok, p⟩ => by
  refine ⟨G, loc, sh, ok, (postS.val (Rp := fun G H t v => OwnR X.K G loc σ H t v) p).imp ?_⟩
  rintro v H1 ⟨G1, t, s1, l1, ok1, r1, p1⟩
  obtain ⟨G2, l2, ok2, r2⟩ := OwnR.freeze ok1 r1
  exact p1 _ H1 G2 l2 (ok2.setT r2)
theorem PS.asgS {st : Stmt} {ev : Ev} (h : PS X st (tAsg (liftO X.K W ev) (gName j))) : TPS X W m st (sAsg j (eShare ev)) := PS.weak h fun D σ H ⟨G, loc, sh, ok, p⟩ => by
  unfold sAsg at p
  have p' := postS.val (Rp := rpV X.K) (σ := σ) p
  refine ⟨G, loc, sh, ok, ((post.bind (Rp := fun G H t v => OwnR X.K G loc σ H t v) p')).imp ?_⟩
  rintro v H1 ⟨G1, t, s1, l1, ok1, o, p1⟩
  cases t with
  | lst xs =>
    obtain ⟨G2, l2, ok2, r2⟩ := ok1.share o (.inl ⟨xs, rfl, rfl⟩)
    obtain ⟨G3, t3, s3, l3, ok3, r3, p3⟩ := p1 v H1 G2 l2 ok2 r2
    exact p3 _ H1 G3 (GLe.refl _) (ok3.setT r3)
  | dct kvs =>
    obtain ⟨G2, l2, ok2, r2⟩ := ok1.share o (.inr ⟨kvs, rfl, rfl⟩)
    obtain ⟨G3, t3, s3, l3, ok3, r3, p3⟩ := p1 v H1 G2 l2 ok2 r2
    exact p3 _ H1 G3 (GLe.refl _) (ok3.setT r3)
  | _ => exact p1.elim
/-- the comprehension's own rule, any iterable, on one line with its name -/
theorem ps_comp1 (hc : X.calm = true) (hN : X.N.Nodup) (hi : TPI X W tg iter it) (ok : BlkOk X.N X.env.scope scope own) (hv : (tt.slots.all fun i => (own.map (·.2)).contains i) = true)
    (hgs : TgSem X.K g tt) (hg : ∀ (s : Shared) (H : Hp) (C : Addr) (cl : List (Str × Addr)) (fp : List Addr), PG (X.blk s H scope (compEnvC scope cl C X.env) fp) tg g)
    (ht : ∀ (s : Shared) (H : Hp) (C : Addr) (cl : List (Str × Addr)) (fp : List Addr), TPTs (X.blk s H scope (compEnvC scope cl C X.env) fp) W0 ifs c)
    (he : ∀ (s : Shared) (H : Hp) (C : Addr) (cl : List (Str × Addr)) (fp : List Addr), TPE (X.blk s H scope (compEnvC scope cl C X.env) fp) W0 elt ee)
    (hsw : swapsWith (.ListComp elt [⟨tg, iter, ifs, 0⟩] scope pos) (some (.Name y py)) spos.line X.env = pure true) (hy : X.N[j]? = some y := by rfl) (hyl : X.env.scope.names.lookup y = some .local := by rfl)
    (hs : ∀ x, foldedSetIterable iter X.env x = pure x := by intro _; rfl) :
    PS X (.Assign [.Name y py] (.ListComp elt [⟨tg, iter, ifs, 0⟩] scope pos) spos) (tAsg (liftO X.K W (eComp (own.map (·.2)) it tt c ee)) (gName j)) :=
  PS.weak (ps_setLc (wi := liftI X.K W it) (g := g) (tt := liftT X.K W0 c) (te := lift X.K W0 ee) hc hN hy hyl hsw hi ok hg ht he hs) fun D σ H ⟨G, loc, sh, ok, p⟩ => comp_core ok (fun R q => ⟨G, loc, sh, ok, q⟩) (fun i hi => by
    have := List.all_eq_true.mp hv i hi
    simpa using this) hgs p
end
end TL

/-! the T-layer, 14: calls with defaults and keywords -/
namespace TL
open PySem PySem.Spec L2

section
variable {X : Cx} {W : WX} {CX : CXT} {k n : Nat} {f : Addr} {fd : FuncData} {ps ks : List Str} {m : Bool} {φ : Fn} {x : Str} {p pos : Pos} {e : Expr} {es : List Expr} {kws : List Keyword} {eL eK : EvL} {ds : List Value} {dvs : List V} {dts : List T} {g : List Value → List Value → List Value} {gV : List V → List V → List V} {gT : List T → List T → List T}
theorem post.bindok {α β γ δ : Type} {Rp : Gh → Hp → α → β → Prop} {Rq : Gh → Hp → γ → δ → Prop} {K : PySem.W.Frag} {G : Gh} {loc : Loc} {σ : L2.St} {r : Res α} {h : α → Sh → Res γ} {Q : δ → Hp → Prop} (p : post Rq K W G loc σ (r.bind h) Q) :
    post Rp K W G loc σ r (fun v H' => ∃ G' a sh', r = .ok a sh' ∧ GLe G G' ∧ Ok K G' loc sh' σ H' ∧ Rp G' H' a v ∧ post Rq K W G' loc σ (h a sh') Q) := by
  cases r with
  | ok t sh => exact fun v H' G2 l2 o q => ⟨G2, t, sh, rfl, l2, o, q, post.le l2 p⟩
  | exc e sh => exact p
  | bad => exact p
/-- positional arguments, the defaults behind them -/
theorem t_callD (F : FnOk X.prog X.w X.K X.mg X.base CX k f fd ps (spT X.K m ps.length φ)) (hr : Room k X.A) (hg : Gl X x) (hm : X.mg x = some (.ref f)) (hk : PySem.W.keepIn X.K (.ref f) = true) (hb : Binds X.K fd ps ds) (hd : Vals dvs ds) (hdt : ∀ F al, RepL X.K F al dts dvs) (hx : ∀ σ, PassesAt CX X σ (WE W σ))
    (ha : TPA X W (e :: es) eL) (hl : ALen eL n) (hn : n + dts.length = ps.length) (hdb : (x == ("__debug__" : Str)) = false := by decide) (he : starEach (e :: es) X.env = (false, eval e X.env) :: starEach es X.env := by rfl) (hpl : (backTo pos (starEach es X.env)).any (·.1) = false := by rfl) :
    TPR X W m (.Call (.Name x p) (e :: es) [] pos) (eCall (fun ts => φ (ts ++ dts)) eL) := PE.weak (pe_callD F hr hg hm hk hb hd hx ha hdb he hpl) fun σ H Q ⟨G, loc, sh, ok, p⟩ => by
  refine ⟨G, loc, sh, ok, (post.bindok (Rp := rpL X.K) p).imp ?_⟩
  rintro vs H1 ⟨G1, ts, s1, e1, l1, ok1, r1, p1⟩
  have q := call_core ok1 (RepL.append r1 (hdt _ _)) p1
  rw [List.length_append, hl _ _ _ _ e1, hn] at q
  exact q
/-- keywords -/
theorem t_callK (F : FnOk X.prog X.w X.K X.mg X.base CX k f fd ps (spT X.K m ps.length φ)) (hr : Room k X.A) (hg : Gl X x) (hm : X.mg x = some (.ref f)) (hk : PySem.W.keepIn X.K (.ref f) = true) (hb : KBn X.K fd ps n ks g gV) (hgt : ∀ F al ts vs us zs, RepL X.K F al ts vs → RepL X.K F al us zs → RepL X.K F al (gT ts us) (gV vs zs)) (hx : ∀ σ, PassesAt CX X σ (WE W σ))
    (ha : TPA X W (e :: es) eL) (hkw : TPK X W kws eK) (hl : ALen eL n) (hlk : ALen eK ks.length) (hgl : ∀ ts us : List T, ts.length = n → us.length = ks.length → (gT ts us).length = ps.length)
    (hall : (backToKw pos (keywordEach kws X.env)).all (·.1.isSome) = true := by rfl) (hks : (backToKw pos (keywordEach kws X.env)).filterMap (·.1) = ks := by rfl)
    (hdb : (x == ("__debug__" : Str)) = false := by decide) (he : starEach (e :: es) X.env = (false, eval e X.env) :: starEach es X.env := by rfl)
    (hpl : ((backTo pos (starEach (e :: es) X.env)).any (·.1) || (backToKw pos (keywordEach kws X.env)).any (·.1.isNone)) = false := by rfl) :
    TPR X W m (.Call (.Name x p) (e :: es) kws pos) (eCallK φ gT eL eK) := PE.weak (pe_callN F hr hg hm hk hb hx ha hkw hall hks hdb he hpl) fun σ H Q ⟨G, loc, sh, ok, p⟩ => by
  refine ⟨G, loc, sh, ok, (post.bindok (Rp := rpL X.K) p).imp ?_⟩
  rintro vs H1 ⟨G1, ts, s1, e1, l1, ok1, r1, p1⟩
  refine ⟨G1, loc, s1, ok1, (post.bindok (Rp := rpL X.K) p1).imp ?_⟩
  rintro zs H2 ⟨G2, us, s2, e2, l2, ok2, r2, p2⟩
  have h1 := hl _ _ _ _ e1
  have h2 := hlk _ _ _ _ e2
  refine ⟨(RepL.length r1).trans h1, (RepL.length r2).trans h2, ?_⟩
  have q := call_core ok2 (hgt _ _ _ _ _ _ (repL_le l2 r1) r2) p2
  rw [hgl ts us h1 h2] at q
  exact q
end

/-! ### {k: v, ..} -/
def pairsEv : List (Ev × Ev) → Loc → Sh → Res (List (Key × T))
  | [], _, s => .ok [] s
  | (ek, ev) :: r, l, s => (ek l s).bind fun k s1 => match keyOf k with
    | some k => (ev l s1).bind fun v s2 => (pairsEv r l s2).bind fun kvs s3 => .ok ((k, v) :: kvs) s3
    | none => .bad
def eDisp (evs : List (Ev × Ev)) : Ev := fun l s => (pairsEv evs l s).bind fun kvs s1 => .ok (.dct (mergeT [] kvs)) s1
abbrev TPD (X : Cx) (W : WX) (pos : Pos) (keys : List (Option Expr)) (values : List Expr) (evs : List (Ev × Ev)) : Prop := PPs X pos keys values (evs.map fun p => (lift X.K W p.1, lift X.K W p.2))
section
variable {X : Cx} {W : WX} {a b : Expr} {ea eb : Ev} {pos : Pos} {keys : List (Option Expr)} {values : List Expr} {evs : List (Ev × Ev)}
theorem tdp_nil : TPD X W pos [] [] [] := pps_nil
theorem tdp_cons (ha : TPE X W a ea) (hb : TPE X W b eb) (hr : TPD X W pos keys values evs) : TPD X W pos (some a :: keys) (b :: values) ((ea, eb) :: evs) := pps_cons ha hb hr
theorem pairs_core {σ : L2.St} {loc : Loc} : ∀ (evs : List (Ev × Ev)) (G : Gh) (sh : Sh) (H : Hp) (Q : List (V × V) → Hp → Prop), Ok X.K G loc sh σ H →
    post (fun G _ kvs ps => ∃ kw : List (Key × V), ps = kw.map (fun kv => (kV kv.1, kv.2)) ∧ RepD X.K G.F G.al kvs kw ∧ kvs.length = evs.length ∧ ∀ p ∈ kvs, KOk p.1) X.K W G loc σ (pairsEv evs loc sh) Q → tPairs (evs.map fun p => (lift X.K W p.1, lift X.K W p.2)) σ H Q
  | [], G, sh, H, Q, ok, p => p [] H G (GLe.refl _) ok ⟨[], rfl, rfl, rfl, fun _ h => (by cases h)⟩
  | (ek, ev) :: r, G, sh, H, Q, ok, p => by
    show lift X.K W ek σ H _
    refine ⟨G, loc, sh, ok, (post.bind (Rp := rpV X.K) p).imp ?_⟩
    rintro k H1 ⟨G1, tk, s1, l1, ok1, r1, p1⟩
    cases e : keyOf tk with
    | none => simp only [e] at p1; exact p1.elim
    | some k' =>
      simp only [e] at p1
      refine ⟨G1, loc, s1, ok1, (post.bind (Rp := rpV X.K) p1).imp ?_⟩
      rintro v H2 ⟨G2, tv, s2, l2, ok2, r2, p2⟩
      refine pairs_core r G2 s2 H2 _ ok2 ((post.bind (Rp := fun G _ kvs ps => ∃ kw : List (Key × V), ps = kw.map (fun kv => (kV kv.1, kv.2)) ∧ RepD X.K G.F G.al kvs kw ∧ kvs.length = r.length ∧ ∀ p ∈ kvs, KOk p.1) p2).imp ?_)
      rintro ps H3 ⟨G3, kvs, s3, l3, ok3, ⟨kw, rfl, r3, l4, hk⟩, p3⟩
      refine p3 _ H3 G3 (GLe.refl _) ok3 ⟨(k', v) :: kw, ?_, ⟨v, kw, rfl, rep_le l3 r2, r3⟩, by rw [List.length_cons, List.length_cons, l4], fun p hp => ?_⟩
      · rw [List.map_cons, ← keyOf_rep r1 e]
      · rcases List.mem_cons.mp hp with rfl | hp
        · exact keyOf_ok r1 e
        · exact hk p hp
theorem t_disp (h : TPD X W pos keys values evs) (hall : keys.all (·.isSome) = true := by rfl) (hl : keys.length = values.length := by rfl) (h0 : keys ≠ [] := by intro z; cases z) (h15 : keys.length ≤ 15 := by decide) (he : evs.length ≤ 15 := by exact Nat.le_of_ble_eq_true rfl) : TPO X W (.Dict keys values pos) (eDisp evs) := PE.weak (pe_disp h hall hl h0 h15) fun σ H Q ⟨G, loc, sh, ok, p⟩ => by
  intro D hD
  have nD := ok.nob hD
  have ok0 : Ok X.K G loc sh σ (upd H D (.dK [])) := ok.grow hD
  have ok1 := ok0.prot nD (u := .dK []) upd_same (fun _ z => nomatch z)
  have l0 : ∀ {G' : Gh}, GLe (G.prot D (.dK [])) G' → G'.B = upd G.B D (.dK []) := fun l => l.b
  refine pairs_core evs _ sh _ _ ok1 ?_
  unfold eDisp at p
  cases e : pairsEv evs loc sh with
  | bad => rw [e] at p; exact p
  | exc x s =>
    rw [e] at p
    intro d H' G' le ok' ⟨dd, fv, h1, h2, h3⟩
    have hB := l0 le
    obtain ⟨F', al', B'⟩ := G'
    simp only at hB
    subst hB
    obtain ⟨ok2, n2, e2⟩ := Ok.unprot (G := { F := F', al := al', B := G.B }) (B := G.B) ok' nD.b
    exact p d H' { F := F', al := al', B := G.B } ⟨le.f, le.a, rfl⟩ ok2 ⟨dd, fv, h1, h2, h3⟩
  | ok kvs s =>
    rw [e] at p
    intro ps H' G' le ok' ⟨kw, e1, r, hl', hk⟩
    have hB := l0 le
    obtain ⟨F', al', B'⟩ := G'
    simp only at hB
    subst hB
    obtain ⟨ok2, n2, e2⟩ := Ok.unprot (G := { F := F', al := al', B := G.B }) (B := G.B) ok' nD.b
    refine ⟨e2, kw, e1, by rw [RepD.length r, hl']; exact he, ?_⟩
    have ok3 := ok2.other n2 (o := .dK (mergeK [] kw)) e2 (fun _ z => nomatch z)
    refine p (.ref D) _ { F := F', al := al', B := G.B } ⟨le.f, le.a, rfl⟩ ok3 ⟨D, rfl, n2.f, n2.b, n2.a, n2.s, _, upd_same, RepD.merge (kvs := []) r rfl, ?_⟩
    refine mergeT_ok kvs [] ?_ (fun _ h => (by cases h)) hk
    have : (15 : Nat) ≤ sizeLine := by decide
    simp only [List.length_nil]
    omega
end

/-! ### the facts of a def that is called -/
def CalP (P : Program) (w : World) (K : PySem.W.Frag) (mg : Str → Option Value) (base : Heap) (CX : CXT) (k : Nat) (x : Str) (ps : List Str) (m : Bool) (φ : Fn) : Prop :=
  ∃ f fd, FnOk P w K mg base CX k f fd ps (spT K m ps.length φ) ∧ mg x = some (.ref f) ∧ PySem.W.keepIn K (.ref f) = true ∧ Binds K fd ps []
def CalD (P : Program) (w : World) (K : PySem.W.Frag) (mg : Str → Option Value) (base : Heap) (CX : CXT) (k : Nat) (x : Str) (ps : List Str) (m : Bool) (n : Nat) (dts : List T) (φ : Fn) : Prop :=
  ∃ f fd, FnOk P w K mg base CX k f fd ps (spT K m ps.length φ) ∧ mg x = some (.ref f) ∧ PySem.W.keepIn K (.ref f) = true ∧ ∃ ds dvs, Binds K fd ps ds ∧ Vals dvs ds ∧ (∀ F al, RepL K F al dts dvs) ∧ n + dts.length = ps.length
def CalK (P : Program) (w : World) (K : PySem.W.Frag) (mg : Str → Option Value) (base : Heap) (CX : CXT) (k : Nat) (x : Str) (ps : List Str) (m : Bool) (n : Nat) (ks : List Str) (gT : List T → List T → List T) (φ : Fn) : Prop :=
  ∃ f fd, FnOk P w K mg base CX k f fd ps (spT K m ps.length φ) ∧ mg x = some (.ref f) ∧ PySem.W.keepIn K (.ref f) = true ∧ ∃ g gV, KBn K fd ps n ks g gV ∧ (∀ F al ts vs us zs, RepL K F al ts vs → RepL K F al us zs → RepL K F al (gT ts us) (gV vs zs)) ∧ ∀ ts us : List T, ts.length = n → us.length = ks.length → (gT ts us).length = ps.length
section
variable {X : Cx} {W : WX} {CX : CXT} {k n n' nk : Nat} {ps ks : List Str} {m : Bool} {φ : Fn} {x : Str} {p pos : Pos} {e : Expr} {es : List Expr} {kws : List Keyword} {eL eK : EvL} {dts : List T} {gT : List T → List T → List T}
theorem t_callP (C : CalP X.prog X.w X.K X.mg X.base CX k x ps m φ) (hr : Room k X.A) (hx : ∀ σ, PassesAt CX X σ (WE W σ)) (hg : Gl X x)
    (ha : TPA X W (e :: es) eL) (hl : ALen eL n) (hn : n = ps.length := by rfl) (hdb : (x == ("__debug__" : Str)) = false := by decide) (he : starEach (e :: es) X.env = (false, eval e X.env) :: starEach es X.env := by rfl) (hpl : (backTo pos (starEach es X.env)).any (·.1) = false := by rfl) :
    TPR X W m (.Call (.Name x p) (e :: es) [] pos) (eCall φ eL) := by
  obtain ⟨f, fd, F, hm, hk, hb⟩ := C
  subst hn
  exact t_call F hr hg hm hk hb hx ha hl hdb he hpl
theorem t_callDf (C : CalD X.prog X.w X.K X.mg X.base CX k x ps m n dts φ) (hr : Room k X.A) (hx : ∀ σ, PassesAt CX X σ (WE W σ)) (hg : Gl X x)
    (ha : TPA X W (e :: es) eL) (hl : ALen eL n') (hn : n' = n := by rfl) (hdb : (x == ("__debug__" : Str)) = false := by decide) (he : starEach (e :: es) X.env = (false, eval e X.env) :: starEach es X.env := by rfl) (hpl : (backTo pos (starEach es X.env)).any (·.1) = false := by rfl) :
    TPR X W m (.Call (.Name x p) (e :: es) [] pos) (eCall (fun ts => φ (ts ++ dts)) eL) := by
  obtain ⟨f, fd, F, hm, hk, ds, dvs, hb, hd, hdt, hln⟩ := C
  subst hn
  exact t_callD F hr hg hm hk hb hd hdt hx ha hl hln hdb he hpl
theorem t_callKw (C : CalK X.prog X.w X.K X.mg X.base CX k x ps m n ks gT φ) (hr : Room k X.A) (hx : ∀ σ, PassesAt CX X σ (WE W σ)) (hg : Gl X x)
    (ha : TPA X W (e :: es) eL) (hkw : TPK X W kws eK) (hl : ALen eL n') (hlk : ALen eK nk) (hn : n' = n := by rfl) (hnk : nk = ks.length := by rfl)
    (hall : (backToKw pos (keywordEach kws X.env)).all (·.1.isSome) = true := by rfl) (hks : (backToKw pos (keywordEach kws X.env)).filterMap (·.1) = ks := by rfl)
    (hdb : (x == ("__debug__" : Str)) = false := by decide) (he : starEach (e :: es) X.env = (false, eval e X.env) :: starEach es X.env := by rfl)
    (hpl : ((backTo pos (starEach (e :: es) X.env)).any (·.1) || (backToKw pos (keywordEach kws X.env)).any (·.1.isNone)) = false := by rfl) :
    TPR X W m (.Call (.Name x p) (e :: es) kws pos) (eCallK φ gT eL eK) := by
  obtain ⟨f, fd, F, hm, hk, g, gV, hb, hgt, hgl⟩ := C
  subst hn
  subst hnk
  exact t_callK F hr hg hm hk hb hgt hx ha hkw hl hlk hgl hall hks hdb he hpl
end

/-! ### defs of a text that lets no exception out -/
def runB0 (m : Bool) (n : Nat) (sv : Sv) : Fn := fun ts sh => match sv (startL n ts) sh with
  | .nx _ s => if m then .bad else .ok .non s
  | .rt t s => .ok t s
  | _ => .bad
theorem fn_tl0 {P : Program} {w : World} {K : PySem.W.Frag} {mg : Str → Option Value} {base : Heap} {x qual : Str} {params : Arguments} {body : List Stmt} {scope : Scope} {dvs : List V} {kws : List (Str × V)} {f : Addr} {fd : FuncData} {CX : CXT} {N ps : List Str} {k : Nat} {m : Bool} {sv : Sv} (F : FunD K x qual params body scope dvs kws f fd) (S : FnScope N ps scope)
    (hbody : ∀ (cdv : Value) (A : Around) (outer : List Env) (s : Shared) (H : Hp) (E : XK), Room k (A.deeper (PyProof.Rows.envOfC qual scope s.heap.objs.size f cdv)) → TPSs (cxOf CX P w K mg base N qual scope f cdv A outer s H E) W0 m body sv) :
    FnOk P w K mg base CX (k + 1) f fd ps (spT K m ps.length (runB0 m N.length sv)) := by
  refine F.ok S (fun vs H Q E h => h.1) fun cdv A outer s H vs Q E hr h => ⟨_, hbody cdv A outer s H E hr, ?_⟩
  obtain ⟨hl, G, ts, sh, g, r, p⟩ := h
  refine ⟨G, startL N.length ts, sh, start_ok g r, ?_⟩
  unfold runB0 at p
  cases e : sv (startL N.length ts) sh with
  | nx l s1 =>
    rw [e] at p
    cases m with
    | true => exact p.elim
    | false => exact fun σ' H' G' l ok => p .non H' G' l ok.toGok rfl
  | rt t s1 => rw [e] at p; exact fun v H' G' l ok => p v H' G' l ok
  | exc x l s1 => rw [e] at p; exact p.elim
  | bk l s1 => rw [e] at p; exact p.elim
  | ct l s1 => rw [e] at p; exact p.elim
  | bad => rw [e] at p; exact p.elim
theorem hx0 {X : Cx} {W : WX} (σ : L2.St) : PassesAt CX0 X σ (WE W σ) := fun _ _ _ _ _ _ h => h.elim
theorem ru {k n : Nat} {A : Around} (h : Room k A) (hn : n ≤ 200 := by decide) : A.units + n < cLine := by
  have := h.un
  omega
abbrev badFn : Fn := fun _ _ => .bad

/-! ### what keywords bind, for defs of any defaults -/
theorem Vals.take1 : ∀ {vs : List V} {us : List Value} (n : Nat), Vals vs us → Vals (vs.take n) (us.take n)
  | _, _, 0, _ => .nil
  | _, _, _ + 1, .nil => .nil
  | _, _, n + 1, .cons h r => .cons h (Vals.take1 n r)
theorem Vals.drop1 : ∀ {vs : List V} {us : List Value} (n : Nat), Vals vs us → Vals (vs.drop n) (us.drop n)
  | _, _, 0, h => h
  | _, _, _ + 1, .nil => .nil
  | _, _, n + 1, .cons h r => Vals.drop1 n r
theorem Vals.pick {vs : List V} {us : List Value} (n : Nat) (h : Vals vs us) : Vals ((vs.drop n).take 1) ((us.drop n).take 1) := Vals.take1 1 (Vals.drop1 n h)
theorem RepL.pick {K : PySem.W.Frag} {F : Hp} {al : List Addr} {ts : List T} {vs : List V} (n : Nat) (h : RepL K F al ts vs) : RepL K F al ((ts.drop n).take 1) ((vs.drop n).take 1) := RepL.take 1 (RepL.drop n h)
section
variable {K : PySem.W.Frag} {x qual : Str} {params : Arguments} {body : List Stmt} {scope : Scope} {dvs : List V} {kws : List (Str × V)} {f : Addr} {fd : FuncData} {ps : List Str}
/-- keyword-only defaults alone -/
theorem kbinds0 (F : FunD K x qual params body scope [] kws f fd) (n : Nat) (ks : List Str) (ms : List (Str × V)) (g : {α : Type} → List α → List α → List α → List α) (hk : kws ≠ []) (hms : ∀ q ∈ ms, q ∈ kws)
    (hrel : ∀ {vs mz zs : List V} {us mv ws : List Value}, Vals vs us → Vals mz mv → Vals zs ws → Vals (g vs mz zs) (g us mv ws))
    (h : ∀ (D : Addr) (doc pm : Value) (an : Option Addr) (cdv ct : Value) (us mv ws : List Value), us.length = n → mv.length = ms.length → ws.length = ks.length →
      KwChain D ((ms.map (·.1)).zip mv) (bindArgs (PySem.W.fnOf x qual params body scope .none (.ref D) doc pm an cdv ct) ⟨us, ks.zip ws⟩) (ps.zip (g us mv ws))) :
    ∃ mv : List Value, KBn K fd ps n ks (fun us ws => g us mv ws) (fun vs zs => g vs (ms.map (·.2)) zs) := by
  obtain ⟨oc, od, dV, kV, doc, pm, an, cdv, ct, osl, rfl, lk, hcd, hD, hK⟩ := F.ex
  rcases hD with ⟨_, rfl⟩ | ⟨e, _⟩
  · rcases hK with e | ⟨D, rfl, hq⟩
    · exact absurd e hk
    · obtain ⟨mv, hl, rk, hks⟩ := kwd_vals (ms := ms) fun q hm => hq q (hms q hm)
      refine ⟨mv, ⟨fun s us ws X l1 l2 => ?_, fun r1 r2 => hrel r1 rk r2⟩⟩
      refine BindsTo.of_looks fun M => ?_
      exact KwChain.looks X hks (h D doc pm an cdv ct us mv ws l1 hl l2)
  · exact absurd rfl e
/-- positional defaults alone -/
theorem kbinds1 (F : FunD K x qual params body scope dvs [] f fd) (n : Nat) (ks : List Str) (g : {α : Type} → List α → List α → List α → List α) (hd : dvs ≠ [])
    (hrel : ∀ {vs mz zs : List V} {us mv ws : List Value}, Vals vs us → Vals mz mv → Vals zs ws → Vals (g vs mz zs) (g us mv ws))
    (h : ∀ (T : Addr) (kV doc pm : Value) (an : Option Addr) (cdv ct : Value) (us its ws : List Value), us.length = n → its.length = dvs.length → ws.length = ks.length →
      ∃ k, bindArgs (PySem.W.fnOf x qual params body scope (.ref T) kV doc pm an cdv ct) ⟨us, ks.zip ws⟩ = seqItems? (.ref T) >>= k ∧ k (some its.toArray) = pure (ps.zip (g us its ws))) :
    ∃ its : List Value, KBn K fd ps n ks (fun us ws => g us its ws) (fun vs zs => g vs dvs zs) := by
  obtain ⟨oc, od, dV, kV, doc, pm, an, cdv, ct, osl, rfl, lk, hcd, hD, hK⟩ := F.ex
  rcases hD with ⟨e, _⟩ | ⟨_, T, o, its, m, rfl, lT, oT, rT⟩
  · exact absurd e hd
  · refine ⟨its, ⟨fun s us ws X l1 l2 => ?_, fun r1 r2 => hrel r1 rT r2⟩⟩
    obtain ⟨k, e1, e2⟩ := h T kV doc pm an cdv ct us its ws l1 rT.length.symm l2
    refine BindsTo.of_looks fun M => ?_
    rw [e1]
    refine looks_items X lT oT ?_
    rw [e2]
    exact KwChain.looks (D := 0) (l := []) X (fun q hq => (by cases hq)) rfl
/-- no defaults -/
theorem kbindsN (F : FunD K x qual params body scope [] [] f fd) (n : Nat) (ks : List Str) (g : {α : Type} → List α → List α → List α)
    (hrel : ∀ {vs zs : List V} {us ws : List Value}, Vals vs us → Vals zs ws → Vals (g vs zs) (g us ws))
    (h : ∀ (kV doc pm : Value) (an : Option Addr) (cdv ct : Value) (us ws : List Value), us.length = n → ws.length = ks.length →
      bindArgs (PySem.W.fnOf x qual params body scope .none kV doc pm an cdv ct) ⟨us, ks.zip ws⟩ = pure (ps.zip (g us ws))) :
    KBn K fd ps n ks (fun us ws => g us ws) (fun vs zs => g vs zs) := by
  obtain ⟨oc, od, dV, kV, doc, pm, an, cdv, ct, osl, rfl, lk, hcd, hD, hK⟩ := F.ex
  rcases hD with ⟨_, rfl⟩ | ⟨e, _⟩
  · refine ⟨fun s us ws X l1 l2 => ?_, fun r1 r2 => hrel r1 r2⟩
    refine BindsTo.of_looks fun M => ?_
    rw [h kV doc pm an cdv ct us ws l1 l2]
    exact KwChain.looks (D := 0) (l := []) X (fun q hq => (by cases hq)) rfl
  · exact absurd rfl e
end
end TL

/-! the T-layer, 16: dict comprehensions -/
namespace TL
open PySem PySem.Spec L2 PyProof.Rows

def dcompL (tt : Tgt) (c : Et) (ek ev : Ev) : List T → Loc → Sh → List (Key × T) → Res (List (Key × T))
  | [], _, s, acc => .ok acc s
  | x :: xs, l, s, acc => match setT tt x l with
    | none => .bad
    | some l1 => (c l1 s).bind fun k s1 => if k = true then (ek l1 s1).bind fun y s2 => match keyOf y with
        | none => .bad
        | some ky => if acc.length < sizeLine then (ev l1 s2).bind fun z s3 => dcompL tt c ek ev xs l s3 (dputT acc ky z) else .bad
      else dcompL tt c ek ev xs l s1 acc
def eDComp (vs : List Nat) (it : EvL) (tt : Tgt) (c : Et) (ek ev : Ev) : Ev := fun l s => if noOwn l vs then (it l s).bind fun items s1 => (dcompL tt c ek ev items (wipeL l vs) s1 []).noexc.bind fun ys s => .ok (.dct ys) s else .bad
section
variable {X : Cx} {W : WX} {m : Bool} {kx elt tg iter : Expr} {ifs : List Expr} {scope : Scope} {own : List (Str × Nat)} {pos np : Pos} {it : EvL} {g : TG} {tt : Tgt} {c : Et} {ek ee : Ev} {x : Str} {i : Nat}
theorem RepD_nil {K : PySem.W.Frag} {F : Hp} {al : List Addr} : RepD K F al [] [] := rfl
theorem RepD.le2 {K : PySem.W.Frag} {G G' : Gh} (l : GLe G G') {t : List (Key × T)} {v : List (Key × V)} (h : RepD K G.F G.al t v) : RepD K G'.F G'.al t v := RepD.mono l.f l.a t v h
theorem dcomp_core {wi : TI} {vs : List Nat} {σ : L2.St} {H : Hp} {Q : VK} {G : Gh} {loc : Loc} {sh : Sh} (ok : Ok X.K G loc sh σ H) (hw : ∀ R, post (fun G _ items J => Items X.K G J items) X.K W G loc σ (it loc sh) R → wi σ H R) (hv : ∀ i, i ∈ tt.slots → i ∈ vs)
    (hg : TgSem X.K g tt)
    (p : post (fun G H t v => OwnR X.K G loc σ H t v) X.K W G loc σ (eDComp vs it tt c ek ee loc sh) Q) : tDc wi g (liftT X.K W0 c) (lift X.K W0 ek) (lift X.K W0 ee) vs σ H Q := by
  unfold eDComp at p
  by_cases hn : noOwn loc vs = true
  case neg => rw [if_neg hn] at p; exact p.elim
  rw [if_pos hn] at p
  refine hw _ ((post.bind (Rp := fun G _ items J => Items X.K G J items) p).imp ?_)
  rintro J H1 ⟨G1, items, s1, l1, ok1, r1, p1⟩
  intro D hD
  have nD := ok1.nob hD
  refine ⟨fun i n H2 => ∃ G2 s2 acc accT, GLe G1 G2 ∧ Ok X.K G2 loc s2 σ H2 ∧ Nob G2 loc σ D ∧ H2 D = some (.dK acc) ∧ RepD X.K G2.F G2.al accT acc ∧ DOk accT ∧ i ≤ items.length ∧ n = items.length - i ∧
      post (fun G H t v => OwnR X.K G loc σ H t v) X.K W G2 loc σ ((dcompL tt c ek ee (items.drop i) (wipeL loc vs) s2 accT).noexc.bind fun ys s => .ok (.dct ys) s) Q,
    ⟨items.length, G1, s1, [], [], GLe.refl _, ok1.grow hD, nD, upd_same, RepD_nil, DOk.nil, Nat.zero_le _, rfl, p1⟩, ?_⟩
  rintro i n H2 ⟨G2, s2, acc, accT, l2, ok2, n2, h2, r2, d2, hi, rfl, p2⟩
  have okP := ok2.prot n2 h2 (fun _ z => nomatch z)
  have okW := okP.wiped vs
  obtain ⟨ig, is⟩ := r1 (G2.prot D (.dK acc)) (wipeL loc vs) s2 (wipe σ vs) H2 l2.f l2.a okW i
  by_cases hlt : i < items.length
  · have ei : items[i]? = some items[i] := List.getElem?_eq_getElem hlt
    obtain ⟨go, yl⟩ := ig _ ei
    refine .inr ⟨go, fun H' => ∃ m', m' < items.length - i ∧ ∃ G2 s2 acc accT, GLe G1 G2 ∧ Ok X.K G2 loc s2 σ H' ∧ Nob G2 loc σ D ∧ H' D = some (.dK acc) ∧ RepD X.K G2.F G2.al accT acc ∧ DOk accT ∧ i + 1 ≤ items.length ∧ m' = items.length - (i + 1) ∧
      post (fun G H t v => OwnR X.K G loc σ H t v) X.K W G2 loc σ ((dcompL tt c ek ee (items.drop (i + 1)) (wipeL loc vs) s2 accT).noexc.bind fun ys s => .ok (.dct ys) s) Q, fun H' h => h, fun x H3 y => ?_⟩
    obtain ⟨G3, l3, ok3, r3⟩ := yl x H3 y
    rw [List.drop_eq_getElem_cons hlt] at p2
    unfold dcompL at p2
    cases q : setT tt items[i] (wipeL loc vs) with
    | none => rw [q] at p2; exact p2.elim
    | some l1' =>
      rw [q] at p2
      refine hg G3 (wipeL loc vs) s2 (wipe σ vs) H3 items[i] x l1' _ ok3 r3 q fun σ' ok' hj hwp => ⟨?_, G3, l1', s2, ok', ?_⟩
      · have q1 := hwp vs hv
        rw [q1]
        have : ∀ ws : List Nat, (∀ w ∈ ws, w ∈ vs) → wipe (wipe σ vs) ws = wipe σ vs := by
          intro ws
          induction ws with
          | nil => intro _; rfl
          | cons w ws ih =>
            intro hws
            show (wipe (wipe σ vs) ws).set w none = _
            rw [ih fun z hz => hws z (by simp [hz])]
            apply List.ext_getElem?
            intro j
            by_cases e : w = j
            · subst e
              by_cases hl : w < (wipe σ vs).length
              · rw [List.getElem?_set_self hl]
                cases hx : (wipe σ vs)[w]? with
                | none => rw [List.getElem?_eq_none_iff] at hx; omega
                | some o =>
                  cases o with
                  | none => rfl
                  | some z => exact absurd (hws w (by simp)) (wipe_some hx).2
              · rw [List.set_eq_of_length_le (by omega)]
            · rw [List.getElem?_set_ne e]
        exact this vs fun _ h => h
      · -- the tests, the element
        have back : ∀ {G4 : Gh} {s4 : Sh} {H4 : Hp}, GLe G3 G4 → Ok X.K G4 l1' s4 σ' H4 → Ok X.K { G4 with B := G2.B } loc s4 σ H4 ∧ Nob { G4 with B := G2.B } loc σ D ∧ H4 D = some (.dK acc) ∧ GLe G2 { G4 with B := G2.B } := by
          intro G4 s4 H4 l4 ok4
          have le : GLe (G2.prot D (.dK acc)) G4 := l3.trans l4
          have u := okP.unwiped hn le ok4 (fun j hjv => by
            have := (hj j fun z => hjv (hv j z)).2
            rw [this, wipeL_at, if_neg hjv]) (fun j hjv => by
            have := (hj j fun z => hjv (hv j z)).1
            rw [this, wipe_at σ vs j hjv])
          obtain ⟨F4, al4, B4⟩ := G4
          have eB : B4 = upd G2.B D (.dK acc) := le.b
          subst eB
          obtain ⟨a1, a2, a3⟩ := Ok.unprot (G := ⟨F4, al4, G2.B⟩) u n2.b
          exact ⟨a1, a2, a3, le.f, le.a, rfl⟩
        have fin : ∀ {G4 : Gh} {s4 : Sh} {H4 : Hp} {acc' : List (Key × V)} {accT' : List (Key × T)}, GLe G2 G4 → Ok X.K G4 loc s4 σ H4 → Nob G4 loc σ D → H4 D = some (.dK acc') → RepD X.K G4.F G4.al accT' acc' → DOk accT' →
            post (fun G H t v => OwnR X.K G loc σ H t v) X.K W G2 loc σ ((dcompL tt c ek ee (items.drop (i + 1)) (wipeL loc vs) s4 accT').noexc.bind fun ys s => .ok (.dct ys) s) Q → ∃ m', m' < items.length - i ∧ ∃ G2 s2 acc accT, GLe G1 G2 ∧ Ok X.K G2 loc s2 σ H4 ∧ Nob G2 loc σ D ∧ H4 D = some (.dK acc) ∧ RepD X.K G2.F G2.al accT acc ∧ DOk accT ∧ i + 1 ≤ items.length ∧ m' = items.length - (i + 1) ∧
              post (fun G H t v => OwnR X.K G loc σ H t v) X.K W G2 loc σ ((dcompL tt c ek ee (items.drop (i + 1)) (wipeL loc vs) s2 accT).noexc.bind fun ys s => .ok (.dct ys) s) Q :=
          fun l ok n h r d p => ⟨_, by omega, _, _, _, _, l2.trans l, ok, n, h, r, d, hlt, rfl, post.le l p⟩
        have p3 := p2
        dsimp only at p3
        cases hc : c l1' s2 with
        | bad => rw [hc] at p3; exact p3.elim
        | exc x s => rw [hc] at p3; exact p3.elim
        | ok k s3 =>
          rw [hc] at p3
          rintro b H4 G4 l4 ok4 rfl
          cases b with
          | false =>
            refine iteF ?_
            obtain ⟨b1, b2, b3, b4⟩ := back l4 ok4
            exact fin b4 b1 b2 b3 (RepD.le2 b4 r2) d2 p3
          | true =>
            refine iteT ⟨G4, l1', s3, ok4, ?_⟩
            simp only [Res.bind_ok, if_true] at p3
            cases hk : ek l1' s3 with
            | bad => rw [hk] at p3; exact p3.elim
            | exc x s => rw [hk] at p3; exact p3.elim
            | ok yk s4 =>
            rw [hk] at p3
            simp only [Res.bind_ok] at p3
            cases eky : keyOf yk with
            | none => rw [eky] at p3; exact p3.elim
            | some ky =>
            rw [eky] at p3
            simp only at p3
            by_cases hz : accT.length < sizeLine
            case neg => rw [if_neg hz] at p3; exact p3.elim
            rw [if_pos hz] at p3
            intro vk H5 G5 l5 ok5 rk
            refine ⟨G5, l1', s4, ok5, ?_⟩
            cases he : ee l1' s4 with
            | bad => rw [he] at p3; exact p3.elim
            | exc x s => rw [he] at p3; exact p3.elim
            | ok y s5 =>
              rw [he] at p3
              simp only [Res.bind_ok] at p3
              intro v H6 G6 l6 ok6 rv
              obtain ⟨b1, b2, b3, b4⟩ := back ((l4.trans l5).trans l6) ok6
              have rk' := keyOf_rep rk eky
              refine ⟨acc, ky, rk', b3, by rw [RepD.length r2]; exact hz, ?_⟩
              exact fin (acc' := putK acc ky v) (accT' := dputT accT ky y) b4 (b1.other b2 b3 (fun _ z => nomatch z)) b2 upd_same (RepD.put (RepD.le2 b4 r2) rv) (d2.put hz (keyOf_ok rk eky)) p3
  · have e : i = items.length := by omega
    subst e
    refine .inl ⟨is (Nat.le_refl _), ?_⟩
    rw [List.drop_length] at p2
    have p3 : post (fun G H t v => OwnR X.K G loc σ H t v) X.K W G2 loc σ (.ok (.dct accT) s2) Q := p2
    exact p3 _ H2 G2 (GLe.refl _) ok2 ⟨D, rfl, n2.f, n2.b, n2.a, n2.s, acc, h2, r2, d2⟩

theorem t_dcomp (hc : X.calm = true) (hN : X.N.Nodup) (hi : TPI X W tg iter it) (ok : BlkOk X.N X.env.scope scope own) (hv : (tt.slots.all fun i => (own.map (·.2)).contains i) = true)
    (hgs : TgSem X.K g tt) (hg : ∀ (s : Shared) (H : Hp) (C : Addr) (cl : List (Str × Addr)) (fp : List Addr), PG (X.blk s H scope (compEnvC scope cl C X.env) fp) tg g)
    (ht : ∀ (s : Shared) (H : Hp) (C : Addr) (cl : List (Str × Addr)) (fp : List Addr), TPTs (X.blk s H scope (compEnvC scope cl C X.env) fp) W0 ifs c)
    (hk : ∀ (s : Shared) (H : Hp) (C : Addr) (cl : List (Str × Addr)) (fp : List Addr), TPE (X.blk s H scope (compEnvC scope cl C X.env) fp) W0 kx ek)
    (he : ∀ (s : Shared) (H : Hp) (C : Addr) (cl : List (Str × Addr)) (fp : List Addr), TPE (X.blk s H scope (compEnvC scope cl C X.env) fp) W0 elt ee)
    (hs : ∀ x, foldedSetIterable iter X.env x = pure x := by intro _; rfl) : TPO X W (.DictComp kx elt [⟨tg, iter, ifs, 0⟩] scope pos) (eDComp (own.map (·.2)) it tt c ek ee) :=
  PE.weak (pe_dc (wi := liftI X.K W it) (g := g) (tt := liftT X.K W0 c) (tk := lift X.K W0 ek) (tv := lift X.K W0 ee) hc hN hi ok hg ht hk he hs) fun σ H Q ⟨G, loc, sh, ok, p⟩ => dcomp_core ok (fun R q => ⟨G, loc, sh, ok, q⟩) (fun i hi => by
    have := List.all_eq_true.mp hv i hi
    simpa using this) hgs p
theorem dcompN_core {vs : List Nat} {Q : VK} {G : Gh} {loc : Loc} {sh : Sh} {σ : L2.St} {H : Hp} (hW : Wopen X W) (hsl : ∀ i, i ∈ tt.slots → i ∈ vs) (hgs : TgSem X.K g tt) (ok : Ok X.K G loc sh σ H)
    (p : post (fun G H t v => OwnR X.K G loc σ H t v) X.K W G loc σ (eDComp vs (itN i) tt c ek ee loc sh) Q) :
    tDc (liftI X.K W (itV (eVar i))) g (liftT X.K W0 c) (lift X.K W0 ek) (lift X.K W0 ee) vs σ H Q ∨ tDc (iKeys (tVar i)) g (liftT X.K W0 c) (lift X.K W0 ek) (lift X.K W0 ee) vs σ H Q ∨
    ∃ d u, H d = some u ∧ Mut (some u) ∧ ∀ od, (∀ o' u', X.H_0 d ≠ some (.frz o' u')) → tDc (iKeys (tVar i)) g (liftT X.K W0 c) (lift X.K W0 ek) (lift X.K W0 ee) vs σ (upd H d (.frz od u)) fun v H' => H' d = some (.frz od u) ∧ Q v (upd H' d u) := by
  have seq : (∀ kvs, loc.at i ≠ .t (.dct kvs)) → itN i loc sh = itV (eVar i) loc sh := fun h => by
    unfold itN itV eVar
    cases e : loc.at i with
    | no => rfl
    | own x => rfl
    | t x =>
      cases x with
      | dct kvs => exact absurd e (h kvs)
      | _ => rfl
  by_cases hd : ∃ kvs, loc.at i = .t (.dct kvs)
  · obtain ⟨kvs, e⟩ := hd
    obtain ⟨a, kv, es, r, d, hF⟩ := itN_cases (P := fun _ => True) ok e
    have ei : ∀ s, itN i loc s = .ok (kvs.map fun p => keyT p.1) s := fun s => by unfold itN; rw [e]; rfl
    rcases hF with hF | ⟨od, hF⟩
    · refine .inr (.inr ⟨a, .dK kv, ok.fh _ _ hF, trivial, fun od hx => ?_⟩)
      have sim := fsim_lock od hF
      have ok1 := ok.swap hF sim (fun _ z => nomatch z)
      have F1 : (G.sw a (.frz od (.dK kv))).F a = some (.frz od (.dK kv)) := upd_same
      refine dcomp_core (W := W) (it := itN i) ok1 (fun R q => ?_) hsl hgs ?_
      · rw [ei] at q
        refine ⟨.ref a, es, a, od, rfl, .inl ⟨kv, ok1.fh _ _ F1, ?_⟩⟩
        exact q (Itk a od kv) _ _ (GLe.refl _) ok1 (items_keys F1 (RepD.sim sim (ALe.refl _) _ _ r) d)
      · cases q : eDComp vs (itN i) tt c ek ee loc sh with
        | bad => rw [q] at p; exact p
        | exc y s =>
          rw [q] at p
          intro dd H2 G2 l2 ok2 ⟨dd', fv, h1, h2, h3⟩
          have F2 := l2.f _ _ F1
          have s2 := fsim_open F2
          refine hW _ _ _ _ a od (.dK kv) hx (ok2.fh _ _ F2) (p dd _ _ (gle_sw hF l2) (ok2.swap F2 s2 (fun _ z => nomatch z)) ⟨dd', fv, h1, (upd_ne fun z => ?_).trans h2, RepFs.sim s2 h3⟩)
          rw [z, ok2.fh _ _ F2] at h2
          cases h2
        | ok t s =>
          rw [q] at p
          intro v H2 G2 l2 ok2 o
          have F2 := l2.f _ _ F1
          have s2 := fsim_open F2
          exact ⟨ok2.fh _ _ F2, p v _ _ (gle_sw hF l2) (ok2.swap F2 s2 (fun _ z => nomatch z)) (o.swap F2 s2)⟩
    · refine .inr (.inl (dcomp_core (W := W) (it := itN i) ok (fun R q => ?_) hsl hgs p))
      rw [ei] at q
      exact ⟨.ref a, es, a, od, rfl, .inl ⟨kv, ok.fh _ _ hF, q (Itk a od kv) _ _ (GLe.refl _) ok (items_keys hF r d)⟩⟩
  · have hn : ∀ kvs, loc.at i ≠ .t (.dct kvs) := fun kvs e => hd ⟨kvs, e⟩
    refine .inl (dcomp_core (W := W) (it := itN i) ok (fun R q => ⟨G, loc, sh, ok, ?_⟩) hsl hgs p)
    rw [← seq hn]
    exact q
/-- [e for x in name if c], name a list, a tuple, a text or a dict -/
theorem t_dcompN (hW : Wopen X W) (hv' : PE X (.Name x np) (tVar i)) (hc : X.calm = true) (hN : X.N.Nodup) (ok : BlkOk X.N X.env.scope scope own) (hv : (tt.slots.all fun i => (own.map (·.2)).contains i) = true)
    (hgs : TgSem X.K g tt) (hg : ∀ (s : Shared) (H : Hp) (C : Addr) (cl : List (Str × Addr)) (fp : List Addr), PG (X.blk s H scope (compEnvC scope cl C X.env) fp) tg g)
    (ht : ∀ (s : Shared) (H : Hp) (C : Addr) (cl : List (Str × Addr)) (fp : List Addr), TPTs (X.blk s H scope (compEnvC scope cl C X.env) fp) W0 ifs c)
    (hk : ∀ (s : Shared) (H : Hp) (C : Addr) (cl : List (Str × Addr)) (fp : List Addr), TPE (X.blk s H scope (compEnvC scope cl C X.env) fp) W0 kx ek)
    (he : ∀ (s : Shared) (H : Hp) (C : Addr) (cl : List (Str × Addr)) (fp : List Addr), TPE (X.blk s H scope (compEnvC scope cl C X.env) fp) W0 elt ee)
    (hs : ∀ v, foldedSetIterable (.Name x np) X.env v = pure v := by intro _; rfl) : TPO X W (.DictComp kx elt [⟨tg, .Name x np, ifs, 0⟩] scope pos) (eDComp (own.map (·.2)) (itN i) tt c ek ee) := by
  have hsl : ∀ i, i ∈ tt.slots → i ∈ own.map (·.2) := fun i hi => by
    have := List.all_eq_true.mp hv i hi
    simpa using this
  have keys := pe_dc (pos := pos) (wi := iKeys (tVar i)) (g := g) (tt := liftT X.K W0 c) (tk := lift X.K W0 ek) (tv := lift X.K W0 ee) hc hN (pi_keys (tg := tg) hv') ok hg ht hk he hs
  exact PE.weak (PE.or (pe_dc (wi := liftI X.K W (itV (eVar i))) (g := g) (tt := liftT X.K W0 c) (tk := lift X.K W0 ek) (tv := lift X.K W0 ee) hc hN (ti_val (t_var hv')) ok hg ht hk he hs) (PE.or keys (pe_lockW keys))) fun σ H Q ⟨G, loc, sh, ok, p⟩ => dcompN_core hW hsl hgs ok p
end
end TL

/-! the T-layer, 17: a def called behind a built-in, on data alone -/
namespace TL
open PySem PySem.Spec L2 PyProof.Rows

/-- kinds of data -/
def datK : HO → Bool
  | .lst _ => true
  | .tup _ => true
  | .dK _ => true
  | .frz _ u => datK u
  | _ => false
def datH (F : Hp) : Hp := fun a => match F a with
  | some o => if datK o = true then some o else none
  | none => none
theorem datH_some {F : Hp} {a : Addr} {o : HO} (h : datH F a = some o) : F a = some o ∧ datK o = true := by
  unfold datH at h
  split at h
  · rename_i u e
    split at h
    · rename_i d; cases h; exact ⟨e, d⟩
    · cases h
  · cases h
theorem datH_of {F : Hp} {a : Addr} {o : HO} (h : F a = some o) (d : datK o = true) : datH F a = some o := by
  unfold datH
  rw [h]
  exact if_pos d
theorem datH_rd {F : Hp} {a : Addr} {o : HO} (h : Rd F a o) (d : datK o = true) : Rd (datH F) a o := by
  rcases h with h | ⟨od, h⟩
  · exact .inl (datH_of h d)
  · exact .inr ⟨od, datH_of h d⟩
/-- what stands for data leans on its own object alone -/
theorem obj_dat {P : Program} {w : World} {H H' : Hp} {h h' : Heap} {a : Addr} : ∀ {o : HO}, datK o = true → ObjOk P w H h a o → (∀ u, h.get? a = some u → h'.get? a = some u) → ObjOk P w H' h' a o
  | .lst xs, _, x, k => by obtain ⟨z, its, n, r, e⟩ := x; exact ⟨z, its, n, r, k _ e⟩
  | .tup xs, _, x, k => by obtain ⟨z, its, r, ob, e, c⟩ := x; exact ⟨z, its, r, ob, k _ e, c⟩
  | .dK kvs, _, x, k => by obtain ⟨z, y, vs, r, ob, es, ep, e, c⟩ := x; exact ⟨z, y, vs, r, ob, es, ep, k _ e, c⟩
  | .frz ob u, d, x, k => by obtain ⟨e, q⟩ := x; exact ⟨k _ e, obj_dat (o := u) d q k⟩
  | .dT _, d, _, _ => by cases d
  | .set _ _, d, _, _ => by cases d
  | .ins _ _ _, d, _, _ => by cases d
  | .own _, d, _, _ => by cases d
  | .xd _, d, _, _ => by cases d
  | .met _ _, d, _, _ => by cases d
  | .rng _ _, d, _, _ => by cases d
  | .tbl _, d, _, _ => by cases d
  | .ext _, d, _, _ => by cases d
mutual
/-- data without shared objects -/
def noCel : T → Bool
  | .cel _ => false
  | .lst xs => noCels xs
  | .tup xs => noCels xs
  | .dct kvs => noCelD kvs
  | _ => true
def noCels : List T → Bool
  | [] => true
  | x :: xs => noCel x && noCels xs
def noCelD : List (Key × T) → Bool
  | [] => true
  | (_, x) :: xs => noCel x && noCelD xs
end
section
variable {K : PySem.W.Frag} {F : Hp} {al : List Addr}
theorem SqT.dat {a : Addr} {xs : List V} (q : SqT K F a xs) : SqT K (datH F) a xs := by
  rcases q with q | q
  · exact .inl (datH_rd q rfl)
  · exact .inr q
theorem SqL.dat {a : Addr} {xs : List V} (q : SqL K F a xs) : SqL K (datH F) a xs := by
  rcases q with q | q
  · exact .inl (datH_rd q rfl)
  · exact .inr q
mutual
theorem Rep.dat : ∀ (t : T) (v : V), noCel t = true → Rep K F al t v → Rep K (datH F) [] t v
  | .non, _, _, h => h
  | .bl _, _, _, h => h
  | .int _, _, _, h => h
  | .str _, _, _, h => h
  | .lst xs, v, c, h => by
    obtain ⟨a, vs, e, q, r, l⟩ := h
    exact ⟨a, vs, e, datH_of q rfl, RepL.dat xs vs (by rw [noCel] at c; exact c) r, l⟩
  | .tup xs, v, c, h => by
    obtain ⟨a, vs, e, q, r, l⟩ := h
    exact ⟨a, vs, e, SqT.dat q, RepL.dat xs vs (by rw [noCel] at c; exact c) r, l⟩
  | .dct kvs, v, c, h => by
    obtain ⟨a, kv, e, q, r, l⟩ := h
    exact ⟨a, kv, e, datH_rd q rfl, RepD.dat kvs kv (by rw [noCel] at c; exact c) r, l⟩
  | .cel k, v, c, h => by rw [noCel] at c; cases c
  | .glo _, _, _, h => h
  | .ty _, _, _, h => h
  | .scr _, _, _, h => by
    obtain ⟨a, e, q, l⟩ := h
    exact ⟨a, e, SqL.dat q, l⟩
theorem RepL.dat : ∀ (xs : List T) (vs : List V), noCels xs = true → RepL K F al xs vs → RepL K (datH F) [] xs vs
  | [], _, _, h => h
  | x :: xs, vs, c, h => by
    obtain ⟨v, r, e, h1, h2⟩ := h
    rw [noCels, Bool.and_eq_true] at c
    exact ⟨v, r, e, Rep.dat x v c.1 h1, RepL.dat xs r c.2 h2⟩
theorem RepD.dat : ∀ (xs : List (Key × T)) (vs : List (Key × V)), noCelD xs = true → RepD K F al xs vs → RepD K (datH F) [] xs vs
  | [], _, _, h => h
  | (k, x) :: xs, vs, c, h => by
    obtain ⟨v, r, e, h1, h2⟩ := h
    rw [noCelD, Bool.and_eq_true] at c
    exact ⟨v, r, e, Rep.dat x v c.1 h1, RepD.dat xs r c.2 h2⟩
end
theorem Gok.dat {G : Gh} {sh : Sh} {H : Hp} : Gok K ⟨datH F, [], fun _ => none⟩ [] (datH F) :=
  ⟨fun _ _ h => h, fun _ _ h => (by cases h), fun _ => .inr rfl, fun k a h => (by cases k <;> cases h), fun i j a h => (by cases i <;> cases h), rfl, fun k o h => (by cases k <;> cases h)⟩
end
section
variable {P : Program} {w : World} {K : PySem.W.Frag} {mg : Str → Option Value} {base : Heap} {CX : CXT} {k : Nat} {f : Addr} {fd : FuncData} {ps : List Str} {m : Bool} {φ : Fn}
/-- behind a call on data: what was tracked, what was not -/
structure Calm (P : Program) (w : World) (fs : List Addr) (D : Hp) (s s' : Shared) : Prop where
  os : s'.os = s.os
  bare : AllBare s'.gens
  un : Un fs [] D D s.heap s'.heap
  hok : HOk P w D s'.heap
theorem un_shrink {fs ex : List Addr} {D H' : Hp} {h h' : Heap} (u : Un fs ex D H' h h') : Un fs ex D D h h' :=
  ⟨u.keep, u.slot, fun _ _ _ n _ => n, u.there, fun _ _ e => e, fun _ _ _ e => e, fun _ ps e => ⟨#[], by rw [e]; simp⟩⟩
theorem hok_shrink {D H' : Hp} {h : Heap} (hD : ∀ a o, D a = some o → H' a = some o ∧ datK o = true) (x : HOk P w H' h) : HOk P w D h := fun a o e =>
  obj_dat (hD a o e).2 (x a o (hD a o e).1) fun _ q => q
/-- the def runs on data -/
theorem pure_run {F : Hp} {al : List Addr} {A : Around} {outer : List Env} {s : Shared} {us : List Value} {vs : List V} {ts : List T} {t : T} (hF : FnOk P w K mg base CX k f fd ps (spT K m ps.length φ)) (hb : Binds K fd ps []) (hr : Room k A) (e0 : Env0 P w K mg base A outer s (datH F))
    (hcx : ∀ s' e, ¬ CX outer (datH F) s (fun _ _ _ => False) e s') (r : Vals vs us) (hl : ts.length = ps.length) (rt : RepL K F al ts vs) (nc : noCels ts = true) (h : φ ts [] = .ok t []) {Q : Value → Shared → Prop} {E : Value → Shared → Prop}
    (q : ∀ u v s' H' G', GLe ⟨datH F, [], fun _ => none⟩ G' → Gok K G' [] H' → rpR K m G' H' t v → RelV v u → HOk P w H' s'.heap → Un (frs outer) [] (datH F) H' s.heap s'.heap → Calm P w (frs outer) (datH F) s s' → Q u s') :
    wpAny (model P w) A (call (.ref f) us) Q E s := by
  refine wpAny_call (codeAny_mono (FnOk.raw hF hb (dvs := []) .nil A outer s (datH F) us vs (fun v H' => ∃ G', GLe ⟨datH F, [], fun _ => none⟩ G' ∧ Gok K G' [] H' ∧ rpR K m G' H' t v) (fun _ _ _ => False) hr e0 r ?_) fun r' s' hq => ?_)
  · show spT K m ps.length φ (vs ++ []) _ _ _
    rw [List.append_nil]
    refine ⟨by rw [RepL.length rt]; exact hl, ⟨datH F, [], fun _ => none⟩, ts, [], Gok.dat (G := ⟨datH F, [], fun _ => none⟩) (sh := []) (H := datH F), RepL.dat ts vs nc rt, ?_⟩
    rw [h]
    exact fun v H' G' l g rr => ⟨G', l, g, rr⟩
  · cases r' with
    | error e => exact (hcx s' e hq).elim
    | ok fl =>
      cases fl with
      | ret u =>
        obtain ⟨v, H', os, bare, un, hok, rv, G', l, g, rr⟩ := hq
        exact q u v s' H' G' l g rr rv hok un ⟨os, bare, un_shrink un, hok_shrink (fun a o e => ⟨g.fh a o (l.f a o e), (datH_some e).2⟩) hok⟩
      | next => exact False.elim hq
      | brk => exact False.elim hq
      | cont => exact False.elim hq
end
end TL

/-! the T-layer, 18: min and max with key=def -/
namespace TL
open PySem PySem.Spec L2 PyProof.Rows

section
variable {prog : Program} {w : World} {A : Around}
/-- a list's walk, its items by what they stand for -/
theorem walk_vals (hh : A.handled = none) (I l : Addr) (hne : l ≠ I) (vs : List V) :
    WalksS prog w A I [I, l] [I] (fun a b => b = a) vs.length (fun i v => ∃ x, vs[i]? = some x ∧ L2.RelV x v) (fun i s => s.heap.IsListIter I l i ∧ ∃ its : List Value, Vals vs its ∧ s.heap.IsList l its.toArray) where
  sub := (Walks.list (prog := prog) (w := w) (A := A) hh I l hne #[]).toS.sub
  grefl := fun _ => rfl
  gtrans := fun _ _ _ h1 h2 => h2.trans h1
  frame := fun i s h' tk ⟨h1, its, r, h2⟩ ht hk =>
    let q := (Walks.list (prog := prog) (w := w) (A := A) hh I l hne its.toArray).toS.frame i s h' tk ⟨h1, h2⟩ ht hk
    ⟨q.1, its, r, q.2⟩
  item := fun i s Q E hi ⟨h1, its, r, h2⟩ q => by
    have hl := r.length
    refine (Walks.list (prog := prog) (w := w) (A := A) hh I l hne its.toArray).toS.item i s Q E (by simpa [← hl] using hi) ⟨h1, h2⟩ fun v s' hv st mv => ?_
    have ex : vs[i]? = some vs[i] := List.getElem?_eq_getElem hi
    obtain ⟨u, eu, ru⟩ := r.get ex
    have : its[i]? = some v := by simpa using hv
    rw [eu] at this
    cases this
    exact q v s' ⟨_, ex, ru⟩ ⟨st.1, its, r, st.2⟩ mv
  done := fun s Q E ⟨h1, its, r, h2⟩ q => by
    have hl := r.length
    refine (Walks.list (prog := prog) (w := w) (A := A) hh I l hne its.toArray).toS.done s Q E ?_ q
    have : its.toArray.size = vs.length := by simp [← hl]
    rw [this]
    exact ⟨h1, h2⟩
  self := fun i s Q E ⟨h1, its, r, h2⟩ q => (Walks.list (prog := prog) (w := w) (A := A) hh I l hne its.toArray).toS.self i s Q E ⟨h1, h2⟩ q
end
end TL

/-! the T-layer, 19: what is read of tuples is kept by every call -/
namespace TL
open PySem PySem.Spec PySem.W L2 PyProof.Rows

/-- the same but for tokens -/
def Sm (v v' : Value) : Prop := v = v' ∨ ∃ x, L2.RelV x v ∧ L2.RelV x v'
theorem Sm.int {i : Int} {t : Tok} {v : Value} (h : Sm (.int i t) v) : ∃ t', v = .int i t' := by
  rcases h with rfl | ⟨x, a, b⟩
  · exact ⟨_, rfl⟩
  · cases x with
    | int j => obtain ⟨_, e⟩ := a; cases e; exact b
    | non => cases a
    | bl _ => cases a
    | str _ => obtain ⟨_, e⟩ := a; cases e
    | byt _ => obtain ⟨_, e⟩ := a; cases e
    | flt _ => obtain ⟨_, e⟩ := a; cases e
    | ref _ => cases a
    | ty _ => cases a
theorem Sm.str {i : Str} {t : Tok} {v : Value} (h : Sm (.str i t) v) : ∃ t', v = .str i t' := by
  rcases h with rfl | ⟨x, a, b⟩
  · exact ⟨_, rfl⟩
  · cases x with
    | str j => obtain ⟨_, e⟩ := a; cases e; exact b
    | non => cases a
    | bl _ => cases a
    | int _ => obtain ⟨_, e⟩ := a; cases e
    | byt _ => obtain ⟨_, e⟩ := a; cases e
    | flt _ => obtain ⟨_, e⟩ := a; cases e
    | ref _ => cases a
    | ty _ => cases a
theorem Sm.none {v : Value} (h : Sm .none v) : v = .none := by
  rcases h with rfl | ⟨x, a, b⟩
  · rfl
  · cases x with
    | non => exact b
    | bl _ => cases a
    | int _ => obtain ⟨_, e⟩ := a; cases e
    | str _ => obtain ⟨_, e⟩ := a; cases e
    | byt _ => obtain ⟨_, e⟩ := a; cases e
    | flt _ => obtain ⟨_, e⟩ := a; cases e
    | ref _ => cases a
    | ty _ => cases a
theorem Sm.bool {c : Bool} {v : Value} (h : Sm (.bool c) v) : v = .bool c := by
  rcases h with rfl | ⟨x, a, b⟩
  · rfl
  · cases x with
    | non => cases a
    | bl _ => cases a; exact b
    | int _ => obtain ⟨_, e⟩ := a; cases e
    | str _ => obtain ⟨_, e⟩ := a; cases e
    | byt _ => obtain ⟨_, e⟩ := a; cases e
    | flt _ => obtain ⟨_, e⟩ := a; cases e
    | ref _ => cases a
    | ty _ => cases a
theorem Sm.ref {c : Addr} {v : Value} (h : Sm (.ref c) v) : v = .ref c := by
  rcases h with rfl | ⟨x, a, b⟩
  · rfl
  · cases x with
    | non => cases a
    | bl _ => cases a
    | int _ => obtain ⟨_, e⟩ := a; cases e
    | str _ => obtain ⟨_, e⟩ := a; cases e
    | byt _ => obtain ⟨_, e⟩ := a; cases e
    | flt _ => obtain ⟨_, e⟩ := a; cases e
    | ref _ => cases a; exact b
    | ty _ => cases a
/-- every tuple stands there, its items up to tokens -/
def TK (h h' : Heap) : Prop := ∀ b o vs n, h.get? b = some o → o.cls = .type "tuple" → o.data = .seq vs n → ∃ o' vs' n', h'.get? b = some o' ∧ o'.cls = .type "tuple" ∧ o'.data = .seq vs' n' ∧ EachIs Sm vs.toList vs'.toList
mutual
theorem reads_keep {h h' : Heap} (k : TK h h') : ∀ (d : PyData) (v v' : Value) (as : List Addr), as = [] → Reads h v d as → Sm v v' → Reads h' v' d []
  | .none, _, _, _, _, r, q => by cases r; rw [q.none]; exact .none
  | .bool _, _, _, _, _, r, q => by cases r; rw [q.bool]; exact .bool _
  | .int _, _, _, _, _, r, q => by cases r; obtain ⟨t, rfl⟩ := q.int; exact .int _ _
  | .str _, _, _, _, _, r, q => by cases r; obtain ⟨t, rfl⟩ := q.str; exact .str _ _
  | .list xs, _, _, _, e, r, q => by cases r; cases e
  | .dict xs, _, _, _, e, r, q => by cases r; cases e
  | .tuple xs, _, _, _, e, r, q => by
    cases r with
    | tuple h1 h2 h3 h4 =>
      rw [q.ref]
      obtain ⟨o', vs', n', g1, g2, g3, g4⟩ := k _ _ _ _ h1 h2 h3
      exact .tuple g1 g2 g3 (reads_keeps k xs _ _ _ e h4 g4)
theorem reads_keeps {h h' : Heap} (k : TK h h') : ∀ (ds : List PyData) (vs vs' : List Value) (as : List Addr), as = [] → ReadsAll h vs ds as → EachIs Sm vs vs' → ReadsAll h' vs' ds []
  | [], _, _, _, _, r, q => by cases r; cases q; exact .nil
  | d :: ds, _, _, _, e, r, q => by
    cases r with
    | cons r1 r2 =>
      cases q with
      | cons q1 q2 =>
        have e2 := List.append_eq_nil_iff.mp e
        exact .cons (as := []) (bs := []) (reads_keep k d _ _ _ e2.1 r1 q1) (reads_keeps k ds _ _ _ e2.2 r2 q2)
end
theorem sm_refl : ∀ l : List Value, EachIs Sm l l
  | [] => .nil
  | v :: r => .cons (.inl rfl) (sm_refl r)
theorem sm_vals : ∀ {xs : List V} {l l' : List Value}, Vals xs l → Vals xs l' → EachIs Sm l l'
  | _, _, _, .nil, .nil => .nil
  | _, _, _, .cons a b, .cons c d => .cons (.inr ⟨_, a, c⟩) (sm_vals b d)
theorem tk_kept {h h' : Heap} (k : ∀ b o vs n, o.cls = .type "tuple" → o.data = .seq vs n → h.get? b = some o → h'.get? b = some o) : TK h h' := fun b o vs n h1 h2 h3 => ⟨o, vs, n, k b o vs n h2 h3 h1, h2, h3, sm_refl _⟩
/-- a call keeps the tuples -/
theorem tk_un {P : Program} {w : World} {F H' : Hp} {fs : List Addr} {h h' : Heap} (o1 : HOk P w (datH F) h) (u : Un fs [] (datH F) H' h h') (o2 : HOk P w H' h') : TK h h' := fun b o vs n h1 h2 h3 => by
  cases e : datH F b with
  | none =>
    obtain ⟨sl, q⟩ := u.any h1 e (by simp)
    exact ⟨_, vs, n, q, h2, h3, sm_refl _⟩
  | some ob =>
    have dk := (datH_some e).2
    have ok := o1 b ob e
    cases ob with
    | tup xs =>
      obtain ⟨_, its, r, o', e1, e2, m, e3⟩ := ok
      rw [h1] at e1
      cases e1
      rw [h3] at e3
      cases e3
      obtain ⟨_, its', r', o', e1', e2', m', e3'⟩ := o2 b _ (u.tups b xs e)
      exact ⟨o', _, _, e1', e2', e3', sm_vals r r'⟩
    | frz x y =>
      obtain ⟨e1, _⟩ := ok
      obtain ⟨e2, _⟩ := o2 b _ (u.frzs b x y e)
      rw [h1] at e1
      cases e1
      exact ⟨_, vs, n, e2, h2, h3, sm_refl _⟩
    | lst xs =>
      obtain ⟨_, its, m, _, e1⟩ := ok
      rw [h1] at e1
      cases e1
      have h4 : Value.type "list" = Value.type "tuple" := h2
      exact absurd h4 (by decide)
    | dK kvs =>
      obtain ⟨_, _, _, _, o', es, ep, e1, e2, e3, _⟩ := ok
      rw [h1] at e1
      cases e1
      rw [h3] at e3
      cases e3
    | _ => cases dk
end TL

/-! the T-layer, 20: keys read in a part of the heap -/
namespace TL
open PySem PySem.Spec PySem.W L2 PyProof.Rows

mutual
/-- data without lists -/
def flatT : T → Bool
  | .non => true
  | .bl _ => true
  | .int _ => true
  | .str _ => true
  | .tup xs => flatTs xs
  | _ => false
def flatTs : List T → Bool
  | [] => true
  | x :: xs => flatT x && flatTs xs
end
mutual
theorem flat_plain : ∀ t : T, flatT t = true → plainT t = true
  | .non, _ => rfl
  | .bl _, _ => rfl
  | .int _, _ => rfl
  | .str _, _ => rfl
  | .tup xs, h => by rw [flatT] at h; rw [plainT]; exact flat_plains xs h
  | .lst _, h => by cases h
  | .dct _, h => by cases h
  | .cel _, h => by cases h
  | .glo _, h => by cases h
  | .ty _, h => by cases h
  | .scr _, h => by cases h
theorem flat_plains : ∀ ts : List T, flatTs ts = true → plainTs ts = true
  | [], _ => rfl
  | x :: xs, h => by
    rw [flatTs, Bool.and_eq_true] at h
    rw [plainTs, Bool.and_eq_true]
    exact ⟨flat_plain x h.1, flat_plains xs h.2⟩
end
section
variable {P : Program} {w : World} {K : PySem.W.Frag} {F : Hp} {al : List Addr} {h : Heap}
theorem tup_at (hk : K.In h) (ok : HOk P w (datH F) h) {a : Addr} {xs : List V} (q : SqT K F a xs) : ∃ (o : Obj) (its : List Value) (n : Nat), h.get? a = some o ∧ o.cls = .type "tuple" ∧ o.data = .seq its.toArray n ∧ Vals xs its := by
  rcases q with q | ⟨o, its, n, e, hc, hs, hz, r⟩
  · have q' : Rd (datH F) a (.tup xs) := datH_rd q rfl
    have z : ObjOk P w (datH F) h a (.tup xs) := by
      rcases q' with q' | ⟨od, q'⟩
      · exact ok a _ q'
      · exact (ok a _ q').2
    obtain ⟨_, its, r, o, e1, e2, m, e3⟩ := z
    exact ⟨o, its, m, e1, e2, e3, r⟩
  · exact ⟨o, its.toList, n, hk a o e, hc, by simpa using hs, r⟩
mutual
theorem rep_reads (hk : K.In h) (ok : HOk P w (datH F) h) : ∀ (t : T) (x : V) (v : Value), flatT t = true → Rep K F al t x → L2.RelV x v → Reads h v (toD t) []
  | .non, _, _, _, r, q => by cases r; cases q; exact .none
  | .bl _, _, _, _, r, q => by cases r; cases q; exact .bool _
  | .int _, _, _, _, r, q => by cases r; obtain ⟨t, rfl⟩ := q; exact .int _ _
  | .str _, _, _, _, r, q => by obtain ⟨rfl, _⟩ := r; obtain ⟨t, rfl⟩ := q; exact .str _ _
  | .tup xs, _, _, f, r, q => by
    obtain ⟨a, vs, rfl, q1, r1, _⟩ := r
    cases q
    obtain ⟨o, its, n, e1, e2, e3, rv⟩ := tup_at hk ok q1
    rw [flatT] at f
    exact .tuple e1 e2 e3 (by
      have := reps_reads hk ok xs vs its f r1 rv
      simpa using this)
  | .lst _, _, _, f, _, _ => by cases f
  | .dct _, _, _, f, _, _ => by cases f
  | .cel _, _, _, f, _, _ => by cases f
  | .glo _, _, _, f, _, _ => by cases f
  | .ty _, _, _, f, _, _ => by cases f
  | .scr _, _, _, f, _, _ => by cases f
theorem reps_reads (hk : K.In h) (ok : HOk P w (datH F) h) : ∀ (ts : List T) (xs : List V) (vs : List Value), flatTs ts = true → RepL K F al ts xs → Vals xs vs → ReadsAll h vs (toDs ts) []
  | [], _, _, _, r, q => by cases r; cases q; exact .nil
  | t :: ts, _, _, f, r, q => by
    obtain ⟨v, r', rfl, r1, r2⟩ := r
    rw [flatTs, Bool.and_eq_true] at f
    cases q with
    | cons q1 q2 => exact .cons (as := []) (bs := []) (rep_reads hk ok t v _ f.1 r1 q1) (reps_reads hk ok ts _ _ f.2 r2 q2)
end
/-- k is read as d away from the addresses ex -/
def ReadsBut (ex : List Addr) (h : Heap) (v : Value) (d : PyData) : Prop := ∃ h0 : Heap, (∀ b o, h0.get? b = some o → b ∉ ex ∧ h.get? b = some o) ∧ Reads h0 v d []
theorem ReadsBut.all {ex : List Addr} {v : Value} {d : PyData} (r : ReadsBut ex h v d) : Reads h v d [] := by
  obtain ⟨h0, k, r⟩ := r
  exact Reads.keeps (fun b o e => (k b o e).2) r
theorem ReadsBut.moved {ex : List Addr} {v : Value} {d : PyData} {h' : Heap} (r : ReadsBut ex h v d) (k : ∀ b o, b ∉ ex → h.get? b = some o → h'.get? b = some o) : ReadsBut ex h' v d := by
  obtain ⟨h0, k0, r⟩ := r
  exact ⟨h0, fun b o e => ⟨(k0 b o e).1, k b o (k0 b o e).1 (k0 b o e).2⟩, r⟩
/-- what tuples say is kept where the tuples are kept -/
theorem ReadsBut.tk {ex : List Addr} {v : Value} {d : PyData} {h' : Heap} (r : ReadsBut ex h v d) (k : TK h h') : ReadsBut ex h' v d := by
  obtain ⟨h0, k0, r⟩ := r
  refine ⟨PySem.W.hideAll h' ex, fun b o e => ⟨fun hb => ?_, PySem.W.of_hideAll ex e⟩, reads_keep (fun b o vs n e1 e2 e3 => ?_) d v v [] rfl r (.inl rfl)⟩
  · rw [PySem.W.hideAll_none ex hb] at e; cases e
  · obtain ⟨hb, e⟩ := k0 b o e1
    obtain ⟨o', vs', n', g1, g2, g3, g4⟩ := k b o vs n e e2 e3
    exact ⟨o', vs', n', PySem.W.hideAll_get ex g1 hb, g2, g3, g4⟩
/-- the key, read away from ex -/
theorem reads_but {ex : List Addr} (hk : K.In h) (ok : HOk P w (datH F) h) (hx : ∀ b ∈ ex, F b = none ∧ K.lookup b = none) {t : T} {x : V} {v : Value} (f : flatT t = true) (r : Rep K F al t x) (q : L2.RelV x v) : ReadsBut ex h v (toD t) := by
  refine ⟨PySem.W.hideAll h ex, fun b o e => ⟨fun hb => ?_, PySem.W.of_hideAll ex e⟩, rep_reads (P := P) (w := w) (fun a o e => PySem.W.hideAll_get ex (hk a o e) fun hb => ?_) (fun a o e => obj_dat (datH_some e).2 (ok a o e) fun u hu => PySem.W.hideAll_get ex hu fun hb => ?_) t x v f r q⟩
  · rw [PySem.W.hideAll_none ex hb] at e; cases e
  · rw [(hx a hb).2] at e; cases e
  · have := (datH_some e).1
    rw [(hx a hb).1] at this; cases this
end
end TL

/-! the T-layer, 21: the turns of min and max with key=def -/
namespace TL
open PySem PySem.Spec PySem.W PySem.SeqAt L2 PyProof.Rows

section
variable {P : Program} {w : World} {F H : Hp} {fs : List Addr} {h h' : Heap}
theorem none_dat (hF : FLe F H) {b : Addr} (n : H b = none) : datH F b = none := by
  cases q : datH F b with
  | none => rfl
  | some o => rw [hF _ _ (datH_some q).1] at n; cases n
theorem un_full (hF : FLe F H) (u : Un fs [] (datH F) (datH F) h h') : Un fs [] H H h h' :=
  ⟨fun b o e n hb hx => u.keep b o e (none_dat hF n) hb hx, fun b o e n hb hx => u.slot b o e (none_dat hF n) hb hx, fun _ _ _ n _ => n, u.there, fun _ _ e => e, fun _ _ _ e => e, fun _ ps e => ⟨#[], by rw [e]; simp⟩⟩
theorem hok_full (hF : FLe F H) (o1 : HOk P w H h) (u : Un fs [] (datH F) (datH F) h h') (hfs : ∀ b ∈ fs, H b = none) (o2 : HOk P w (datH F) h') : HOk P w H h' := fun a o e => by
  cases q : datH F a with
  | some ob =>
    have e2 := hF _ _ (datH_some q).1
    rw [e] at e2
    cases e2
    exact obj_dat (datH_some q).2 (o2 a o q) fun _ z => z
  | none =>
    refine (o1 a o e).stay (fun b v hb hu => u.keep b v hu ?_ (fun z => ?_) (by simp)) (fun _ z => z) fun _ _ z => z
    · rcases hb with rfl | hb
      · exact q
      · cases q2 : datH F b with
        | none => rfl
        | some ob =>
          have e2 := hF _ _ (datH_some q2).1
          rw [hb] at e2
          cases e2
          have := (datH_some q2).2
          cases this
    · have := hfs b z
      rcases hb with rfl | hb
      · rw [e] at this; cases this
      · rw [hb] at this; cases this
end
section
variable {X : Cx} {CX : CXT} {k : Nat} {f : Addr} {fd : FuncData} {p : Str} {φ : Fn} {pins : List (Addr × Obj)} {σ : L2.St} {F H : Hp} {al : List Addr}
theorem key_run {op : CmpOp} {l I0 S : Addr} {vs : List V} {ts : List T} {kd : Nat → T} {bt : Nat → Nat → Bool} (hFn : FnOk X.prog X.w X.K X.mg X.base CX k f fd [p] (spT X.K false 1 φ)) (hb : Binds X.K fd [p] []) (hr : Room k X.A.in1)
    (hcx : ∀ outer D s s' e, ¬ CX outer D s (fun _ _ _ => False) e s') (hFH : FLe F H) (hl : SqL X.K H l vs) (rt : RepL X.K F al ts vs) (nc : noCels ts = true)
    (fI : FpOk X pins H I0) (fS : FpOk X pins H S) (kI : X.K.lookup I0 = none) (kS : X.K.lookup S = none) (hIS : S ≠ I0)
    (hk : ∀ i t, ts[i]? = some t → φ [t] [] = .ok (kd i) [] ∧ flatT (kd i) = true)
    (hcmp : ∀ i j (s : Shared) (a b : Value), i < vs.length → j < vs.length → Reads s.heap a (toD (kd i)) [] → Reads s.heap b (toD (kd j)) [] → RcOp op X.A.in1 s a b (bt i j)) :
    KeyRun X.prog X.w X.A.in1 (.ref f) op S [I0] (fun a b => b = a) vs.length (fun i v => ∃ x, vs[i]? = some x ∧ L2.RelV x v) (fun i s => s.heap.IsListIter I0 l i ∧ ∃ its : List Value, Vals vs its ∧ s.heap.IsList l its.toArray)
      (fun s => Inv X pins σ H s) (fun i v s => i < vs.length ∧ ReadsBut [S, I0] s.heap v (toD (kd i))) bt where
  keep := fun s s' I mv => by
    obtain ⟨hh, g, d, t, os'⟩ := s'
    obtain rfl : g = s.gens := mv.gens
    obtain rfl : d = s.drawn := mv.drawn
    obtain rfl : os' = s.os := mv.os
    exact I.turnedL (ch := [S, I0]) (fun b o hb e => mv.heap b o hb e) fun b hb => by
      rcases List.mem_cons.mp hb with rfl | hb
      · exact fS
      · rw [List.mem_singleton.mp hb]; exact fI
  keepV := fun i v s s' ⟨hi, r⟩ mv => ⟨hi, r.moved fun b o hb e => mv.heap b o hb e⟩
  turn := fun i v s o Q E hi ⟨x, ex, rx⟩ I st ho q => by
    obtain ⟨t, et⟩ : ∃ t, ts[i]? = some t := ⟨_, List.getElem?_eq_getElem (by rw [← RepL.length rt]; exact hi)⟩
    obtain ⟨x', ex', rt'⟩ := RepL.get rt et
    rw [ex] at ex'
    cases ex'
    have nct : noCel t = true := by
      have : ∀ (l : List T), noCels l = true → ∀ y ∈ l, noCel y = true := by
        intro l
        induction l with
        | nil => intro _ y hy; cases hy
        | cons a l ih =>
          intro hn y hy
          rw [noCels, Bool.and_eq_true] at hn
          rcases List.mem_cons.mp hy with rfl | hy
          · exact hn.1
          · exact ih hn.2 y hy
      exact this ts nc t (List.mem_of_getElem? et)
    have oD : HOk X.prog X.w (datH F) s.heap := hok_shrink (fun a o e => ⟨hFH _ _ (datH_some e).1, (datH_some e).2⟩) I.hok
    have e1 := I.env0.in1
    have e0 : Env0 X.prog X.w X.K X.mg X.base X.A.in1 X.stack s (datH F) := ⟨e1.frames, e1.mod, fun b o q => ⟨(e1.bs b o q).1, none_dat hFH (e1.bs b o q).2⟩, e1.bsz, e1.funs, fun b hb => none_dat hFH (e1.frf b hb), oD, e1.bare⟩
    refine pure_run (F := F) (al := al) (ts := [t]) (t := kd i) (m := false) (vs := [x]) hFn hb hr e0 (fun s' e => hcx _ _ _ _ _) (.cons rx .nil) rfl ⟨x, [], rfl, rt', rfl⟩ (by rw [noCels, nct]; rfl) (hk i t et).1 fun u y s' H' G' lg g rr ru hok un cl => ?_
    obtain ⟨v', H2, I', _, hQ⟩ := I.after (Q := fun _ Hx => Hx = H) ⟨y, H, cl.os, cl.bare, un_full hFH cl.un, hok_full hFH I.hok cl.un e1.frf cl.hok, ru, rfl⟩
    subst hQ
    have uS : ∀ b, FpOk X pins H2 b → ∀ o, s.heap.get? b = some o → s'.heap.get? b = some o := fun b fb o e => cl.un.keep b o e (none_dat hFH fb.1) (fun z => by
      rcases List.mem_cons.mp (I.stkSub b z) with z | z
      · exact fb.2.1 z
      · exact fb.2.2.1 z) (by simp)
    refine q u s' I' ⟨?_, ?_⟩ (uS S fS o ho) ⟨hi, ?_⟩ fun j k' ⟨hj, r⟩ => ⟨hj, r.tk (tk_un oD un hok)⟩
    · obtain ⟨⟨oi, ei, ci⟩, _⟩ := st
      exact ⟨oi, uS I0 fI oi ei, ci⟩
    · obtain ⟨its, rv, pl, _⟩ := I'.list hl
      exact ⟨its, rv, pl.isList⟩
    · have gF : ∀ b, FpOk X pins H2 b → (∃ o, s.heap.get? b = some o) → G'.F b = none := fun b fb ⟨o, e⟩ => by
        cases z : G'.F b with
        | none => rfl
        | some o' =>
          have := g.fh _ _ z
          rw [un.free b o e (none_dat hFH fb.1) (by simp)] at this
          cases this
      have hI0 : ∃ o, s.heap.get? I0 = some o := by obtain ⟨⟨oi, ei, _⟩, _⟩ := st; exact ⟨_, ei⟩
      refine reads_but (P := X.prog) (w := X.w) (F := G'.F) (al := G'.al) I'.kIn (hok_shrink (fun a o e => ⟨g.fh _ _ (datH_some e).1, (datH_some e).2⟩) hok) (fun b hb => ?_) (hk i t et).2 rr ru
      rcases List.mem_cons.mp hb with rfl | hb
      · exact ⟨gF _ fS ⟨_, ho⟩, kS⟩
      · rw [List.mem_singleton.mp hb]; exact ⟨gF _ fI hI0, kI⟩
  cmp := fun i j a b s Q E I ⟨hi, r1⟩ ⟨hj, r2⟩ q => hcmp i j s a b hi hj r1.all r2.all _ _ _ _ q
end
end TL

/-! the T-layer, 22: min(xs, key=def), max(xs, key=def) -/
namespace TL
open PySem PySem.Spec PySem.W PySem.SeqAt L2 PyProof.Rows

def keyT1 (φ : Fn) (t : T) : T := match φ [t] [] with
  | .ok k _ => k
  | _ => .non
def keyOk (φ : Fn) (t : T) : Bool := match φ [t] [] with
  | .ok k [] => flatT k && decide ((toD k).depth ≤ 150)
  | _ => false
def ordOk (a b : T) : Bool := (ordD (toD a) (toD b)).isSome
def ordB (a b : T) : Bool := (ordD (toD a) (toD b)).getD false
def kdAt (φ : Fn) (ts : List T) (i : Nat) : T := keyT1 φ (ts.getD i .non)
def btK (mx : Bool) (φ : Fn) (ts : List T) (i j : Nat) : Bool := if mx then ordB (kdAt φ ts j) (kdAt φ ts i) else ordB (kdAt φ ts i) (kdAt φ ts j)
/-- the item that min or max picks -/
def pickK (mx : Bool) (φ : Fn) (ts : List T) : Option T :=
  if ts ≠ [] ∧ noCels ts = true ∧ (ts.all fun t => keyOk φ t) = true ∧ (ts.all fun a => ts.all fun b => ordOk (keyT1 φ a) (keyT1 φ b)) = true then ts[argBest (btK mx φ ts) (ts.length - 1)]? else none
def eMinK (mx : Bool) (φ : Fn) (ev : Ev) : Ev := fun l s => (ev l s).bind fun x s1 => match x with
  | .lst ts => match pickK mx φ ts with
    | some t => .ok t s1
    | none => .bad
  | _ => .bad
def rMinK (X : Cx) (mx : Bool) (φ : Fn) (fa : Addr) : List V → List V → Hp → VK → Prop := fun xs zs H Q => ∃ (l : Addr) (F : Hp) (al : List Addr) (ts : List T) (vs : List V) (t : T), xs = [.ref l] ∧ zs = [.ref fa] ∧ FLe F H ∧ SqL X.K H l vs ∧ RepL X.K F al ts vs ∧ pickK mx φ ts = some t ∧ ∀ x, Rep X.K F al t x → Q x H
section
variable {X : Cx} {CX : CXT} {k : Nat} {f : Addr} {fd : FuncData} {p : Str} {φ : Fn}
theorem keyOk_spec {φ : Fn} {t : T} (h : keyOk φ t = true) : φ [t] [] = .ok (keyT1 φ t) [] ∧ flatT (keyT1 φ t) = true ∧ (toD (keyT1 φ t)).depth ≤ 150 := by
  unfold keyOk at h
  unfold keyT1
  split at h
  · rename_i k e
    rw [e]
    rw [Bool.and_eq_true, decide_eq_true_eq] at h
    exact ⟨rfl, h.1, h.2⟩
  · cases h
theorem cr_minKey (mx : Bool) (hFn : FnOk X.prog X.w X.K X.mg X.base CX k f fd [p] (spT X.K false 1 φ)) (hb : Binds X.K fd [p] []) (hr : Room k X.A.in1) (hu : X.A.units + 160 < cLine)
    (hcx : ∀ outer D s s' e, ¬ CX outer D s (fun _ _ _ => False) e s') (hc : X.calm = true) : CallRK X (.builtin (if mx = true then "max" else "min")) [Str.ofString "key"] (rMinK X mx φ f) := by
  intro pins s σ H xs zs us ws Q I r1 r2 ⟨l, F, al, ts, vs, t, e1, e2, hFH, hl, rt, hp, q⟩
  subst e1 e2
  rw [Vals.ref1 r1, Vals.ref1 r2]
  unfold pickK at hp
  split at hp
  case isFalse => cases hp
  rename_i hh
  obtain ⟨h1, h2, h3, h4⟩ := hh
  obtain ⟨its, rv, pl, _⟩ := I.list hl
  have hlen := RepL.length rt
  have hn0 : 0 < vs.length := by
    rw [hlen]
    cases ts with
    | nil => exact absurd rfl h1
    | cons a l => exact Nat.succ_pos _
  have at_ : ∀ i, i < vs.length → ∃ a, a ∈ ts ∧ ts[i]? = some a ∧ kdAt φ ts i = keyT1 φ a := fun i hi => by
    have hi' : i < ts.length := by rw [← hlen]; exact hi
    refine ⟨ts[i], List.getElem_mem hi', List.getElem?_eq_getElem hi', ?_⟩
    unfold kdAt
    rw [List.getD_eq_getElem?_getD, List.getElem?_eq_getElem hi']
    rfl
  have key : ∀ i a, ts[i]? = some a → φ [a] [] = .ok (kdAt φ ts i) [] ∧ flatT (kdAt φ ts i) = true := fun i a e => by
    have hk := keyOk_spec (List.all_eq_true.mp h3 a (List.mem_of_getElem? e))
    have : kdAt φ ts i = keyT1 φ a := by
      unfold kdAt
      rw [List.getD_eq_getElem?_getD, e]
      rfl
    rw [this]
    exact ⟨hk.1, hk.2.1⟩
  have ords : ∀ i j, i < vs.length → j < vs.length → ordD (toD (kdAt φ ts i)) (toD (kdAt φ ts j)) = some (ordB (kdAt φ ts i) (kdAt φ ts j)) ∧ (toD (kdAt φ ts i)).plain = true ∧ (toD (kdAt φ ts i)).depth ≤ 150 := fun i j hi hj => by
    obtain ⟨a, ma, _, ea⟩ := at_ i hi
    obtain ⟨b, mb, _, eb⟩ := at_ j hj
    have hk := keyOk_spec (List.all_eq_true.mp h3 a ma)
    have ho := List.all_eq_true.mp (List.all_eq_true.mp h4 a ma) b mb
    rw [ea, eb]
    refine ⟨?_, plain_toD _ (flat_plain _ hk.2.1), hk.2.2⟩
    unfold ordOk at ho
    unfold ordB
    cases e : ordD (toD (keyT1 φ a)) (toD (keyT1 φ b)) with
    | none => rw [e] at ho; cases ho
    | some c => rfl
  have un1 : X.A.in1.units = X.A.units + 1 := rfl
  have fresh : ∀ b, s.heap.objs.size ≤ b → X.K.lookup b = none := fun b hb => by
    cases e : X.K.lookup b with
    | none => rfl
    | some o => exact absurd (Heap.lt_size (I.kIn b o e)) (Nat.not_lt.mpr hb)
  have fin : ∀ (v : Value) (s' : Shared), (∃ x, vs[argBest (btK mx φ ts) (vs.length - 1)]? = some x ∧ L2.RelV x v) → Inv X pins σ H s' → EP X pins σ Q v s' := fun v s' ⟨x, ex, rx⟩ I' => by
    rw [hlen] at ex
    obtain ⟨x', ex', rx'⟩ := RepL.get rt hp
    rw [ex] at ex'
    cases ex'
    exact ⟨x, H, I', rx, q x rx'⟩
  cases mx with
  | false =>
    refine call_min_walkK (PySem.W.iter_listW (A := X.A.in1) (I.ok.hd hc) pl.isList fun s₂ e W st hfp hw hk => ⟨_, _, _, _, vs.length, _, _, _, _, btK false φ ts, rfl, walk_vals (A := X.A.in1) (I.ok.hd hc) s.heap.objs.size l (Nat.ne_of_lt ?_) vs, ⟨st.1, its, rv, st.2⟩, hfp, hn0,
      key_run (pins := pins) (σ := σ) (kd := kdAt φ ts) hFn hb hr hcx hFH hl rt h2 (I.fpOk (Nat.le_refl _) (I.hok.fresh (Nat.le_refl _))) (I.fpOk ?_ (I.hok.fresh ?_)) (fresh _ (Nat.le_refl _)) (fresh _ ?_) ?_ key ?_, ?_, fin⟩)
    · obtain ⟨o, n, e, _⟩ := pl; exact Heap.lt_size e
    · exact Nat.le_of_lt (hfp _ (by simp))
    · exact Nat.le_of_lt (hfp _ (by simp))
    · exact Nat.le_of_lt (hfp _ (by simp))
    · exact Nat.ne_of_gt (hfp _ (by simp))
    · intro i j s' a b hi hj ra rb
      obtain ⟨o1, o2, o3⟩ := ords i j hi hj
      obtain ⟨_, o4, o5⟩ := ords j i hj hi
      exact rcLt_ord _ _ _ _ _ _ _ _ _ ra rb o2 o4 (by rw [un1]; omega) o1
    · subst e; exact I.kept (t' := s.toks) hk
  | true =>
    refine call_max_walkK (PySem.W.iter_listW (A := X.A.in1) (I.ok.hd hc) pl.isList fun s₂ e W st hfp hw hk => ⟨_, _, _, _, vs.length, _, _, _, _, btK true φ ts, rfl, walk_vals (A := X.A.in1) (I.ok.hd hc) s.heap.objs.size l (Nat.ne_of_lt ?_) vs, ⟨st.1, its, rv, st.2⟩, hfp, hn0,
      key_run (pins := pins) (σ := σ) (kd := kdAt φ ts) hFn hb hr hcx hFH hl rt h2 (I.fpOk (Nat.le_refl _) (I.hok.fresh (Nat.le_refl _))) (I.fpOk ?_ (I.hok.fresh ?_)) (fresh _ (Nat.le_refl _)) (fresh _ ?_) ?_ key ?_, ?_, fin⟩)
    · obtain ⟨o, n, e, _⟩ := pl; exact Heap.lt_size e
    · exact Nat.le_of_lt (hfp _ (by simp))
    · exact Nat.le_of_lt (hfp _ (by simp))
    · exact Nat.le_of_lt (hfp _ (by simp))
    · exact Nat.ne_of_gt (hfp _ (by simp))
    · intro i j s' a b hi hj ra rb
      obtain ⟨o1, o2, o3⟩ := ords i j hi hj
      obtain ⟨o6, o4, o5⟩ := ords j i hj hi
      exact rcGt_ord _ _ _ _ _ _ _ _ _ ra rb o2 o4 (by rw [un1]; omega) o6
    · subst e; exact I.kept (t' := s.toks) hk
end
end TL

/-! the T-layer, 23: min(xs, key=def), max(xs, key=def), as expressions -/
namespace TL
open PySem PySem.Spec L2

section
variable {X : Cx} {W : WX} {CX : CXT} {k : Nat} {φ : Fn} {x y q : Str} {e : Expr} {ev : Ev} {p yp kp pos : Pos}
theorem t_minKey (mx : Bool) (C : CalP X.prog X.w X.K X.mg X.base CX k y [q] false φ) (hr : Room k X.A.in1) (hu : X.A.units + 160 < cLine) (hcx : ∀ outer D s s' e, ¬ CX outer D s (fun _ _ _ => False) e s') (hc : X.calm = true)
    (hgy : Gl X y) (hg : Gl X x) (hm : X.mg x = none) (hv : bootBuiltins x = some (.builtin (if mx = true then "max" else "min"))) (ha : TPE X W e ev)
    (hn : x ≠ "__name__" := by decide) (hdb : (x == ("__debug__" : Str)) = false := by decide) (hdy : (y == ("__debug__" : Str)) = false := by decide)
    (hs : starEach [e] X.env = (false, eval e X.env) :: starEach [] X.env := by rfl)
    (he : backTo pos (starEach [e] X.env) = (false, eval e X.env) :: backTo pos (starEach [] X.env) := by rfl) (hpl : (backTo pos (starEach [e] X.env)).any (·.1) = false := by rfl) :
    TPE X W (.Call (.Name x p) [e] [⟨some "key", .Name y yp, kp⟩] pos) (eMinK mx φ ev) := by
  obtain ⟨f, fd, F, hmf, hk, hb⟩ := C
  refine PE.weak (pe_callBK (cr_minKey mx F hb hr hu hcx hc) hg hm hv (pa_cons ha pa_nil (by exact hs)) (pk_cons (pe_glob hgy hmf (v := .ref f) rfl hdy) pk_nil) hn hdb he hpl) fun σ H Q ⟨G, loc, sh, ok, pp⟩ => ?_
  show lift X.K W ev σ H (fun x H1 => rMinK X mx φ f [x] [.ref f] H1 Q)
  refine ⟨G, loc, sh, ok, (post.bind (Rp := rpV X.K) pp).imp ?_⟩
  rintro v H1 ⟨G1, t, s1, l1, ok1, r1, p1⟩
  cases t with
  | lst ts =>
    obtain ⟨l, vs, rfl, h1, h2, h3⟩ := r1
    dsimp only at p1
    cases e : pickK mx φ ts with
    | none => rw [e] at p1; exact p1.elim
    | some t =>
      rw [e] at p1
      exact ⟨l, G1.F, G1.al, ts, vs, t, rfl, rfl, ok1.fh, .of (ok1.fh _ _ h1), h2, e, fun x rx => p1 x H1 G1 (GLe.refl _) ok1 rx⟩
  | _ => exact p1.elim
theorem hcx0 (outer : List Env) (D : Hp) (s s' : Shared) (e : Value) : ¬ CX0 outer D s (fun _ _ _ => False) e s' := fun h => h
end
/-- two levels a call: room for a def that a built-in calls -/
theorem fn_tl1 {P : Program} {w : World} {K : PySem.W.Frag} {mg : Str → Option Value} {base : Heap} {x qual : Str} {params : Arguments} {body : List Stmt} {scope : Scope} {dvs : List V} {kws : List (Str × V)} {f : Addr} {fd : FuncData} {CX : CXT} {N ps : List Str} {k : Nat} {m : Bool} {sv : Sv} (F : FunD K x qual params body scope dvs kws f fd) (S : FnScope N ps scope)
    (hbody : ∀ (cdv : Value) (A : Around) (outer : List Env) (s : Shared) (H : Hp) (E : XK), Room k (A.deeper (PyProof.Rows.envOfC qual scope s.heap.objs.size f cdv)) → Room k (A.deeper (PyProof.Rows.envOfC qual scope s.heap.objs.size f cdv)).in1 → TPSs (cxOf CX P w K mg base N qual scope f cdv A outer s H E) W0 m body sv) :
    FnOk P w K mg base CX (k + 2) f fd ps (spT K m ps.length (runB0 m N.length sv)) :=
  fn_tl0 (k := k + 1) F S fun cdv A outer s H E hr => hbody cdv A outer s H E (hr.mono (Nat.le_succ k)) hr.in1
end TL

/-! the T-layer, 24: a walk over a shared list that stays as it is -/
namespace TL
open PySem PySem.Spec L2
open Classical in
noncomputable def forC (tt : Tgt) (body : Sv) (k : Nat) (all : List T) : List T → Sv
  | [], l, s => if s[k]? = some (.lst all) then .nx l s else .bad
  | x :: xs, l, s => if s[k]? = some (.lst all) then match setT tt x l with
    | none => .bad
    | some l1 => match body l1 s with
      | .nx l2 s2 => forC tt body k all xs l2 s2
      | .ct l2 s2 => forC tt body k all xs l2 s2
      | .bk l2 s2 => .nx l2 s2
      | r => r
    else .bad
section
variable {X : Cx} {W : WX} {m : Bool} {tg iter : Expr} {it : EvL} {g : TG} {tt : Tgt} {body : List Stmt} {sb : Sv} {pos : Pos}
theorem items_cel {K : PySem.W.Frag} {G2 : Gh} {loc2 : Loc} {s2 : Sh} {σ2 : L2.St} {H2 : Hp} {k : Nat} {A : Addr} {items : List T} (ok : Ok K G2 loc2 s2 σ2 H2) (hA : G2.al[k]? = some A) (hs : s2[k]? = some (.lst items)) (i : Nat) :
    (∀ t, items[i]? = some t → (Itl K A).go i H2 ∧ ∀ x H3, (Itl K A).yld i H2 x H3 → ∃ G3, GLe G2 G3 ∧ Ok K G3 loc2 s2 σ2 H3 ∧ rep K G3 t x) ∧ (items.length ≤ i → (Itl K A).stop i H2) := by
  obtain ⟨a, ha, vs, h1, r, hz⟩ := ok.shr k _ hs
  rw [hA] at ha
  cases ha
  have hH : SqL K H2 A vs := .of h1
  refine ⟨fun t e => ?_, fun hi => ⟨vs, hH, by rw [RepL.length r]; exact hi⟩⟩
  obtain ⟨v, ev, rv⟩ := RepL.get r e
  refine ⟨⟨vs, v, hH, ev⟩, fun x H3 y => ?_⟩
  obtain ⟨rfl, y⟩ := y
  have : x = v := Option.some.inj ((y vs hH).symm.trans ev)
  subst this
  exact ⟨G2, GLe.refl _, ok, rv⟩
theorem forC_core {wi : TI} {D : Ends} {σ : L2.St} {H : Hp} {G : Gh} {loc : Loc} {sh : Sh} {k : Nat} {A : Addr} {items : List T} (ok1 : Ok X.K G loc sh σ H) (hA : G.al[k]? = some A) (hw : ∀ R : It → Hp → Prop, R (Itl X.K A) H → wi σ H R) (hg : TgSem X.K g tt) (p1 : postS X.K W m G (forC tt sb k items items loc sh) D) : tFor wi g (liftS X.K W m sb) D σ H := by
  refine hw _ ?_
  refine ⟨fun i n σ2 H2 => ∃ G2 loc2 s2, GLe G G2 ∧ Ok X.K G2 loc2 s2 σ2 H2 ∧ i ≤ items.length ∧ n = items.length - i ∧ postS X.K W m G2 (forC tt sb k items (items.drop i) loc2 s2) D,
    ⟨items.length, G, loc, sh, GLe.refl _, ok1, Nat.zero_le _, rfl, p1⟩, ?_⟩
  rintro i n σ2 H2 ⟨G2, loc2, s2, l2, ok2, hi, rfl, p2⟩
  have hs : s2[k]? = some (.lst items) := by
    cases hd : items.drop i with
    | nil => rw [hd] at p2; unfold forC at p2; by_cases c : s2[k]? = some (.lst items); exact c; rw [if_neg c] at p2; exact p2.elim
    | cons x r => rw [hd] at p2; unfold forC at p2; by_cases c : s2[k]? = some (.lst items); exact c; rw [if_neg c] at p2; exact p2.elim
  obtain ⟨ig, is⟩ := items_cel ok2 (l2.a _ _ hA) hs i
  by_cases hlt : i < items.length
  · have ei : items[i]? = some items[i] := List.getElem?_eq_getElem hlt
    obtain ⟨go, yl⟩ := ig _ ei
    refine .inr ⟨go, fun σ' H' => ∃ m', m' < items.length - i ∧ ∃ G2 loc2 s2, GLe G G2 ∧ Ok X.K G2 loc2 s2 σ' H' ∧ i + 1 ≤ items.length ∧ m' = items.length - (i + 1) ∧ postS X.K W m G2 (forC tt sb k items (items.drop (i + 1)) loc2 s2) D, fun σ' H' h => h, fun x H3 y => ?_⟩
    obtain ⟨G3, l3, ok3, r3⟩ := yl x H3 y
    rw [List.drop_eq_getElem_cons hlt] at p2
    unfold forC at p2
    rw [if_pos hs] at p2
    cases q : setT tt items[i] loc2 with
    | none => rw [q] at p2; exact p2.elim
    | some l1 =>
      rw [q] at p2
      refine hg G3 loc2 s2 σ2 H3 items[i] x l1 _ ok3 r3 q fun σ' ok' _ _ => ⟨G3, l1, s2, ok', ?_⟩
      have nxt : ∀ (l4 : Loc) (s4 : Sh), postS X.K W m G2 (forC tt sb k items (items.drop (i + 1)) l4 s4) D → ∀ σ' H' G', GLe G3 G' → Ok X.K G' l4 s4 σ' H' → ∃ m', m' < items.length - i ∧ ∃ G2 loc2 s2, GLe G G2 ∧ Ok X.K G2 loc2 s2 σ' H' ∧ i + 1 ≤ items.length ∧ m' = items.length - (i + 1) ∧ postS X.K W m G2 (forC tt sb k items (items.drop (i + 1)) loc2 s2) D :=
        fun l4 s4 p4 σ' H' G' l ok => ⟨_, by omega, G', l4, s4, l2.trans (l3.trans l), ok, hlt, rfl, postS.le (l3.trans l) p4⟩
      cases r : sb l1 s2 with
      | nx l4 s4 => simp only [r] at p2; exact nxt l4 s4 p2
      | ct l4 s4 => simp only [r] at p2; exact nxt l4 s4 p2
      | bk l4 s4 => simp only [r] at p2; exact fun σ' H' G' l ok => p2 σ' H' G' (l3.trans l) ok
      | rt t s4 => simp only [r] at p2; exact fun v H' G' l => p2 v H' G' (l3.trans l)
      | exc e l4 s4 => simp only [r] at p2; exact fun d σ' H' G' l => p2 d σ' H' G' (l3.trans l)
      | bad => simp only [r] at p2; exact p2
  · have e : i = items.length := by omega
    subst e
    refine .inl ⟨is (Nat.le_refl _), ?_⟩
    rw [List.drop_length] at p2
    unfold forC at p2
    rw [if_pos hs] at p2
    exact p2 σ2 H2 G2 (GLe.refl _) ok2
/-- for x in name: name a list, a tuple, a text, a dict, or a shared list that the body leaves as it is -/
noncomputable def sForC (i : Nat) (tt : Tgt) (body : Sv) : Sv := fun l s => match l.at i with
  | .t (.cel k) => match s[k]? with
    | some (.lst xs) => forC tt body k xs xs l s
    | _ => .bad
  | _ => sFor (itN i) tt body l s
theorem ts_forC {x : Str} {np : Pos} {i : Nat} (hW : Wopen X W) (hv' : PE X (.Name x np) (tVar i)) (hp : PassesOwn (model X.prog X.w) X.A X.env X.xe) (hc : X.calm = true) (hg : TgOk X tg g tt) (hb : TPSs X W m body sb) (hs : ∀ v, foldedSetIterable (.Name x np) X.env v = pure v := by intro _; rfl) : TPS X W m (.For tg (.Name x np) body [] pos) (sForC i tt sb) := by
  refine PS.weak (PS.or (ts_forN (pos := pos) hW hv' hp hc hg hb hs) (ps_for (pos := pos) hp hc (pi_list hv') hg.pg hb hs)) fun D σ H ⟨G, loc, sh, ok, p⟩ => ?_
  by_cases h : ∃ k, loc.at i = .t (.cel k)
  · obtain ⟨k, e⟩ := h
    unfold sForC at p
    rw [e] at p
    dsimp only at p
    cases es : sh[k]? with
    | none => rw [es] at p; exact p.elim
    | some so =>
      rw [es] at p
      cases so with
      | lst xs =>
        have hsl := ok.sl i
        rw [e] at hsl
        obtain ⟨v, e1, A, rfl, hA⟩ := hsl
        obtain ⟨A', hA', vs, h1, _⟩ := ok.shr k _ es
        rw [hA] at hA'
        cases hA'
        exact .inr (forC_core ok hA (fun R r => ⟨_, e1, A, rfl, ⟨vs, .of h1⟩, r⟩) hg.sem p)
      | _ => exact p.elim
  · refine .inl ⟨G, loc, sh, ok, ?_⟩
    have e : sForC i tt sb loc sh = sFor (itN i) tt sb loc sh := by
      unfold sForC
      cases e : loc.at i with
      | no => rfl
      | own x => rfl
      | t x =>
        cases x with
        | cel k => exact absurd ⟨k, e⟩ h
        | _ => rfl
    rw [← e]
    exact p
end
end TL

/-! the T-layer, 25: a list comprehension over a shared list that stays as it is -/
namespace TL
open PySem PySem.Spec L2
open Classical in
noncomputable def compC (tt : Tgt) (c : Et) (elt : Ev) (k : Nat) (all : List T) : List T → Loc → Sh → Res (List T)
  | [], _, s => if s[k]? = some (.lst all) then .ok [] s else .bad
  | x :: xs, l, s => if s[k]? = some (.lst all) then match setT tt x l with
    | none => .bad
    | some l1 => (c l1 s).bind fun b s1 => if b then (elt l1 s1).bind fun y s2 => (compC tt c elt k all xs l s2).bind fun ys s3 => .ok (y :: ys) s3 else compC tt c elt k all xs l s1
    else .bad
section
variable {X : Cx} {W : WX} {m : Bool} {elt tg iter : Expr} {ifs : List Expr} {scope : Scope} {own : List (Str × Nat)} {pos : Pos} {it : EvL} {g : TG} {tt : Tgt} {c : Et} {ee : Ev}
theorem compC_core {wi : TI} {vs : List Nat} {σ : L2.St} {H : Hp} {Q : VK} {G : Gh} {loc : Loc} {sh : Sh} {k : Nat} {A : Addr} {items : List T} (ok1 : Ok X.K G loc sh σ H) (hA : G.al[k]? = some A) (hw : ∀ R : It → Hp → Prop, R (Itl X.K A) H → wi σ H R) (hv : ∀ i, i ∈ tt.slots → i ∈ vs)
    (hg : TgSem X.K g tt) (hn : noOwn loc vs = true)
    (p1 : post (fun G H t v => OwnR X.K G loc σ H t v) X.K W G loc σ ((compC tt c ee k items items (wipeL loc vs) sh).noexc.bind dLst) Q) : tLc wi g (liftT X.K W0 c) (lift X.K W0 ee) vs σ H Q := by
  refine hw _ ?_
  intro D hD
  have nD := ok1.nob hD
  refine ⟨fun i n H2 => ∃ G2 s2 acc accT, GLe G G2 ∧ Ok X.K G2 loc s2 σ H2 ∧ Nob G2 loc σ D ∧ H2 D = some (.lst acc) ∧ repL X.K G2 accT acc ∧ i ≤ items.length ∧ n = items.length - i ∧
      post (fun G H t v => OwnR X.K G loc σ H t v) X.K W G2 loc σ ((compC tt c ee k items (items.drop i) (wipeL loc vs) s2).noexc.bind fun ys s => dLst (accT ++ ys) s) Q,
    ⟨items.length, G, sh, [], [], GLe.refl _, ok1.grow hD, nD, upd_same, rfl, Nat.zero_le _, rfl, p1⟩, ?_⟩
  rintro i n H2 ⟨G2, s2, acc, accT, l2, ok2, n2, h2, r2, hi, rfl, p2⟩
  have okP := ok2.prot n2 h2 (fun _ z => nomatch z)
  have okW := okP.wiped vs
  have hs : s2[k]? = some (.lst items) := by
    by_cases c : s2[k]? = some (.lst items)
    · exact c
    · cases hd : items.drop i with
      | nil => rw [hd] at p2; unfold compC at p2; rw [if_neg c] at p2; exact p2.elim
      | cons x r => rw [hd] at p2; unfold compC at p2; rw [if_neg c] at p2; exact p2.elim
  obtain ⟨ig, is⟩ := items_cel okW (show (G2.prot D (.lst acc)).al[k]? = some A from l2.a _ _ hA) hs i
  by_cases hlt : i < items.length
  · have ei : items[i]? = some items[i] := List.getElem?_eq_getElem hlt
    obtain ⟨go, yl⟩ := ig _ ei
    refine .inr ⟨go, fun H' => ∃ m', m' < items.length - i ∧ ∃ G2 s2 acc accT, GLe G G2 ∧ Ok X.K G2 loc s2 σ H' ∧ Nob G2 loc σ D ∧ H' D = some (.lst acc) ∧ repL X.K G2 accT acc ∧ i + 1 ≤ items.length ∧ m' = items.length - (i + 1) ∧
      post (fun G H t v => OwnR X.K G loc σ H t v) X.K W G2 loc σ ((compC tt c ee k items (items.drop (i + 1)) (wipeL loc vs) s2).noexc.bind fun ys s => dLst (accT ++ ys) s) Q, fun H' h => h, fun x H3 y => ?_⟩
    obtain ⟨G3, l3, ok3, r3⟩ := yl x H3 y
    rw [List.drop_eq_getElem_cons hlt] at p2
    unfold compC at p2
    rw [if_pos hs] at p2
    cases q : setT tt items[i] (wipeL loc vs) with
    | none => rw [q] at p2; exact p2.elim
    | some l1' =>
      rw [q] at p2
      refine hg G3 (wipeL loc vs) s2 (wipe σ vs) H3 items[i] x l1' _ ok3 r3 q fun σ' ok' hj hwp => ⟨?_, G3, l1', s2, ok', ?_⟩
      · have q1 := hwp vs hv
        rw [q1]
        have : ∀ ws : List Nat, (∀ w ∈ ws, w ∈ vs) → wipe (wipe σ vs) ws = wipe σ vs := by
          intro ws
          induction ws with
          | nil => intro _; rfl
          | cons w ws ih =>
            intro hws
            show (wipe (wipe σ vs) ws).set w none = _
            rw [ih fun z hz => hws z (by simp [hz])]
            apply List.ext_getElem?
            intro j
            by_cases e : w = j
            · subst e
              by_cases hl : w < (wipe σ vs).length
              · rw [List.getElem?_set_self hl]
                cases hx : (wipe σ vs)[w]? with
                | none => rw [List.getElem?_eq_none_iff] at hx; omega
                | some o =>
                  cases o with
                  | none => rfl
                  | some z => exact absurd (hws w (by simp)) (wipe_some hx).2
              · rw [List.set_eq_of_length_le (by omega)]
            · rw [List.getElem?_set_ne e]
        exact this vs fun _ h => h
      · -- the tests, the element
        have back : ∀ {G4 : Gh} {s4 : Sh} {H4 : Hp}, GLe G3 G4 → Ok X.K G4 l1' s4 σ' H4 → Ok X.K { G4 with B := G2.B } loc s4 σ H4 ∧ Nob { G4 with B := G2.B } loc σ D ∧ H4 D = some (.lst acc) ∧ GLe G2 { G4 with B := G2.B } := by
          intro G4 s4 H4 l4 ok4
          have le : GLe (G2.prot D (.lst acc)) G4 := l3.trans l4
          have u := okP.unwiped hn le ok4 (fun j hjv => by
            have := (hj j fun z => hjv (hv j z)).2
            rw [this, wipeL_at, if_neg hjv]) (fun j hjv => by
            have := (hj j fun z => hjv (hv j z)).1
            rw [this, wipe_at σ vs j hjv])
          obtain ⟨F4, al4, B4⟩ := G4
          have eB : B4 = upd G2.B D (.lst acc) := le.b
          subst eB
          obtain ⟨a1, a2, a3⟩ := Ok.unprot (G := ⟨F4, al4, G2.B⟩) u n2.b
          exact ⟨a1, a2, a3, le.f, le.a, rfl⟩
        have fin : ∀ {G4 : Gh} {s4 : Sh} {H4 : Hp} {acc' : List V} {accT' : List T}, GLe G2 G4 → Ok X.K G4 loc s4 σ H4 → Nob G4 loc σ D → H4 D = some (.lst acc') → repL X.K G4 accT' acc' →
            post (fun G H t v => OwnR X.K G loc σ H t v) X.K W G2 loc σ ((compC tt c ee k items (items.drop (i + 1)) (wipeL loc vs) s4).noexc.bind fun ys s => dLst (accT' ++ ys) s) Q → ∃ m', m' < items.length - i ∧ ∃ G2 s2 acc accT, GLe G G2 ∧ Ok X.K G2 loc s2 σ H4 ∧ Nob G2 loc σ D ∧ H4 D = some (.lst acc) ∧ repL X.K G2 accT acc ∧ i + 1 ≤ items.length ∧ m' = items.length - (i + 1) ∧
              post (fun G H t v => OwnR X.K G loc σ H t v) X.K W G2 loc σ ((compC tt c ee k items (items.drop (i + 1)) (wipeL loc vs) s2).noexc.bind fun ys s => dLst (accT ++ ys) s) Q :=
          fun l ok n h r p => ⟨_, by omega, _, _, _, _, l2.trans l, ok, n, h, r, hlt, rfl, post.le l p⟩
        have p3 := p2
        dsimp only at p3
        cases hc : c l1' s2 with
        | bad => rw [hc] at p3; exact p3.elim
        | exc x s => rw [hc] at p3; exact p3.elim
        | ok k s3 =>
          rw [hc] at p3
          rintro b H4 G4 l4 ok4 rfl
          cases b with
          | false =>
            refine iteF ?_
            obtain ⟨b1, b2, b3, b4⟩ := back l4 ok4
            exact fin b4 b1 b2 b3 (repL_le b4 r2) p3
          | true =>
            refine iteT ⟨G4, l1', s3, ok4, ?_⟩
            simp only [Res.bind_ok, if_true] at p3
            cases he : ee l1' s3 with
            | bad => rw [he] at p3; exact p3.elim
            | exc x s => rw [he] at p3; exact p3.elim
            | ok y s5 =>
              rw [he] at p3
              simp only [Res.bind_ok] at p3
              intro v H5 G5 l5 ok5 rv
              obtain ⟨b1, b2, b3, b4⟩ := back (l4.trans l5) ok5
              -- the length
              have hz : acc.length < sizeLine := by
                rw [RepL.length r2]
                cases hx : compC tt c ee k items (items.drop (i + 1)) (wipeL loc vs) s5 with
                | bad => rw [hx] at p3; exact p3.elim
                | exc x s => rw [hx] at p3; exact p3.elim
                | ok ys s6 =>
                  rw [hx] at p3
                  have p4 : post (fun G H t v => OwnR X.K G loc σ H t v) X.K W G2 loc σ (dLst (accT ++ y :: ys) s6) Q := p3
                  unfold dLst at p4
                  by_cases hs : (accT ++ y :: ys).length ≤ sizeLine
                  · rw [List.length_append, List.length_cons] at hs; omega
                  · rw [if_neg hs] at p4; exact p4.elim
              refine ⟨acc, b3, hz, ?_⟩
              refine fin (acc' := acc ++ [v]) (accT' := accT ++ [y]) b4 (b1.other b2 b3 (fun _ z => nomatch z)) b2 upd_same (RepL.append (repL_le b4 r2) (RepL.cons rv RepL.nil)) ?_
              have e : ∀ r : Res (List T), ((r.bind fun ys s3 => Res.ok (y :: ys) s3).noexc.bind fun ys s => dLst (accT ++ ys) s) = (r.noexc.bind fun ys s => dLst (accT ++ [y] ++ ys) s) := by
                intro r
                cases r with
                | ok ys s => simp [Res.bind, Res.noexc]
                | exc _ _ => rfl
                | bad => rfl
              rw [← e]
              exact p3
  · have e : i = items.length := by omega
    subst e
    refine .inl ⟨is (Nat.le_refl _), ?_⟩
    rw [List.drop_length] at p2
    unfold compC at p2
    rw [if_pos hs] at p2
    have p3 : post (fun G H t v => OwnR X.K G loc σ H t v) X.K W G2 loc σ (dLst (accT ++ []) s2) Q := p2
    rw [List.append_nil] at p3
    unfold dLst at p3
    by_cases hs : accT.length ≤ sizeLine
    · rw [if_pos hs] at p3
      exact p3 _ H2 G2 (GLe.refl _) ok2 ⟨D, rfl, n2.f, n2.b, n2.a, n2.s, acc, h2, r2, hs⟩
    · rw [if_neg hs] at p3; exact p3.elim
/-- [e for x in name if c], name also a shared list that stays as it is -/
noncomputable def eCompC (vs : List Nat) (i : Nat) (tt : Tgt) (c : Et) (elt : Ev) : Ev := fun l s => match l.at i with
  | .t (.cel k) => match s[k]? with
    | some (.lst xs) => if noOwn l vs then (compC tt c elt k xs xs (wipeL l vs) s).noexc.bind dLst else .bad
    | _ => .bad
  | _ => eComp vs (itN i) tt c elt l s
theorem t_compC {x : Str} {np : Pos} {i : Nat} (hW : Wopen X W) (hv' : PE X (.Name x np) (tVar i)) (hc : X.calm = true) (hN : X.N.Nodup) (ok : BlkOk X.N X.env.scope scope own) (hv : (tt.slots.all fun i => (own.map (·.2)).contains i) = true)
    (hgs : TgSem X.K g tt) (hg : ∀ (s : Shared) (H : Hp) (C : Addr) (cl : List (Str × Addr)) (fp : List Addr), PG (X.blk s H scope (compEnvC scope cl C X.env) fp) tg g)
    (ht : ∀ (s : Shared) (H : Hp) (C : Addr) (cl : List (Str × Addr)) (fp : List Addr), TPTs (X.blk s H scope (compEnvC scope cl C X.env) fp) W0 ifs c)
    (he : ∀ (s : Shared) (H : Hp) (C : Addr) (cl : List (Str × Addr)) (fp : List Addr), TPE (X.blk s H scope (compEnvC scope cl C X.env) fp) W0 elt ee)
    (hs : ∀ v, foldedSetIterable (.Name x np) X.env v = pure v := by intro _; rfl) : TPO X W (.ListComp elt [⟨tg, .Name x np, ifs, 0⟩] scope pos) (eCompC (own.map (·.2)) i tt c ee) := by
  have hsl : ∀ i, i ∈ tt.slots → i ∈ own.map (·.2) := fun i hi => by
    have := List.all_eq_true.mp hv i hi
    simpa using this
  refine PE.weak (PE.or (t_compN (pos := pos) hW hv' hc hN ok hv hgs hg ht he hs) (pe_lc (pos := pos) (wi := iList X.K (tVar i)) (g := g) (tt := liftT X.K W0 c) (te := lift X.K W0 ee) hc hN (pi_list hv') ok hg ht he hs)) fun σ H Q ⟨G, loc, sh, okk, p⟩ => ?_
  by_cases h : ∃ k, loc.at i = .t (.cel k)
  · obtain ⟨k, e⟩ := h
    unfold eCompC at p
    rw [e] at p
    dsimp only at p
    cases es : sh[k]? with
    | none => rw [es] at p; exact p.elim
    | some so =>
      rw [es] at p
      cases so with
      | lst xs =>
        have hsl' := okk.sl i
        rw [e] at hsl'
        obtain ⟨v, e1, A, rfl, hA⟩ := hsl'
        obtain ⟨A', hA', vs, h1, _⟩ := okk.shr k _ es
        rw [hA] at hA'
        cases hA'
        dsimp only at p
        by_cases hn : noOwn loc (own.map (·.2)) = true
        · rw [if_pos hn] at p
          exact .inr (compC_core okk hA (fun R r => ⟨_, e1, A, rfl, ⟨vs, .of h1⟩, r⟩) hsl hgs hn p)
        · rw [if_neg hn] at p; exact p.elim
      | _ => exact p.elim
  · refine .inl ⟨G, loc, sh, okk, ?_⟩
    have e : eCompC (own.map (·.2)) i tt c ee loc sh = eComp (own.map (·.2)) (itN i) tt c ee loc sh := by
      unfold eCompC
      cases e : loc.at i with
      | no => rfl
      | own x => rfl
      | t x =>
        cases x with
        | cel k => exact absurd ⟨k, e⟩ h
        | _ => rfl
    rw [← e]
    exact p
end
end TL

/-! the T-layer, 26: sorted() of a shared dict -/
namespace TL
open PySem PySem.Spec L2
def biSortC : List T → Sh → Res T
  | [.cel k], s => match s[k]? with
    | some (.dct kvs) => match keyStrs kvs with
      | some ks => if ks.length < 64 then .ok (.lst ((sortS ks).map T.str)) s else .bad
      | none => .bad
    | _ => .bad
  | ts, s => biSort ts s
theorem sv_sortC {K : PySem.W.Frag} : SvLO K (fun xs H Q => (rSortedS K xs H Q ∨ rSortD xs H Q) ∨ rSortO K xs H Q) biSortC := by
  intro W G loc sh σ H vs ts Q ok r p
  unfold biSortC at p
  split at p
  · rename_i k
    obtain ⟨v, rfl, a, rfl, hA⟩ := RepL.one r
    cases es : sh[k]? with
    | none => rw [es] at p; exact p.elim
    | some so =>
      rw [es] at p
      cases so with
      | dct kvs =>
        obtain ⟨a', hA', kv, h1, r1, hz⟩ := ok.shr k _ es
        rw [hA] at hA'
        cases hA'
        dsimp only at p
        cases e : keyStrs kvs with
        | none => rw [e] at p; exact p.elim
        | some ks =>
          rw [e] at p
          dsimp only at p
          by_cases hl : ks.length < 64
          · rw [if_pos hl] at p
            refine .inl (.inr ⟨a, kv, ks, rfl, .inl h1, (RepD.keys r1).trans (keyStrs_map e), hl, fun ys q q1 q2 q3 => ?_⟩)
            have e := sortS_is q1 q2
            subst e
            refine ok.newLO (RepL.ofStrs _ fun b hb' => keyStrs_ok (by assumption) hz b (q1.mem_iff.mp hb')) ?_ p q q3
            rw [List.length_map, q1.length_eq]
            exact small64 hl
          · rw [if_neg hl] at p; exact p.elim
      | _ => exact p.elim
  · exact sv_sortO W G loc sh σ H vs _ Q ok r p
end TL

namespace TL
open PySem L2

def dt_is_document_1 : List T := [.int 8, .int 60]
def gt_is_document_1_deep : List T → List T → List T := fun ts us => ts ++ ((us.drop 0).take 1 ++ ([.int 60]))
def gt_is_document_1_most : List T → List T → List T := fun ts us => ts ++ ([.int 8] ++ ((us.drop 0).take 1))
def gt_is_document_1_deep_most : List T → List T → List T := fun ts us => ts ++ ((us.drop 0).take 1 ++ ((us.drop 1).take 1))
def gt_is_document_1_most_deep : List T → List T → List T := fun ts us => ts ++ ((us.drop 1).take 1 ++ ((us.drop 0).take 1))
noncomputable def b_is_name : Sv := (sRet (eAnd (eA biIsI (aCons (eVar 0) (aCons (eC (.ty "str")) aNil))) (eAnd (eChain opLe opLe (eC (.int 1)) (eA biLen (aCons (eVar 0) aNil)) (eC (.int 8))) (eA biAll (aCons (eComp [1] (itN 0) (.nm 1) cYes (e2 opIn (eVar 1) (eC (.str "abcdefghijklmnopqrstuvwxyz")))) aNil)))))
noncomputable def b_is_plain : Sv := (sSeq (sIf (eT (eA biIsI (aCons (eVar 0) (aCons (eC (.ty "str")) aNil)))) (sRet (eAnd (e2 opLe (eA biLen (aCons (eVar 0) aNil)) (eC (.int 12))) (eA biAll (aCons (eComp [1] (itN 0) (.nm 1) cYes (e2 opIn (eVar 1) (eC (.str "abcdefghijklmnopqrstuvwxyz0123456789 ")))) aNil)))) sNil) (sRet (eOr (e2 opIsN (eVar 0) (eC .non)) (eAnd (eA biIsI (aCons (eVar 0) (aCons (eC (.ty "int")) aNil))) (eNot (eA biIsI (aCons (eVar 0) (aCons (eC (.ty "bool")) aNil))))))))
noncomputable def b_is_value (p_is_plain : Fn) (p_is_value : Fn) (p_is_name : Fn) : Sv := (sSeq (sIf (eT (eA biIsI (aCons (eVar 0) (aCons (eC (.ty "list")) aNil)))) (sRet (eA biAll (aCons (eComp [1] (itN 0) (.nm 1) cYes (eCall p_is_value (aCons (eVar 1) aNil))) aNil))) sNil) (sSeq (sIf (eT (eA biIsI (aCons (eVar 0) (aCons (eC (.ty "dict")) aNil)))) (sRet (eA biAll (aCons (eComp [2] (itN 0) (.nm 2) cYes (eAnd (eCall p_is_name (aCons (eVar 2) aNil)) (eCall p_is_value (aCons (e2 opIx (eVar 0) (eVar 2)) aNil)))) aNil))) sNil) (sRet (eCall p_is_plain (aCons (eVar 0) aNil)))))
noncomputable def b_within : Sv := (sSeq (sIf (eT (eA biIsI (aCons (eVar 0) (aCons (eC (.ty "list")) aNil)))) (sRet (eVar 0)) sNil) (sRet (eIf (eT (eA biIsI (aCons (eVar 0) (aCons (eC (.ty "dict")) aNil)))) (eComp [1] (itN 0) (.nm 1) cYes (e2 opIx (eVar 0) (eVar 1))) (eA dLst aNil))))
noncomputable def b_depth (p_within : Fn) (p_depth : Fn) : Sv := (sRet (eAK biMaxDf (aCons (eComp [1] (itV (eCall p_within (aCons (eVar 0) aNil))) (.nm 1) cYes (e2 opAdd (eC (.int 1)) (eCall p_depth (aCons (eVar 1) aNil)))) aNil) (aCons (eC (.int 0)) aNil)))
noncomputable def b_size (p_within : Fn) (p_size : Fn) : Sv := (sRet (eAK biSumS (aCons (eComp [1] (itV (eCall p_within (aCons (eVar 0) aNil))) (.nm 1) cYes (e2 opAdd (eC (.int 1)) (eCall p_size (aCons (eVar 1) aNil)))) aNil) (aCons (eC (.int 0)) aNil)))
noncomputable def b_is_document (p_size : Fn) (p_depth : Fn) (p_is_value : Fn) : Sv := (sSeq (sIf (cOr (cNot (eT (eA biIsI (aCons (eVar 0) (aCons (eC (.ty "dict")) aNil))))) (cNot (eT (eCall p_is_value (aCons (eVar 0) aNil))))) (sRet (eC (.bl false))) sNil) (sRet (eAnd (e2 opLe (eCall p_depth (aCons (eVar 0) aNil)) (eVar 1)) (e2 opLe (eCall p_size (aCons (eVar 0) aNil)) (eVar 2)))))
noncomputable def b__law_open : Sv := (sRet (eA dLst (aCons (eA biList (aCons (eSl opSl (eVar 0) oNone (oSome (eC (.int 63)))) aNil)) (aCons (eC (.int 0)) (aCons (eC (.int 0)) (aCons (eC (.int 43)) aNil))))))
noncomputable def b__law_pull : Sv := (sSeq (sIf (cAnd (eT (e2 opLt (e2 opIx (eVar 0) (eC (.int 2))) (eVar 1))) (eT (e2 opLt (e2 opIx (eVar 0) (eC (.int 1))) (eA biLen (aCons (e2 opIx (eVar 0) (eC (.int 0))) aNil))))) (sSeq (sAsg 2 (e2 opIx (e2 opIx (eVar 0) (eC (.int 0))) (e2 opIx (eVar 0) (eC (.int 1))))) (sSeq (sPut 0 (eC (.int 1)) (e2 opAdd (e2 opIx (eVar 0) (eC (.int 1))) (eC (.int 1)))) (sSeq (sPut 0 (eC (.int 2)) (eC (.int 0))) (sIf (eT (e2 opGe (eVar 2) (e2 opPow (eC (.int 10)) (eC (.int 18))))) (sPut 0 (eC (.int 2)) (eVar 2)) (sPut 0 (eC (.int 3)) (e2 opMod (e2 opAdd (e2 opAdd (e2 opMul (e2 opIx (eVar 0) (eC (.int 3))) (eC (.int 69621))) (e2 opMul (e2 opMod (eVar 2) (eC (.int 1000000007))) (eC (.int 39373)))) (eC (.int 29))) (eC (.int 2147483629)))))))) sNil) (sSeq (sIf (eT (e2 opGe (e2 opIx (eVar 0) (eC (.int 2))) (eVar 1))) (sSeq (sAsg 3 (e2 opMod (e2 opIx (eVar 0) (eC (.int 2))) (eVar 1))) (sSeq (sPut 0 (eC (.int 2)) (e2 opFdiv (e2 opIx (eVar 0) (eC (.int 2))) (eVar 1))) (sRet (eVar 3)))) sNil) (sSeq (sPut 0 (eC (.int 3)) (e2 opMod (e2 opAdd (e2 opAdd (e2 opPow (e2 opIx (eVar 0) (eC (.int 3))) (eC (.int 3))) (e2 opMul (e2 opIx (eVar 0) (eC (.int 3))) (eC (.int 40692)))) (eC (.int 1013904243))) (eC (.int 2147483629)))) (sRet (e2 opMod (e2 opAdd (e2 opFdiv (e2 opIx (eVar 0) (eC (.int 3))) (eC (.int 67))) (e2 opMul (e2 opMod (e2 opIx (eVar 0) (eC (.int 3))) (eC (.int 8191))) (eC (.int 31)))) (eVar 1))))))
noncomputable def b__law_any (p__law_pull : Fn) : Sv := (sRet (e2 opIx (eVar 1) (eCall p__law_pull (aCons (eVar 0) (aCons (eA biLen (aCons (eVar 1) aNil)) aNil)))))
noncomputable def b__law_num : Sv := (sRet (eAnd (eA biIsI (aCons (eVar 0) (aCons (eC (.ty "int")) aNil))) (eNot (eA biIsI (aCons (eVar 0) (aCons (eC (.ty "bool")) aNil))))))
noncomputable def b__law_like (p__law_like : Fn) (p__law_num : Fn) : Sv := (sSeq (sIf (eT (e2 opIsN (eVar 1) (eC .non))) (sRet (e2 opIsN (eVar 0) (eC .non))) sNil) (sSeq (sIf (eT (eA biIsI (aCons (eVar 1) (aCons (eC (.ty "bool")) aNil)))) (sRet (eAnd (eA biIsI (aCons (eVar 0) (aCons (eC (.ty "bool")) aNil))) (e2 opEq (eVar 0) (eVar 1)))) sNil) (sSeq (sIf (eT (eA biIsI (aCons (eVar 1) (aCons (eC (.ty "int")) aNil)))) (sRet (eAnd (eCall p__law_num (aCons (eVar 0) aNil)) (e2 opEq (eVar 0) (eVar 1)))) sNil) (sSeq (sIf (eT (eA biIsI (aCons (eVar 1) (aCons (eC (.ty "str")) aNil)))) (sRet (eAnd (eA biIsI (aCons (eVar 0) (aCons (eC (.ty "str")) aNil))) (e2 opEq (eVar 0) (eVar 1)))) sNil) (sSeq (sIf (eT (eA biIsI (aCons (eVar 1) (aCons (eC (.ty "dict")) aNil)))) (sSeq (sIf (cOr (cNot (eT (eA biIsI (aCons (eVar 0) (aCons (eC (.ty "dict")) aNil))))) (eT (e2 opNe (eA biSort (aCons (eVar 0) aNil)) (eA biSort (aCons (eVar 1) aNil))))) (sRet (eC (.bl false))) sNil) (sRet (eA biAll (aCons (eComp [2] (itN 1) (.nm 2) cYes (eCall p__law_like (aCons (e2 opIx (eVar 0) (eVar 2)) (aCons (e2 opIx (eVar 1) (eVar 2)) aNil)))) aNil)))) sNil) (sSeq (sIf (cOr (eT (e2 opNe (eA biIsI (aCons (eVar 1) (aCons (eC (.ty "tuple")) aNil))) (eA biIsI (aCons (eVar 0) (aCons (eC (.ty "tuple")) aNil))))) (eT (e2 opNe (eA biIsI (aCons (eVar 1) (aCons (eC (.ty "list")) aNil))) (eA biIsI (aCons (eVar 0) (aCons (eC (.ty "list")) aNil)))))) (sRet (eC (.bl false))) sNil) (sRet (eAnd (e2 opEq (eA biLen (aCons (eVar 0) aNil)) (eA biLen (aCons (eVar 1) aNil))) (eA biAll (aCons (eComp [3] (itA rg1 (aCons (eA biLen (aCons (eVar 1) aNil)) aNil)) (.nm 3) cYes (eCall p__law_like (aCons (e2 opIx (eVar 0) (eVar 3)) (aCons (e2 opIx (eVar 1) (eVar 3)) aNil)))) aNil))))))))))
noncomputable def b__law_copy (p__law_copy : Fn) : Sv := (sSeq (sIf (eT (eA biIsI (aCons (eVar 0) (aCons (eC (.ty "list")) aNil)))) (sRet (eComp [1] (itN 0) (.nm 1) cYes (eCall p__law_copy (aCons (eVar 1) aNil)))) sNil) (sSeq (sIf (eT (eA biIsI (aCons (eVar 0) (aCons (eC (.ty "tuple")) aNil)))) (sRet (eA biTuple (aCons (eComp [1] (itN 0) (.nm 1) cYes (eCall p__law_copy (aCons (eVar 1) aNil))) aNil))) sNil) (sSeq (sIf (eT (eA biIsI (aCons (eVar 0) (aCons (eC (.ty "dict")) aNil)))) (sRet (eA biDict (aCons (eComp [2] (itN 0) (.nm 2) cYes (eA dTup (aCons (eVar 2) (aCons (eCall p__law_copy (aCons (e2 opIx (eVar 0) (eVar 2)) aNil)) aNil)))) aNil))) sNil) (sRet (eVar 0)))))
noncomputable def b__law_name (p__law_pull : Fn) : Sv := (sSeq (sIf (eT (e2 opEq (eCall p__law_pull (aCons (eVar 0) (aCons (eC (.int 9)) aNil))) (eC (.int 0)))) (sRet (e2 opMul (e2 opIx (eC (.str "abcdefghijklmnopqrstuvwxyz")) (eCall p__law_pull (aCons (eVar 0) (aCons (eC (.int 26)) aNil)))) (e2 opAdd (eC (.int 1)) (eCall p__law_pull (aCons (eVar 0) (aCons (eC (.int 8)) aNil)))))) sNil) (sRet (e2 opIx (eA dLst (aCons (eC (.str "a")) (aCons (eC (.str "b")) (aCons (eC (.str "c")) (aCons (eC (.str "a")) (aCons (eC (.str "b")) (aCons (eC (.str "ab")) aNil))))))) (eCall p__law_pull (aCons (eVar 0) (aCons (eC (.int 6)) aNil))))))
noncomputable def b__law_plain (p__law_any : Fn) (p__law_pull : Fn) : Sv := (sSeq (sAsg 1 (eCall p__law_pull (aCons (eVar 0) (aCons (eC (.int 9)) aNil)))) (sSeq (sIf (eT (e2 opLt (eVar 1) (eC (.int 5)))) (sRet (eIf (eT (e2 opEq (eVar 1) (eC (.int 0)))) (eC .non) (e2 opSub (eCall p__law_pull (aCons (eVar 0) (aCons (eC (.int 6)) aNil))) (eC (.int 1))))) sNil) (sSeq (sAsg 2 (eA dLst (aCons (eC (.str "")) (aCons (eC (.str "a")) (aCons (eC (.str "b")) (aCons (eC (.str "ab")) (aCons (eC (.str "5")) (aCons (eC (.str "x y")) (aCons (eC (.str "zzzzzzzzzzzz")) (aCons (eC (.str " ")) aNil)))))))))) (sSeq (sIf (eT (e2 opEq (eVar 1) (eC (.int 5)))) (sAsg 2 (eA dLst (aCons (e2 opSub (e2 opPow (eC (.int 10)) (eC (.int 29))) (eC (.int 1))) (aCons (e2 opSub (eC (.int 0)) (e2 opPow (eC (.int 10)) (eC (.int 29)))) (aCons (eC (.int 100)) (aCons (e1 opNeg (eC (.int 7))) (aCons (eCall p__law_pull (aCons (eVar 0) (aCons (e2 opPow (eC (.int 10)) (eC (.int 9))) aNil))) aNil))))))) sNil) (sSeq (sIf (eT (e2 opEq (eVar 1) (eC (.int 6)))) (sSeq (sAsg 3 (eCall p__law_any (aCons (eVar 0) (aCons (eA dLst (aCons (eC (.str "whiteoak x")) (aCons (eC (.str "aaaaaaaaaaa")) (aCons (eC (.str "x y x y")) (aCons (eC (.str "0000000000")) aNil))))) aNil)))) (sAsg 2 (eA dLst (aCons (eSl opSl (e2 opAdd (e2 opAdd (eSl opSl (eVar 3) oNone (oSome (eCall p__law_pull (aCons (eVar 0) (aCons (eC (.int 12)) aNil))))) (e2 opIx (eC (.str "abcxyz019 ")) (eCall p__law_pull (aCons (eVar 0) (aCons (eC (.int 10)) aNil))))) (eVar 3)) oNone (oSome (eC (.int 12)))) aNil)))) sNil) (sRet (eCall p__law_any (aCons (eVar 0) (aCons (eVar 2) aNil)))))))))
noncomputable def b__law_value (p__law_pull : Fn) (p__law_value : Fn) (p__law_record : Fn) (p__law_plain : Fn) : Sv := (sSeq (sAsg 2 (eCall p__law_pull (aCons (eVar 0) (aCons (eC (.int 7)) aNil)))) (sSeq (sIf (cOr (eT (e2 opEq (eVar 1) (eC (.int 0)))) (eT (e2 opLt (eVar 2) (eC (.int 4))))) (sRet (eCall p__law_plain (aCons (eVar 0) aNil))) sNil) (sSeq (sIf (eT (e2 opEq (eVar 2) (eC (.int 4)))) (sRet (eCall p__law_record (aCons (eVar 0) (aCons (e2 opSub (eVar 1) (eC (.int 1))) (aCons (eC (.int 3)) aNil))))) sNil) (sRet (eComp [3] (itA rg1 (aCons (eCall p__law_pull (aCons (eVar 0) (aCons (eC (.int 4)) aNil))) aNil)) (.nm 3) cYes (eCall p__law_value (aCons (eVar 0) (aCons (e2 opSub (eVar 1) (eC (.int 1))) aNil))))))))
noncomputable def b__law_record (p__law_pull : Fn) (p__law_name : Fn) (p__law_value : Fn) : Sv := (sSeq (sAsgO 3 (eC (.dct []))) (sSeq (sFor (itA rg1 (aCons (eCall p__law_pull (aCons (eVar 0) (aCons (e2 opAdd (eVar 2) (eC (.int 1))) aNil))) aNil)) (.nm 4) (sPut 3 (eCall p__law_name (aCons (eVar 0) aNil)) (eCall p__law_value (aCons (eVar 0) (aCons (eVar 1) aNil))))) (sRetV 3)))
noncomputable def b__law_size (p__law_extent : Fn) : Sv := (sRet (e2 opIx (eCall p__law_extent (aCons (eVar 0) aNil)) (eC (.int 0))))
noncomputable def b__law_deep (p__law_extent : Fn) : Sv := (sRet (e2 opIx (eCall p__law_extent (aCons (eVar 0) aNil)) (eC (.int 1))))
noncomputable def b__law_path_ok : Sv := (sSeq (sIf (cNot (eT (eChain opLe opLe (eVar 1) (eA biLen (aCons (eVar 0) aNil)) (eVar 2)))) (sRet (eC (.bl false))) sNil) (sRet (eA biAll (aCons (eComp [4] (itN 0) (.nm 4) cYes (eAnd (eChain opLe opLe (eC (.int 1)) (eA biLen (aCons (eVar 4) aNil)) (eC (.int 8))) (eA biAll (aCons (eComp [3] (itN 4) (.nm 3) cYes (eChain opLe opLe (eC (.str "a")) (eVar 3) (eC (.str "z")))) aNil)))) aNil))))
noncomputable def b__law_text_ok : Sv := (sRet (eAnd (e2 opLe (eA biLen (aCons (eVar 0) aNil)) (eC (.int 12))) (eA biAll (aCons (eComp [1] (itN 0) (.nm 1) cYes (e2 opIn (eVar 1) (eC (.str "abcdefghijklmnopqrstuvwxyz0123456789 ")))) aNil))))
noncomputable def b__law_value_ok (p__law_text_ok : Fn) (p__law_value_ok : Fn) (p__law_path_ok : Fn) : Sv := (sSeq (sIf (eT (eA biIsI (aCons (eVar 0) (aCons (eC (.ty "list")) aNil)))) (sRet (eA biAll (aCons (eComp [1] (itN 0) (.nm 1) cYes (eCall p__law_value_ok (aCons (eVar 1) aNil))) aNil))) sNil) (sSeq (sIf (eT (eA biIsI (aCons (eVar 0) (aCons (eC (.ty "dict")) aNil)))) (sRet (eA biAll (aCons (eComp [2] (itN 0) (.nm 2) cYes (eAnd (eCall p__law_path_ok (aCons (eA dTup (aCons (eVar 2) aNil)) (aCons (eC (.int 1)) (aCons (eC (.int 1)) aNil)))) (eCall p__law_value_ok (aCons (e2 opIx (eVar 0) (eVar 2)) aNil)))) aNil))) sNil) (sRet (eIf (eT (eA biIsI (aCons (eVar 0) (aCons (eC (.ty "str")) aNil)))) (eCall p__law_text_ok (aCons (eVar 0) aNil)) (eC (.bl true))))))
noncomputable def b__law_extent (p__law_extent : Fn) : Sv := (sSeq (sIf (eT (eA biIsI (aCons (eVar 0) (aCons (eC (.ty "dict")) aNil)))) (sAsg 0 (eComp [1] (itN 0) (.nm 1) cYes (e2 opIx (eVar 0) (eVar 1)))) sNil) (sSeq (sAsg 2 (eIf (eT (eA biIsI (aCons (eVar 0) (aCons (eC (.ty "list")) aNil)))) (eComp [3] (itN 0) (.nm 3) cYes (eCall p__law_extent (aCons (eVar 3) aNil))) (eA dLst aNil))) (sRet (eA dTup (aCons (eA biSum (aCons (eComp [4, 5] (itN 2) (.tp [4, 5]) cYes (e2 opAdd (eC (.int 1)) (eVar 4))) aNil)) (aCons (eAK biMaxDf (aCons (eComp [4, 5] (itN 2) (.tp [4, 5]) cYes (e2 opAdd (eC (.int 1)) (eVar 5))) aNil) (aCons (eC (.int 0)) aNil)) aNil))))))
noncomputable def b__law_spoilt_value (p__law_any : Fn) (p__law_pull : Fn) (p__law_spoilt_value : Fn) : Sv := (sSeq (sIf (cAnd (eT (eA biIsI (aCons (eVar 1) (aCons (eC (.ty "list")) aNil)))) (eT (e2 opNe (eVar 1) (eA dLst aNil)))) (sSeq (sAsg 2 (eCall p__law_pull (aCons (eVar 0) (aCons (eA biLen (aCons (eVar 1) aNil)) aNil)))) (sRet (e2 opAdd (e2 opAdd (eSl opSl (eVar 1) oNone (oSome (eVar 2))) (eA dLst (aCons (eCall p__law_spoilt_value (aCons (eVar 0) (aCons (e2 opIx (eVar 1) (eVar 2)) aNil))) aNil))) (eSl opSl (eVar 1) (oSome (e2 opAdd (eVar 2) (eC (.int 1)))) oNone)))) sNil) (sSeq (sIf (cAnd (eT (eA biIsI (aCons (eVar 1) (aCons (eC (.ty "dict")) aNil)))) (cAnd (eT (e2 opNe (eVar 1) (eC (.dct [])))) (eT (e2 opGt (eCall p__law_pull (aCons (eVar 0) (aCons (eC (.int 3)) aNil))) (eC (.int 0)))))) (sSeq (sAsgO 3 (eA biDict (aCons (eVar 1) aNil))) (sSeq (sAsg 4 (eCall p__law_any (aCons (eVar 0) (aCons (eA biSort (aCons (eVar 1) aNil)) aNil)))) (sSeq (sPut 3 (eVar 4) (eCall p__law_spoilt_value (aCons (eVar 0) (aCons (e2 opIx (eVar 1) (eVar 4)) aNil)))) (sRetV 3)))) sNil) (sSeq (sIf (eT (eA biIsI (aCons (eVar 1) (aCons (eC (.ty "dict")) aNil)))) (sRet (eDisp [((eCall p__law_any (aCons (eVar 0) (aCons (eA dLst (aCons (eC (.str "")) (aCons (eC (.str "A")) (aCons (eC (.str "abcdefghi")) (aCons (eC (.str "a b")) (aCons (eC (.str "a1")) aNil)))))) aNil))), (eC (.int 1)))])) sNil) (sRet (eCall p__law_any (aCons (eVar 0) (aCons (eA dLst (aCons (eC (.str "A")) (aCons (eC (.str "a-b")) (aCons (eC (.str "abcdefghijklm")) (aCons (eC (.str "!")) (aCons (eC (.str "x\n")) aNil)))))) aNil)))))))
noncomputable def b__law_chain (p__law_pull : Fn) (p__law_plain : Fn) : Sv := (sSeq (sAsg 2 (eCall p__law_plain (aCons (eVar 0) aNil))) (sSeq (sFor (itA rg1 (aCons (eVar 1) aNil)) (.nm 3) (sAsg 2 (e2 opIx (eA dLst (aCons (eA dLst (aCons (eVar 2) aNil)) (aCons (eDisp [((eC (.str "a")), (eVar 2))]) aNil))) (eCall p__law_pull (aCons (eVar 0) (aCons (eC (.int 2)) aNil)))))) (sRet (eDisp [((eC (.str "b")), (eVar 2))]))))
noncomputable def b_law_k01 (p__law_like : Fn) (p_is_document : Fn) (p_is_name : Fn) (p__law_path_ok : Fn) (p__law_name : Fn) (p__law_any : Fn) (p__law_size : Fn) (p__law_deep : Fn) (p__law_pull : Fn) (p_is_plain : Fn) (p_is_value : Fn) (p__law_value_ok : Fn) (p__law_copy : Fn) (p__law_chain : Fn) (p__law_spoilt_value : Fn) (p__law_value : Fn) (p__law_open : Fn) : Sv := (sSeq (sAsg 1 (eShare (eCall p__law_open (aCons (eVar 0) aNil)))) (sSeq (sFor (itA rg1 (aCons (eC (.int 4)) aNil)) (.nm 2) (sSeq (sAsg 3 (eCall p__law_value (aCons (eVar 1) (aCons (eC (.int 3)) aNil)))) (sSeq (sIf (eT (e2 opEq (eCall p__law_pull (aCons (eVar 1) (aCons (eC (.int 2)) aNil))) (eC (.int 0)))) (sAsg 3 (eCall p__law_spoilt_value (aCons (eVar 1) (aCons (eVar 3) aNil)))) sNil) (sSeq (sIf (eT (e2 opEq (eCall p__law_pull (aCons (eVar 1) (aCons (eC (.int 3)) aNil))) (eC (.int 0)))) (sAsg 3 (eCall p__law_chain (aCons (eVar 1) (aCons (e2 opAdd (eC (.int 5)) (eCall p__law_pull (aCons (eVar 1) (aCons (eC (.int 4)) aNil)))) aNil)))) sNil) (sSeq (sIf (eT (e2 opEq (eCall p__law_pull (aCons (eVar 1) (aCons (eC (.int 5)) aNil))) (eC (.int 0)))) (sAsg 3 (eDisp [((eC (.str "a")), (eComp [4] (itA rg1 (aCons (e2 opAdd (eC (.int 57)) (eCall p__law_pull (aCons (eVar 1) (aCons (eC (.int 5)) aNil)))) aNil)) (.nm 4) cYes (eVar 4)))])) sNil) (sSeq (sAsg 5 (eCall p__law_copy (aCons (eVar 3) aNil))) (sSeq (sAsg 6 (eCall p__law_value_ok (aCons (eVar 3) aNil))) (sSeq (sAsg 7 (eAnd (eVar 6) (eNot (eIsT ["list", "dict"] (eVar 3))))) (sSeq (sAsg 8 (eA dLst (aCons (eCall p_is_value (aCons (eVar 5) aNil)) (aCons (eCall p_is_plain (aCons (eVar 5) aNil)) (aCons (eCall (fun ts => p_is_document (ts ++ dt_is_document_1)) (aCons (eVar 5) aNil)) aNil))))) (sSeq (sAsg 9 (eAnd (eVar 6) (eA biIsI (aCons (eVar 3) (aCons (eC (.ty "dict")) aNil))))) (sSeq (sIf (cNot (eT (eCall p__law_like (aCons (eVar 8) (aCons (eA dLst (aCons (eVar 6) (aCons (eVar 7) (aCons (eAnd (eVar 9) (eAnd (e2 opLe (eCall p__law_deep (aCons (eVar 3) aNil)) (eC (.int 8))) (e2 opLe (eCall p__law_size (aCons (eVar 3) aNil)) (eC (.int 60))))) aNil)))) aNil))))) (sRet (eC (.bl false))) sNil) (sSeq (sPar 10 11 (aCons (e2 opAdd (eC (.int 1)) (eCall p__law_pull (aCons (eVar 1) (aCons (eC (.int 9)) aNil)))) (aCons (eCall p__law_pull (aCons (eVar 1) (aCons (eC (.int 63)) aNil))) aNil))) (sSeq (sAsg 12 (eAnd (eVar 9) (eAnd (e2 opLe (eCall p__law_deep (aCons (eVar 3) aNil)) (eVar 10)) (e2 opLe (eCall p__law_size (aCons (eVar 3) aNil)) (eVar 11))))) (sSeq (sIf (cOr (cNot (eT (eCall p__law_like (aCons (eCallK p_is_document gt_is_document_1_most_deep (aCons (eVar 5) aNil) (aCons (eVar 11) (aCons (eVar 10) aNil))) (aCons (eVar 12) aNil))))) (cNot (eT (eCall p__law_like (aCons (eVar 5) (aCons (eVar 3) aNil)))))) (sRet (eC (.bl false))) sNil) (sSeq (sIf (cNot (eT (eCall p__law_like (aCons (eCall p_is_name (aCons (eVar 5) aNil)) (aCons (eAnd (eA biIsI (aCons (eVar 3) (aCons (eC (.ty "str")) aNil))) (eCall p__law_path_ok (aCons (eA dTup (aCons (eVar 3) aNil)) (aCons (eC (.int 1)) (aCons (eC (.int 1)) aNil))))) aNil))))) (sRet (eC (.bl false))) sNil) (sSeq (sAsg 13 (eCall p__law_any (aCons (eVar 1) (aCons (eA dLst (aCons (eCall p__law_name (aCons (eVar 1) aNil)) (aCons (eC (.str "")) (aCons (eC (.str "abcdefghi")) (aCons (eC (.str "A")) (aCons (eC (.str "a b")) (aCons (eC (.str "a1")) (aCons (eC (.str "zzzzzzzz")) aNil)))))))) aNil)))) (sIf (cNot (eT (eCall p__law_like (aCons (eCall p_is_name (aCons (eVar 13) aNil)) (aCons (eCall p__law_path_ok (aCons (eA dTup (aCons (eVar 13) aNil)) (aCons (eC (.int 1)) (aCons (eC (.int 1)) aNil)))) aNil))))) (sRet (eC (.bl false))) sNil))))))))))))))))) (sSeq (sAsg 8 (eA dLst (aCons (eCall (fun ts => p_is_document (ts ++ dt_is_document_1)) (aCons (eA dLst aNil) aNil)) (aCons (eCall (fun ts => p_is_document (ts ++ dt_is_document_1)) (aCons (eC (.dct [])) aNil)) (aCons (eCallK p_is_document gt_is_document_1_deep_most (aCons (eC (.dct [])) aNil) (aCons (eC (.int 0)) (aCons (eC (.int 0)) aNil))) (aCons (eC (.int 8)) (aCons (eC (.int 60)) aNil))))))) (sSeq (sAsg 14 (eComp [3] (itV (eA dLst (aCons (eC (.int 5)) (aCons (eC .non) (aCons (eA dLst aNil) (aCons (eA dLst (aCons (eC (.str "a")) aNil)) (aCons (eDisp [((eC (.str "a")), (eC (.int 1)))]) (aCons (eC (.str "a")) aNil)))))))) (.nm 3) cYes (eCall p_is_name (aCons (eVar 3) aNil)))) (sSeq (sAsg 15 (eDisp [((eC (.str "a")), (eA dLst (aCons (eA dLst (aCons (eC (.int 1)) aNil)) aNil)))])) (sSeq (sAsg 16 (eA dLst (aCons (eCallK p_is_document gt_is_document_1_most (aCons (eVar 15) aNil) (aCons (eC (.int 2)) aNil)) (aCons (eCallK p_is_document gt_is_document_1_most (aCons (eVar 15) aNil) (aCons (eC (.int 3)) aNil)) aNil)))) (sSeq (sAsg 16 (e2 opAdd (eVar 16) (eA dLst (aCons (eCallK p_is_document gt_is_document_1_deep (aCons (eVar 15) aNil) (aCons (eC (.int 2)) aNil)) (aCons (eCallK p_is_document gt_is_document_1_deep (aCons (eVar 15) aNil) (aCons (eC (.int 3)) aNil)) aNil))))) (sSeq (sIf (cNot (eT (eCall p__law_like (aCons (eVar 16) (aCons (eA dLst (aCons (eC (.bl false)) (aCons (eC (.bl true)) (aCons (eC (.bl false)) (aCons (eC (.bl true)) aNil))))) aNil))))) (sRet (eC (.bl false))) sNil) (sRet (eCall p__law_like (aCons (e2 opAdd (eVar 8) (eVar 14)) (aCons (e2 opAdd (e2 opAdd (eA dLst (aCons (eC (.bl false)) (aCons (eC (.bl true)) (aCons (eC (.bl true)) (aCons (eC (.int 8)) (aCons (eC (.int 60)) aNil)))))) (e2 opMul (eA dLst (aCons (eC (.bl false)) aNil)) (eC (.int 5)))) (eA dLst (aCons (eC (.bl true)) aNil))) aNil))))))))))))
noncomputable def b_copied_s (p_copied : Fn) : Sv := (sSeq (sIf (eT (eA biIsI (aCons (eVar 0) (aCons (eC (.ty "tuple")) aNil)))) (sRet (eA biTuple (aCons (eComp [1] (itN 0) (.nm 1) cYes (eCall p_copied (aCons (eVar 1) aNil))) aNil))) sNil) (sSeq (sIf (eT (eA biIsI (aCons (eVar 0) (aCons (eC (.ty "list")) aNil)))) (sRet (eShare (eComp [1] (itN 0) (.nm 1) cYes (eCall p_copied (aCons (eVar 1) aNil))))) sNil) (sSeq (sIf (eT (eA biIsI (aCons (eVar 0) (aCons (eC (.ty "dict")) aNil)))) (sRet (eShare (eDComp [2] (itN 0) (.nm 2) cYes (eVar 2) (eCall p_copied (aCons (e2 opIx (eVar 0) (eVar 2)) aNil))))) sNil) (sRet (eVar 0)))))
noncomputable def b_rank_s (p_rank : Fn) : Sv := (sSeq (sIf (eT (e2 opIsN (eVar 0) (eC .non))) (sRet (eA dTup (aCons (eC (.int 0)) (aCons (eC (.int 0)) aNil)))) sNil) (sSeq (sIf (eT (eA biIsI (aCons (eVar 0) (aCons (eC (.ty "int")) aNil)))) (sRet (eA dTup (aCons (eC (.int 1)) (aCons (eVar 0) aNil)))) sNil) (sSeq (sIf (eT (eA biIsI (aCons (eVar 0) (aCons (eC (.ty "str")) aNil)))) (sRet (eA dTup (aCons (eC (.int 2)) (aCons (eVar 0) aNil)))) sNil) (sSeq (sIf (eT (eA biIsI (aCons (eVar 0) (aCons (eC (.ty "list")) aNil)))) (sRet (eA dTup (aCons (eC (.int 3)) (aCons (eA biTuple (aCons (eCompC [1] 0 (.nm 1) cYes (eCall p_rank (aCons (eVar 1) aNil))) aNil)) aNil)))) sNil) (sRet (eA dTup (aCons (eC (.int 4)) (aCons (eA biTuple (aCons (eComp [2] (itV (eA biSortC (aCons (eVar 0) aNil))) (.nm 2) cYes (eA dTup (aCons (eVar 2) (aCons (eCall p_rank (aCons (e2 opIx (eVar 0) (eVar 2)) aNil)) aNil)))) aNil)) aNil))))))))
noncomputable def b_order (p_rank : Fn) : Sv := (sSeq (sPar 2 3 (aCons (eCall p_rank (aCons (eVar 0) aNil)) (aCons (eCall p_rank (aCons (eVar 1) aNil)) aNil))) (sRet (e2 opSub (eA biInt (aCons (e2 opGt (eVar 2) (eVar 3)) aNil)) (eA biInt (aCons (e2 opLt (eVar 2) (eVar 3)) aNil)))))
noncomputable def b_least (p_rank : Fn) (p_copied : Fn) : Sv := (sRet (eCall p_copied (aCons (eMinK false p_rank (eVar 0)) aNil)))
noncomputable def b_greatest (p_rank : Fn) (p_copied : Fn) : Sv := (sRet (eCall p_copied (aCons (eMinK true p_rank (eVar 0)) aNil)))
noncomputable def b__law_rank_s (p__law_rank : Fn) : Sv := (sSeq (sIf (eT (e2 opIsN (eVar 0) (eC .non))) (sRet (eA dTup (aCons (eC (.int 0)) (aCons (eC (.int 0)) aNil)))) sNil) (sSeq (sIf (eT (eA biIsI (aCons (eVar 0) (aCons (eC (.ty "int")) aNil)))) (sRet (eA dTup (aCons (eC (.int 1)) (aCons (eVar 0) aNil)))) sNil) (sSeq (sIf (eT (eA biIsI (aCons (eVar 0) (aCons (eC (.ty "str")) aNil)))) (sRet (eA dTup (aCons (eC (.int 2)) (aCons (eVar 0) aNil)))) sNil) (sSeq (sIf (eT (eIsT ["list", "tuple"] (eVar 0))) (sRet (eA dTup (aCons (eC (.int 3)) (aCons (eA biTuple (aCons (eCompC [1] 0 (.nm 1) cYes (eCall p__law_rank (aCons (eVar 1) aNil))) aNil)) aNil)))) sNil) (sRet (eA dTup (aCons (eC (.int 4)) (aCons (eA biTuple (aCons (eComp [2] (itV (eA biSortC (aCons (eVar 0) aNil))) (.nm 2) cYes (eA dTup (aCons (eVar 2) (aCons (eCall p__law_rank (aCons (e2 opIx (eVar 0) (eVar 2)) aNil)) aNil)))) aNil)) aNil))))))))
noncomputable def b__law_wreck_s (p__law_wreck : Fn) : Sv := (sIf (eT (eA biIsI (aCons (eVar 0) (aCons (eC (.ty "list")) aNil)))) (sSeq (sForC 0 (.nm 1) (sDrop (eCall p__law_wreck (aCons (eVar 1) aNil)))) (sSeq (sMth 0 mAppend (aCons (eC (.int 0)) aNil)) (sMth 0 mReverse aNil))) (sIf (eT (eA biIsI (aCons (eVar 0) (aCons (eC (.ty "tuple")) aNil)))) (sForC 0 (.nm 1) (sDrop (eCall p__law_wreck (aCons (eVar 1) aNil)))) (sIf (eT (eA biIsI (aCons (eVar 0) (aCons (eC (.ty "dict")) aNil)))) (sSeq (sFor (itV (eA biSortC (aCons (eVar 0) aNil))) (.nm 2) (sDrop (eCall p__law_wreck (aCons (e2 opIx (eVar 0) (eVar 2)) aNil)))) (sPut 0 (eC (.str "q")) (eC (.int 1)))) sNil)))
noncomputable def b__law_near (p__law_plain : Fn) (p__law_any : Fn) (p__law_pull : Fn) : Sv := (sSeq (sIf (cAnd (eT (eA biIsI (aCons (eVar 1) (aCons (eC (.ty "list")) aNil)))) (eT (e2 opEq (eCall p__law_pull (aCons (eVar 0) (aCons (eC (.int 2)) aNil))) (eC (.int 0))))) (sRet (e2 opAdd (eVar 1) (eA dLst (aCons (eCall p__law_plain (aCons (eVar 0) aNil)) aNil)))) sNil) (sSeq (sIf (cAnd (eT (eA biIsI (aCons (eVar 1) (aCons (eC (.ty "dict")) aNil)))) (eT (e2 opNe (eVar 1) (eC (.dct []))))) (sSeq (sAsgO 2 (eA biDict (aCons (eVar 1) aNil))) (sSeq (sPut 2 (eCall p__law_any (aCons (eVar 0) (aCons (eA biSort (aCons (eVar 1) aNil)) aNil))) (eCall p__law_plain (aCons (eVar 0) aNil))) (sRetV 2))) sNil) (sRet (eCall p__law_any (aCons (eVar 0) (aCons (eA dLst (aCons (eVar 1) (aCons (eCall p__law_plain (aCons (eVar 0) aNil)) (aCons (eA dLst (aCons (eVar 1) aNil)) aNil)))) aNil))))))
noncomputable def b_law_k02 (p_order : Fn) (p__law_like : Fn) (p_greatest : Fn) (p_least : Fn) (p__law_wreck : Fn) (p__law_rank : Fn) (p__law_copy : Fn) (p__law_pull : Fn) (p__law_value : Fn) (p__law_near : Fn) (p__law_any : Fn) (p__law_open : Fn) : Sv := (sSeq (sAsg 1 (eShare (eCall p__law_open (aCons (eVar 0) aNil)))) (sSeq (sFor (itA rg1 (aCons (eC (.int 4)) aNil)) (.nm 2) (sSeq (sAsg 3 (eCall p__law_value (aCons (eVar 1) (aCons (eC (.int 3)) aNil)))) (sSeq (sAsg 4 (eCall p__law_any (aCons (eVar 1) (aCons (eA dLst (aCons (eCall p__law_value (aCons (eVar 1) (aCons (eC (.int 3)) aNil))) (aCons (eCall p__law_near (aCons (eVar 1) (aCons (eVar 3) aNil))) (aCons (eCall p__law_copy (aCons (eVar 3) aNil)) aNil)))) aNil)))) (sSeq (sAsg 5 (eCall p__law_any (aCons (eVar 1) (aCons (eA dLst (aCons (eCall p__law_value (aCons (eVar 1) (aCons (eC (.int 2)) aNil))) (aCons (eCall p__law_near (aCons (eVar 1) (aCons (eVar 4) aNil))) aNil))) aNil)))) (sSeq (sAsg 6 (eA dLst (aCons (eVar 3) (aCons (eVar 4) (aCons (eVar 5) aNil))))) (sSeq (sAsg 7 (eCall p__law_copy (aCons (eVar 6) aNil))) (sSeq (sFor (itA rg1 (aCons (eC (.int 3)) aNil)) (.nm 8) (sFor (itA rg1 (aCons (eC (.int 3)) aNil)) (.nm 9) (sSeq (sPar 10 11 (aCons (eCall p__law_rank (aCons (e2 opIx (eVar 6) (eVar 8)) aNil)) (aCons (eCall p__law_rank (aCons (e2 opIx (eVar 6) (eVar 9)) aNil)) aNil))) (sSeq (sAsg 12 (e2 opSub (eA biInt (aCons (e2 opGt (eVar 10) (eVar 11)) aNil)) (eA biInt (aCons (e2 opLt (eVar 10) (eVar 11)) aNil)))) (sIf (cNot (eT (eCall p__law_like (aCons (eCall p_order (aCons (e2 opIx (eVar 7) (eVar 8)) (aCons (e2 opIx (eVar 7) (eVar 9)) aNil))) (aCons (eVar 12) aNil))))) (sRet (eC (.bl false))) sNil))))) (sSeq (sAsg 13 (e2 opAdd (eVar 6) (eComp [14] (itA rg1 (aCons (eCall p__law_pull (aCons (eVar 1) (aCons (eC (.int 6)) aNil))) aNil)) (.nm 14) cYes (eCall p__law_value (aCons (eVar 1) (aCons (eC (.int 1)) aNil)))))) (sSeq (sAsg 15 (eA biSort (aCons (eComp [16] (itN 13) (.nm 16) cYes (eCall p__law_rank (aCons (eVar 16) aNil))) aNil))) (sSeq (sAsg 7 (eCall p__law_copy (aCons (eVar 13) aNil))) (sSeq (sIf (cOr (eT (e2 opNe (eCall p__law_rank (aCons (eCall p_least (aCons (eVar 7) aNil)) aNil)) (e2 opIx (eVar 15) (eC (.int 0))))) (eT (e2 opNe (eCall p__law_rank (aCons (eCall p_greatest (aCons (eVar 7) aNil)) aNil)) (e2 opIx (eVar 15) (e1 opNeg (eC (.int 1))))))) (sRet (eC (.bl false))) sNil) (sSeq (sDrop (eCall p__law_wreck (aCons (eShare (eA dLst (aCons (eCall p_least (aCons (eVar 7) aNil)) (aCons (eCall p_greatest (aCons (eVar 7) aNil)) aNil)))) aNil))) (sIf (cOr (cNot (eT (eCall p__law_like (aCons (eVar 7) (aCons (eVar 13) aNil))))) (cOr (eT (e2 opNe (eCall p_order (aCons (eDisp [((eC (.str "a")), (eC (.int 1)))]) (aCons (eDisp [((eC (.str "a")), (eC (.int 1))), ((eC (.str "b")), (eC .non))]) aNil))) (e1 opNeg (eC (.int 1))))) (eT (e2 opNe (eCall p_order (aCons (eA dLst aNil) (aCons (eC .non) aNil))) (eC (.int 1)))))) (sRet (eC (.bl false))) sNil))))))))))))) (sRet (eAnd (e2 opEq (eCall p_order (aCons (eC (.str "5")) (aCons (eC (.int 5)) aNil))) (eC (.int 1))) (eAnd (e2 opEq (eCall p_order (aCons (eC (.dct [])) (aCons (eA dLst (aCons (eA dLst aNil) aNil)) aNil))) (eC (.int 1))) (e2 opEq (eCall p_order (aCons (eDisp [((eC (.str "b")), (eC (.int 0)))]) (aCons (eDisp [((eC (.str "a")), (eC (.int 9)))]) aNil))) (eC (.int 1))))))))
end TL

/-! plain Lean over the T-layer, 0: what a result must fulfil -/
namespace TL
open PySem PySem.Spec L2

def wpR {α : Type} (r : Res α) (Q : α → Sh → Prop) : Prop := match r with
  | .ok a s => Q a s
  | .exc _ _ => False
  | .bad => False
def wpF (r : Fl) (nx : Loc → Sh → Prop) (rt : T → Sh → Prop) (bk ct : Loc → Sh → Prop) : Prop := match r with
  | .nx l s => nx l s
  | .rt t s => rt t s
  | .bk l s => bk l s
  | .ct l s => ct l s
  | .exc _ _ _ => False
  | .bad => False
theorem wpR.imp {α : Type} {r : Res α} {Q Q' : α → Sh → Prop} (h : wpR r Q) (i : ∀ a s, Q a s → Q' a s) : wpR r Q' := by
  cases r with
  | ok a s => exact i a s h
  | _ => exact h
theorem wpF.imp {r : Fl} {nx nx' : Loc → Sh → Prop} {rt rt' : T → Sh → Prop} {bk bk' ct ct' : Loc → Sh → Prop} (h : wpF r nx rt bk ct) (i1 : ∀ l s, nx l s → nx' l s) (i2 : ∀ l s, rt l s → rt' l s) (i3 : ∀ l s, bk l s → bk' l s) (i4 : ∀ l s, ct l s → ct' l s) : wpF r nx' rt' bk' ct' := by
  cases r with
  | nx l s => exact i1 l s h
  | rt l s => exact i2 l s h
  | bk l s => exact i3 l s h
  | ct l s => exact i4 l s h
  | _ => exact h
section
variable {α β : Type} {Q : α → Sh → Prop} {R : T → Sh → Prop} {B : Bool → Sh → Prop} {nx bk ct : Loc → Sh → Prop} {rt : T → Sh → Prop} {l : Loc} {s : Sh}
@[simp] theorem wpR_ok (a : α) (s : Sh) : wpR (.ok a s) Q = Q a s := rfl
@[simp] theorem wpR_bad : wpR (.bad : Res α) Q = False := rfl
@[simp] theorem wpR_bind (r : Res β) (k : β → Sh → Res α) : wpR (r.bind k) Q = wpR r fun a s => wpR (k a s) Q := by
  cases r <;> rfl
@[simp] theorem wpR_ite {c : Prop} [Decidable c] (a b : Res α) : wpR (if c then a else b) Q = if c then wpR a Q else wpR b Q := by split <;> rfl
@[simp] theorem wpF_ite {c : Prop} [Decidable c] (a b : Fl) : wpF (if c then a else b) nx rt bk ct = if c then wpF a nx rt bk ct else wpF b nx rt bk ct := by split <;> rfl
@[simp] theorem wpF_nx : wpF (.nx l s) nx rt bk ct = nx l s := rfl
@[simp] theorem wpF_rt (t : T) : wpF (.rt t s) nx rt bk ct = rt t s := rfl
@[simp] theorem wpF_bk : wpF (.bk l s) nx rt bk ct = bk l s := rfl
@[simp] theorem wpF_ct : wpF (.ct l s) nx rt bk ct = ct l s := rfl
@[simp] theorem wpF_bad : wpF .bad nx rt bk ct = False := rfl
/-- a local name's value -/
def vAt (l : Loc) (i : Nat) (Q : T → Prop) : Prop := match l.at i with
  | .t x => Q x
  | _ => False
@[simp] theorem wp_eVar (i : Nat) : wpR (eVar i l s) R = vAt l i fun x => R x s := by
  unfold eVar vAt
  cases l.at i <;> rfl
@[simp] theorem vAt_0 (x : T) (l : Loc) (Q : T → Prop) : vAt (.t x :: l) 0 Q = Q x := rfl
@[simp] theorem vAt_s (a : Slot) (l : Loc) (i : Nat) (Q : T → Prop) : vAt (a :: l) (i + 1) Q = vAt l i Q := rfl
@[simp] theorem at_0 (a : Slot) (l : Loc) : Loc.at (a :: l) 0 = a := rfl
@[simp] theorem at_s (a : Slot) (l : Loc) (i : Nat) : Loc.at (a :: l) (i + 1) = Loc.at l i := rfl
@[simp] theorem wp_eC (t : T) : wpR (eC t l s) R = R t s := rfl
@[simp] theorem wp_e1 (f : T → Sh → Res T) (a : Ev) : wpR (e1 f a l s) R = wpR (a l s) fun x s => wpR (f x s) R := by simp [e1]
@[simp] theorem wp_e2 (f : T → T → Sh → Res T) (a b : Ev) : wpR (e2 f a b l s) R = wpR (a l s) fun x s => wpR (b l s) fun y s => wpR (f x y s) R := by simp [e2]
@[simp] theorem wp_eT (a : Ev) : wpR (eT a l s) B = wpR (a l s) fun x s => wpR (truB x s) B := by simp [eT]
@[simp] theorem truB_bl (b : Bool) : truB (.bl b) s = .ok b s := rfl
@[simp] theorem wp_eIf (c : Et) (a b : Ev) : wpR (eIf c a b l s) R = wpR (c l s) fun k s => if k = true then wpR (a l s) R else wpR (b l s) R := by simp [eIf]
@[simp] theorem wp_cAnd (a b : Et) : wpR (cAnd a b l s) B = wpR (a l s) fun k s => if k = true then wpR (b l s) B else B false s := by simp [cAnd]
@[simp] theorem wp_cOr (a b : Et) : wpR (cOr a b l s) B = wpR (a l s) fun k s => if k = true then B true s else wpR (b l s) B := by simp [cOr]
@[simp] theorem wp_cNot (a : Et) : wpR (cNot a l s) B = wpR (a l s) fun k s => B (!k) s := by simp [cNot]
/-- a bool's way -/
def onB (x : T) (Q : Bool → Prop) : Prop := match x with
  | .bl k => Q k
  | _ => False
@[simp] theorem onB_bl (k : Bool) (Q : Bool → Prop) : onB (.bl k) Q = Q k := rfl
@[simp] theorem wp_eAnd (a b : Ev) : wpR (eAnd a b l s) R = wpR (a l s) fun x s => onB x fun k => if k = true then wpR (b l s) R else R (.bl false) s := by
  simp only [eAnd, wpR_bind]
  congr 1
  funext x s
  cases x with
  | bl k => cases k <;> rfl
  | _ => rfl
@[simp] theorem wp_eOr (a b : Ev) : wpR (eOr a b l s) R = wpR (a l s) fun x s => onB x fun k => if k = true then R (.bl true) s else wpR (b l s) R := by
  simp only [eOr, wpR_bind]
  congr 1
  funext x s
  cases x with
  | bl k => cases k <;> rfl
  | _ => rfl
@[simp] theorem wp_eNot (a : Ev) : wpR (eNot a l s) R = wpR (a l s) fun x s => onB x fun k => R (.bl (!k)) s := by
  simp only [eNot, wpR_bind]
  congr 1
  funext x s
  cases x <;> rfl
@[simp] theorem wp_eChain (f g : T → T → Sh → Res T) (a b c : Ev) : wpR (eChain f g a b c l s) R = wpR (a l s) fun x s => wpR (b l s) fun y s => wpR (f x y s) fun z s => onB z fun k => if k = true then wpR (c l s) fun w s => wpR (g y w s) R else R (.bl false) s := by
  simp only [eChain, wpR_bind]
  congr 1
  funext x s
  congr 1
  funext y s
  congr 1
  funext z s
  cases z with
  | bl k => cases k <;> simp
  | _ => rfl
@[simp] theorem wp_aNil (Q : List T → Sh → Prop) : wpR (aNil l s) Q = Q [] s := rfl
@[simp] theorem wp_aCons (a : Ev) (r : EvL) (Q : List T → Sh → Prop) : wpR (aCons a r l s) Q = wpR (a l s) fun x s => wpR (r l s) fun xs s => Q (x :: xs) s := by simp [aCons]
@[simp] theorem wp_eA (f : List T → Sh → Res T) (a : EvL) : wpR (eA f a l s) R = wpR (a l s) fun xs s => wpR (f xs s) R := by simp [eA]
@[simp] theorem wp_eAK (f : List T → List T → Sh → Res T) (a b : EvL) : wpR (eAK f a b l s) R = wpR (a l s) fun xs s => wpR (b l s) fun ys s => wpR (f xs ys s) R := by simp [eAK]
@[simp] theorem wp_eCall (φ : Fn) (a : EvL) : wpR (eCall φ a l s) R = wpR (a l s) fun xs s => wpR (φ xs s) R := by simp [eCall]
@[simp] theorem wp_eCallK (φ : Fn) (g : List T → List T → List T) (a b : EvL) : wpR (eCallK φ g a b l s) R = wpR (a l s) fun xs s => wpR (b l s) fun ys s => wpR (φ (g xs ys) s) R := by simp [eCallK]
@[simp] theorem wp_eShare (a : Ev) : wpR (eShare a l s) R = wpR (a l s) fun x s => wpR (shareT x s) R := by simp [eShare]
@[simp] theorem wp_share_lst (xs : List T) : wpR (shareT (.lst xs) s) R = R (.cel s.length) (s ++ [.lst xs]) := rfl
@[simp] theorem wp_eSl (f : T → Option Int → Option Int → Sh → Res T) (a : Ev) (lo hi : EvO) : wpR (eSl f a lo hi l s) R = wpR (a l s) fun x s => wpR (lo l s) fun i s => wpR (hi l s) fun j s => wpR (f x i j s) R := by simp [eSl]
@[simp] theorem wp_oNone (Q : Option Int → Sh → Prop) : wpR (oNone l s) Q = Q none s := rfl
def onI (x : T) (Q : Int → Prop) : Prop := match x with
  | .int k => Q k
  | _ => False
@[simp] theorem onI_int (k : Int) (Q : Int → Prop) : onI (.int k) Q = Q k := rfl
@[simp] theorem wp_oSome (a : Ev) (Q : Option Int → Sh → Prop) : wpR (oSome a l s) Q = wpR (a l s) fun x s => onI x fun i => Q (some i) s := by
  simp only [oSome, wpR_bind]
  congr 1
  funext x s
  cases x <;> rfl
@[simp] theorem wp_eIsT (ns : List String) (a : Ev) : wpR (eIsT ns a l s) R = wpR (a l s) fun x s => ∃ a, tyName x s = some a ∧ R (.bl (ns.any fun n => isTy a n)) s := by
  simp only [eIsT, wpR_bind]
  congr 1
  funext x s
  cases h : tyName x s <;> simp
@[simp] theorem wp_cYes : wpR (cYes l s) B = B true s := rfl
/-! statements -/
@[simp] theorem wp_sNil : wpF (sNil l s) nx rt bk ct = nx l s := rfl
@[simp] theorem wp_sSeq (a b : Sv) : wpF (sSeq a b l s) nx rt bk ct = wpF (a l s) (fun l s => wpF (b l s) nx rt bk ct) rt bk ct := by
  unfold sSeq
  cases a l s <;> rfl
theorem wp_sE (ev : Loc → Sh → Res α) (k : α → Sv) : wpF (sE ev k l s) nx rt bk ct = wpR (ev l s) fun t s => wpF (k t l s) nx rt bk ct := by
  unfold sE
  cases ev l s <;> rfl
@[simp] theorem wp_sDrop (ev : Ev) : wpF (sDrop ev l s) nx rt bk ct = wpR (ev l s) fun _ s => nx l s := by simp [sDrop, wp_sE]
@[simp] theorem wp_sIf (c : Et) (a b : Sv) : wpF (sIf c a b l s) nx rt bk ct = wpR (c l s) fun k s => if k = true then wpF (a l s) nx rt bk ct else wpF (b l s) nx rt bk ct := by
  simp only [sIf, wp_sE]
  congr 1
  funext k s
  cases k <;> rfl
@[simp] theorem wp_sRet (ev : Ev) : wpF (sRet ev l s) nx rt bk ct = wpR (ev l s) rt := by simp [sRet, wp_sE]
@[simp] theorem wp_sRetN : wpF (sRetN l s) nx rt bk ct = rt .non s := rfl
@[simp] theorem wp_sRetV (i : Nat) : wpF (sRetV i l s) nx rt bk ct = ∃ t, l.at i = .own t ∧ rt t s := by
  unfold sRetV
  cases h : l.at i <;> simp
@[simp] theorem wp_sAsg (i : Nat) (ev : Ev) : wpF (sAsg i ev l s) nx rt bk ct = wpR (ev l s) fun t s => nx (l.set i (.t t)) s := by simp [sAsg, wp_sE]
@[simp] theorem wp_sAsgO (i : Nat) (ev : Ev) : wpF (sAsgO i ev l s) nx rt bk ct = wpR (ev l s) fun t s => nx (l.set i (.own t)) s := by simp [sAsgO, wp_sE]
@[simp] theorem wp_sPar (i j : Nat) (a : Ev) (b : Ev) : wpF (sPar i j (aCons a (aCons b aNil)) l s) nx rt bk ct = wpR (a l s) fun t s => wpR (b l s) fun u s => nx ((l.set i (.t t)).set j (.t u)) s := by simp [sPar, wp_sE]
@[simp] theorem wp_sAsgT (tt : Tgt) (ev : Ev) : wpF (sAsgT tt ev l s) nx rt bk ct = wpR (ev l s) fun t s => ∃ l1, setT tt t l = some l1 ∧ nx l1 s := by
  simp only [sAsgT, wp_sE]
  congr 1
  funext t s
  cases h : setT tt t l <;> simp
@[simp] theorem wp_sPut (i : Nat) (ek ev : Ev) : wpF (sPut i ek ev l s) nx rt bk ct = wpR (ev l s) fun v s => slotMut (l.at i) = true ∧ wpR (ek l s) fun k s => wpF (sPutK i v k l s) nx rt bk ct := by
  simp only [sPut, wp_sE]
  congr 1
  funext v s
  unfold sMut
  split
  · rename_i h; simp [h, wp_sE]
  · rename_i h; simp [h]
@[simp] theorem wp_sMth (i : Nat) (f : Mth) (a : EvL) : wpF (sMth i f a l s) nx rt bk ct = (slotLst l s i = true ∧ wpR (a l s) fun ts s => wpF (sMthK i f ts l s) nx rt bk ct) := by
  unfold sMth
  split
  · rename_i h; simp [h, wp_sE]
  · rename_i h; simp [h]
@[simp] theorem wp_sFor (it : EvL) (tt : Tgt) (b : Sv) : wpF (sFor it tt b l s) nx rt bk ct = wpR (it l s) fun items s => wpF (forL tt b items l s) nx rt bk ct := by simp [sFor, wp_sE]
@[simp] theorem wp_runB0 (m : Bool) (n : Nat) (sv : Sv) (ts : List T) : wpR (runB0 m n sv ts s) R = wpF (sv (startL n ts) s) (fun _ s => m = false ∧ R .non s) R (fun _ _ => False) fun _ _ => False := by
  unfold runB0
  cases sv (startL n ts) s <;> simp [wpF]
@[simp] theorem wp_itN (i : Nat) (Q : List T → Sh → Prop) : wpR (itN i l s) Q = vAt l i fun x => wpR (itemsN x s) Q := by
  unfold itN vAt
  cases l.at i <;> rfl
@[simp] theorem wp_itV (a : Ev) (Q : List T → Sh → Prop) : wpR (itV a l s) Q = wpR (a l s) fun x s => wpR (itemsT x s) Q := by simp [itV]
@[simp] theorem wp_itA (f : List T → Sh → Res (List T)) (a : EvL) (Q : List T → Sh → Prop) : wpR (itA f a l s) Q = wpR (a l s) fun xs s => wpR (f xs s) Q := by simp [itA]
theorem wp_noexc {r : Res α} : wpR r.noexc Q = wpR r Q := by cases r <;> rfl
@[simp] theorem wp_dLst (xs : List T) : wpR (dLst xs s) R = (xs.length ≤ sizeLine ∧ R (.lst xs) s) := by
  unfold dLst
  split
  · rename_i h; simp [h]
  · rename_i h; simp [h]
@[simp] theorem wp_dTup (xs : List T) : wpR (dTup xs s) R = (xs.length ≤ sizeLine ∧ R (.tup xs) s) := by
  unfold dTup
  split
  · rename_i h; simp [h]
  · rename_i h; simp [h]
@[simp] theorem wp_eComp (vs : List Nat) (it : EvL) (tt : Tgt) (c : Et) (elt : Ev) : wpR (eComp vs it tt c elt l s) R = (noOwn l vs = true ∧ wpR (it l s) fun items s => wpR (compL tt c elt items (wipeL l vs) s) fun ys s => ys.length ≤ sizeLine ∧ R (.lst ys) s) := by
  unfold eComp
  split
  · rename_i h
    simp [h, wp_noexc]
  · rename_i h; simp [h]
end
/-- a comprehension whose items don't touch the state -/
theorem comp_map {i : Nat} {elt : Ev} {l : Loc} {s : Sh} {f : T → T} {Q : List T → Sh → Prop} : ∀ {items : List T}, (∀ x ∈ items, ∀ R : T → Sh → Prop, R (f x) s → wpR (elt (l.set i (.t x)) s) R) → Q (items.map f) s → wpR (compL (.nm i) cYes elt items l s) Q
  | [], _, q => q
  | x :: items, h, q => by
    unfold compL
    simp only [setT, wpR_bind, wp_cYes, if_true]
    refine h x (by simp) _ ?_
    exact comp_map (Q := fun ys s => Q (f x :: ys) s) (fun y hy => h y (by simp [hy])) q
/-- .. that may touch it: each item fulfils P, the state fulfils J -/
theorem comp_inv {tt : Tgt} {elt : Ev} {l : Loc} {P : T → Prop} {J : Sh → Prop} {Q : List T → Sh → Prop} : ∀ {items : List T} {s : Sh}, (∀ x ∈ items, ∀ s, J s → ∃ l1, setT tt x l = some l1 ∧ wpR (elt l1 s) fun y s => P y ∧ J s) → J s → (∀ ys s, ys.length = items.length → (∀ y ∈ ys, P y) → J s → Q ys s) → wpR (compL tt cYes elt items l s) Q
  | [], s, _, j, q => q [] s rfl (fun _ h => (by cases h)) j
  | x :: items, s, h, j, q => by
    unfold compL
    obtain ⟨l1, e, hx⟩ := h x (by simp) s j
    rw [e]
    simp only [wpR_bind, wp_cYes, if_true]
    refine hx.imp fun y s1 ⟨py, js⟩ => ?_
    refine comp_inv (fun z hz => h z (by simp [hz])) js fun ys s2 e1 e2 e3 => ?_
    exact q _ s2 (by rw [List.length_cons, List.length_cons, e1]) (fun z hz => by
      rcases List.mem_cons.mp hz with rfl | hz
      · exact py
      · exact e2 z hz) e3
/-- a for loop by an invariant -/
theorem for_inv {tt : Tgt} {b : Sv} {nx bk ct : Loc → Sh → Prop} {rt : T → Sh → Prop} (J : List T → Loc → Sh → Prop) (hd : ∀ l s, J [] l s → nx l s)
    (h : ∀ x items l s, J (x :: items) l s → ∃ l1, setT tt x l = some l1 ∧ wpF (b l1 s) (J items) rt nx (J items)) : ∀ {items : List T} {l : Loc} {s : Sh}, J items l s → wpF (forL tt b items l s) nx rt bk ct
  | [], l, s, j => hd l s j
  | x :: items, l, s, j => by
    obtain ⟨l1, e, w⟩ := h x items l s j
    unfold forL
    rw [e]
    simp only
    cases q : b l1 s with
    | nx l2 s2 => rw [q] at w; exact for_inv J hd h w
    | ct l2 s2 => rw [q] at w; exact for_inv J hd h w
    | bk l2 s2 => rw [q] at w; exact w
    | rt t s2 => rw [q] at w; exact w
    | exc e l2 s2 => rw [q] at w; exact w
    | bad => rw [q] at w; exact w
end TL

/-! the T-layer, 15: from a law's function to its row -/
namespace TL
open PySem PySem.Spec L2

def spLaw (K : PySem.W.Frag) : Sp := fun vs H Q _ => ∃ (a : Addr) (ns : List Int), vs = [.ref a] ∧ SqL K H a (ns.map V.int) ∧ ns.length ≤ 63 ∧ ∀ H', Q (.bl true) H'
theorem law_sp {P : Program} {w : World} {K : PySem.W.Frag} {mg : Str → Option Value} {base : Heap} {CX : CXT} {k : Nat} {f : Addr} {fd : FuncData} {φ : Fn} (F : FnOk P w K mg base CX k f fd ["_law_script"] (spT K false 1 φ)) (h : ∀ ns : List Int, ns.length ≤ 63 → wpR (φ [.scr ns] []) fun t _ => t = .bl true) : FnOk P w K mg base CX k f fd ["_law_script"] (spLaw K) := by
  have conv : ∀ {vs H Q E}, spLaw K vs H Q E → spT K false 1 φ vs H Q E := by
    rintro vs H Q E ⟨a, ns, rfl, hS, hn, q⟩
    refine ⟨rfl, ⟨H, [], fun _ => none⟩, [.scr ns], [], ⟨fun _ _ e => e, fun _ _ e => (by cases e), fun _ => .inr rfl, fun _ _ e => (by simp at e), fun _ _ _ e => (by simp at e), rfl, fun _ _ e => (by simp at e)⟩, ⟨_, _, rfl, ⟨a, rfl, hS, Nat.le_trans hn (by decide)⟩, rfl⟩, ?_⟩
    have := h ns hn
    cases e : φ [.scr ns] [] with
    | bad => rw [e] at this; exact this.elim
    | exc x s => rw [e] at this; exact this.elim
    | ok t s =>
      rw [e] at this
      have ht : t = .bl true := this
      subst ht
      intro v H' G' _ _ r
      have : v = .bl true := r
      rw [this]
      exact q H'
  exact ⟨fun vs H Q E h => F.len vs H Q E (conv h), fun A outer s H args us vs Q E a b c d h => F.run A outer s H args us vs Q E a b c d (conv h)⟩
end TL

/-! plain Lean over the T-layer, 1: operators, the drawing -/
namespace TL
open PySem PySem.Spec L2

section
variable {R : T → Sh → Prop} {s : Sh}
@[simp] theorem p_addI (i j : Int) : opAdd (.int i) (.int j) s = .ok (.int (i + j)) s := rfl
@[simp] theorem p_subI (i j : Int) : opSub (.int i) (.int j) s = .ok (.int (i - j)) s := rfl
@[simp] theorem p_mulI (i j : Int) : opMul (.int i) (.int j) s = if cMul i j = true then .ok (.int (i * j)) s else .bad := rfl
@[simp] theorem p_modI (i j : Int) : opMod (.int i) (.int j) s = if cMod i j = true then .ok (.int (i.fmod j)) s else .bad := rfl
@[simp] theorem p_fdivI (i j : Int) : opFdiv (.int i) (.int j) s = if cDiv i j = true then .ok (.int (i.fdiv j)) s else .bad := rfl
@[simp] theorem p_powI (i j : Int) : opPow (.int i) (.int j) s = if cPow i j = true then .ok (.int (i ^ j.toNat)) s else .bad := rfl
@[simp] theorem p_ltI (i j : Int) : opLt (.int i) (.int j) s = .ok (.bl (decide (i < j))) s := rfl
@[simp] theorem p_leI (i j : Int) : opLe (.int i) (.int j) s = .ok (.bl (decide (i ≤ j))) s := rfl
@[simp] theorem p_gtI (i j : Int) : opGt (.int i) (.int j) s = .ok (.bl (decide (j < i))) s := rfl
@[simp] theorem p_geI (i j : Int) : opGe (.int i) (.int j) s = .ok (.bl (decide (j ≤ i))) s := rfl
@[simp] theorem p_leS (i j : Str) : opLe (.str i) (.str j) s = .ok (.bl (!ltS j i)) s := rfl
@[simp] theorem p_negI (i : Int) : opNeg (.int i) s = .ok (.int (-i)) s := rfl
@[simp] theorem p_isN (x : T) : opIsN x .non s = .ok (.bl (isNonT x)) s := by cases x <;> rfl
@[simp] theorem p_notN (x : T) : opNotN x .non s = .ok (.bl (!isNonT x)) s := by cases x <;> rfl
@[simp] theorem p_ixL (xs : List T) (i : Int) : wpR (opIx (.lst xs) (.int i) s) R = ∃ t, atI xs i = some t ∧ R t s := by
  show wpR (match atI xs i with | some t => .ok t s | none => .bad) R = _
  cases h : atI xs i <;> simp
@[simp] theorem p_ixT (xs : List T) (i : Int) : wpR (opIx (.tup xs) (.int i) s) R = ∃ t, atI xs i = some t ∧ R t s := by
  show wpR (match atI xs i with | some t => .ok t s | none => .bad) R = _
  cases h : atI xs i <;> simp
@[simp] theorem p_ixS (z : Str) (i : Int) : wpR (opIx (.str z) (.int i) s) R = ∃ c, atI z.cps.toList i = some c ∧ R (.str ⟨#[c]⟩) s := by
  show wpR (match atI z.cps.toList i with | some c => .ok (.str ⟨#[c]⟩) s | none => .bad) R = _
  cases h : atI z.cps.toList i <;> simp
@[simp] theorem p_ixD (kvs : List (Key × T)) (x : Str) : wpR (opIx (.dct kvs) (.str x) s) R = ∃ t, dgetT kvs (.inr x) = some t ∧ R t s := by
  show wpR (match dgetT kvs (.inr x) with | some t => .ok t s | none => .bad) R = _
  cases h : dgetT kvs (.inr x) <;> simp
@[simp] theorem p_ixC (xs : List T) (r : Sh) (i : Int) : wpR (opIx (.cel 0) (.int i) (.lst xs :: r)) R = ∃ t, atI xs i = some t ∧ R t (.lst xs :: r) := by
  show wpR (match atI xs i with | some t => .ok t (.lst xs :: r) | none => .bad) R = _
  cases h : atI xs i <;> simp
@[simp] theorem p_len (x : T) : wpR (biLen [x] s) R = ∃ n, lenT x s = some n ∧ R (.int n) s := by
  show wpR (match lenT x s with | some n => .ok (.int n) s | none => .bad) R = _
  cases h : lenT x s <;> simp
@[simp] theorem p_lenL (xs : List T) : lenT (.lst xs) s = some xs.length := rfl
@[simp] theorem p_lenT (xs : List T) : lenT (.tup xs) s = some xs.length := rfl
@[simp] theorem p_lenS (xs : Str) : lenT (.str xs) s = some xs.length := rfl
@[simp] theorem p_lenD (xs : List (Key × T)) : lenT (.dct xs) s = some xs.length := rfl
theorem atI_nat {α : Type} {xs : List α} {i : Int} (h0 : 0 ≤ i) (h1 : i < xs.length) : ∃ t, atI xs i = some t ∧ xs[i.toNat]? = some t ∧ t ∈ xs := by
  have h : i.toNat < xs.length := by omega
  refine ⟨xs[i.toNat], ?_, List.getElem?_eq_getElem h, List.getElem_mem h⟩
  unfold atI ixN
  rw [if_pos h0, if_pos h1]
  show xs[i.toNat]? = _
  exact List.getElem?_eq_getElem h
@[simp] theorem at4_0 {α : Type} (a b c d : α) : atI [a, b, c, d] 0 = some a := rfl
@[simp] theorem at4_1 {α : Type} (a b c d : α) : atI [a, b, c, d] 1 = some b := rfl
@[simp] theorem at4_2 {α : Type} (a b c d : α) : atI [a, b, c, d] 2 = some c := rfl
@[simp] theorem at4_3 {α : Type} (a b c d : α) : atI [a, b, c, d] 3 = some d := rfl
theorem put4 {l : Loc} {nx bk ct : Loc → Sh → Prop} {rt : T → Sh → Prop} {a b c d v : T} {r : Sh} (hl : l.at 0 = .t (.cel 0)) (k : Int) (xs : List T) (hk : putOwn (.lst [a, b, c, d]) (.int k) v = some (.lst xs)) :
    wpF (sPutK 0 v (.int k) l (.lst [a, b, c, d] :: r)) nx rt bk ct = nx l (.lst xs :: r) := by
  unfold sPutK
  rw [hl]
  simp only [List.getElem?_cons_zero, soT]
  rw [hk]
  rfl
@[simp] theorem put4_1 {l : Loc} {nx bk ct : Loc → Sh → Prop} {rt : T → Sh → Prop} {a b c d v : T} {r : Sh} : wpF (sPutK 0 v (.int 1) (.t (.cel 0) :: l) (.lst [a, b, c, d] :: r)) nx rt bk ct = nx (.t (.cel 0) :: l) (.lst [a, v, c, d] :: r) := put4 rfl 1 _ rfl
@[simp] theorem put4_2 {l : Loc} {nx bk ct : Loc → Sh → Prop} {rt : T → Sh → Prop} {a b c d v : T} {r : Sh} : wpF (sPutK 0 v (.int 2) (.t (.cel 0) :: l) (.lst [a, b, c, d] :: r)) nx rt bk ct = nx (.t (.cel 0) :: l) (.lst [a, b, v, d] :: r) := put4 rfl 2 _ rfl
@[simp] theorem put4_3 {l : Loc} {nx bk ct : Loc → Sh → Prop} {rt : T → Sh → Prop} {a b c d v : T} {r : Sh} : wpF (sPutK 0 v (.int 3) (.t (.cel 0) :: l) (.lst [a, b, c, d] :: r)) nx rt bk ct = nx (.t (.cel 0) :: l) (.lst [a, b, c, v] :: r) := put4 rfl 3 _ rfl
@[simp] theorem slotMut_c (k : Nat) : slotMut (.t (.cel k)) = true := rfl
end
theorem st1 (a : T) (n : Nat) : startL (n + 1) [a] = .t a :: List.replicate n .no := by simp [startL]
theorem st2 (a b : T) (n : Nat) : startL (n + 2) [a, b] = .t a :: .t b :: List.replicate n .no := by simp [startL]
theorem st3 (a b c : T) (n : Nat) : startL (n + 3) [a, b, c] = .t a :: .t b :: .t c :: List.replicate n .no := by simp [startL]

/-! ### the drawing -/
def dr (ns : List Int) (at_ c d : Int) : SO := .lst [.lst (ns.map T.int), .int at_, .int c, .int d]
/-- a drawing list stands first, behind it rest -/
def Dr (rest s : Sh) : Prop := ∃ ns at_ c d, s = dr ns at_ c d :: rest ∧ ns.length ≤ 63 ∧ 0 ≤ at_ ∧ 0 ≤ d ∧ d < 2147483629
/-- a number below top is drawn -/
def PullOk (φ : Fn) : Prop := ∀ (rest s : Sh) (top : Int) (R : T → Sh → Prop), Dr rest s → 0 < top → top < 1073741824 → (∀ r s, Dr rest s → 0 ≤ r → r < top → R (.int r) s) → wpR (φ [.cel 0, .int top] s) R
theorem fmod_pos (i : Int) {j : Int} (h : 0 < j) : 0 ≤ i.fmod j ∧ i.fmod j < j := ⟨Int.fmod_nonneg_of_pos i h, Int.fmod_lt_of_pos i h⟩
theorem cMul_r (i j : Int) (h : -(2 ^ 64) < j ∧ j < 2 ^ 64) : cMul i j = true := by
  unfold cMul
  rw [Bool.or_eq_true, Bool.and_eq_true, Bool.and_eq_true, decide_eq_true_eq, decide_eq_true_eq, decide_eq_true_eq, decide_eq_true_eq]
  exact .inr h
theorem cMod_p {i j : Int} (h : 0 < j) : cMod i j = true := by
  unfold cMod
  simp
  omega
theorem cDiv_p {i j : Int} (h : 0 < j) (h2 : j < 1073741824) : cDiv i j = true := by
  unfold cDiv
  simp
  omega
theorem open_ok {ns : List Int} {R : T → Sh → Prop} {s : Sh} (h : ns.length ≤ 63) (q : R (.lst [.lst (ns.map T.int), .int 0, .int 0, .int 43]) s) : wpR (runB0 true 1 b__law_open [.scr ns] s) R := by
  have e : cutA ns none (some 63) = ns := by
    unfold cutA
    show (ns.drop 0).take (min (63 : Int).toNat ns.length - 0) = ns
    have : min (63 : Int).toNat ns.length - 0 = ns.length := by
      show min 63 ns.length - 0 = ns.length
      omega
    rw [this]
    simp
  have h4 : (4 : Nat) ≤ sizeLine := by decide
  simp [b__law_open, st1, opSl, e, biList]
  exact ⟨h4, q⟩
def PullMid (top : Int) (ns : List Int) (rest : Sh) (l : Loc) (s : Sh) : Prop := ∃ at2 c2 d2 x2 x3, l = [.t (.cel 0), .t (.int top), x2, x3] ∧ s = dr ns at2 c2 d2 :: rest ∧ 0 ≤ at2 ∧ 0 ≤ d2 ∧ d2 < 2147483629
theorem pull_ok : PullOk (runB0 false 4 b__law_pull) := by
  intro rest s top R ⟨ns, at_, c, d, e, hn, ha, hd0, hd1⟩ h0 h1 q
  subst e
  have m2 : ∀ (i : Int), cMul i 69621 = true := fun i => cMul_r i _ (by decide)
  have m3 : ∀ (i : Int), cMul i 39373 = true := fun i => cMul_r i _ (by decide)
  have m4 : ∀ (i : Int), cMul i 40692 = true := fun i => cMul_r i _ (by decide)
  have m5 : ∀ (i : Int), cMul i 31 = true := fun i => cMul_r i _ (by decide)
  have d1 : ∀ (i : Int), cMod i 1000000007 = true := fun i => cMod_p (by decide)
  have d2 : ∀ (i : Int), cMod i 2147483629 = true := fun i => cMod_p (by decide)
  have d3 : ∀ (i : Int), cMod i 8191 = true := fun i => cMod_p (by decide)
  have d4 : ∀ (i : Int), cMod i top = true := fun i => cMod_p h0
  have d5 : ∀ (i : Int), cDiv i top = true := fun i => cDiv_p h0 h1
  have d6 : ∀ (i : Int), cDiv i 67 = true := fun i => cDiv_p (by decide) (by decide)
  have p1 : cPow 10 18 = true := by decide
  -- the end of the walk, from any state
  have fin : ∀ (l : Loc) (at2 c2 d2' : Int), 0 ≤ at2 → 0 ≤ d2' → d2' < 2147483629 → ∀ (x2 x3 : Slot), wpF ((sSeq (sIf (eT (e2 opGe (e2 opIx (eVar 0) (eC (.int 2))) (eVar 1))) (sSeq (sAsg 3 (e2 opMod (e2 opIx (eVar 0) (eC (.int 2))) (eVar 1))) (sSeq (sPut 0 (eC (.int 2)) (e2 opFdiv (e2 opIx (eVar 0) (eC (.int 2))) (eVar 1))) (sRet (eVar 3)))) sNil) (sSeq (sPut 0 (eC (.int 3)) (e2 opMod (e2 opAdd (e2 opAdd (e2 opPow (e2 opIx (eVar 0) (eC (.int 3))) (eC (.int 3))) (e2 opMul (e2 opIx (eVar 0) (eC (.int 3))) (eC (.int 40692)))) (eC (.int 1013904243))) (eC (.int 2147483629)))) (sRet (e2 opMod (e2 opAdd (e2 opFdiv (e2 opIx (eVar 0) (eC (.int 3))) (eC (.int 67))) (e2 opMul (e2 opMod (e2 opIx (eVar 0) (eC (.int 3))) (eC (.int 8191))) (eC (.int 31)))) (eVar 1))))) [.t (.cel 0), .t (.int top), x2, x3] (dr ns at2 c2 d2' :: rest)) (fun _ s => False ∨ R .non s) R (fun _ _ => False) (fun _ _ => False) := by
    intro l at2 c2 dd h2 h3 h4 x2 x3
    have p2 : cPow dd 3 = true := by
      unfold cPow
      simp
      omega
    simp only [dr, wp_sSeq, wp_sIf, wp_eT, wp_e2, wp_eVar, wp_eC, vAt_0, vAt_s, p_ixC, at4_2, Option.some.injEq, exists_eq_left', p_geI, wpR_ok, truB_bl, decide_eq_true_eq]
    by_cases hc : top ≤ c2
    · rw [if_pos hc]
      simp [d4, d5]
      exact q _ _ ⟨ns, _, _, _, rfl, hn, h2, h3, h4⟩ (fmod_pos _ h0).1 (fmod_pos _ h0).2
    · rw [if_neg hc]
      simp [d2, d3, d4, d6, p2, m4, m5]
      exact q _ _ ⟨ns, _, _, _, rfl, hn, h2, (fmod_pos _ (by decide)).1, (fmod_pos _ (by decide)).2⟩ (fmod_pos _ h0).1 (fmod_pos _ h0).2
  rw [wp_runB0]
  unfold b__law_pull
  rw [st2, wp_sSeq]
  refine wpF.imp (nx := PullMid top ns rest) (rt := fun _ _ => False) (bk := fun _ _ => False) (ct := fun _ _ => False) ?_ ?_ (fun _ _ h => h.elim) (fun _ _ h => h.elim) (fun _ _ h => h.elim)
  · rw [wp_sIf]
    simp only [dr, List.replicate, wp_cAnd, wp_eT, wp_e2, wp_eVar, wp_eC, vAt_0, vAt_s, p_ixC, at4_2, at4_1, at4_0, Option.some.injEq, exists_eq_left', p_ltI, wpR_ok, truB_bl, decide_eq_true_eq, wp_eA, wp_aCons, wp_aNil, p_len, p_lenL, List.length_map]
    have base : PullMid top ns rest [.t (.cel 0), .t (.int top), .no, .no] (.lst [.lst (ns.map T.int), .int at_, .int c, .int d] :: rest) := ⟨at_, c, d, _, _, rfl, rfl, ha, hd0, hd1⟩
    by_cases h1 : c < top
    · rw [if_pos h1]
      by_cases h2 : at_ < (ns.length : Int)
      · rw [if_pos h2]
        obtain ⟨t, e1, e2, _⟩ := atI_nat (xs := ns.map T.int) ha (by rw [List.length_map]; exact h2)
        rw [List.getElem?_map] at e2
        obtain ⟨n, e3, rfl⟩ := Option.map_eq_some_iff.mp e2
        simp [e1, p1]
        by_cases h3 : 1000000000000000000 ≤ n
        · rw [if_pos h3]
          exact ⟨_, _, _, _, _, rfl, rfl, by omega, hd0, hd1⟩
        · rw [if_neg h3]
          simp [m2, m3, d1, d2]
          exact ⟨_, _, _, _, _, rfl, rfl, by omega, (fmod_pos _ (by decide)).1, (fmod_pos _ (by decide)).2⟩
      · rw [if_neg h2]; exact base
    · rw [if_neg h1]; exact base
  · rintro l s ⟨at2, c2, d2', x2, x3, rfl, rfl, q1, q2, q3⟩
    refine (fin [] at2 c2 d2' q1 q2 q3 x2 x3).imp (fun _ _ h => ?_) (fun _ _ h => h) (fun _ _ h => h) (fun _ _ h => h)
    rcases h with h | h
    · exact h.elim
    · exact ⟨rfl, h⟩
end TL

/-! plain Lean over the T-layer, 2: data; like, copy, any -/
namespace TL
open PySem PySem.Spec L2

/-! ### data -/
/-- a text as a key -/
def KeyT (k : Key) : Prop := ∃ z, k = Sum.inr z ∧ z.length ≤ 100000
mutual
def DV : T → Prop
  | .non => True
  | .bl _ => True
  | .int _ => True
  | .str x => x.length ≤ 100000
  | .lst xs => xs.length ≤ 100000 ∧ DVs xs
  | .tup xs => xs.length ≤ 100000 ∧ DVs xs
  | .dct kvs => kvs.length < 64 ∧ (kvs.map (·.1)).Nodup ∧ DVd kvs
  | _ => False
def DVs : List T → Prop
  | [] => True
  | x :: xs => DV x ∧ DVs xs
def DVd : List (Key × T) → Prop
  | [] => True
  | (k, x) :: r => KeyT k ∧ DV x ∧ DVd r
end
mutual
def dep : T → Nat
  | .lst xs => deps xs + 1
  | .tup xs => deps xs + 1
  | .dct kvs => depd kvs + 1
  | _ => 0
def deps : List T → Nat
  | [] => 0
  | x :: xs => max (dep x) (deps xs)
def depd : List (Key × T) → Nat
  | [] => 0
  | (_, x) :: r => max (dep x) (depd r)
end
theorem DVs.mem : ∀ {xs : List T}, DVs xs → ∀ x ∈ xs, DV x
  | [], _, _, h => by cases h
  | y :: ys, d, x, h => by
    rcases List.mem_cons.mp h with rfl | h
    · exact d.1
    · exact DVs.mem d.2 x h
theorem DVs.of : ∀ {xs : List T}, (∀ x ∈ xs, DV x) → DVs xs
  | [], _ => trivial
  | y :: ys, h => ⟨h y (by simp), DVs.of fun x hx => h x (by simp [hx])⟩
theorem DVd.mem : ∀ {xs : List (Key × T)}, DVd xs → ∀ p ∈ xs, KeyT p.1 ∧ DV p.2
  | [], _, _, h => by cases h
  | (k, y) :: ys, d, x, h => by
    rcases List.mem_cons.mp h with rfl | h
    · exact ⟨d.1, d.2.1⟩
    · exact DVd.mem d.2.2 x h
theorem DVd.of : ∀ {xs : List (Key × T)}, (∀ p ∈ xs, KeyT p.1 ∧ DV p.2) → DVd xs
  | [], _ => trivial
  | (k, y) :: ys, h => ⟨(h (k, y) (by simp)).1, (h (k, y) (by simp)).2, DVd.of fun x hx => h x (by simp [hx])⟩
theorem deps_mem : ∀ {xs : List T} {x : T}, x ∈ xs → dep x ≤ deps xs
  | [], _, h => by cases h
  | y :: ys, x, h => by
    unfold deps
    rcases List.mem_cons.mp h with rfl | h
    · exact Nat.le_max_left _ _
    · exact Nat.le_trans (deps_mem h) (Nat.le_max_right _ _)
theorem depd_mem : ∀ {xs : List (Key × T)} {p : Key × T}, p ∈ xs → dep p.2 ≤ depd xs
  | [], _, h => by cases h
  | (k, y) :: ys, x, h => by
    unfold depd
    rcases List.mem_cons.mp h with rfl | h
    · exact Nat.le_max_left _ _
    · exact Nat.le_trans (depd_mem h) (Nat.le_max_right _ _)
theorem deps_le : ∀ {xs : List T} {n : Nat}, (∀ x ∈ xs, dep x ≤ n) → deps xs ≤ n
  | [], _, _ => Nat.zero_le _
  | y :: ys, n, h => by
    unfold deps
    exact Nat.max_le.mpr ⟨h y (by simp), deps_le fun x hx => h x (by simp [hx])⟩
theorem depd_le : ∀ {xs : List (Key × T)} {n : Nat}, (∀ p ∈ xs, dep p.2 ≤ n) → depd xs ≤ n
  | [], _, _ => Nat.zero_le _
  | (k, y) :: ys, n, h => by
    unfold depd
    exact Nat.max_le.mpr ⟨h (k, y) (by simp), depd_le fun x hx => h x (by simp [hx])⟩
theorem dget_mem {kvs : List (Key × T)} {p : Key × T} (nd : (kvs.map (·.1)).Nodup) (h : p ∈ kvs) : dgetT kvs p.1 = some p.2 := by
  induction kvs with
  | nil => cases h
  | cons q r ih =>
    rw [List.map_cons, List.nodup_cons] at nd
    rcases List.mem_cons.mp h with rfl | h
    · simp [dgetT]
    · have : q.1 ≠ p.1 := fun e => nd.1 (by rw [e]; exact List.mem_map.mpr ⟨p, h, rfl⟩)
      have e : dgetT (q :: r) p.1 = dgetT r p.1 := by simp [dgetT, this]
      rw [e]
      exact ih nd.2 h
theorem keyStrs_of : ∀ {kvs : List (Key × T)}, DVd kvs → ∃ ks, keyStrs kvs = some ks
  | [], _ => ⟨[], rfl⟩
  | (k, x) :: r, h => by
    obtain ⟨z, rfl, _⟩ := h.1
    obtain ⟨ks, e⟩ := keyStrs_of h.2.2
    exact ⟨z :: ks, by simp [keyStrs, e]⟩

/-! ### isinstance, == -/
section
variable {R : T → Sh → Prop} {s : Sh}
@[simp] theorem p_isI (x : T) (n : String) : wpR (biIsI [x, .ty n] s) R = ∃ a, tyName x s = some a ∧ tyKn n = true ∧ R (.bl (isTy a n)) s := by
  show wpR (match tyName x s with | some a => if tyKn n then .ok (.bl (isTy a n)) s else .bad | none => .bad) R = _
  cases h : tyName x s with
  | none => simp
  | some a => by_cases k : tyKn n = true <;> simp [k]
@[simp] theorem tn_non : tyName .non s = some "NoneType" := rfl
@[simp] theorem tn_bl (b : Bool) : tyName (.bl b) s = some "bool" := rfl
@[simp] theorem tn_int (b : Int) : tyName (.int b) s = some "int" := rfl
@[simp] theorem tn_str (b : Str) : tyName (.str b) s = some "str" := rfl
@[simp] theorem tn_lst (b : List T) : tyName (.lst b) s = some "list" := rfl
@[simp] theorem tn_tup (b : List T) : tyName (.tup b) s = some "tuple" := rfl
@[simp] theorem tn_dct (b : List (Key × T)) : tyName (.dct b) s = some "dict" := rfl
@[simp] theorem kn_int : tyKn "int" = true := by decide
@[simp] theorem kn_bool : tyKn "bool" = true := by decide
@[simp] theorem kn_str : tyKn "str" = true := by decide
@[simp] theorem kn_list : tyKn "list" = true := by decide
@[simp] theorem kn_tuple : tyKn "tuple" = true := by decide
@[simp] theorem kn_dict : tyKn "dict" = true := by decide
@[simp] theorem nn_non : isNonT .non = true := rfl
@[simp] theorem nn_bl (b : Bool) : isNonT (.bl b) = false := rfl
@[simp] theorem nn_int (b : Int) : isNonT (.int b) = false := rfl
@[simp] theorem nn_str (b : Str) : isNonT (.str b) = false := rfl
@[simp] theorem nn_lst (b : List T) : isNonT (.lst b) = false := rfl
@[simp] theorem nn_tup (b : List T) : isNonT (.tup b) = false := rfl
@[simp] theorem nn_dct (b : List (Key × T)) : isNonT (.dct b) = false := rfl
theorem eqT_refl (x : T) (h : plainT x = true) : eqT x x = true := by
  unfold eqT
  exact SeqAt.eqv_refl_plain _ (plain_toD x h)
end
section
variable {R : T → Sh → Prop} {s : Sh}
theorem dep_atom : ∀ {t : T}, plainT t = true → dep t = 0 → (toD t).depth ≤ 1
  | .non, _, _ => by simp [toD, PyData.depth]
  | .bl _, _, _ => by simp [toD, PyData.depth]
  | .int _, _, _ => by simp [toD, PyData.depth]
  | .str _, _, _ => by simp [toD, PyData.depth]
  | .lst _, _, h => by simp [dep] at h
  | .tup _, _, h => by simp [dep] at h
@[simp] theorem eqI (i j : Int) : opEq (.int i) (.int j) s = .ok (.bl (decide (i = j))) s := by
  have e : eqOk (.int i) (.int j) = true := by simp [eqOk, plainT, toD, PyData.depth]
  have h : opEq (.int i) (.int j) s = if eqOk (.int i) (.int j) then Res.ok (T.bl (false ^^ eqT (.int i) (.int j))) s else Res.bad := rfl
  rw [h, if_pos e, Bool.false_xor]
  unfold eqT
  have : PyData.eqv (toD (.int i)) (toD (.int j)) = decide (i = j) := by
    show (i == j) = decide (i = j)
    rw [Bool.eq_iff_iff]
    simp
  rw [this]
@[simp] theorem eqB (i j : Bool) : opEq (.bl i) (.bl j) s = .ok (.bl (i == j)) s := by
  have e : eqOk (.bl i) (.bl j) = true := by simp [eqOk, plainT, toD, PyData.depth]
  have h : opEq (.bl i) (.bl j) s = if eqOk (.bl i) (.bl j) then Res.ok (T.bl (false ^^ eqT (.bl i) (.bl j))) s else Res.bad := rfl
  rw [h, if_pos e, Bool.false_xor]
  rfl
@[simp] theorem neB (i j : Bool) : opNe (.bl i) (.bl j) s = .ok (.bl (!(i == j))) s := by
  have e : eqOk (.bl i) (.bl j) = true := by simp [eqOk, plainT, toD, PyData.depth]
  have h : opNe (.bl i) (.bl j) s = if eqOk (.bl i) (.bl j) then Res.ok (T.bl (true ^^ eqT (.bl i) (.bl j))) s else Res.bad := rfl
  rw [h, if_pos e, Bool.true_xor]
  rfl
@[simp] theorem eqS (i j : Str) : opEq (.str i) (.str j) s = .ok (.bl (i == j)) s := by
  have e : eqOk (.str i) (.str j) = true := by simp [eqOk, plainT, toD, PyData.depth]
  have h : opEq (.str i) (.str j) s = if eqOk (.str i) (.str j) then Res.ok (T.bl (false ^^ eqT (.str i) (.str j))) s else Res.bad := rfl
  rw [h, if_pos e, Bool.false_xor]
  rfl
theorem plainTs_strs : ∀ ks : List Str, plainTs (ks.map T.str) = true
  | [] => rfl
  | k :: ks => by
    show (plainT (.str k) && plainTs (ks.map T.str)) = true
    rw [plainTs_strs ks]
    rfl
theorem depth_strs : ∀ ks : List Str, PyData.depthAll (toDs (ks.map T.str)) ≤ 1
  | [] => Nat.zero_le _
  | k :: ks => by
    show max _ _ ≤ 1
    exact Nat.max_le.mpr ⟨by simp [toD, PyData.depth], depth_strs ks⟩
/-- two like lists of texts -/
theorem ne_strs (ks : List Str) : opNe (.lst (ks.map T.str)) (.lst (ks.map T.str)) s = .ok (.bl false) s := by
  have e : eqOk (.lst (ks.map T.str)) (.lst (ks.map T.str)) = true := by
    have := depth_strs ks
    simp only [eqOk, plainT, plainTs_strs, toD, Bool.true_and, decide_eq_true_eq]
    simp [PyData.depth]
    omega
  have h2 : eqT (.lst (ks.map T.str)) (.lst (ks.map T.str)) = true := eqT_refl _ (plainTs_strs ks)
  show (if (ks.map T.str).length ≠ (ks.map T.str).length then Res.ok (T.bl true) s else if (ks.map T.str).isEmpty then Res.ok (T.bl (!true)) s else if eqOk (.lst (ks.map T.str)) (.lst (ks.map T.str)) then Res.ok (T.bl (true ^^ eqT (.lst (ks.map T.str)) (.lst (ks.map T.str)))) s else Res.bad) = _
  rw [if_neg (by simp), if_pos e, h2]
  split <;> rfl
end

/-! ### _law_num, _law_like, _law_copy -/
def NumOk (φ : Fn) : Prop := ∀ (i : Int) (s : Sh) (R : T → Sh → Prop), R (.bl true) s → wpR (φ [.int i] s) R
theorem num_ok : NumOk (runB0 false 1 b__law_num) := by
  intro i s R q
  simp [b__law_num, st1, isTy, q]
def LikeOk (n : Nat) (φ : Fn) : Prop := ∀ (t : T) (s : Sh) (R : T → Sh → Prop), DV t → dep t < n → R (.bl true) s → wpR (φ [t, t] s) R
theorem like0 (φ : Fn) : LikeOk 0 φ := fun _ _ _ _ h _ => absurd h (Nat.not_lt_zero _)
theorem all_true (n : Nat) {α : Type} (xs : List α) (s : Sh) (R : T → Sh → Prop) (q : R (.bl true) s) : wpR (biAll [.lst (xs.map fun _ => T.bl true)] s) R := by
  have : blsOf (xs.map fun _ => T.bl true) = some (xs.map fun _ => true) := by
    have := blsOf_map (xs.map fun _ => true)
    rw [List.map_map] at this
    exact this
  show wpR (match blsOf (xs.map fun _ => T.bl true) with | some bs => Res.ok (.bl (bs.all id)) s | none => .bad) R
  rw [this]
  have h : (xs.map fun _ => true).all id = true := by simp
  show R (.bl ((xs.map fun _ => true).all id)) s
  rw [h]
  exact q
theorem rg1_int {n : Int} {s : Sh} (h : 0 ≤ n) (h2 : n ≤ 100000) : rg1 [.int n] s = .ok (rangeT 0 n.toNat) s := by
  show (if -(2 ^ 62) ≤ n ∧ n < 2 ^ 62 then Res.ok (rangeT 0 n.toNat) s else .bad) = _
  rw [if_pos (by omega)]
theorem rg1_nat {n : Nat} {s : Sh} (h : n ≤ 100000) : rg1 [.int (n : Int)] s = .ok (rangeT 0 n) s := by
  have := rg1_int (n := (n : Int)) (s := s) (Int.natCast_nonneg n) (by omega)
  rwa [Int.toNat_natCast] at this
theorem len_size {n : Nat} (h : n ≤ 100000) : n ≤ sizeLine := Nat.le_trans h (by decide)
theorem len_size64 {n : Nat} (h : n < 64) : n ≤ sizeLine := Nat.le_trans (Nat.le_of_lt h) (by decide)
theorem like_step {n : Nat} {φ ψ : Fn} (h : LikeOk n φ) (hn : NumOk ψ) : LikeOk (n + 1) (runB0 false 4 (b__law_like φ ψ)) := by
  intro t s R d hd q
  have seq : ∀ (xs : List T), xs.length ≤ 100000 → DVs xs → deps xs < n → ∀ (l : Loc) (t : T), (t = .lst xs ∨ t = .tup xs) → wpR (compL (.nm 3) cYes (eCall φ (aCons (e2 opIx (eVar 0) (eVar 3)) (aCons (e2 opIx (eVar 1) (eVar 3)) aNil))) (rangeT 0 xs.length) [.t t, .t t, .no, .no] s) fun ys s => ys.length ≤ sizeLine ∧ wpR (biAll [.lst ys] s) R := by
    intro xs hl hx hdx l t ht
    refine comp_map (f := fun _ => .bl true) (fun x hx' R' q' => ?_) ?_
    · obtain ⟨k, hk, rfl⟩ := List.mem_map.mp hx'
      have hk := List.mem_range.mp hk
      obtain ⟨y, e1, _, hy⟩ := atI_nat (xs := xs) (i := (k : Int)) (by omega) (by omega)
      have key : wpR (φ [y, y] s) R' := h y s R' (hx.mem y hy) (by have := deps_mem hy; omega) q'
      rcases ht with rfl | rfl <;> simpa [e1] using key
    · refine ⟨by simp [rangeT]; exact len_size hl, all_true 0 _ s R q⟩
  cases t with
  | non => simp [b__law_like, st2, q]
  | bl b => simp [b__law_like, st2, isTy, q]
  | int i =>
    simp [b__law_like, st2, isTy]
    exact hn i s _ (by simpa using q)
  | str x => simp [b__law_like, st2, isTy, q]
  | lst xs =>
    obtain ⟨d1, d2⟩ := d
    have hr := rg1_nat (s := s) (n := xs.length) d1
    simp [b__law_like, st2, isTy, hr, List.replicate, noOwn, wipeL]
    exact seq xs d1 d2 (by unfold dep at hd; omega) [] _ (.inl rfl)
  | tup xs =>
    obtain ⟨d1, d2⟩ := d
    have hr := rg1_nat (s := s) (n := xs.length) d1
    simp [b__law_like, st2, isTy, hr, List.replicate, noOwn, wipeL]
    exact seq xs d1 d2 (by unfold dep at hd; omega) [] _ (.inr rfl)
  | dct kvs =>
    obtain ⟨d1, d2, d3⟩ := d
    obtain ⟨ks, ek⟩ := keyStrs_of d3
    have hl : ks.length < 64 := by rw [keyStrs_len ek]; exact d1
    have hs : biSort [.dct kvs] s = .ok (.lst ((sortS ks).map T.str)) s := by
      unfold biSort
      simp only [ek]
      rw [if_pos hl]
    simp [b__law_like, st2, isTy, hs, ne_strs, List.replicate, noOwn, wipeL, itemsN]
    have e : kvs.map (fun p => keyT p.1) = kvs.map (fun p => keyT p.1) := rfl
    refine comp_map (f := fun _ => .bl true) (fun x hx' R' q' => ?_) ?_
    · obtain ⟨p, hp, rfl⟩ := List.mem_map.mp hx'
      obtain ⟨⟨z, ez, lz⟩, dp⟩ := d3.mem p hp
      have e1 := dget_mem d2 hp
      rw [ez] at e1
      have key : wpR (φ [p.2, p.2] s) R' := h p.2 s R' dp (by have := depd_mem hp; unfold dep at hd; omega) q'
      rw [ez]
      simpa [keyT, e1] using key
    · refine ⟨by simp; exact len_size64 d1, ?_⟩
      rw [List.map_map]
      exact all_true 0 _ s R q
  | _ => exact d.elim
end TL

/-! plain Lean over the T-layer, 3: copies, the drawing of values -/
namespace TL
open PySem PySem.Spec L2

/-! ### walks over a dict's names, over a list -/
theorem comp_dict {i : Nat} {elt : Ev} {l : Loc} {s : Sh} {h : Key × T → T} {Q : List T → Sh → Prop} : ∀ {kvs : List (Key × T)}, (∀ p ∈ kvs, ∀ R : T → Sh → Prop, R (h p) s → wpR (elt (l.set i (.t (keyT p.1))) s) R) → Q (kvs.map h) s → wpR (compL (.nm i) cYes elt (kvs.map fun p => keyT p.1) l s) Q
  | [], _, q => q
  | p :: kvs, hp, q => by
    rw [List.map_cons]
    unfold compL
    simp only [setT, wpR_bind, wp_cYes, if_true]
    refine hp p (by simp) _ ?_
    exact comp_dict (Q := fun ys s => Q (h p :: ys) s) (fun y hy => hp y (by simp [hy])) q
section
variable {R : T → Sh → Prop} {s : Sh}
theorem wp_all {α : Type} {b : α → Bool} {xs : List α} (q : R (.bl (xs.all b)) s) : wpR (biAll [.lst (xs.map fun x => T.bl (b x))] s) R := by
  have h : blsOf (xs.map fun x => T.bl (b x)) = some (xs.map b) := by
    have := blsOf_map (xs.map b)
    rw [List.map_map] at this
    exact this
  show wpR (match blsOf (xs.map fun x => T.bl (b x)) with | some bs => Res.ok (.bl (bs.all id)) s | none => .bad) R
  rw [h]
  have e : (xs.map b).all id = xs.all b := by rw [List.all_map]; rfl
  show R (.bl ((xs.map b).all id)) s
  rw [e]
  exact q
theorem intsOf_fn {α : Type} (f : α → Int) (xs : List α) : intsOf (xs.map fun x => T.int (f x)) = some (xs.map f) := by
  have := intsOf_map (xs.map f)
  rw [List.map_map] at this
  exact this
end

/-! ### _law_copy -/
def CopyOk (n : Nat) (φ : Fn) : Prop := ∀ (t : T) (s : Sh) (R : T → Sh → Prop), DV t → dep t < n → R t s → wpR (φ [t] s) R
theorem copy0 (φ : Fn) : CopyOk 0 φ := fun _ _ _ _ h _ => absurd h (Nat.not_lt_zero _)
theorem merge_new {kvs acc : List (Key × T)} (nd : ((acc ++ kvs).map (·.1)).Nodup) : mergeT acc kvs = acc ++ kvs := by
  induction kvs generalizing acc with
  | nil => simp [mergeT]
  | cons p r ih =>
    have h : (acc.any fun kv => decide (kv.1 = p.1)) = false := by
      rw [List.any_eq_false]
      intro q hq e
      have e := of_decide_eq_true e
      rw [List.map_append, List.nodup_append] at nd
      exact nd.2.2 q.1 (List.mem_map.mpr ⟨q, hq, rfl⟩) p.1 (by simp) e
    have e : dputT acc p.1 p.2 = acc ++ [p] := by
      unfold dputT
      rw [h]
      simp
    show mergeT (dputT acc p.1 p.2) r = _
    rw [e, ih (by rw [List.append_assoc]; exact nd), List.append_assoc]
    rfl
theorem pairsOf_kvs : ∀ {kvs : List (Key × T)}, DVd kvs → pairsOf (kvs.map fun p => T.tup [keyT p.1, p.2]) = some kvs
  | [], _ => rfl
  | (k, x) :: r, h => by
    obtain ⟨z, rfl, _⟩ := h.1
    rw [List.map_cons]
    unfold pairsOf
    rw [pairsOf_kvs h.2.2]
    rfl
theorem copy_step {n : Nat} {φ : Fn} (h : CopyOk n φ) : CopyOk (n + 1) (runB0 false 3 (b__law_copy φ)) := by
  intro t s R d hd q
  cases t with
  | lst xs =>
    obtain ⟨d1, d2⟩ := d
    simp [b__law_copy, st1, isTy, List.replicate, noOwn, wipeL, itemsN]
    refine comp_map (f := id) (fun x hx R' q' => ?_) ?_
    · have := h x s R' (d2.mem x hx) (by have := deps_mem hx; unfold dep at hd; omega) q'
      simpa using this
    · simp; exact ⟨len_size d1, q⟩
  | tup xs =>
    obtain ⟨d1, d2⟩ := d
    simp [b__law_copy, st1, isTy, List.replicate, noOwn, wipeL, itemsN]
    refine comp_map (f := id) (fun x hx R' q' => ?_) ?_
    · have := h x s R' (d2.mem x hx) (by have := deps_mem hx; unfold dep at hd; omega) q'
      simpa using this
    · simp; exact ⟨len_size d1, q⟩
  | dct kvs =>
    obtain ⟨d1, d2, d3⟩ := d
    simp [b__law_copy, st1, isTy, List.replicate, noOwn, wipeL, itemsN]
    refine comp_dict (h := fun p => T.tup [keyT p.1, p.2]) (fun p hp R' q' => ?_) ?_
    · obtain ⟨⟨z, ez, lz⟩, dp⟩ := d3.mem p hp
      have e1 := dget_mem d2 hp
      rw [ez] at e1 q' ⊢
      have h2 : (2 : Nat) ≤ sizeLine := by decide
      have := h p.2 s (fun t s => R' (.tup [.str z, t]) s) dp (by have := depd_mem hp; unfold dep at hd; omega) q'
      simpa [keyT, e1, h2] using this
    · refine ⟨by simp; exact len_size64 d1, ?_⟩
      show wpR (match pairsOf (kvs.map fun p => T.tup [keyT p.1, p.2]) with | some kvs => Res.ok (.dct (mergeT [] kvs)) s | none => .bad) R
      rw [pairsOf_kvs d3]
      show R (.dct (mergeT [] kvs)) s
      rw [merge_new (acc := []) (by simpa using d2)]
      exact q
  | non => simp [b__law_copy, st1, isTy, q]
  | bl b => simp [b__law_copy, st1, isTy, q]
  | int b => simp [b__law_copy, st1, isTy, q]
  | str b => simp [b__law_copy, st1, isTy, q]
  | _ => exact d.elim

/-! ### _law_any, _law_name, _law_plain -/
def AnyOk (φ : Fn) : Prop := ∀ (rest s : Sh) (xs : List T) (R : T → Sh → Prop), Dr rest s → 0 < xs.length → xs.length ≤ 100000 → (∀ x ∈ xs, ∀ s, Dr rest s → R x s) → wpR (φ [.cel 0, .lst xs] s) R
theorem any_ok {φ : Fn} (h : PullOk φ) : AnyOk (runB0 false 2 (b__law_any φ)) := by
  intro rest s xs R d h0 h1 q
  simp [b__law_any, st2]
  refine h rest s _ _ d (by omega) (by omega) fun r s' d' r0 r1 => ?_
  obtain ⟨t, e1, _, hm⟩ := atI_nat r0 r1
  simp [e1]
  exact q t hm s' d'
end TL

/-! plain Lean over the T-layer, 4: names, plain values, values, records drawn -/
namespace TL
open PySem PySem.Spec L2

/-- a, b, .. z -/
abbrev low (c : Nat) : Prop := 97 ≤ c ∧ c ≤ 122
/-- a sign of a text -/
abbrev sgn (c : Nat) : Prop := low c ∨ (48 ≤ c ∧ c ≤ 57) ∨ c = 32
def NameT (x : Str) : Prop := 0 < x.length ∧ x.length ≤ 8 ∧ ∀ c ∈ x.cps.toList, low c
def TextT (x : Str) : Prop := x.length ≤ 12 ∧ ∀ c ∈ x.cps.toList, sgn c
def NameOk (φ : Fn) : Prop := ∀ (rest s : Sh) (R : T → Sh → Prop), Dr rest s → (∀ x s, Dr rest s → NameT x → R (.str x) s) → wpR (φ [.cel 0] s) R
section
variable {R : T → Sh → Prop} {s : Sh}
theorem p_mulS (x : Str) (n : Int) (h0 : 0 ≤ n) (h1 : n ≤ 1000) (h2 : x.length ≤ 1000) : opMul (.str x) (.int n) s = .ok (.str ⟨(List.replicate n.toNat x.cps.toList).flatten.toArray⟩) s := if_pos ⟨h0, h1, h2⟩
end
theorem low_abc : ∀ c ∈ ("abcdefghijklmnopqrstuvwxyz" : Str).cps.toList, low c := by
  have : (("abcdefghijklmnopqrstuvwxyz" : Str).cps.toList.all fun c => decide (97 ≤ c ∧ c ≤ 122)) = true := by decide +kernel
  intro c hc
  exact of_decide_eq_true (List.all_eq_true.mp this c hc)
def nmB (x : Str) : Bool := decide (0 < x.length) && decide (x.length ≤ 8) && x.cps.toList.all fun c => decide (97 ≤ c ∧ c ≤ 122)
theorem nmB_is {x : Str} (h : nmB x = true) : NameT x := by
  unfold nmB at h
  rw [Bool.and_eq_true, Bool.and_eq_true] at h
  exact ⟨of_decide_eq_true h.1.1, of_decide_eq_true h.1.2, fun c hc => of_decide_eq_true (List.all_eq_true.mp h.2 c hc)⟩
def txB (x : Str) : Bool := decide (x.length ≤ 12) && x.cps.toList.all fun c => decide ((97 ≤ c ∧ c ≤ 122) ∨ (48 ≤ c ∧ c ≤ 57) ∨ c = 32)
theorem txB_is {x : Str} (h : txB x = true) : TextT x := by
  unfold txB at h
  rw [Bool.and_eq_true] at h
  exact ⟨of_decide_eq_true h.1, fun c hc => of_decide_eq_true (List.all_eq_true.mp h.2 c hc)⟩
theorem flat_rep (c : Nat) : ∀ m : Nat, (List.replicate m [c]).flatten = List.replicate m c
  | 0 => rfl
  | m + 1 => by rw [List.replicate_succ, List.flatten_cons, flat_rep c m]; rfl
/-- an item of a written list -/
theorem ix_of {xs : List T} {i : Int} {R : T → Sh → Prop} {s : Sh} (h0 : 0 ≤ i) (h1 : i < xs.length) (q : ∀ x ∈ xs, R x s) : wpR (opIx (.lst xs) (.int i) s) R := by
  rw [p_ixL]
  obtain ⟨t, e, _, hm⟩ := atI_nat h0 h1
  exact ⟨t, e, q t hm⟩
theorem name_ok {φ : Fn} (h : PullOk φ) : NameOk (runB0 false 1 (b__law_name φ)) := by
  intro rest s R d q
  simp [b__law_name, st1]
  refine h rest s 9 _ d (by decide) (by decide) fun r s1 d1 _ _ => ?_
  simp
  by_cases hr : r = 0
  · rw [if_pos hr]
    refine h rest s1 26 _ d1 (by decide) (by decide) fun r s2 d2 r0 r1 => ?_
    obtain ⟨c, e1, _, hm⟩ := atI_nat (xs := ("abcdefghijklmnopqrstuvwxyz" : Str).cps.toList) r0 (by
      have : (("abcdefghijklmnopqrstuvwxyz" : Str).cps.toList.length : Int) = 26 := by decide +kernel
      omega)
    simp [e1]
    refine h rest s2 8 _ d2 (by decide) (by decide) fun k s3 d3 k0 k1 => ?_
    have l1 : (⟨#[c]⟩ : Str).length = 1 := rfl
    simp
    rw [p_mulS _ _ (by omega) (by omega) (by rw [l1]; decide)]
    obtain ⟨m, rfl⟩ := Int.eq_ofNat_of_zero_le k0
    have e2 : (1 + (m : Int)).toNat = m + 1 := by omega
    simp only [wpR_ok]
    refine q _ s3 d3 ?_
    rw [e2]
    show NameT ⟨(List.replicate (m + 1) [c]).flatten.toArray⟩
    rw [flat_rep]
    have e4 : (⟨(List.replicate (m + 1) c).toArray⟩ : Str).length = m + 1 := by
      show ((List.replicate (m + 1) c).toArray).size = m + 1
      simp
    refine ⟨by rw [e4]; omega, by rw [e4]; omega, fun x hx => ?_⟩
    have hx' : x ∈ List.replicate (m + 1) c := by simpa using hx
    rw [List.eq_of_mem_replicate hx']
    exact low_abc c hm
  · rw [if_neg hr]
    have h6 : (6 : Nat) ≤ sizeLine := by decide
    simp [h6]
    refine h rest s1 6 _ d1 (by decide) (by decide) fun k s3 d3 k0 k1 => ?_
    refine ix_of k0 k1 fun t hm => ?_
    simp only [List.mem_cons, List.not_mem_nil, or_false] at hm
    rcases hm with rfl | rfl | rfl | rfl | rfl | rfl <;> exact q _ s3 d3 (nmB_is (by decide +kernel))

/-- None, a number, a text -/
def PlainT (t : T) : Prop := t = .non ∨ (∃ i : Int, t = .int i ∧ i.natAbs < 10 ^ 30) ∨ ∃ x, t = .str x ∧ TextT x
def PlainOk (φ : Fn) : Prop := ∀ (rest s : Sh) (R : T → Sh → Prop), Dr rest s → (∀ t s, Dr rest s → PlainT t → R t s) → wpR (φ [.cel 0] s) R
theorem p_addS (x y : Str) (s : Sh) (h : x.length + y.length ≤ sizeLine) : opAdd (.str x) (.str y) s = .ok (.str (x ++ y)) s := if_pos h
theorem cps_app (x y : Str) : (x ++ y).cps.toList = x.cps.toList ++ y.cps.toList := by
  show (x.cps ++ y.cps).toList = _
  simp
theorem cutS_mem {z : Str} {lo hi : Option Int} {c : Nat} (h : c ∈ (cutS z lo hi).cps.toList) : c ∈ z.cps.toList := by
  unfold cutS at h
  have h' := List.mem_of_mem_take (by simpa using h : c ∈ (z.cps.toList.drop _).take _)
  exact List.mem_of_mem_drop h'
theorem cutS_len12 (z : Str) : (cutS z none (some 12)).length ≤ 12 := by
  unfold cutS
  show (((z.cps.toList.drop _).take _).toArray).size ≤ 12
  rw [List.size_toArray, List.length_take]
  have : HT.sIx z.length z.length (some 12) ≤ 12 := by
    show (min (12 : Int).toNat z.length) ≤ 12
    exact Nat.min_le_left _ _
  omega
theorem plain_ok {φ ψ : Fn} (h : PullOk φ) (ha : AnyOk ψ) : PlainOk (runB0 false 4 (b__law_plain ψ φ)) := by
  intro rest s R d q
  have any : ∀ (xs : List T) (s : Sh), Dr rest s → 0 < xs.length → xs.length ≤ 100000 → (∀ x ∈ xs, PlainT x) → wpR (ψ [.cel 0, .lst xs] s) R := fun xs s d h0 h1 hp => ha rest s xs R d h0 h1 fun x hx s' d' => q x s' d' (hp x hx)
  have hI : ∀ i : Int, i.natAbs < 10 ^ 30 → PlainT (.int i) := fun i hi => .inr (.inl ⟨i, rfl, hi⟩)
  have hS : ∀ x : Str, txB x = true → PlainT (.str x) := fun x hx => .inr (.inr ⟨x, rfl, txB_is hx⟩)
  have h8 : (8 : Nat) ≤ sizeLine := by decide
  have h5 : (5 : Nat) ≤ sizeLine := by decide
  have h4 : (4 : Nat) ≤ sizeLine := by decide
  have h1 : (1 : Nat) ≤ sizeLine := by decide
  have c29 : cPow 10 29 = true := by decide
  have c9 : cPow 10 9 = true := by decide
  simp [b__law_plain, st1, List.replicate]
  refine h rest s 9 _ d (by decide) (by decide) fun r s1 d1 r0 r1 => ?_
  simp
  by_cases hr : r < 5
  · rw [if_pos hr]
    by_cases hz : r = 0
    · rw [if_pos hz]; exact q _ s1 d1 (.inl rfl)
    · rw [if_neg hz]
      refine h rest s1 6 _ d1 (by decide) (by decide) fun k s2 d2 k0 k1 => ?_
      simp
      exact q _ s2 d2 (hI _ (by omega))
  · rw [if_neg hr]
    simp [h8]
    by_cases h5' : r = 5
    · subst h5'
      simp [c29, c9]
      refine h rest s1 _ _ d1 (by decide) (by decide) fun k s2 d2 k0 k1 => ?_
      simp [h5]
      refine any _ s2 d2 (by simp) (by simp) fun x hx => ?_
      simp only [List.mem_cons, List.not_mem_nil, or_false] at hx
      rcases hx with rfl | rfl | rfl | rfl | rfl
      · exact hI _ (by decide)
      · exact hI _ (by decide)
      · exact hI _ (by decide)
      · exact hI _ (by decide)
      · exact hI _ (by omega)
    · rw [if_neg h5']
      by_cases h6 : r = 6
      · rw [if_pos h6]
        simp [h4]
        refine ha rest s1 _ _ d1 (by simp) (by simp) fun x hx s2 d2 => ?_
        have hx' : ∃ z, x = .str z ∧ txB z = true := by
          simp only [List.mem_cons, List.not_mem_nil, or_false] at hx
          rcases hx with rfl | rfl | rfl | rfl <;> exact ⟨_, rfl, by decide +kernel⟩
        obtain ⟨z, rfl, hz⟩ := hx'
        have hz := txB_is hz
        simp [opSl]
        refine h rest s2 12 _ d2 (by decide) (by decide) fun k s3 d3 k0 k1 => ?_
        simp [opSl]
        refine h rest s3 10 _ d3 (by decide) (by decide) fun j s4 d4 j0 j1 => ?_
        obtain ⟨c, e1, _, hm⟩ := atI_nat (xs := ("abcxyz019 " : Str).cps.toList) j0 (by
          have : (("abcxyz019 " : Str).cps.toList.length : Int) = 10 := by decide +kernel
          omega)
        have hc : sgn c := (txB_is (x := "abcxyz019 ") (by decide +kernel)).2 c hm
        simp [e1]
        have l1 : (⟨#[c]⟩ : Str).length = 1 := rfl
        have l2 := cutS_len z none (some k)
        have l3 := hz.1
        have l30 : (30 : Nat) ≤ sizeLine := by decide
        rw [p_addS _ _ _ (by rw [l1]; omega)]
        simp
        rw [p_addS _ _ _ (by rw [str_app_len, l1]; omega)]
        simp [h1]
        refine any _ s4 d4 (by simp) (by simp) fun x hx => ?_
        simp only [List.mem_cons, List.not_mem_nil, or_false] at hx
        subst hx
        refine .inr (.inr ⟨_, rfl, cutS_len12 _, fun c' hc' => ?_⟩)
        have := cutS_mem hc'
        rw [cps_app, cps_app, List.mem_append, List.mem_append] at this
        rcases this with (h' | h') | h'
        · exact hz.2 c' (cutS_mem h')
        · have : c' = c := by simpa using h'
          rw [this]; exact hc
        · exact hz.2 c' h'
      · rw [if_neg h6]
        refine any _ s1 d1 (by simp) (by simp) fun x hx => ?_
        simp only [List.mem_cons, List.not_mem_nil, or_false] at hx
        rcases hx with rfl | rfl | rfl | rfl | rfl | rfl | rfl | rfl <;> exact hS _ (by decide +kernel)
end TL

/-! plain Lean over the T-layer, 5: values without bools and tuples; values and records drawn -/
namespace TL
open PySem PySem.Spec L2

mutual
/-- no bool, no tuple in it -/
def nb : T → Bool
  | .non => true
  | .int _ => true
  | .str _ => true
  | .lst xs => nbs xs
  | .dct kvs => nbd kvs
  | _ => false
def nbs : List T → Bool
  | [] => true
  | x :: xs => nb x && nbs xs
def nbd : List (Key × T) → Bool
  | [] => true
  | (_, x) :: r => nb x && nbd r
end
theorem nbs_mem : ∀ {xs : List T}, nbs xs = true → ∀ x ∈ xs, nb x = true
  | [], _, _, h => by cases h
  | y :: ys, d, x, h => by
    have d' : (nb y && nbs ys) = true := d
    rw [Bool.and_eq_true] at d'
    rcases List.mem_cons.mp h with rfl | h
    · exact d'.1
    · exact nbs_mem d'.2 x h
theorem nbs_of : ∀ {xs : List T}, (∀ x ∈ xs, nb x = true) → nbs xs = true
  | [], _ => rfl
  | y :: ys, h => by
    show (nb y && nbs ys) = true
    rw [h y (by simp), nbs_of fun x hx => h x (by simp [hx])]
    rfl
theorem nbd_mem : ∀ {xs : List (Key × T)}, nbd xs = true → ∀ p ∈ xs, nb p.2 = true
  | [], _, _, h => by cases h
  | (k, y) :: ys, d, x, h => by
    have d' : (nb y && nbd ys) = true := d
    rw [Bool.and_eq_true] at d'
    rcases List.mem_cons.mp h with rfl | h
    · exact d'.1
    · exact nbd_mem d'.2 x h
theorem nbd_of : ∀ {xs : List (Key × T)}, (∀ p ∈ xs, nb p.2 = true) → nbd xs = true
  | [], _ => rfl
  | (k, y) :: ys, h => by
    show (nb y && nbd ys) = true
    rw [h (k, y) (by simp), nbd_of fun x hx => h x (by simp [hx])]
    rfl
/-- a value: data without bools and tuples, of depth d at most -/
structure JV (d : Nat) (t : T) : Prop where
  dv : DV t
  nb : TL.nb t = true
  dp : dep t ≤ d
theorem JV.mono {d e : Nat} {t : T} (h : JV d t) (l : d ≤ e) : JV e t := ⟨h.dv, h.nb, Nat.le_trans h.dp l⟩
theorem jv_plain {t : T} (h : PlainT t) : JV 0 t := by
  rcases h with rfl | ⟨i, rfl, _⟩ | ⟨x, rfl, h⟩
  · exact ⟨trivial, rfl, Nat.le_refl _⟩
  · exact ⟨trivial, rfl, Nat.le_refl _⟩
  · exact ⟨Nat.le_trans h.1 (by decide), rfl, Nat.le_refl _⟩
theorem jv_lst {d : Nat} {xs : List T} (hl : xs.length ≤ 100000) (h : ∀ x ∈ xs, JV d x) : JV (d + 1) (.lst xs) :=
  ⟨⟨hl, DVs.of fun x hx => (h x hx).dv⟩, nbs_of fun x hx => (h x hx).nb, Nat.succ_le_succ (deps_le fun x hx => (h x hx).dp)⟩
theorem jv_dct {d : Nat} {kvs : List (Key × T)} (hl : kvs.length < 64) (nd : (kvs.map (·.1)).Nodup) (h : ∀ p ∈ kvs, KeyT p.1 ∧ JV d p.2) : JV (d + 1) (.dct kvs) :=
  ⟨⟨hl, nd, DVd.of fun p hp => ⟨(h p hp).1, (h p hp).2.dv⟩⟩, nbd_of fun p hp => (h p hp).2.nb, Nat.succ_le_succ (depd_le fun p hp => (h p hp).2.dp)⟩
theorem JV.lst {d : Nat} {xs : List T} (h : JV d (.lst xs)) : ∀ x ∈ xs, JV (d - 1) x := fun x hx =>
  ⟨h.dv.2.mem x hx, nbs_mem h.nb x hx, by have := deps_mem hx; have h2 := h.dp; unfold dep at h2; omega⟩
theorem JV.lst_pos {d : Nat} {xs : List T} (h : JV d (.lst xs)) : 0 < d := by have h2 := h.dp; unfold dep at h2; omega
theorem JV.dct_pos {d : Nat} {xs : List (Key × T)} (h : JV d (.dct xs)) : 0 < d := by have h2 := h.dp; unfold dep at h2; omega
theorem JV.dct {d : Nat} {kvs : List (Key × T)} (h : JV d (.dct kvs)) : ∀ p ∈ kvs, KeyT p.1 ∧ JV (d - 1) p.2 := fun p hp =>
  ⟨(h.dv.2.2.mem p hp).1, (h.dv.2.2.mem p hp).2, nbd_mem h.nb p hp, by have := depd_mem hp; have h2 := h.dp; unfold dep at h2; omega⟩

/-! ### putting into a dict -/
theorem dput_mem {kvs : List (Key × T)} {k : Key} {v : T} {p : Key × T} (h : p ∈ dputT kvs k v) : p ∈ kvs ∨ p = (k, v) := by
  unfold dputT at h
  split at h
  · obtain ⟨q, hq, e⟩ := List.mem_map.mp h
    by_cases c : q.1 = k
    · rw [if_pos c] at e; right; rw [← e, c]
    · rw [if_neg c] at e; left; rw [← e]; exact hq
  · rcases List.mem_append.mp h with h | h
    · exact .inl h
    · exact .inr (by simpa using h)
theorem dput_keys (kvs : List (Key × T)) (k : Key) (v : T) : (k ∈ kvs.map (·.1) ∧ (dputT kvs k v).map (·.1) = kvs.map (·.1)) ∨ (k ∉ kvs.map (·.1) ∧ (dputT kvs k v).map (·.1) = kvs.map (·.1) ++ [k]) := by
  have e : (kvs.any fun kv => decide (kv.1 = k)) = true ↔ k ∈ kvs.map (·.1) := by
    rw [List.any_eq_true, List.mem_map]
    constructor
    · rintro ⟨p, hp, h⟩; exact ⟨p, hp, of_decide_eq_true h⟩
    · rintro ⟨p, hp, h⟩; exact ⟨p, hp, decide_eq_true h⟩
  unfold dputT
  by_cases c : (kvs.any fun kv => decide (kv.1 = k)) = true
  · refine .inl ⟨e.mp c, ?_⟩
    rw [if_pos c, List.map_map]
    apply List.map_congr_left
    intro p _
    show (if p.1 = k then (p.1, v) else p).1 = p.1
    split <;> rfl
  · refine .inr ⟨fun h => c (e.mpr h), ?_⟩
    rw [if_neg c, List.map_append]
    rfl
theorem dput_nd {kvs : List (Key × T)} {k : Key} {v : T} (h : (kvs.map (·.1)).Nodup) : ((dputT kvs k v).map (·.1)).Nodup := by
  rcases dput_keys kvs k v with ⟨_, e⟩ | ⟨c, e⟩
  · rw [e]; exact h
  · rw [e, List.nodup_append]
    refine ⟨h, by simp, fun a ha b hb => ?_⟩
    have : b = k := by simpa using hb
    rw [this]
    intro e
    exact c (e ▸ ha)
/-- a name put into a growing record -/
theorem own_put {kvs : List (Key × T)} {x : Str} {v : T} {l : Loc} {s : Sh} {i : Nat} {nx bk ct : Loc → Sh → Prop} {rt : T → Sh → Prop} (e : l.at i = .own (.dct kvs)) (h : kvs.length < sizeLine) (q : nx (l.set i (.own (.dct (dputT kvs (.inr x) v)))) s) : wpF (sPutK i v (.str x) l s) nx rt bk ct := by
  unfold sPutK
  rw [e]
  have : putOwn (.dct kvs) (.str x) v = some (.dct (dputT kvs (.inr x) v)) := by
    show (if kvs.length < sizeLine then some _ else none) = _
    rw [if_pos h]
  simp only [this]
  exact q

/-! ### _law_value, _law_record -/
/-- what a record is: JV, its names NameT -/
def NamesT (kvs : List (Key × T)) : Prop := ∀ p ∈ kvs, ∃ z, p.1 = Sum.inr z ∧ NameT z
def ValueOk (n : Nat) (φ : Fn) : Prop := ∀ (rest s : Sh) (b : Nat) (R : T → Sh → Prop), Dr rest s → b < n → (∀ t s, Dr rest s → JV b t → R t s) → wpR (φ [.cel 0, .int b] s) R
def RecordOk (n : Nat) (φ : Fn) : Prop := ∀ (rest s : Sh) (b wide : Nat) (R : T → Sh → Prop), Dr rest s → b < n → wide ≤ 60 → (∀ kvs s, Dr rest s → JV (b + 1) (.dct kvs) → kvs.length ≤ wide → R (.dct kvs) s) → wpR (φ [.cel 0, .int b, .int wide] s) R
theorem value0 (φ : Fn) : ValueOk 0 φ := fun _ _ _ _ _ h _ => absurd h (Nat.not_lt_zero _)
theorem record0 (φ : Fn) : RecordOk 0 φ := fun _ _ _ _ _ _ h _ _ => absurd h (Nat.not_lt_zero _)
theorem value_step {n : Nat} {φ ψ χ ρ : Fn} (h : PullOk φ) (hp : PlainOk ρ) (hv : ValueOk n ψ) (hr : RecordOk n χ) : ValueOk (n + 1) (runB0 false 4 (b__law_value φ ψ χ ρ)) := by
  intro rest s b R d hb q
  simp [b__law_value, st2, List.replicate]
  refine h rest s 7 _ d (by decide) (by decide) fun r s1 d1 r0 r1 => ?_
  simp
  have pl : wpR (ρ [.cel 0] s1) R := hp rest s1 R d1 fun t s2 d2 ht => q t s2 d2 ((jv_plain ht).mono (Nat.zero_le _))
  by_cases hz : b = 0
  · rw [if_pos hz]; exact pl
  · rw [if_neg hz]
    by_cases h4 : r < 4
    · rw [if_pos h4]; exact pl
    · rw [if_neg h4]
      have eb : (b : Int) - 1 = ((b - 1 : Nat) : Int) := by omega
      by_cases h5 : r = 4
      · rw [if_pos h5]
        rw [eb]
        exact hr rest s1 (b - 1) 3 R d1 (by omega) (by decide) fun kvs s2 d2 hk _ => q _ s2 d2 (hk.mono (by omega))
      · rw [if_neg h5]
        simp [noOwn, wipeL]
        refine h rest s1 4 _ d1 (by decide) (by decide) fun k s2 d2 k0 k1 => ?_
        simp [rg1_int k0 (show k ≤ 100000 by omega)]
        refine comp_inv (P := JV (b - 1)) (J := Dr rest) (fun x hx s3 d3 => ⟨_, rfl, ?_⟩) d2 fun ys s3 hl hy d3 => ?_
        · simp
          rw [eb]
          exact hv rest s3 (b - 1) _ d3 (by omega) fun t s4 d4 ht => ⟨ht, d4⟩
        · have hl' : ys.length ≤ 100000 := by
            rw [hl]
            simp [rangeT]
            omega
          exact ⟨len_size hl', q _ s3 d3 ((jv_lst hl' hy).mono (by omega))⟩
def RecJ (rest : Sh) (b wide : Nat) (items : List T) (l : Loc) (s : Sh) : Prop := Dr rest s ∧ ∃ kvs y, l = [.t (.cel 0), .t (.int b), .t (.int wide), .own (.dct kvs), y] ∧ JV (b + 1) (.dct kvs) ∧ kvs.length + items.length ≤ wide
theorem record_step {n : Nat} {φ ψ χ : Fn} (h : PullOk φ) (hn : NameOk χ) (hv : ValueOk (n + 1) ψ) : RecordOk (n + 1) (runB0 false 5 (b__law_record φ χ ψ)) := by
  intro rest s b wide R d hb hw q
  simp [b__law_record, st3, List.replicate]
  refine h rest s _ _ d (by omega) (by omega) fun k s1 d1 k0 k1 => ?_
  simp [rg1_int k0 (show k ≤ 100000 by omega)]
  refine for_inv (J := RecJ rest b wide) ?_ ?_ ?_
  · rintro l s2 ⟨d2, kvs, y, rfl, hj, hl⟩
    exact ⟨_, rfl, q kvs s2 d2 hj (by simpa using hl)⟩
  · rintro x items l s2 ⟨d2, kvs, y, rfl, hj, hl⟩
    refine ⟨_, rfl, ?_⟩
    simp
    refine hv rest s2 b _ d2 hb fun t s3 d3 ht => ?_
    refine ⟨rfl, ?_⟩
    refine hn rest s3 _ d3 fun z s4 d4 hz => ?_
    rw [List.length_cons] at hl
    refine own_put rfl (Nat.lt_of_lt_of_le (show kvs.length < 64 by omega) (by decide)) ⟨d4, _, _, rfl, ?_, ?_⟩
    · refine jv_dct ?_ (dput_nd hj.dv.2.1) fun p hp => ?_
      · have := dputT_length kvs (Sum.inr z) t; omega
      · rcases dput_mem hp with hp | rfl
        · exact hj.dct p hp
        · exact ⟨⟨z, rfl, Nat.le_trans hz.2.1 (by decide)⟩, ht⟩
    · have := dputT_length kvs (Sum.inr z) t; omega
  · refine ⟨d1, [], .no, rfl, jv_dct (by decide) (by simp) fun p hp => (by cases hp), ?_⟩
    simp [rangeT]
    omega
end TL

/-! plain Lean over the T-layer, 6: kinds of values, depth, size -/
namespace TL
open PySem PySem.Spec L2

/-! ### names and texts -/
def nB (x : Str) : Bool := decide (1 ≤ x.length) && (decide (x.length ≤ 8) && x.cps.toList.all fun c => decide (c ∈ ("abcdefghijklmnopqrstuvwxyz" : Str).cps.toList))
def sB (x : Str) : Bool := decide (x.length ≤ 12) && x.cps.toList.all fun c => decide (c ∈ ("abcdefghijklmnopqrstuvwxyz0123456789 " : Str).cps.toList)
section
variable {R : T → Sh → Prop} {s : Sh}
@[simp] theorem in_sign (c : Nat) (y : Str) : opIn (.str ⟨#[c]⟩) (.str y) s = .ok (.bl (decide (c ∈ y.cps.toList))) s := by
  show Res.ok (T.bl (false ^^ inStr ⟨#[c]⟩ y)) s = _
  rw [Bool.false_xor]
  rfl
theorem comp_chars {i : Nat} {elt : Ev} {l : Loc} {b : Nat → Bool} {x : Str} {Q : List T → Sh → Prop} (h : ∀ c ∈ x.cps.toList, ∀ R : T → Sh → Prop, R (.bl (b c)) s → wpR (elt (l.set i (.t (.str ⟨#[c]⟩))) s) R) (q : Q (x.cps.toList.map fun c => .bl (b c)) s) : wpR (compL (.nm i) cYes elt (charsT x) l s) Q := by
  unfold charsT
  revert h q
  generalize x.cps.toList = cs
  intro h q
  induction cs generalizing Q with
  | nil => exact q
  | cons c cs ih =>
    rw [List.map_cons]
    unfold compL
    simp only [setT, wpR_bind, wp_cYes, if_true]
    refine h c (by simp) _ ?_
    exact ih (Q := fun ys s => Q (.bl (b c) :: ys) s) (fun c hc => h c (by simp [hc])) q
theorem low_mem (c : Nat) : decide (c ∈ ("abcdefghijklmnopqrstuvwxyz" : Str).cps.toList) = decide (97 ≤ c ∧ c ≤ 122) := by
  by_cases h : c < 123
  · have : ((List.range 123).all fun c => decide (c ∈ ("abcdefghijklmnopqrstuvwxyz" : Str).cps.toList) == decide (97 ≤ c ∧ c ≤ 122)) = true := by decide +kernel
    exact eq_of_beq (List.all_eq_true.mp this c (List.mem_range.mpr h))
  · rw [decide_eq_false (fun hc => h (by have := low_abc c hc; omega)), decide_eq_false (by omega)]
theorem lt1 (c d : Nat) : ltS ⟨#[c]⟩ ⟨#[d]⟩ = decide (c < d) := by
  unfold ltS
  show decide ([c] < [d]) = _
  rw [Bool.eq_iff_iff, decide_eq_true_eq, decide_eq_true_eq, List.cons_lt_cons_iff]
  simp
theorem str_a : ("a" : Str) = ⟨#[97]⟩ := by decide +kernel
theorem str_z : ("z" : Str) = ⟨#[122]⟩ := by decide +kernel
theorem len_app (x : Str) : x.length = x.cps.toList.length := rfl
theorem chars_len (x : Str) (b : Nat → Bool) : (x.cps.toList.map fun c => T.bl (b c)).length = x.length := by rw [List.length_map]; rfl
end

/-! ### is_name, is_plain and the law's own -/
/-- is_name -/
def nmT : T → Bool
  | .str x => nB x
  | _ => false
def IsNameOk (φ : Fn) : Prop := ∀ (t : T) (s : Sh) (R : T → Sh → Prop), DV t → nb t = true → R (.bl (nmT t)) s → wpR (φ [t] s) R
theorem is_name_ok : IsNameOk (runB0 false 2 b_is_name) := by
  intro t s R d hn q
  cases t with
  | str x =>
    simp [b_is_name, st1, isTy, List.replicate]
    unfold nmT nB at q
    simp only at q
    by_cases h1 : (1 : Int) ≤ (x.length : Int)
    · have h1' : decide (1 ≤ x.length) = true := decide_eq_true (by omega)
      rw [if_pos h1]
      by_cases h2 : (x.length : Int) ≤ 8
      · have h2' : decide (x.length ≤ 8) = true := decide_eq_true (by omega)
        rw [if_pos h2]
        simp [noOwn, wipeL, itemsN]
        rw [h1', h2'] at q
        refine comp_chars (b := fun c => decide (c ∈ ("abcdefghijklmnopqrstuvwxyz" : Str).cps.toList)) (fun c _ R' q' => ?_) ?_
        · simpa using q'
        · exact ⟨by rw [chars_len]; exact len_size d, wp_all q⟩
      · have h2' : decide (x.length ≤ 8) = false := decide_eq_false (by omega)
        rw [if_neg h2]
        rw [h1', h2'] at q
        exact q
    · have h1' : decide (1 ≤ x.length) = false := decide_eq_false (by omega)
      rw [if_neg h1]
      rw [h1'] at q
      exact q
  | non => simpa [b_is_name, st1, isTy, nmT] using q
  | int i => simpa [b_is_name, st1, isTy, nmT] using q
  | lst xs => simpa [b_is_name, st1, isTy, nmT] using q
  | dct xs => simpa [b_is_name, st1, isTy, nmT] using q
  | _ => cases hn
/-- a name by the law's own words -/
def PathOk1 (φ : Fn) : Prop := ∀ (x : Str) (s : Sh) (R : T → Sh → Prop), x.length ≤ 100000 → R (.bl (nB x)) s → wpR (φ [.tup [.str x], .int 1, .int 1] s) R
theorem path_ok1 : PathOk1 (runB0 false 5 b__law_path_ok) := by
  intro x s R d q
  have one : (1 : Nat) ≤ sizeLine := by decide
  simp [b__law_path_ok, st3, isTy, List.replicate, noOwn, wipeL, itemsN]
  refine comp_map (f := fun _ => .bl (nB x)) (fun t ht R' q' => ?_) ?_
  · have : t = .str x := by simpa using ht
    subst this
    simp
    unfold nB at q'
    by_cases h1 : (1 : Int) ≤ (x.length : Int)
    · have h1' : decide (1 ≤ x.length) = true := decide_eq_true (by omega)
      rw [if_pos h1]
      by_cases h2 : (x.length : Int) ≤ 8
      · have h2' : decide (x.length ≤ 8) = true := decide_eq_true (by omega)
        rw [if_pos h2]
        simp [noOwn, wipeL, itemsN]
        rw [h1', h2'] at q'
        refine comp_chars (b := fun c => decide (c ∈ ("abcdefghijklmnopqrstuvwxyz" : Str).cps.toList)) (fun c _ R2 q2 => ?_) ?_
        · rw [low_mem] at q2
          simp
          rw [str_a, str_z, lt1, lt1]
          by_cases g1 : c < 97
          · rw [decide_eq_true g1] 
            simp
            rw [decide_eq_false (by omega)] at q2
            exact q2
          · rw [decide_eq_false g1]
            simp
            by_cases g2 : 122 < c
            · rw [decide_eq_true g2]
              rw [decide_eq_false (by omega)] at q2
              exact q2
            · rw [decide_eq_false g2]
              rw [decide_eq_true (by omega)] at q2
              exact q2
        · exact ⟨by rw [chars_len]; exact len_size d, wp_all q'⟩
      · have h2' : decide (x.length ≤ 8) = false := decide_eq_false (by omega)
        rw [if_neg h2]
        rw [h1', h2'] at q'
        exact q'
    · have h1' : decide (1 ≤ x.length) = false := decide_eq_false (by omega)
      rw [if_neg h1]
      rw [h1'] at q'
      exact q'
  · refine ⟨by simp; exact one, ?_⟩
    have : [T.str x].map (fun _ => T.bl (nB x)) = [x].map fun x => T.bl (nB x) := rfl
    rw [this]
    refine wp_all ?_
    simpa using q
def TextOk (φ : Fn) : Prop := ∀ (x : Str) (s : Sh) (R : T → Sh → Prop), x.length ≤ 100000 → R (.bl (sB x)) s → wpR (φ [.str x] s) R
theorem text_core {x : Str} {s : Sh} {R : T → Sh → Prop} (d : x.length ≤ 100000) (q : R (.bl (sB x)) s) : if (x.length : Int) ≤ 12 then wpR (compL (.nm 1) cYes (e2 opIn (eVar 1) (eC (.str "abcdefghijklmnopqrstuvwxyz0123456789 "))) (charsT x) [.t (.str x), .no] s) (fun ys s => ys.length ≤ sizeLine ∧ wpR (biAll [.lst ys] s) R) else R (.bl false) s := by
  unfold sB at q
  by_cases h2 : (x.length : Int) ≤ 12
  · have h2' : decide (x.length ≤ 12) = true := decide_eq_true (by omega)
    rw [if_pos h2]
    rw [h2'] at q
    refine comp_chars (b := fun c => decide (c ∈ ("abcdefghijklmnopqrstuvwxyz0123456789 " : Str).cps.toList)) (fun c _ R' q' => ?_) ?_
    · simpa using q'
    · exact ⟨by rw [chars_len]; exact len_size d, wp_all q⟩
  · have h2' : decide (x.length ≤ 12) = false := decide_eq_false (by omega)
    rw [if_neg h2]
    rw [h2'] at q
    exact q
theorem text_ok : TextOk (runB0 false 2 b__law_text_ok) := by
  intro x s R d q
  simp [b__law_text_ok, st1, isTy, List.replicate, noOwn, wipeL, itemsN]
  exact text_core d q
/-- is_plain -/
def plB : T → Bool
  | .str x => sB x
  | .lst _ => false
  | .dct _ => false
  | _ => true
def IsPlainOk (φ : Fn) : Prop := ∀ (t : T) (s : Sh) (R : T → Sh → Prop), DV t → nb t = true → R (.bl (plB t)) s → wpR (φ [t] s) R
theorem is_plain_ok : IsPlainOk (runB0 false 2 b_is_plain) := by
  intro t s R d hn q
  cases t with
  | str x =>
    simp [b_is_plain, st1, isTy, List.replicate, noOwn, wipeL, itemsN]
    exact text_core d q
  | non => simpa [b_is_plain, st1, isTy, plB] using q
  | int i => simpa [b_is_plain, st1, isTy, plB] using q
  | lst xs => simpa [b_is_plain, st1, isTy, plB] using q
  | dct xs => simpa [b_is_plain, st1, isTy, plB] using q
  | _ => cases hn
end TL

/-! plain Lean over the T-layer, 7: is_value, depth, size -/
namespace TL
open PySem PySem.Spec L2

def keyB : Key → Bool
  | .inr x => nB x
  | .inl _ => false
mutual
def vok : T → Bool
  | .str x => sB x
  | .lst xs => voks xs
  | .dct kvs => vokd kvs
  | _ => true
def voks : List T → Bool
  | [] => true
  | x :: xs => vok x && voks xs
def vokd : List (Key × T) → Bool
  | [] => true
  | (k, x) :: r => (keyB k && vok x) && vokd r
end
theorem voks_all : ∀ xs : List T, voks xs = xs.all vok
  | [] => rfl
  | x :: xs => by
    show (vok x && voks xs) = _
    rw [voks_all xs, List.all_cons]
theorem vokd_all : ∀ xs : List (Key × T), vokd xs = xs.all fun p => keyB p.1 && vok p.2
  | [] => rfl
  | (k, x) :: xs => by
    show ((keyB k && vok x) && vokd xs) = _
    rw [vokd_all xs, List.all_cons]
def IsValueOk (n : Nat) (φ : Fn) : Prop := ∀ (t : T) (s : Sh) (R : T → Sh → Prop), DV t → nb t = true → dep t < n → R (.bl (vok t)) s → wpR (φ [t] s) R
theorem is_value0 (φ : Fn) : IsValueOk 0 φ := fun _ _ _ _ _ h _ => absurd h (Nat.not_lt_zero _)
theorem nb_lst {xs : List T} (h : nb (.lst xs) = true) : nbs xs = true := h
theorem nb_dct {xs : List (Key × T)} (h : nb (.dct xs) = true) : nbd xs = true := h
theorem is_value_step {n : Nat} {φ ψ χ : Fn} (hp : IsPlainOk φ) (h : IsValueOk n ψ) (hn : IsNameOk χ) : IsValueOk (n + 1) (runB0 false 3 (b_is_value φ ψ χ)) := by
  intro t s R d hb hd q
  cases t with
  | lst xs =>
    obtain ⟨d1, d2⟩ := d
    simp [b_is_value, st1, isTy, List.replicate, noOwn, wipeL, itemsN]
    refine comp_map (f := fun x => .bl (vok x)) (fun x hx R' q' => ?_) ?_
    · have := h x s R' (d2.mem x hx) (nbs_mem (nb_lst hb) x hx) (by have := deps_mem hx; unfold dep at hd; omega) q'
      simpa using this
    · refine ⟨by simp; exact len_size d1, wp_all ?_⟩
      rw [← voks_all]
      exact q
  | dct kvs =>
    obtain ⟨d1, d2, d3⟩ := d
    simp [b_is_value, st1, isTy, List.replicate, noOwn, wipeL, itemsN]
    refine comp_dict (h := fun p => .bl (keyB p.1 && vok p.2)) (fun p hp R' q' => ?_) ?_
    · obtain ⟨⟨z, ez, lz⟩, dp⟩ := d3.mem p hp
      have e1 := dget_mem d2 hp
      have hv := h p.2 s R' dp (nbd_mem (nb_dct hb) p hp) (by have := depd_mem hp; unfold dep at hd; omega)
      rw [ez] at e1 q' ⊢
      simp [keyT]
      refine hn (.str z) s _ lz rfl ?_
      show onB (.bl (nB z)) _
      have q2 : R' (.bl (nB z && vok p.2)) s := q'
      cases e : nB z with
      | true =>
        rw [e] at q2
        simpa [e1] using hv q2
      | false =>
        rw [e] at q2
        simpa using q2
    · refine ⟨by simp; exact len_size64 d1, wp_all ?_⟩
      rw [← vokd_all]
      exact q
  | non => simp [b_is_value, st1, isTy]; exact hp _ s R d hb q
  | int i => simp [b_is_value, st1, isTy]; exact hp _ s R d hb q
  | str x => simp [b_is_value, st1, isTy]; exact hp _ s R d hb q
  | _ => cases hb

/-! ### the law's own word of it -/
def ValueGood (n : Nat) (φ : Fn) : Prop := IsValueOk n φ
theorem value_good_step {n : Nat} {φ ψ χ : Fn} (hp : TextOk φ) (h : IsValueOk n ψ) (hn : PathOk1 χ) : IsValueOk (n + 1) (runB0 false 3 (b__law_value_ok φ ψ χ)) := by
  intro t s R d hb hd q
  cases t with
  | lst xs =>
    obtain ⟨d1, d2⟩ := d
    simp [b__law_value_ok, st1, isTy, List.replicate, noOwn, wipeL, itemsN]
    refine comp_map (f := fun x => .bl (vok x)) (fun x hx R' q' => ?_) ?_
    · have := h x s R' (d2.mem x hx) (nbs_mem (nb_lst hb) x hx) (by have := deps_mem hx; unfold dep at hd; omega) q'
      simpa using this
    · refine ⟨by simp; exact len_size d1, wp_all ?_⟩
      rw [← voks_all]
      exact q
  | dct kvs =>
    obtain ⟨d1, d2, d3⟩ := d
    have one : (1 : Nat) ≤ sizeLine := by decide
    simp [b__law_value_ok, st1, isTy, List.replicate, noOwn, wipeL, itemsN]
    refine comp_dict (h := fun p => .bl (keyB p.1 && vok p.2)) (fun p hp R' q' => ?_) ?_
    · obtain ⟨⟨z, ez, lz⟩, dp⟩ := d3.mem p hp
      have e1 := dget_mem d2 hp
      have hv := h p.2 s R' dp (nbd_mem (nb_dct hb) p hp) (by have := depd_mem hp; unfold dep at hd; omega)
      rw [ez] at e1 q' ⊢
      simp [keyT, one]
      refine hn z s _ lz ?_
      show onB (.bl (nB z)) _
      have q2 : R' (.bl (nB z && vok p.2)) s := q'
      cases e : nB z with
      | true =>
        rw [e] at q2
        simpa [e1] using hv q2
      | false =>
        rw [e] at q2
        simpa using q2
    · refine ⟨by simp; exact len_size64 d1, wp_all ?_⟩
      rw [← vokd_all]
      exact q
  | non => simpa [b__law_value_ok, st1, isTy, vok] using q
  | int i => simpa [b__law_value_ok, st1, isTy, vok] using q
  | str x => simp [b__law_value_ok, st1, isTy]; exact hp x s R d q
  | _ => cases hb

/-! ### what is within, depth, size -/
def kids : T → List T
  | .lst xs => xs
  | .dct kvs => kvs.map (·.2)
  | _ => []
theorem kids_dv {t : T} (d : DV t) (hb : nb t = true) : (kids t).length ≤ 100000 ∧ ∀ x ∈ kids t, DV x ∧ nb x = true ∧ dep x < dep t := by
  cases t with
  | lst xs => exact ⟨d.1, fun x hx => ⟨d.2.mem x hx, nbs_mem (nb_lst hb) x hx, Nat.lt_succ_of_le (deps_mem (xs := xs) hx)⟩⟩
  | dct kvs =>
    refine ⟨by show (kvs.map (·.2)).length ≤ _; rw [List.length_map]; have := d.1; omega, fun x hx => ?_⟩
    obtain ⟨p, hp, rfl⟩ := List.mem_map.mp hx
    exact ⟨(d.2.2.mem p hp).2, nbd_mem (nb_dct hb) p hp, Nat.lt_succ_of_le (depd_mem hp)⟩
  | non => exact ⟨Nat.zero_le _, fun x hx => by cases hx⟩
  | int _ => exact ⟨Nat.zero_le _, fun x hx => by cases hx⟩
  | str _ => exact ⟨Nat.zero_le _, fun x hx => by cases hx⟩
  | _ => cases hb
def WithinOk (φ : Fn) : Prop := ∀ (t : T) (s : Sh) (R : T → Sh → Prop), DV t → nb t = true → R (.lst (kids t)) s → wpR (φ [t] s) R
/-- the things under a record's names -/
theorem comp_vals {i : Nat} {l : Loc} {s : Sh} {kvs : List (Key × T)} {Q : List T → Sh → Prop} (j : Nat) (d2 : (kvs.map (·.1)).Nodup) (d3 : DVd kvs) (hj : ∀ x, vAt (l.set i (.t x)) j = fun Q => Q (.dct kvs)) (hi : ∀ x, vAt (l.set i (.t x)) i = fun Q => Q x) (q : Q (kvs.map (·.2)) s) : wpR (compL (.nm i) cYes (e2 opIx (eVar j) (eVar i)) (kvs.map fun p => keyT p.1) l s) Q := by
  refine comp_dict (h := fun p => p.2) (fun p hp R' q' => ?_) q
  obtain ⟨⟨z, ez, lz⟩, dp⟩ := d3.mem p hp
  have e1 := dget_mem d2 hp
  rw [ez] at e1 ⊢
  simp [hj, hi, keyT, e1, q']
theorem within_ok : WithinOk (runB0 false 2 b_within) := by
  intro t s R d hb q
  cases t with
  | lst xs => simpa [b_within, st1, isTy, kids] using q
  | dct kvs =>
    obtain ⟨d1, d2, d3⟩ := d
    simp [b_within, st1, isTy, List.replicate, noOwn, wipeL, itemsN]
    exact comp_vals 0 d2 d3 (fun _ => rfl) (fun _ => rfl) ⟨by rw [List.length_map]; exact len_size64 d1, q⟩
  | non => simpa [b_within, st1, isTy, kids] using q
  | int i => simpa [b_within, st1, isTy, kids] using q
  | str x => simpa [b_within, st1, isTy, kids] using q
  | _ => cases hb
mutual
def szT : T → Nat
  | .lst xs => szs xs
  | .dct kvs => szd kvs
  | _ => 0
def szs : List T → Nat
  | [] => 0
  | x :: xs => (1 + szT x) + szs xs
def szd : List (Key × T) → Nat
  | [] => 0
  | (_, x) :: xs => (1 + szT x) + szd xs
end
mutual
def dpT : T → Nat
  | .lst xs => dps xs
  | .dct kvs => dpd kvs
  | _ => 0
def dps : List T → Nat
  | [] => 0
  | x :: xs => max (1 + dpT x) (dps xs)
def dpd : List (Key × T) → Nat
  | [] => 0
  | (_, x) :: xs => max (1 + dpT x) (dpd xs)
end
theorem szs_sum : ∀ xs : List T, (xs.map fun x => (1 + (szT x : Int))).sum = (szs xs : Int)
  | [] => rfl
  | x :: xs => by
    rw [List.map_cons, List.sum_cons, szs_sum xs]
    show _ = (((1 + szT x) + szs xs : Nat) : Int)
    omega
theorem szd_eq : ∀ xs : List (Key × T), szd xs = szs (xs.map (·.2))
  | [] => rfl
  | (k, x) :: xs => by
    show (1 + szT x) + szd xs = _
    rw [szd_eq xs]
    rfl
theorem dpd_eq : ∀ xs : List (Key × T), dpd xs = dps (xs.map (·.2))
  | [] => rfl
  | (k, x) :: xs => by
    show max (1 + dpT x) (dpd xs) = _
    rw [dpd_eq xs]
    rfl
theorem sz_kids (t : T) : szT t = szs (kids t) := by
  cases t with
  | dct kvs => exact szd_eq kvs
  | _ => rfl
theorem dp_kids (t : T) : dpT t = dps (kids t) := by
  cases t with
  | dct kvs => exact dpd_eq kvs
  | _ => rfl
theorem fold_max : ∀ (xs : List T) (a : Nat), (xs.map fun x => (1 + (dpT x : Int))).foldl max (a : Int) = ((max a (dps xs) : Nat) : Int)
  | [], a => by simp [dps]
  | x :: xs, a => by
    rw [List.map_cons, List.foldl_cons]
    have e : max (a : Int) (1 + (dpT x : Int)) = ((max a (1 + dpT x) : Nat) : Int) := by omega
    rw [e, fold_max xs]
    show _ = ((max a (max (1 + dpT x) (dps xs)) : Nat) : Int)
    congr 1
    omega
theorem dps_max (xs : List T) : maxL (xs.map fun x => (1 + (dpT x : Int))) 0 = (dps xs : Int) := by
  cases xs with
  | nil => rfl
  | cons x xs =>
    show (xs.map fun x => (1 + (dpT x : Int))).foldl max (1 + (dpT x : Int)) = _
    have e : (1 + (dpT x : Int)) = ((1 + dpT x : Nat) : Int) := by omega
    rw [e, fold_max xs]
    rfl
section
variable {R : T → Sh → Prop} {s : Sh}
theorem wp_maxDf {α : Type} {f : α → Int} {xs : List α} {d : Int} (q : R (.int (maxL (xs.map f) d)) s) : wpR (biMaxDf [.lst (xs.map fun x => T.int (f x))] [.int d] s) R := by
  show wpR (match intsOf (xs.map fun x => T.int (f x)) with | some bs => Res.ok (.int (maxL bs d)) s | none => .bad) R
  rw [intsOf_fn]
  exact q
theorem wp_sumS {α : Type} {f : α → Int} {xs : List α} (q : R (.int (xs.map f).sum) s) : wpR (biSumS [.lst (xs.map fun x => T.int (f x))] [.int 0] s) R := by
  show wpR (if (0 : Int) = 0 then (match intsOf (xs.map fun x => T.int (f x)) with | some bs => Res.ok (.int bs.sum) s | none => .bad) else .bad) R
  rw [intsOf_fn, if_pos rfl]
  exact q
theorem wp_sum {α : Type} {f : α → Int} {xs : List α} (q : R (.int (xs.map f).sum) s) : wpR (biSum [.lst (xs.map fun x => T.int (f x))] s) R := by
  show wpR (match intsOf (xs.map fun x => T.int (f x)) with | some bs => Res.ok (.int bs.sum) s | none => .bad) R
  rw [intsOf_fn]
  exact q
end
def DepthOk (n : Nat) (φ : Fn) : Prop := ∀ (t : T) (s : Sh) (R : T → Sh → Prop), DV t → nb t = true → dep t < n → R (.int (dpT t)) s → wpR (φ [t] s) R
def SizeOk (n : Nat) (φ : Fn) : Prop := ∀ (t : T) (s : Sh) (R : T → Sh → Prop), DV t → nb t = true → dep t < n → R (.int (szT t)) s → wpR (φ [t] s) R
theorem depth0 (φ : Fn) : DepthOk 0 φ := fun _ _ _ _ _ h _ => absurd h (Nat.not_lt_zero _)
theorem size0 (φ : Fn) : SizeOk 0 φ := fun _ _ _ _ _ h _ => absurd h (Nat.not_lt_zero _)
theorem depth_step {n : Nat} {φ ψ : Fn} (hw : WithinOk φ) (h : DepthOk n ψ) : DepthOk (n + 1) (runB0 false 2 (b_depth φ ψ)) := by
  intro t s R d hb hd q
  obtain ⟨k1, k2⟩ := kids_dv d hb
  simp [b_depth, st1, List.replicate, noOwn]
  refine hw t s _ d hb ?_
  simp [itemsT, wipeL]
  refine comp_map (f := fun x => .int (1 + (dpT x : Int))) (fun x hx R' q' => ?_) ?_
  · obtain ⟨h1, h2, h3⟩ := k2 x hx
    have := h x s (fun t s => wpR (opAdd (.int 1) t s) R') h1 h2 (by omega) (by simpa using q')
    simpa using this
  · refine ⟨by rw [List.length_map]; exact len_size k1, wp_maxDf ?_⟩
    rw [dps_max, ← dp_kids]
    exact q
theorem size_step {n : Nat} {φ ψ : Fn} (hw : WithinOk φ) (h : SizeOk n ψ) : SizeOk (n + 1) (runB0 false 2 (b_size φ ψ)) := by
  intro t s R d hb hd q
  obtain ⟨k1, k2⟩ := kids_dv d hb
  simp [b_size, st1, List.replicate, noOwn]
  refine hw t s _ d hb ?_
  simp [itemsT, wipeL]
  refine comp_map (f := fun x => .int (1 + (szT x : Int))) (fun x hx R' q' => ?_) ?_
  · obtain ⟨h1, h2, h3⟩ := k2 x hx
    have := h x s (fun t s => wpR (opAdd (.int 1) t s) R') h1 h2 (by omega) (by simpa using q')
    simpa using this
  · refine ⟨by rw [List.length_map]; exact len_size k1, wp_sumS ?_⟩
    rw [szs_sum, ← sz_kids]
    exact q
end TL

/-! plain Lean over the T-layer, 8: extent, documents, spoilt values, chains -/
namespace TL
open PySem PySem.Spec L2

theorem comp_mapT {tt : Tgt} {elt : Ev} {l : Loc} {s : Sh} {α : Type} {g : α → T} {f : α → T} {Q : List T → Sh → Prop} : ∀ {items : List α}, (∀ x ∈ items, ∃ l1, setT tt (g x) l = some l1 ∧ ∀ R : T → Sh → Prop, R (f x) s → wpR (elt l1 s) R) → Q (items.map f) s → wpR (compL tt cYes elt (items.map g) l s) Q
  | [], _, q => q
  | x :: items, h, q => by
    rw [List.map_cons]
    unfold compL
    obtain ⟨l1, e, hx⟩ := h x (by simp)
    rw [e]
    simp only [wpR_bind, wp_cYes, if_true]
    refine hx _ ?_
    exact comp_mapT (Q := fun ys s => Q (f x :: ys) s) (fun y hy => h y (by simp [hy])) q
def ext (t : T) : T := .tup [.int (szT t), .int (dpT t)]
def ExtOk (n : Nat) (φ : Fn) : Prop := ∀ (t : T) (s : Sh) (R : T → Sh → Prop), DV t → nb t = true → dep t < n → R (ext t) s → wpR (φ [t] s) R
theorem ext0 (φ : Fn) : ExtOk 0 φ := fun _ _ _ _ _ h _ => absurd h (Nat.not_lt_zero _)
theorem ext_step {n : Nat} {φ : Fn} (h : ExtOk n φ) : ExtOk (n + 1) (runB0 false 6 (b__law_extent φ)) := by
  intro t s R d hb hd q
  obtain ⟨k1, k2⟩ := kids_dv d hb
  have two : (2 : Nat) ≤ sizeLine := by decide
  -- the end, from the list of what is within
  have fin : ∀ (x : T) (y : Slot), wpR (compL (.tp [4, 5]) cYes (e2 opAdd (eC (.int 1)) (eVar 4)) ((kids t).map ext) [.t x, y, .t (.lst ((kids t).map ext)), .no, .no, .no] s) fun ys s => ys.length ≤ sizeLine ∧ wpR (biSum [.lst ys] s) fun u s => wpR (compL (.tp [4, 5]) cYes (e2 opAdd (eC (.int 1)) (eVar 5)) ((kids t).map ext) [.t x, y, .t (.lst ((kids t).map ext)), .no, .no, .no] s) fun zs s => zs.length ≤ sizeLine ∧ wpR (biMaxDf [.lst zs] [.int 0] s) fun w s => R (.tup [u, w]) s := by
    intro x y
    refine comp_mapT (f := fun x => .int (1 + (szT x : Int))) (fun z hz => ⟨_, rfl, fun R' q' => by simpa using q'⟩) ⟨by rw [List.length_map]; exact len_size k1, wp_sum ?_⟩
    rw [szs_sum, ← sz_kids]
    refine comp_mapT (f := fun x => .int (1 + (dpT x : Int))) (fun z hz => ⟨_, rfl, fun R' q' => by simpa using q'⟩) ⟨by rw [List.length_map]; exact len_size k1, wp_maxDf ?_⟩
    rw [dps_max, ← dp_kids]
    exact q
  have rows : ∀ (l : Loc) (Q : List T → Sh → Prop), (∀ x, vAt (l.set 3 (.t x)) 3 = fun Q => Q x) → Q ((kids t).map ext) s → wpR (compL (.nm 3) cYes (eCall φ (aCons (eVar 3) aNil)) (kids t) l s) Q := by
    intro l Q hl q2
    refine comp_map (f := ext) (fun x hx R' q' => ?_) q2
    obtain ⟨h1, h2, h3⟩ := k2 x hx
    have := h x s R' h1 h2 (by omega) q'
    simpa [hl] using this
  cases t with
  | lst xs =>
    simp [b__law_extent, st1, isTy, List.replicate, noOwn, wipeL, itemsN]
    refine rows _ _ (fun _ => rfl) ⟨by rw [List.length_map]; exact len_size k1, ?_⟩
    have := fin (.lst xs) .no
    simpa [two] using this
  | dct kvs =>
    obtain ⟨d1, d2, d3⟩ := d
    simp [b__law_extent, st1, isTy, List.replicate, noOwn, wipeL, itemsN]
    refine comp_vals 0 d2 d3 (fun _ => rfl) (fun _ => rfl) ⟨by rw [List.length_map]; exact len_size64 d1, ?_⟩
    refine rows _ _ (fun _ => rfl) ⟨by rw [List.length_map]; exact len_size k1, ?_⟩
    have := fin (.lst (kvs.map fun x => x.2)) .no
    simpa [two] using this
  | non =>
    simp [b__law_extent, st1, isTy, List.replicate, noOwn, wipeL, itemsN]
    have := fin .non .no
    simpa [two, kids] using this
  | int i =>
    simp [b__law_extent, st1, isTy, List.replicate, noOwn, wipeL, itemsN]
    have := fin (.int i) .no
    simpa [two, kids] using this
  | str x =>
    simp [b__law_extent, st1, isTy, List.replicate, noOwn, wipeL, itemsN]
    have := fin (.str x) .no
    simpa [two, kids] using this
  | _ => cases hb
def ExtSz (n : Nat) (φ : Fn) : Prop := SizeOk n φ
theorem lsize_ok {n : Nat} {φ : Fn} (h : ExtOk n φ) : SizeOk n (runB0 false 1 (b__law_size φ)) := by
  intro t s R d hb hd q
  simp [b__law_size, st1]
  refine h t s _ d hb hd ?_
  simp [ext]
  exact ⟨_, rfl, q⟩
theorem ldeep_ok {n : Nat} {φ : Fn} (h : ExtOk n φ) : DepthOk n (runB0 false 1 (b__law_deep φ)) := by
  intro t s R d hb hd q
  simp [b__law_deep, st1]
  refine h t s _ d hb hd ?_
  simp [ext]
  exact ⟨_, rfl, q⟩
/-! ### is_document -/
def isDct : T → Bool
  | .dct _ => true
  | _ => false
def docB (t : T) (deep most : Int) : Bool := isDct t && (vok t && (decide ((dpT t : Int) ≤ deep) && decide ((szT t : Int) ≤ most)))
def IsDocOk (n : Nat) (φ : Fn) : Prop := ∀ (t : T) (deep most : Int) (s : Sh) (R : T → Sh → Prop), DV t → nb t = true → dep t < n → R (.bl (docB t deep most)) s → wpR (φ [t, .int deep, .int most] s) R
theorem is_doc_ok {n : Nat} {φ ψ χ : Fn} (hs : SizeOk n φ) (hd : DepthOk n ψ) (hv : IsValueOk n χ) : IsDocOk n (runB0 false 3 (b_is_document φ ψ χ)) := by
  intro t deep most s R d hb hn q
  unfold docB at q
  cases t with
  | dct kvs =>
    simp [b_is_document, st3, isTy, List.replicate]
    refine hv _ s _ d hb hn ?_
    have q1 : R (.bl (vok (.dct kvs) && (decide ((dpT (.dct kvs) : Int) ≤ deep) && decide ((szT (.dct kvs) : Int) ≤ most)))) s := q
    simp
    cases e : vok (.dct kvs) with
    | false => rw [e] at q1; simpa using q1
    | true =>
      rw [e] at q1
      simp
      refine hd _ s _ d hb hn ?_
      simp
      by_cases h1 : (dpT (.dct kvs) : Int) ≤ deep
      · rw [if_pos h1]
        rw [decide_eq_true h1] at q1
        refine hs _ s _ d hb hn ?_
        simpa using q1
      · rw [if_neg h1]
        rw [decide_eq_false h1] at q1
        simpa using q1
  | non => simpa [b_is_document, st3, isTy, isDct] using q
  | int i => simpa [b_is_document, st3, isTy, isDct] using q
  | str i => simpa [b_is_document, st3, isTy, isDct] using q
  | lst i => simpa [b_is_document, st3, isTy, isDct] using q
  | _ => cases hb

/-! ### _law_spoilt_value -/
def SpoiltOk (n : Nat) (φ : Fn) : Prop := ∀ (rest s : Sh) (t : T) (e : Nat) (R : T → Sh → Prop), Dr rest s → JV e t → dep t < n → (∀ u s, Dr rest s → JV e u → R u s) → wpR (φ [.cel 0, t] s) R
theorem spoilt0 (φ : Fn) : SpoiltOk 0 φ := fun _ _ _ _ _ _ _ h _ => absurd h (Nat.not_lt_zero _)
theorem jv_str {x : Str} (h : x.length ≤ 100000) (e : Nat) : JV e (.str x) := ⟨h, rfl, Nat.zero_le _⟩
theorem ne_nil {xs : List T} {s : Sh} : opNe (.lst xs) (.lst []) s = .ok (.bl (!xs.isEmpty)) s := by
  cases xs with
  | nil => rfl
  | cons x xs => rfl
theorem ne_nilD {xs : List (Key × T)} {s : Sh} : opNe (.dct xs) (.dct []) s = .ok (.bl (!xs.isEmpty)) s := by
  cases xs with
  | nil => rfl
  | cons x xs => rfl
theorem p_addL (xs ys : List T) (s : Sh) (h : xs.length + ys.length ≤ sizeLine) : opAdd (.lst xs) (.lst ys) s = .ok (.lst (xs ++ ys)) s := if_pos h
theorem cut_mem {α : Type} {xs : List α} {lo hi : Option Int} {x : α} (h : x ∈ cutA xs lo hi) : x ∈ xs := by
  unfold cutA at h
  exact List.mem_of_mem_drop (List.mem_of_mem_take h)
theorem sort_mem {ks : List Str} {x : Str} (h : x ∈ sortS ks) : x ∈ ks := (List.mergeSort_perm ks lebS).mem_iff.mp h
theorem sort_len (ks : List Str) : (sortS ks).length = ks.length := (List.mergeSort_perm ks lebS).length_eq
theorem keyStrs_mem {kvs : List (Key × T)} {ks : List Str} (h : keyStrs kvs = some ks) {x : Str} (hx : x ∈ ks) : ∃ p ∈ kvs, p.1 = Sum.inr x := by
  have : Sum.inr x ∈ kvs.map (·.1) := by rw [keyStrs_map h]; exact List.mem_map.mpr ⟨x, hx, rfl⟩
  obtain ⟨p, hp, e⟩ := List.mem_map.mp this
  exact ⟨p, hp, e⟩
theorem sort_dct {kvs : List (Key × T)} {s : Sh} (d1 : kvs.length < 64) (d3 : DVd kvs) : ∃ ks, keyStrs kvs = some ks ∧ biSort [.dct kvs] s = .ok (.lst ((sortS ks).map T.str)) s := by
  obtain ⟨ks, e⟩ := keyStrs_of d3
  refine ⟨ks, e, ?_⟩
  unfold biSort
  simp only [e]
  rw [if_pos (by rw [keyStrs_len e]; exact d1)]
theorem spoilt_step {n : Nat} {φ ψ χ : Fn} (ha : AnyOk φ) (h : PullOk ψ) (hs : SpoiltOk n χ) : SpoiltOk (n + 1) (runB0 false 5 (b__law_spoilt_value φ ψ χ)) := by
  intro rest s t e R d j hd q
  have five : (5 : Nat) ≤ sizeLine := by decide
  have one : (1 : Nat) ≤ sizeLine := by decide
  -- a text in its stead
  have txt : ∀ (s : Sh), Dr rest s → wpR (φ [.cel 0, .lst [.str "A", .str "a-b", .str "abcdefghijklm", .str "!", .str "x\n"]] s) R := fun s d => ha rest s _ R d (by simp) (by simp) fun x hx s' d' => by
    simp only [List.mem_cons, List.not_mem_nil, or_false] at hx
    rcases hx with rfl | rfl | rfl | rfl | rfl <;> exact q _ s' d' (jv_str (by decide +kernel) e)
  cases t with
  | lst xs =>
    have j1 := j.dv.1
    simp [b__law_spoilt_value, st2, isTy, ne_nil]
    by_cases hx : xs = []
    · subst hx
      simp [five]
      exact txt s d
    · have hl : 0 < xs.length := List.length_pos_iff.mpr hx
      simp [hx, List.replicate]
      refine h rest s _ _ d (by omega) (by omega) fun r s1 d1 r0 r1 => ?_
      obtain ⟨t, e1, _, hm⟩ := atI_nat r0 r1
      simp [opSl, e1]
      have hj := j.lst t hm
      refine hs rest s1 t (e - 1) _ d1 hj (by have := deps_mem hm; have h2 : deps xs + 1 < n + 1 := hd; omega) fun u s2 d2 ju => ?_
      simp [one]
      have l1 := cutA_length xs none (some r)
      have l2 := cutA_length xs (some (r + 1)) none
      have big : (300000 : Nat) ≤ sizeLine := by decide
      rw [p_addL _ _ _ (by simp; omega)]
      simp
      rw [p_addL _ _ _ (by simp; omega)]
      refine q _ s2 d2 ?_
      have hp := j.lst_pos
      have cl : (cutA xs none (some r)).length + 1 + (cutA xs (some (r + 1)) none).length ≤ 100000 := by
        unfold cutA
        rw [List.length_take, List.length_drop, List.length_take, List.length_drop]
        have a1 : HT.sIx xs.length xs.length (some r) = r.toNat := by
          show (if r < 0 then _ else min r.toNat xs.length) = _
          rw [if_neg (by omega)]
          omega
        have a2 : HT.sIx xs.length 0 (some (r + 1)) = (r + 1).toNat := by
          show (if r + 1 < 0 then _ else min (r + 1).toNat xs.length) = _
          rw [if_neg (by omega)]
          omega
        have a3 : HT.sIx xs.length 0 none = 0 := rfl
        have a4 : HT.sIx xs.length xs.length none = xs.length := rfl
        rw [a1, a2, a3, a4]
        omega
      have := jv_lst (d := e - 1) (xs := cutA xs none (some r) ++ [u] ++ cutA xs (some (r + 1)) none) (by simp; omega) fun x hx => by
        rcases List.mem_append.mp hx with hx | hx
        · rcases List.mem_append.mp hx with hx | hx
          · exact j.lst x (cut_mem hx)
          · cases List.mem_singleton.mp hx; exact ju
        · exact j.lst x (cut_mem hx)
      have e2 : e - 1 + 1 = e := by omega
      rw [e2] at this
      simpa using this
  | dct kvs =>
    obtain ⟨d1, d2, d3⟩ := j.dv
    have hp := j.dct_pos
    have disp : ∀ s, Dr rest s → wpR (φ [.cel 0, .lst [.str "", .str "A", .str "abcdefghi", .str "a b", .str "a1"]] s) fun k s => wpR (match keyOf k with | some k => Res.ok [(k, T.int 1)] s | none => .bad) fun kvs s => R (.dct (mergeT [] kvs)) s := fun s d => ha rest s _ _ d (by simp) (by simp) fun x hx s' d' => by
      have fin : ∀ z : Str, z.length ≤ 100000 → R (.dct (mergeT [] [(Sum.inr z, .int 1)])) s' := fun z hz => q _ s' d' (by
        have := jv_dct (d := e - 1) (kvs := [(Sum.inr z, T.int 1)]) (by simp) (by simp) fun p hp => by
          cases List.mem_singleton.mp hp
          exact ⟨⟨z, rfl, hz⟩, ⟨trivial, rfl, Nat.zero_le _⟩⟩
        have e2 : e - 1 + 1 = e := by omega
        rw [e2] at this
        exact this)
      simp only [List.mem_cons, List.not_mem_nil, or_false] at hx
      rcases hx with rfl | rfl | rfl | rfl | rfl <;> exact fin _ (by decide +kernel)
    have dsp : ∀ (l : Loc) s, Dr rest s → l.at 0 = .t (.cel 0) → wpR (eDisp [((eCall φ (aCons (eVar 0) (aCons (eA dLst (aCons (eC (.str "")) (aCons (eC (.str "A")) (aCons (eC (.str "abcdefghi")) (aCons (eC (.str "a b")) (aCons (eC (.str "a1")) aNil)))))) aNil))), (eC (.int 1)))] l s) R := fun l s d hl => by
      unfold eDisp
      simp only [pairsEv, wpR_bind, wp_eCall, wp_aCons, wp_aNil, wp_eVar, wp_eC, wp_eA, wp_dLst]
      unfold vAt
      rw [hl]
      simp only
      refine ⟨five, ?_⟩
      refine (disp s d).imp fun k s' hk => ?_
      cases ek : keyOf k with
      | none => simp [ek] at hk
      | some k' => simpa [ek] using hk
    obtain ⟨ks, ek, es⟩ := sort_dct (s := s) d1 d3
    simp [b__law_spoilt_value, st2, isTy, ne_nilD, List.replicate]
    by_cases hx : kvs = []
    · subst hx
      simp
      exact dsp _ s d rfl
    · simp [hx]
      refine h rest s 3 _ d (by decide) (by decide) fun r s1 dr1 r0 r1 => ?_
      simp
      by_cases hr : 0 < r
      · rw [if_pos hr]
        have e1 : biDict [.dct kvs] s1 = .ok (.dct kvs) s1 := rfl
        obtain ⟨ks1, ek1, es1⟩ := sort_dct (s := s1) d1 d3
        rw [e1]
        simp [es1]
        have hk0 : 0 < ks1.length := by rw [keyStrs_len ek1]; exact List.length_pos_iff.mpr hx
        have hk1 := keyStrs_len ek1
        refine ha rest s1 _ _ dr1 (by rw [List.length_map, sort_len]; exact hk0) (by rw [List.length_map, sort_len]; omega) fun x hx' s2 dr2 => ?_
        obtain ⟨z, hz, rfl⟩ := List.mem_map.mp hx'
        obtain ⟨p, hp', ep⟩ := keyStrs_mem ek1 (sort_mem hz)
        have g1 := dget_mem d2 hp'
        rw [ep] at g1
        simp [g1]
        obtain ⟨hkp, hjp⟩ := j.dct p hp'
        refine hs rest s2 p.2 (e - 1) _ dr2 hjp (by have := depd_mem hp'; have h2 : depd kvs + 1 < n + 1 := hd; omega) fun u s3 dr3 ju => ⟨rfl, ?_⟩
        refine own_put rfl (Nat.lt_of_lt_of_le (show kvs.length < 64 from d1) (by decide)) ⟨_, rfl, q _ s3 dr3 ?_⟩
        have hmem : (Sum.inr z : Key) ∈ kvs.map (·.1) := List.mem_map.mpr ⟨p, hp', ep⟩
        have hl : (dputT kvs (Sum.inr z) u).length = kvs.length := by
          have := congrArg List.length (show (dputT kvs (Sum.inr z) u).map (·.1) = kvs.map (·.1) from by
            rcases dput_keys kvs (Sum.inr z) u with ⟨_, e⟩ | ⟨c, _⟩
            · exact e
            · exact absurd hmem c)
          simpa using this
        have := jv_dct (d := e - 1) (kvs := dputT kvs (Sum.inr z) u) (by rw [hl]; exact d1) (dput_nd d2) fun p' hp2 => by
          rcases dput_mem hp2 with hp2 | rfl
          · exact j.dct p' hp2
          · refine ⟨?_, ju⟩
            show KeyT (Sum.inr z)
            rw [← ep]; exact hkp
        have e2 : e - 1 + 1 = e := by omega
        rw [e2] at this
        exact this
      · rw [if_neg hr]
        exact dsp _ s1 dr1 rfl
  | non => simp [b__law_spoilt_value, st2, isTy, five]; exact txt s d
  | int i => simp [b__law_spoilt_value, st2, isTy, five]; exact txt s d
  | str x => simp [b__law_spoilt_value, st2, isTy, five]; exact txt s d
  | _ => cases j.nb
end TL

/-! plain Lean over the T-layer, 9: chains; the law k01 -/
namespace TL
open PySem PySem.Spec L2

theorem wp_disp1 {x : Str} {ev : Ev} {l : Loc} {s : Sh} {R : T → Sh → Prop} : wpR (eDisp [(eC (.str x), ev)] l s) R = wpR (ev l s) fun v s => R (.dct [(.inr x, v)]) s := by
  unfold eDisp
  simp only [pairsEv, wpR_bind, wp_eC]
  show wpR (Res.bind (ev l s) _) _ = _
  rw [wpR_bind]
  congr 1
theorem jv_one {d : Nat} {x : Str} {v : T} (h : JV d v) (hx : x.length ≤ 100000) : JV (d + 1) (.dct [(.inr x, v)]) := jv_dct (by simp) (by simp) fun p hp => by
  cases List.mem_singleton.mp hp
  exact ⟨⟨x, rfl, hx⟩, h⟩
def ChainOk (φ : Fn) : Prop := ∀ (rest s : Sh) (m : Int) (R : T → Sh → Prop), Dr rest s → 0 ≤ m → m ≤ 50 → (∀ u s, Dr rest s → JV (m.toNat + 1) u → R u s) → wpR (φ [.cel 0, .int m] s) R
def ChainJ (rest : Sh) (m : Int) (items : List T) (l : Loc) (s : Sh) : Prop := Dr rest s ∧ ∃ v y d, l = [.t (.cel 0), .t (.int m), .t v, y] ∧ JV d v ∧ d + items.length = m.toNat
theorem chain_ok {φ ψ : Fn} (h : PullOk φ) (hp : PlainOk ψ) : ChainOk (runB0 false 4 (b__law_chain φ ψ)) := by
  intro rest s m R d h0 h1 q
  have one : (1 : Nat) ≤ sizeLine := by decide
  have two : (2 : Nat) ≤ sizeLine := by decide
  simp [b__law_chain, st2, List.replicate]
  refine hp rest s _ d fun t s1 d1 ht => ?_
  rw [rg1_int h0 (by omega)]
  simp
  refine for_inv (J := ChainJ rest m) ?_ ?_ ?_
  · rintro l s2 ⟨d2, v, y, e, rfl, jv, he⟩
    rw [wp_disp1]
    simp
    refine q _ s2 d2 ?_
    have : e = m.toNat := by simpa using he
    subst this
    exact jv_one jv (by decide +kernel)
  · rintro x items l s2 ⟨d2, v, y, e, rfl, jv, he⟩
    refine ⟨_, rfl, ?_⟩
    simp [wp_disp1, one, two]
    refine h rest s2 2 _ d2 (by decide) (by decide) fun k s3 d3 k0 k1 => ?_
    refine ix_of k0 k1 fun u hu => ?_
    rw [List.length_cons] at he
    simp only [List.mem_cons, List.not_mem_nil, or_false] at hu
    refine ⟨d3, u, _, e + 1, rfl, ?_, by omega⟩
    rcases hu with rfl | rfl
    · exact jv_lst (by simp) fun x hx => by cases List.mem_singleton.mp hx; exact jv
    · exact jv_one jv (by decide +kernel)
  · refine ⟨d1, t, _, 0, rfl, jv_plain ht, ?_⟩
    simp [rangeT]

/-! ### steps of a law -/
section
variable {l : Loc} {s : Sh} {nx bk ct : Loc → Sh → Prop} {rt : T → Sh → Prop} {rest : Sh}
theorem asg_to {i : Nat} {ev : Ev} (t : T) (h : wpR (ev l s) fun u s' => u = t ∧ s' = s) (k : nx (l.set i (.t t)) s) : wpF (sAsg i ev l s) nx rt bk ct := by
  rw [wp_sAsg]
  exact h.imp fun u s' ⟨e1, e2⟩ => by rw [e1, e2]; exact k
theorem asg_dr {i : Nat} {ev : Ev} (P : T → Prop) (h : wpR (ev l s) fun u s' => P u ∧ Dr rest s') (k : ∀ u s', P u → Dr rest s' → nx (l.set i (.t u)) s') : wpF (sAsg i ev l s) nx rt bk ct := by
  rw [wp_sAsg]
  exact h.imp fun u s' ⟨e1, e2⟩ => k u s' e1 e2
/-- if c: return .., c False -/
theorem chk {c : Et} {e : Ev} (h : wpR (c l s) fun k s' => k = false ∧ s' = s) (q : nx l s) : wpF (sIf c (sRet e) sNil l s) nx rt bk ct := by
  rw [wp_sIf]
  exact h.imp fun u s' ⟨e1, e2⟩ => by rw [e1, e2]; exact q
/-- the type's name of a value without bools and tuples -/
def tyB : T → String
  | .int _ => "int"
  | .str _ => "str"
  | .lst _ => "list"
  | .dct _ => "dict"
  | _ => "NoneType"
theorem tyB_is {v : T} (h : nb v = true) (s : Sh) : tyName v s = some (tyB v) := by
  cases v <;> first | rfl | cases h
theorem tyB_dict {v : T} (h : nb v = true) : isTy (tyB v) "dict" = isDct v := by
  cases v <;> first | rfl | cases h | decide
def isStr : T → Bool
  | .str _ => true
  | _ => false
theorem tyB_str {v : T} (h : nb v = true) : isTy (tyB v) "str" = isStr v := by
  cases v <;> first | rfl | cases h | decide
def isLD : T → Bool
  | .lst _ => true
  | .dct _ => true
  | _ => false
theorem tyB_ld {v : T} (h : nb v = true) : (["list", "dict"].any fun n => isTy (tyB v) n) = isLD v := by
  cases v <;> first | rfl | cases h | decide
end

theorem pl_eq {v : T} (h : nb v = true) : plB v = (vok v && !isLD v) := by
  cases v with
  | str x => show sB x = (sB x && true); rw [Bool.and_true]
  | non => rfl
  | int i => rfl
  | lst xs => show false = (_ && false); rw [Bool.and_false]
  | dct xs => show false = (_ && false); rw [Bool.and_false]
  | _ => cases h
theorem doc_eq {v : T} {a b : Int} : docB v a b = ((vok v && isDct v) && (decide ((dpT v : Int) ≤ a) && decide ((szT v : Int) ≤ b))) := by
  unfold docB
  cases vok v <;> cases isDct v <;> simp
theorem nm_eq {v : T} (h : nb v = true) : nmT v = (isStr v && nmT v) := by
  cases v <;> first | rfl | cases h
/-- two bools of like worth -/
theorem dv_bl (b : Bool) : DV (.bl b) ∧ dep (.bl b) < 12 := ⟨trivial, Nat.succ_pos 11⟩
theorem dv_bls (bs : List Bool) (h : bs.length ≤ 100) : DV (.lst (bs.map T.bl)) ∧ dep (.lst (bs.map T.bl)) < 12 := by
  refine ⟨⟨by rw [List.length_map]; omega, DVs.of fun x hx => ?_⟩, Nat.lt_of_le_of_lt (Nat.succ_le_succ (deps_le (n := 0) fun x hx => ?_)) (by decide)⟩
  · obtain ⟨b, _, rfl⟩ := List.mem_map.mp hx; trivial
  · obtain ⟨b, _, rfl⟩ := List.mem_map.mp hx; exact Nat.le_refl _

/-! ### the law -/
def K1J (ns : List Int) (items : List T) (l : Loc) (s : Sh) : Prop := Dr [] s ∧ ∃ a2 a3 a5 a6 a7 a8 a9 a10 a11 a12 a13, l = [.t (.scr ns), .t (.cel 0), a2, a3, .no, a5, a6, a7, a8, a9, a10, a11, a12, a13, .no, .no, .no] ∧ ∀ x, a3 ≠ .own x
def K1M (ns : List Int) (l : Loc) (s : Sh) : Prop := Dr [] s ∧ ∃ a2 v a5 a6 a7 a8 a9 a10 a11 a12 a13, l = [.t (.scr ns), .t (.cel 0), a2, .t v, .no, a5, a6, a7, a8, a9, a10, a11, a12, a13, .no, .no, .no] ∧ JV 9 v
section
variable {pl pd pn pp pnm pa psz pdp pu ipl iv vo cp ch sp va op : Fn}
theorem k01_law (hl : LikeOk 12 pl) (hd : IsDocOk 12 pd) (hn : IsNameOk pn) (hp : PathOk1 pp) (hnm : NameOk pnm) (ha : AnyOk pa) (hsz : SizeOk 12 psz) (hdp : DepthOk 12 pdp) (hu : PullOk pu) (hip : IsPlainOk ipl) (hiv : IsValueOk 12 iv) (hvo : IsValueOk 12 vo) (hcp : CopyOk 12 cp) (hch : ChainOk ch) (hsp : SpoiltOk 12 sp) (hva : ValueOk 4 va)
    (hop : ∀ (ns : List Int) (R : T → Sh → Prop) (s : Sh), ns.length ≤ 63 → R (.lst [.lst (ns.map T.int), .int 0, .int 0, .int 43]) s → wpR (op [.scr ns] s) R) {ns : List Int} (hns : ns.length ≤ 63) :
    wpR (runB0 false 17 (b_law_k01 pl pd pn pp pnm pa psz pdp pu ipl iv vo cp ch sp va op) [.scr ns] []) fun t _ => t = .bl true := by
  have r4 : rg1 [.int 4] = fun s => .ok (rangeT 0 4) s := by funext s; exact rg1_int (by decide) (by decide)
  have s3 : (3 : Nat) ≤ sizeLine := by decide
  have s5 : (5 : Nat) ≤ sizeLine := by decide
  have s1' : (1 : Nat) ≤ sizeLine := by decide
  have s7 : (7 : Nat) ≤ sizeLine := by decide
  rw [wp_runB0]
  unfold b_law_k01
  simp only [wp_sSeq]
  rw [wp_sAsg]
  simp only [wp_eShare, wp_eCall, wp_aCons, wp_aNil, wp_eVar, st1, vAt_0]
  refine hop ns _ _ hns ?_
  rw [wp_share_lst, wp_sFor]
  simp only [List.replicate, List.length_nil, List.nil_append, wp_itA, wp_aCons, wp_aNil, wp_eC, r4, wpR_ok]
  refine for_inv (J := K1J ns) ?_ ?_ ?_
  · rintro l s ⟨d, a2, a3, a5, a6, a7, a8, a9, a10, a11, a12, a13, rfl, h3⟩
    have s2' : (2 : Nat) ≤ sizeLine := by decide
    have s6 : (6 : Nat) ≤ sizeLine := by decide
    have lone : JV 3 (.dct [(.inr "a", .lst [.lst [.int 1]])]) := jv_one (d := 2) (jv_lst (d := 1) (by simp) fun x hx => by
      cases List.mem_singleton.mp hx
      exact jv_lst (d := 0) (by simp) fun y hy => by cases List.mem_singleton.mp hy; exact ⟨trivial, rfl, Nat.le_refl _⟩) (by decide +kernel)
    have doc : ∀ (t : T) (e : Nat) (b : Bool) (deep most : Int) (s : Sh) (R : T → Sh → Prop), JV e t → e < 12 → docB t deep most = b → R (.bl b) s → wpR (pd [t, .int deep, .int most] s) R := fun t e b deep most s R j he hb q => hd t deep most s R j.dv j.nb (Nat.lt_of_le_of_lt j.dp he) (by rw [hb]; exact q)
    have j0 : JV 1 (.lst []) := jv_lst (by simp) fun x hx => by cases hx
    have j1 : JV 1 (.dct []) := jv_dct (by simp) (by simp) fun x hx => by cases hx
    have n1 : noOwn [Slot.t (T.scr ns), .t (.cel 0), a2, a3, .no, a5, a6, a7, .t (.lst [.bl false, .bl true, .bl true, .int 8, .int 60]), a9, a10, a11, a12, a13, .no, .no, .no] [3] = true := by
      cases a3 with
      | own x => exact absurd rfl (h3 x)
      | _ => rfl
    refine asg_to (.lst [.bl false, .bl true, .bl true, .int 8, .int 60]) ?_ ?_
    · simp only [wp_eA, wp_aCons, wp_aNil, wp_eCall, wp_eCallK, wp_eC, wp_dLst]
      refine ⟨Nat.zero_le _, ?_⟩
      refine doc _ 1 false 8 60 s _ j0 (by decide) rfl ?_
      refine doc _ 1 true 8 60 s _ j1 (by decide) rfl ?_
      refine doc _ 1 true 0 0 s _ j1 (by decide) rfl ?_
      exact ⟨s5, rfl, rfl⟩
    refine asg_to (.lst ([false, false, false, false, false, true].map T.bl)) ?_ ?_
    · rw [wp_eComp]
      refine ⟨n1, ?_⟩
      simp only [wp_itV, wp_eA, wp_aCons, wp_aNil, wp_eC, wp_dLst, wp_disp1, List.length_nil, List.length_cons]
      refine ⟨Nat.zero_le _, s1', s6, ?_⟩
      simp only [itemsT, wpR_ok]
      refine comp_map (f := fun t => .bl (nmT t)) (fun x hx R' q' => ?_) ?_
      · simp only [List.set_cons_succ, List.set_cons_zero, wipeL, wp_eCall, wp_aCons, wp_aNil, wp_eVar, vAt_s, vAt_0]
        simp only [List.mem_cons, List.not_mem_nil, or_false] at hx
        have jx : JV 1 x := by
          rcases hx with rfl | rfl | rfl | rfl | rfl | rfl
          · exact ⟨trivial, rfl, Nat.zero_le _⟩
          · exact ⟨trivial, rfl, Nat.zero_le _⟩
          · exact j0
          · exact jv_lst (d := 0) (by simp) fun y hy => by cases List.mem_singleton.mp hy; exact jv_str (by decide +kernel) 0
          · exact jv_one (d := 0) ⟨trivial, rfl, Nat.le_refl _⟩ (by decide +kernel)
          · exact jv_str (by decide +kernel) 1
        exact hn x s R' jx.dv jx.nb q'
      · refine ⟨s6, ?_, rfl⟩
        have e : nB "a" = true := by decide +kernel
        show T.lst [T.bl false, T.bl false, T.bl false, T.bl false, T.bl false, T.bl (nB "a")] = _
        rw [e]
        rfl
    refine asg_to (.dct [(.inr "a", .lst [.lst [.int 1]])]) ?_ ?_
    · rw [wp_disp1]
      simp only [wp_eA, wp_aCons, wp_aNil, wp_eC, wp_dLst, List.length_nil, List.length_cons]
      exact ⟨s1', s1', by simp⟩
    refine asg_to (.lst ([false, true].map T.bl)) ?_ ?_
    · simp only [wp_eA, wp_aCons, wp_aNil, wp_eCallK, wp_eC, wp_eVar, wp_dLst, List.set_cons_succ, List.set_cons_zero, vAt_0, vAt_s]
      refine doc _ 3 false 8 2 s _ lone (by decide) rfl ?_
      refine doc _ 3 true 8 3 s _ lone (by decide) rfl ?_
      exact ⟨s2', rfl, rfl⟩
    refine asg_to (.lst ([false, true, false, true].map T.bl)) ?_ ?_
    · simp only [wp_e2, wp_eA, wp_aCons, wp_aNil, wp_eCallK, wp_eC, wp_eVar, wp_dLst, List.set_cons_succ, List.set_cons_zero, vAt_0, vAt_s]
      refine doc _ 3 false 2 60 s _ lone (by decide) rfl ?_
      refine doc _ 3 true 3 60 s _ lone (by decide) rfl ?_
      refine ⟨s2', ?_⟩
      rw [p_addL _ _ _ (by decide)]
      exact ⟨rfl, rfl⟩
    refine chk ?_ ?_
    · simp only [wp_cNot, wp_eT, wp_eCall, wp_aCons, wp_aNil, wp_eVar, wp_eA, wp_eC, wp_dLst, List.set_cons_succ, List.set_cons_zero, vAt_0, vAt_s]
      refine ⟨by decide, ?_⟩
      have b := dv_bls [false, true, false, true] (by simp)
      refine hl _ s _ b.1 b.2 ?_
      simp
    simp only [wp_sRet, wp_e2, wp_eCall, wp_aCons, wp_aNil, wp_eVar, wp_eA, wp_eC, wp_dLst, List.set_cons_succ, List.set_cons_zero, vAt_0, vAt_s]
    rw [p_addL _ _ _ (by decide)]
    simp only [wpR_ok]
    refine ⟨s5, s1', ?_⟩
    have m5 : opMul (.lst [.bl false]) (.int 5) s = .ok (.lst (List.replicate 5 [T.bl false]).flatten) s := by
      show (if -(2 ^ 63) ≤ (5 : Int) ∧ (5 : Int) < 2 ^ 63 ∧ [T.bl false].length * (5 : Int).toNat ≤ sizeLine then Res.ok (T.lst (List.replicate (5 : Int).toNat [T.bl false]).flatten) s else .bad) = _
      rw [if_pos ⟨by decide, by decide, by show 5 ≤ sizeLine; decide⟩]
      rfl
    rw [m5]
    simp only [wpR_ok]
    rw [p_addL _ _ _ (by decide)]
    refine ⟨s1', ?_⟩
    rw [p_addL _ _ _ (by decide)]
    refine hl (.lst [.bl false, .bl true, .bl true, .int 8, .int 60, .bl false, .bl false, .bl false, .bl false, .bl false, .bl true]) s _ ?_ ?_ rfl
    · exact ⟨by simp, DVs.of fun x hx => by
        simp only [List.mem_cons, List.not_mem_nil, or_false] at hx
        rcases hx with rfl | rfl | rfl | rfl | rfl | rfl | rfl | rfl | rfl | rfl | rfl <;> trivial⟩
    · decide +kernel
  · rintro x items l s ⟨d, a2, a3, a5, a6, a7, a8, a9, a10, a11, a12, a13, rfl, h3⟩
    refine ⟨_, rfl, ?_⟩
    simp only [wp_sSeq]
    have mid : ∀ {r : Fl} {nx : Loc → Sh → Prop} {rt : T → Sh → Prop} {bk ct : Loc → Sh → Prop}, wpF r (K1M ns) (fun _ _ => False) (fun _ _ => False) (fun _ _ => False) → (∀ l s, K1M ns l s → nx l s) → wpF r nx rt bk ct := fun h1 h2 => h1.imp h2 (fun _ _ h => h.elim) (fun _ _ h => h.elim) (fun _ _ h => h.elim)
    refine mid ?_ ?_
    · simp
      exact hva [] s 3 _ d (by decide) fun v s1 d1 jv => ⟨d1, _, v, _, _, _, _, _, _, _, _, _, rfl, jv.mono (by decide)⟩
    clear h3 d
    rintro l s ⟨d, a2, v, a5, a6, a7, a8, a9, a10, a11, a12, a13, rfl, jv⟩
    refine mid ?_ ?_
    · simp
      refine hu [] s 2 _ d (by decide) (by decide) fun r s1 d1 _ _ => ?_
      simp
      split
      · exact hsp [] s1 v 9 _ d1 jv (by have := jv.dp; omega) fun u s2 d2 ju => ⟨d2, _, u, _, _, _, _, _, _, _, _, _, rfl, ju⟩
      · exact ⟨d1, _, v, _, _, _, _, _, _, _, _, _, rfl, jv⟩
    clear jv d
    rintro l s ⟨d, a2, v, a5, a6, a7, a8, a9, a10, a11, a12, a13, rfl, jv⟩
    refine mid ?_ ?_
    · simp
      refine hu [] s 3 _ d (by decide) (by decide) fun r s1 d1 _ _ => ?_
      simp
      split
      · refine hu [] s1 4 _ d1 (by decide) (by decide) fun k s2 d2 k0 k1 => ?_
        simp
        exact hch [] s2 _ _ d2 (by omega) (by omega) fun u s3 d3 ju => ⟨d3, _, u, _, _, _, _, _, _, _, _, _, rfl, ju.mono (by omega)⟩
      · exact ⟨d1, _, v, _, _, _, _, _, _, _, _, _, rfl, jv⟩
    clear jv d
    rintro l s ⟨d, a2, v, a5, a6, a7, a8, a9, a10, a11, a12, a13, rfl, jv⟩
    refine mid ?_ ?_
    · simp [wp_disp1]
      refine hu [] s 5 _ d (by decide) (by decide) fun r s1 d1 _ _ => ?_
      simp
      split
      · simp [noOwn, wipeL]
        refine hu [] s1 5 _ d1 (by decide) (by decide) fun k s2 d2 k0 k1 => ?_
        simp [rg1_int (show 0 ≤ 57 + k by omega) (show 57 + k ≤ 100000 by omega)]
        refine comp_map (f := id) (fun x hx R' q' => by simpa using q') ?_
        have hl : (rangeT 0 (57 + k).toNat).length ≤ 100000 := by simp [rangeT]; omega
        simp
        refine ⟨len_size hl, d2, _, _, _, _, _, _, _, _, _, _, _, rfl, ?_⟩
        refine (jv_one (d := 1) (jv_lst hl fun x hx => ?_) (by decide +kernel)).mono (by decide)
        obtain ⟨i, _, rfl⟩ := List.mem_map.mp hx
        exact ⟨trivial, rfl, Nat.le_refl _⟩
      · exact ⟨d1, _, v, _, _, _, _, _, _, _, _, _, rfl, jv⟩
    clear jv d
    rintro l s ⟨d, a2, v, a5, a6, a7, a8, a9, a10, a11, a12, a13, rfl, jv⟩
    have dv := jv.dv
    have hb := jv.nb
    have hp9 := jv.dp
    have hd12 : dep v < 12 := by omega
    refine asg_to v (by simp; exact hcp v s _ dv hd12 ⟨rfl, rfl⟩) ?_
    refine asg_to (.bl (vok v)) (by simp; exact hvo v s _ dv hb hd12 ⟨rfl, rfl⟩) ?_
    refine asg_to (.bl (vok v && !isLD v)) (by
      simp only [wp_eAnd, wp_eVar, wp_eNot, wp_eIsT, List.set_cons_succ, List.set_cons_zero, vAt_0, vAt_s, onB_bl, tyB_is hb, Option.some.injEq, exists_eq_left', tyB_ld hb]
      cases vok v <;> simp) ?_
    refine asg_to (.lst ([vok v, vok v && !isLD v, (vok v && isDct v) && (decide ((dpT v : Int) ≤ 8) && decide ((szT v : Int) ≤ 60))].map T.bl)) (by
      simp only [wp_eA, wp_aCons, wp_aNil, wp_eCall, wp_eVar, List.set_cons_succ, List.set_cons_zero, vAt_0, vAt_s, wp_dLst]
      refine hiv v s _ dv hb hd12 ?_
      refine hip v s _ dv hb ?_
      refine hd v 8 60 s _ dv hb hd12 ?_
      rw [pl_eq hb, doc_eq]
      exact ⟨s3, rfl, rfl⟩) ?_
    refine asg_to (.bl (vok v && isDct v)) (by
      simp only [wp_eAnd, wp_eA, wp_aCons, wp_aNil, wp_eC, wp_eVar, List.set_cons_succ, List.set_cons_zero, vAt_0, vAt_s, onB_bl, p_isI, tyB_is hb, Option.some.injEq, exists_eq_left', tyB_dict hb, kn_dict, true_and]
      cases vok v <;> simp) ?_
    -- a bool by depth and size
    have dsz : ∀ (s : Sh) (a b : Int) (ea eb : Ev) (l : Loc) (Q : T → Sh → Prop), l.at 3 = .t v → (∀ R : T → Sh → Prop, R (.int a) s → wpR (ea l s) R) → (∀ R : T → Sh → Prop, R (.int b) s → wpR (eb l s) R) → l.at 9 = .t (.bl (vok v && isDct v)) → Q (.bl ((vok v && isDct v) && (decide ((dpT v : Int) ≤ a) && decide ((szT v : Int) ≤ b)))) s → wpR (eAnd (eVar 9) (eAnd (e2 opLe (eCall pdp (aCons (eVar 3) aNil)) ea) (e2 opLe (eCall psz (aCons (eVar 3) aNil)) eb)) l s) Q := by
      intro s a b ea eb l Q h3 h1 h2 h9 q
      simp only [wp_eAnd, wp_e2, wp_eCall, wp_aCons, wp_aNil, wp_eVar]
      unfold vAt
      rw [h3, h9]
      simp only [onB_bl]
      cases e : (vok v && isDct v) with
      | false => rw [e] at q; simpa using q
      | true =>
        rw [e] at q
        rw [if_pos rfl]
        refine hdp v s _ dv hb hd12 ?_
        refine h1 _ ?_
        simp only [p_leI, wpR_ok, onB_bl, decide_eq_true_eq]
        by_cases g : (dpT v : Int) ≤ a
        · rw [if_pos g]
          rw [decide_eq_true g] at q
          refine hsz v s _ dv hb hd12 ?_
          refine h2 _ ?_
          simpa using q
        · rw [if_neg g]
          rw [decide_eq_false g] at q
          simpa using q
    refine chk ?_ ?_
    · simp only [wp_cNot, wp_eT, wp_eCall, wp_aCons, wp_aNil, wp_eVar, wp_eA, List.set_cons_succ, List.set_cons_zero, vAt_0, vAt_s]
      refine dsz s 8 60 _ _ _ _ rfl (fun R q => q) (fun R q => q) rfl ?_
      simp only [wp_dLst]
      refine ⟨s3, ?_⟩
      have b := dv_bls [vok v, vok v && !isLD v, (vok v && isDct v) && (decide ((dpT v : Int) ≤ 8) && decide ((szT v : Int) ≤ 60))] (by simp)
      refine hl _ s _ b.1 b.2 ?_
      simp
    simp only [wp_sPar, wp_e2, wp_eC, wp_eCall, wp_aCons, wp_aNil, wp_eVar, List.set_cons_succ, List.set_cons_zero, vAt_0, vAt_s]
    refine hu [] s 9 _ d (by decide) (by decide) fun k s1 d1 k0 k1 => ?_
    simp only [p_addI, wpR_ok]
    refine hu [] s1 63 _ d1 (by decide) (by decide) fun m s2 d2 m0 m1 => ?_
    refine asg_to (.bl ((vok v && isDct v) && (decide ((dpT v : Int) ≤ 1 + k) && decide ((szT v : Int) ≤ m)))) ?_ ?_
    · exact dsz s2 (1 + k) m _ _ _ _ rfl (fun R q => by simpa using q) (fun R q => by simpa using q) rfl ⟨rfl, rfl⟩
    refine chk ?_ ?_
    · simp only [wp_cOr, wp_cNot, wp_eT, wp_eCall, wp_eCallK, wp_aCons, wp_aNil, wp_eVar, List.set_cons_succ, List.set_cons_zero, vAt_0, vAt_s]
      refine hd v (1 + k) m s2 _ dv hb hd12 ?_
      rw [doc_eq]
      refine hl _ s2 _ (dv_bl _).1 (dv_bl _).2 ?_
      simp only [truB_bl, wpR_ok, Bool.not_true, Bool.false_eq_true, if_false]
      refine hl v s2 _ dv hd12 ?_
      simp
    refine chk ?_ ?_
    · simp only [wp_cNot, wp_eT, wp_eCall, wp_aCons, wp_aNil, wp_eVar, wp_eAnd, wp_eA, wp_eC, List.set_cons_succ, List.set_cons_zero, vAt_0, vAt_s, p_isI, tyB_is hb, Option.some.injEq, exists_eq_left', tyB_str hb, kn_str, true_and, onB_bl]
      refine hn v s2 _ dv hb ?_
      have fin : ∀ R : T → Sh → Prop, R (.bl (nmT v)) s2 → (if isStr v = true then wpR (dTup [v] s2) (fun x s => wpR (pp [x, .int 1, .int 1] s) R) else R (.bl false) s2) := by
        intro R q
        cases v with
        | str x =>
          rw [if_pos (show isStr (.str x) = true from rfl)]
          rw [wp_dTup]
          exact ⟨s1', hp x s2 _ dv q⟩
        | non => exact q
        | int i => exact q
        | lst i => exact q
        | dct i => exact q
        | _ => cases hb
      refine fin _ ?_
      refine hl _ s2 _ (dv_bl _).1 (dv_bl _).2 ?_
      simp
    refine asg_dr (rest := []) (fun u => ∃ x, u = .str x ∧ x.length ≤ 100000) ?_ ?_
    · simp only [wp_eCall, wp_aCons, wp_aNil, wp_eVar, wp_eA, wp_eC, wp_dLst, List.set_cons_succ, List.set_cons_zero, vAt_0, vAt_s]
      refine hnm [] s2 _ d2 fun x s3' d3 hx => ⟨s7, ?_⟩
      refine ha [] s3' _ _ d3 (by simp) (by simp) fun y hy s4 d4 => ⟨?_, d4⟩
      simp only [List.mem_cons, List.not_mem_nil, or_false] at hy
      rcases hy with rfl | rfl | rfl | rfl | rfl | rfl | rfl
      · exact ⟨x, rfl, Nat.le_trans hx.2.1 (by decide)⟩
      all_goals exact ⟨_, rfl, by decide +kernel⟩
    rintro u s3' ⟨x, rfl, hx⟩ d3
    refine chk ?_ ?_
    · simp only [wp_cNot, wp_eT, wp_eCall, wp_aCons, wp_aNil, wp_eVar, wp_eA, wp_eC, wp_dTup, List.set_cons_succ, List.set_cons_zero, vAt_0, vAt_s]
      refine hn (.str x) s3' _ hx rfl ⟨s1', ?_⟩
      refine hp x s3' _ hx ?_
      refine hl _ s3' _ (dv_bl _).1 (dv_bl _).2 ?_
      simp
    exact ⟨d3, _, _, _, _, _, _, _, _, _, _, _, rfl, fun _ z => by cases z⟩
  · refine ⟨⟨ns, 0, 0, 43, rfl, hns, by decide, by decide, by decide⟩, .no, .no, .no, .no, .no, .no, .no, .no, .no, .no, .no, rfl, fun _ z => by cases z⟩
end
end TL

/-! plain Lean over the T-layer, 10: ranks of values -/
namespace TL
open PySem PySem.Spec PySem.SeqAt L2

theorem best_min {f : Nat → Nat → Bool} (irr : ∀ i, f i i = false) (tr : ∀ i j k, f i j = true → f j k = true → f i k = true) : ∀ k i, i ≤ k → f i (PySem.argBest f k) = false
  | 0, i, h => by
    have : i = 0 := by omega
    subst this; exact irr 0
  | k + 1, i, h => by
    have ih := best_min irr tr k
    unfold PySem.argBest
    cases e : f (k + 1) (PySem.argBest f k) with
    | true =>
      simp only [if_true]
      by_cases q : i = k + 1
      · subst q; exact irr _
      · cases e2 : f i (k + 1) with
        | false => rfl
        | true =>
          have := tr _ _ _ e2 e
          rw [ih i (by omega)] at this
          cases this
    | false =>
      simp only [Bool.false_eq_true, if_false]
      by_cases q : i = k + 1
      · subst q; exact e
      · exact ih i (by omega)
theorem best_le {f : Nat → Nat → Bool} : ∀ k, PySem.argBest f k ≤ k
  | 0 => Nat.le_refl _
  | k + 1 => by
    have ih := best_le (f := f) k
    unfold PySem.argBest
    split <;> omega

/-! ### data that can be compared -/
def CmpD (P : PyData → Prop) : Prop := ∀ x y, P x → P y → ∃ k, ordD x y = some k
theorem cmp_seq {P : PyData → Prop} (h : CmpD P) : ∀ xs ys : List PyData, (∀ x ∈ xs, P x) → (∀ y ∈ ys, P y) → ∃ k, ordDs xs ys = some k
  | [], [], _, _ => ⟨false, by simp [ordDs]⟩
  | [], _ :: _, _, _ => ⟨true, by simp [ordDs]⟩
  | _ :: _, [], _, _ => ⟨false, by simp [ordDs]⟩
  | x :: xs, y :: ys, hx, hy => by
    by_cases e : PyData.eqv x y = true
    · obtain ⟨k, hk⟩ := cmp_seq h xs ys (fun z hz => hx z (by simp [hz])) (fun z hz => hy z (by simp [hz]))
      exact ⟨k, by simp [ordDs, e, hk]⟩
    · obtain ⟨k, hk⟩ := h x y (hx x (by simp)) (hy y (by simp))
      exact ⟨k, by simp [ordDs, e, hk]⟩
theorem pair_ord {a b c d : PyData} (h1 : PyData.eqv a c = false → ∃ k, ordD a c = some k) (h2 : PyData.eqv a c = true → ∃ k, ordD b d = some k) : ∃ k, ordD (.tuple [a, b]) (.tuple [c, d]) = some k := by
  cases e : PyData.eqv a c with
  | false =>
    obtain ⟨k, hk⟩ := h1 e
    exact ⟨k, by simp [ordD, ordDs, e, hk]⟩
  | true =>
    obtain ⟨k, hk⟩ := h2 e
    by_cases e2 : PyData.eqv b d = true
    · exact ⟨false, by simp [ordD, ordDs, e, e2]⟩
    · exact ⟨k, by simp [ordD, ordDs, e, e2, hk]⟩
theorem eqv_int {i j : Int} (h : PyData.eqv (.int i) (.int j) = true) : i = j := by simpa [PyData.eqv] using h
/-- what ranks are -/
def RkP : Nat → PyData → Prop
  | 0, _ => False
  | n + 1, d => (∃ i j : Int, d = .tuple [.int i, .int j] ∧ i < 2) ∨ (∃ z, d = .tuple [.int 2, .str z]) ∨ (∃ xs, d = .tuple [.int 3, .tuple xs] ∧ ∀ x ∈ xs, RkP n x) ∨ ∃ rs, d = .tuple [.int 4, .tuple rs] ∧ ∀ r ∈ rs, ∃ z x, r = .tuple [.str z, x] ∧ RkP n x
theorem cmp_int (i j : Int) : ∃ k, ordD (.int i) (.int j) = some k := ⟨_, rfl⟩
theorem cmp_str (i j : Str) : ∃ k, ordD (.str i) (.str j) = some k := ⟨_, rfl⟩
theorem cmp_rk : ∀ n, CmpD (RkP n)
  | 0 => fun _ _ h _ => h.elim
  | n + 1 => by
    have ih := cmp_rk n
    have rows : CmpD fun r => ∃ z x, r = .tuple [.str z, x] ∧ RkP n x := by
      rintro _ _ ⟨z, x, rfl, hx⟩ ⟨w, y, rfl, hy⟩
      exact pair_ord (fun _ => cmp_str _ _) fun _ => ih _ _ hx hy
    rintro _ _ (⟨i, j, rfl, hi⟩ | ⟨z, rfl⟩ | ⟨xs, rfl, hxs⟩ | ⟨rs, rfl, hrs⟩) (⟨i', j', rfl, hi'⟩ | ⟨z', rfl⟩ | ⟨xs', rfl, hxs'⟩ | ⟨rs', rfl, hrs'⟩)
    all_goals refine pair_ord (fun _ => cmp_int _ _) fun e => ?_
    · exact cmp_int _ _
    · have := eqv_int e; omega
    · have := eqv_int e; omega
    · have := eqv_int e; omega
    · have := eqv_int e; omega
    · exact cmp_str _ _
    · have := eqv_int e; omega
    · have := eqv_int e; omega
    · have := eqv_int e; omega
    · have := eqv_int e; omega
    · obtain ⟨k, hk⟩ := cmp_seq ih xs xs' hxs hxs'
      exact ⟨k, by simpa [ordD] using hk⟩
    · have := eqv_int e; omega
    · have := eqv_int e; omega
    · have := eqv_int e; omega
    · have := eqv_int e; omega
    · obtain ⟨k, hk⟩ := cmp_seq rows rs rs' hrs hrs'
      exact ⟨k, by simpa [ordD] using hk⟩

/-! ### the rank of a value -/
def namesT {α : Type} : List (Key × α) → List Str
  | [] => []
  | (.inr x, _) :: r => x :: namesT r
  | (.inl _, _) :: r => namesT r
def rowsT (kvs : List (Key × T)) : List T := (sortS (namesT kvs)).map fun z => .tup [.str z, (dgetT kvs (.inr z)).getD .non]
mutual
def rkT : T → T
  | .non => .tup [.int 0, .int 0]
  | .int i => .tup [.int 1, .int i]
  | .str x => .tup [.int 2, .str x]
  | .lst xs => .tup [.int 3, .tup (rks xs)]
  | .dct kvs => .tup [.int 4, .tup (rowsT (rkd kvs))]
  | _ => .non
def rks : List T → List T
  | [] => []
  | x :: xs => rkT x :: rks xs
def rkd : List (Key × T) → List (Key × T)
  | [] => []
  | (k, x) :: r => (k, rkT x) :: rkd r
end
theorem rks_map : ∀ xs : List T, rks xs = xs.map rkT
  | [] => rfl
  | x :: xs => by rw [rks, rks_map xs, List.map_cons]
theorem rkd_map : ∀ xs : List (Key × T), rkd xs = xs.map fun p => (p.1, rkT p.2)
  | [] => rfl
  | (k, x) :: xs => by rw [rkd, rkd_map xs, List.map_cons]
theorem names_is : ∀ {kvs : List (Key × T)} {ks : List Str}, keyStrs kvs = some ks → namesT kvs = ks
  | [], ks, h => by cases h; rfl
  | (.inr z, x) :: r, ks, h => by
    unfold keyStrs at h
    cases e : keyStrs r with
    | none => simp [e] at h
    | some ys =>
      have : some (z :: ys) = some ks := by simpa [e] using h
      cases this
      unfold namesT
      rw [names_is e]
  | (.inl z, x) :: r, ks, h => by simp [keyStrs] at h
theorem names_rkd : ∀ kvs : List (Key × T), namesT (rkd kvs) = namesT kvs
  | [] => rfl
  | (.inr z, x) :: r => by rw [rkd, namesT, namesT, names_rkd r]
  | (.inl z, x) :: r => by rw [rkd, namesT, namesT, names_rkd r]
theorem rkd_get (k : Key) : ∀ kvs : List (Key × T), dgetT (rkd kvs) k = (dgetT kvs k).map rkT
  | [] => rfl
  | (j, x) :: r => by
    rw [rkd]
    by_cases e : j = k
    · simp [dgetT, e]
    · have h1 : dgetT ((j, rkT x) :: rkd r) k = dgetT (rkd r) k := by simp [dgetT, e]
      have h2 : dgetT ((j, x) :: r) k = dgetT r k := by simp [dgetT, e]
      rw [h1, h2, rkd_get k r]
theorem dget_name {kvs : List (Key × T)} (d2 : (kvs.map (·.1)).Nodup) (d3 : DVd kvs) {z : Str} (h : z ∈ namesT kvs) : ∃ p ∈ kvs, p.1 = Sum.inr z ∧ dgetT kvs (.inr z) = some p.2 := by
  obtain ⟨ks, ek⟩ := keyStrs_of d3
  rw [names_is ek] at h
  obtain ⟨p, hp, e⟩ := keyStrs_mem ek h
  refine ⟨p, hp, e, ?_⟩
  rw [← e]
  exact dget_mem d2 hp
theorem rows_mem {kvs : List (Key × T)} (d2 : (kvs.map (·.1)).Nodup) (d3 : DVd kvs) {r : T} (h : r ∈ rowsT (rkd kvs)) : ∃ p ∈ kvs, ∃ z, p.1 = Sum.inr z ∧ r = .tup [.str z, rkT p.2] := by
  unfold rowsT at h
  obtain ⟨z, hz, rfl⟩ := List.mem_map.mp h
  rw [names_rkd] at hz
  obtain ⟨p, hp, e, g⟩ := dget_name d2 d3 (sort_mem hz)
  exact ⟨p, hp, z, e, by rw [rkd_get, g]; rfl⟩
theorem toDs_map : ∀ xs : List T, toDs xs = xs.map toD
  | [] => rfl
  | x :: xs => by rw [toDs, toDs_map xs, List.map_cons]
theorem flatTs_of : ∀ {xs : List T}, (∀ x ∈ xs, flatT x = true) → flatTs xs = true
  | [], _ => rfl
  | x :: xs, h => by
    rw [flatTs, h x (by simp), flatTs_of fun y hy => h y (by simp [hy])]
    rfl
theorem depthAll_le : ∀ {xs : List PyData} {n : Nat}, (∀ x ∈ xs, x.depth ≤ n) → PyData.depthAll xs ≤ n
  | [], _, _ => Nat.zero_le _
  | x :: xs, n, h => by
    rw [PyData.depthAll]
    exact Nat.max_le.mpr ⟨h x (by simp), depthAll_le fun y hy => h y (by simp [hy])⟩
theorem depth_pair (a b : PyData) : (PyData.tuple [a, b]).depth = max a.depth b.depth + 1 := by
  simp [PyData.depth, PyData.depthAll]
theorem rk_all : ∀ (n : Nat) (t : T), DV t → nb t = true → dep t < n → RkP n (toD (rkT t)) ∧ flatT (rkT t) = true ∧ (toD (rkT t)).depth ≤ 3 * n
  | 0, _, _, _, h => absurd h (Nat.not_lt_zero _)
  | n + 1, t, d, hb, h => by
    have ih := rk_all n
    cases t with
    | non => exact ⟨.inl ⟨0, 0, rfl, by decide⟩, rfl, by simp [rkT, toD, toDs, depth_pair, PyData.depth]; omega⟩
    | int i => exact ⟨.inl ⟨1, i, rfl, by decide⟩, rfl, by simp [rkT, toD, toDs, depth_pair, PyData.depth]; omega⟩
    | str x => exact ⟨.inr (.inl ⟨x, rfl⟩), rfl, by simp [rkT, toD, toDs, depth_pair, PyData.depth]; omega⟩
    | lst xs =>
      have hx : ∀ x ∈ xs, RkP n (toD (rkT x)) ∧ flatT (rkT x) = true ∧ (toD (rkT x)).depth ≤ 3 * n := fun x hx => ih x (d.2.mem x hx) (nbs_mem (nb_lst hb) x hx) (by have := deps_mem hx; unfold dep at h; omega)
      rw [rkT, rks_map]
      refine ⟨.inr (.inr (.inl ⟨(xs.map rkT).map toD, by rw [toD, toDs, toDs, toDs, toD, toD, toDs_map], fun y hy => ?_⟩)), ?_, ?_⟩
      · rw [List.map_map] at hy
        obtain ⟨x, hm, rfl⟩ := List.mem_map.mp hy
        exact (hx x hm).1
      · have : flatTs (xs.map rkT) = true := flatTs_of fun y hy => by
          obtain ⟨x, hm, rfl⟩ := List.mem_map.mp hy
          exact (hx x hm).2.1
        rw [flatT, flatTs, flatTs, flatTs, flatT, flatT, this]
        rfl
      · rw [toD, toDs, toDs, toDs, toD, toD, depth_pair, toDs_map]
        have : PyData.depthAll ((xs.map rkT).map toD) ≤ 3 * n := depthAll_le fun y hy => by
          rw [List.map_map] at hy
          obtain ⟨x, hm, rfl⟩ := List.mem_map.mp hy
          exact (hx x hm).2.2
        simp only [PyData.depth]
        omega
    | dct kvs =>
      obtain ⟨d1, d2, d3⟩ := d
      have hx : ∀ p ∈ kvs, RkP n (toD (rkT p.2)) ∧ flatT (rkT p.2) = true ∧ (toD (rkT p.2)).depth ≤ 3 * n := fun p hp => ih p.2 (d3.mem p hp).2 (nbd_mem (nb_dct hb) p hp) (by have := depd_mem hp; unfold dep at h; omega)
      rw [rkT]
      refine ⟨.inr (.inr (.inr ⟨(rowsT (rkd kvs)).map toD, by rw [toD, toDs, toDs, toDs, toD, toD, toDs_map], fun y hy => ?_⟩)), ?_, ?_⟩
      · obtain ⟨r, hr, rfl⟩ := List.mem_map.mp hy
        obtain ⟨p, hp, z, _, rfl⟩ := rows_mem d2 d3 hr
        exact ⟨z, toD (rkT p.2), by rw [toD, toDs, toDs, toDs, toD], (hx p hp).1⟩
      · have : flatTs (rowsT (rkd kvs)) = true := flatTs_of fun y hy => by
          obtain ⟨p, hp, z, _, rfl⟩ := rows_mem d2 d3 hy
          rw [flatT, flatTs, flatTs, flatTs, (hx p hp).2.1]
          rfl
        rw [flatT, flatTs, flatTs, flatTs, flatT, flatT, this]
        rfl
      · rw [toD, toDs, toDs, toDs, toD, toD, depth_pair, toDs_map]
        have : PyData.depthAll ((rowsT (rkd kvs)).map toD) ≤ 3 * n + 1 := depthAll_le fun y hy => by
          obtain ⟨r, hr, rfl⟩ := List.mem_map.mp hy
          obtain ⟨p, hp, z, _, rfl⟩ := rows_mem d2 d3 hr
          rw [toD, toDs, toDs, toDs, toD, depth_pair]
          have := (hx p hp).2.2
          simp only [PyData.depth]
          omega
        simp only [PyData.depth]
        omega
    | _ => cases hb
/-- what is asked of ranks -/
structure RkOk (t : T) : Prop where
  fl : flatT (rkT t) = true
  dp : (toD (rkT t)).depth ≤ 150
theorem JV.rk {d : Nat} {t : T} (h : JV d t) (hd : d < 50) : RkOk t := by
  obtain ⟨_, q1, q2⟩ := rk_all (d + 1) t h.dv h.nb (Nat.lt_succ_of_le h.dp)
  exact ⟨q1, by omega⟩
theorem jv_ord {d : Nat} {a b : T} (ha : JV d a) (hb : JV d b) : ∃ k, ordD (toD (rkT a)) (toD (rkT b)) = some k :=
  cmp_rk (d + 1) _ _ (rk_all (d + 1) a ha.dv ha.nb (Nat.lt_succ_of_le ha.dp)).1 (rk_all (d + 1) b hb.dv hb.nb (Nat.lt_succ_of_le hb.dp)).1
/-- one rank is below another -/
def rlt (a b : T) : Bool := W.dataLt (toD (rkT a)) (toD (rkT b))
theorem jv_rlt {d : Nat} {a b : T} (ha : JV d a) (hb : JV d b) : ordD (toD (rkT a)) (toD (rkT b)) = some (rlt a b) := by
  obtain ⟨k, hk⟩ := jv_ord ha hb
  unfold rlt
  rw [W.ord_is hk]
  exact hk
/-- data none of which is below the other is the same to == -/
theorem eqv_of {x y : PyData} (h1 : ordD x y = some false) (h2 : ordD y x = some false) : PyData.eqv x y = true := by
  cases e : PyData.eqv x y with
  | true => rfl
  | false =>
    have q1 := (W.toksO x y false h1).1 e
    have q2 := (W.toksO y x false h2).1 (by rw [W.eqv_comm]; exact e)
    have a1 := q1 [] []
    have a2 := q2 [] []
    rw [List.append_nil, List.append_nil] at a1 a2
    have et := PyProof.Rows.lex_total (O := PyProof.Rows.itemOrd) _ _ a1 a2
    have a3 := q1 [.inl 0] [.inl 1]
    rw [et] at a3
    have a4 := (W.lex_pre (W.keyToks y) [.inl 0] [.inl 1]).symm.trans a3
    rw [W.lex_one] at a4
    exact absurd a4 (by decide)
end TL

/-! plain Lean over the T-layer, 11: what stands behind shared objects; ranks asked -/
namespace TL
open PySem PySem.Spec L2

mutual
/-- v is the value t, lists and dicts in it shared or not -/
def Vw (s : Sh) : T → T → Prop
  | .lst xs, v => ∃ vs, (v = .lst vs ∨ ∃ k : Nat, v = .cel k ∧ s[k]? = some (.lst vs)) ∧ Vws s xs vs
  | .dct kvs, v => ∃ ws, (v = .dct ws ∨ ∃ k : Nat, v = .cel k ∧ s[k]? = some (.dct ws)) ∧ Vwd s kvs ws
  | t, v => v = t
def Vws (s : Sh) : List T → List T → Prop
  | [], vs => vs = []
  | x :: xs, vs => ∃ y ys, vs = y :: ys ∧ Vw s x y ∧ Vws s xs ys
def Vwd (s : Sh) : List (Key × T) → List (Key × T) → Prop
  | [], vs => vs = []
  | (k, x) :: xs, vs => ∃ y ys, vs = (k, y) :: ys ∧ Vw s x y ∧ Vwd s xs ys
end
mutual
theorem vw_refl (s : Sh) : ∀ t : T, Vw s t t
  | .lst xs => by rw [Vw]; exact ⟨xs, .inl rfl, vws_refl s xs⟩
  | .dct xs => by rw [Vw]; exact ⟨xs, .inl rfl, vwd_refl s xs⟩
  | .non => by simp [Vw]
  | .bl _ => by simp [Vw]
  | .int _ => by simp [Vw]
  | .str _ => by simp [Vw]
  | .tup _ => by simp [Vw]
  | .cel _ => by simp [Vw]
  | .glo _ => by simp [Vw]
  | .ty _ => by simp [Vw]
  | .scr _ => by simp [Vw]
theorem vws_refl (s : Sh) : ∀ ts : List T, Vws s ts ts
  | [] => by simp [Vws]
  | x :: xs => by rw [Vws]; exact ⟨x, xs, rfl, vw_refl s x, vws_refl s xs⟩
theorem vwd_refl (s : Sh) : ∀ ts : List (Key × T), Vwd s ts ts
  | [] => by simp [Vwd]
  | (k, x) :: xs => by rw [Vwd]; exact ⟨x, xs, rfl, vw_refl s x, vwd_refl s xs⟩
end
section
variable {s : Sh}
theorem vws_len : ∀ {xs vs : List T}, Vws s xs vs → vs.length = xs.length
  | [], _, h => by rw [Vws] at h; subst h; rfl
  | x :: xs, vs, h => by
    rw [Vws] at h
    obtain ⟨y, ys, rfl, _, h2⟩ := h
    rw [List.length_cons, List.length_cons, vws_len h2]
theorem vwd_keys : ∀ {xs vs : List (Key × T)}, Vwd s xs vs → keyStrs vs = keyStrs xs ∧ vs.length = xs.length
  | [], _, h => by rw [Vwd] at h; subst h; exact ⟨rfl, rfl⟩
  | (k, x) :: xs, vs, h => by
    rw [Vwd] at h
    obtain ⟨y, ys, rfl, _, h2⟩ := h
    obtain ⟨q1, q2⟩ := vwd_keys h2
    cases k with
    | inl i => exact ⟨rfl, by rw [List.length_cons, List.length_cons, q2]⟩
    | inr z => exact ⟨by simp [keyStrs, q1], by rw [List.length_cons, List.length_cons, q2]⟩
theorem vwd_get {k : Key} : ∀ {xs vs : List (Key × T)}, Vwd s xs vs → ∀ {x : T}, dgetT xs k = some x → ∃ y, dgetT vs k = some y ∧ Vw s x y
  | [], _, _, _, e => by simp [dgetT] at e
  | (j, x) :: xs, vs, h, z, e => by
    rw [Vwd] at h
    obtain ⟨y, ys, rfl, h1, h2⟩ := h
    by_cases q : j = k
    · have : x = z := by simpa [dgetT, q] using e
      subst this
      exact ⟨y, by simp [dgetT, q], h1⟩
    · have e1 : dgetT ((j, x) :: xs) k = dgetT xs k := by simp [dgetT, q]
      have e2 : dgetT ((j, y) :: ys) k = dgetT ys k := by simp [dgetT, q]
      rw [e1] at e
      rw [e2]
      exact vwd_get h2 e
end
section
variable {R : T → Sh → Prop} {s : Sh} {l : Loc}
theorem wp_compC_cel {vs : List Nat} {i : Nat} {tt : Tgt} {c : Et} {elt : Ev} {k : Nat} {xs : List T} (e : l.at i = .t (.cel k)) (hs : s[k]? = some (.lst xs)) : wpR (eCompC vs i tt c elt l s) R = (noOwn l vs = true ∧ wpR (compC tt c elt k xs xs (wipeL l vs) s) fun ys s => ys.length ≤ sizeLine ∧ R (.lst ys) s) := by
  unfold eCompC
  rw [e]
  simp only [hs]
  split
  · rename_i h
    rw [wpR_bind, wp_noexc]
    simp [h]
  · rename_i h; simp [h]
theorem compC_t {vs : List Nat} {i : Nat} {tt : Tgt} {c : Et} {elt : Ev} {xs : List T} (e : l.at i = .t (.lst xs)) : eCompC vs i tt c elt l s = eComp vs (itN i) tt c elt l s := by
  unfold eCompC
  rw [e]
theorem comp_vw {i : Nat} {elt : Ev} {g : T → T} : ∀ {xs vs : List T} {Q : List T → Sh → Prop}, Vws s xs vs → (∀ x ∈ xs, ∀ y, Vw s x y → ∀ R : T → Sh → Prop, R (g x) s → wpR (elt (l.set i (.t y)) s) R) → Q (xs.map g) s → wpR (compL (.nm i) cYes elt vs l s) Q
  | [], vs, Q, h, _, q => by rw [Vws] at h; subst h; exact q
  | x :: xs, vs, Q, h, f, q => by
    rw [Vws] at h
    obtain ⟨y, ys, rfl, h1, h2⟩ := h
    unfold compL
    simp only [setT, wpR_bind, wp_cYes, if_true]
    refine f x (by simp) y h1 _ ?_
    exact comp_vw (Q := fun ys s => Q (g x :: ys) s) h2 (fun z hz => f z (by simp [hz])) q
theorem compC_vw {i : Nat} {elt : Ev} {g : T → T} {k : Nat} {all : List T} (hs : s[k]? = some (.lst all)) : ∀ {xs vs : List T} {Q : List T → Sh → Prop}, Vws s xs vs → (∀ x ∈ xs, ∀ y, Vw s x y → ∀ R : T → Sh → Prop, R (g x) s → wpR (elt (l.set i (.t y)) s) R) → Q (xs.map g) s → wpR (compC (.nm i) cYes elt k all vs l s) Q
  | [], vs, Q, h, _, q => by
    rw [Vws] at h; subst h
    unfold compC
    rw [if_pos hs]
    exact q
  | x :: xs, vs, Q, h, f, q => by
    rw [Vws] at h
    obtain ⟨y, ys, rfl, h1, h2⟩ := h
    unfold compC
    rw [if_pos hs]
    simp only [setT, wpR_bind, wp_cYes, if_true]
    refine f x (by simp) y h1 _ ?_
    exact compC_vw (Q := fun ys s => Q (g x :: ys) s) hs h2 (fun z hz => f z (by simp [hz])) q
end

/-! ### rank -/
def RankOk (n : Nat) (φ : Fn) : Prop := ∀ (t v : T) (s : Sh) (R : T → Sh → Prop), Vw s t v → DV t → nb t = true → dep t < n → R (rkT t) s → wpR (φ [v] s) R
theorem rank0 (φ : Fn) : RankOk 0 φ := fun _ _ _ _ _ _ _ h _ => absurd h (Nat.not_lt_zero _)
section
variable {n : Nat} {φ : Fn} {s : Sh} {R : T → Sh → Prop}
theorem rk_seq (h : RankOk n φ) {xs vs : List T} {v : T} (hv : v = .lst vs ∨ ∃ k : Nat, v = .cel k ∧ s[k]? = some (.lst vs)) (hvs : Vws s xs vs) (d : DV (.lst xs)) (hb : nb (.lst xs) = true) (hd : dep (.lst xs) < n + 1) (q : R (.lst (rks xs)) s) :
    wpR (eCompC [1] 0 (.nm 1) cYes (eCall φ (aCons (eVar 1) aNil)) [.t v, .no, .no] s) R := by
  have hl := vws_len hvs
  have el : ∀ x ∈ xs, ∀ y, Vw s x y → ∀ R : T → Sh → Prop, R (rkT x) s → wpR (eCall φ (aCons (eVar 1) aNil) ([.t v, .no, .no].set 1 (.t y)) s) R := fun x hx y hy R q => by
    have := h x y s R hy (d.2.mem x hx) (nbs_mem (nb_lst hb) x hx) (by have := deps_mem hx; unfold dep at hd; omega) q
    simpa using this
  rw [rks_map] at q
  have d1 : xs.length ≤ 100000 := d.1
  rcases hv with rfl | ⟨k, rfl, hs⟩
  · rw [compC_t (xs := vs) rfl, wp_eComp]
    refine ⟨rfl, ?_⟩
    simp only [wp_itN, vAt_0, itemsN, wpR_ok, wipeL]
    exact comp_vw hvs el ⟨by rw [List.length_map]; exact len_size d1, q⟩
  · rw [wp_compC_cel rfl hs]
    exact ⟨rfl, compC_vw hs hvs el ⟨by rw [List.length_map]; exact len_size d1, q⟩⟩
theorem sortC_is {v : T} {ws : List (Key × T)} {ks : List Str} (hv : v = .dct ws ∨ ∃ k : Nat, v = .cel k ∧ s[k]? = some (.dct ws)) (e : keyStrs ws = some ks) (hl : ks.length < 64) : biSortC [v] s = .ok (.lst ((sortS ks).map T.str)) s := by
  rcases hv with rfl | ⟨k, rfl, hs⟩
  · unfold biSortC biSort
    simp only [e]
    rw [if_pos hl]
  · unfold biSortC
    simp only [hs, e]
    rw [if_pos hl]
theorem ix_name {v : T} {ws : List (Key × T)} {z : Str} {y : T} (hv : v = .dct ws ∨ ∃ k : Nat, v = .cel k ∧ s[k]? = some (.dct ws)) (e : dgetT ws (.inr z) = some y) : opIx v (.str z) s = .ok y s := by
  rcases hv with rfl | ⟨k, rfl, hs⟩
  · unfold opIx
    simp only [keyOf, e]
  · unfold opIx
    simp only [hs, keyOf, e]
theorem rk_rows (h : RankOk n φ) {kvs ws : List (Key × T)} {v : T} (hv : v = .dct ws ∨ ∃ k : Nat, v = .cel k ∧ s[k]? = some (.dct ws)) (hvs : Vwd s kvs ws) (d : DV (.dct kvs)) (hb : nb (.dct kvs) = true) (hd : dep (.dct kvs) < n + 1) (q : R (.lst (rowsT (rkd kvs))) s) :
    wpR (eComp [2] (itV (eA biSortC (aCons (eVar 0) aNil))) (.nm 2) cYes (eA dTup (aCons (eVar 2) (aCons (eCall φ (aCons (e2 opIx (eVar 0) (eVar 2)) aNil)) aNil))) [.t v, .no, .no] s) R := by
  obtain ⟨d1, d2, d3⟩ := d
  have h2 : (2 : Nat) ≤ sizeLine := by decide
  obtain ⟨ks, ek⟩ := keyStrs_of d3
  have ew : keyStrs ws = some ks := by rw [(vwd_keys hvs).1, ek]
  have hl : ks.length < 64 := by rw [keyStrs_len ek]; exact d1
  rw [wp_eComp]
  refine ⟨rfl, ?_⟩
  simp only [wp_itV, wp_eA, wp_aCons, wp_aNil, wp_eVar, vAt_0, sortC_is hv ew hl, wpR_ok, itemsT, wipeL]
  refine comp_mapT (g := T.str) (f := fun z => .tup [.str z, (dgetT (rkd kvs) (.inr z)).getD .non]) (fun z hz => ⟨_, rfl, fun R' q' => ?_⟩) ?_
  · obtain ⟨p, hp, ep, g⟩ := dget_name d2 d3 (by rw [names_is ek]; exact sort_mem hz)
    obtain ⟨y, gy, hy⟩ := vwd_get hvs g
    rw [rkd_get, g] at q'
    simp only [List.set_cons_succ, List.set_cons_zero, wp_eA, wp_aCons, wp_aNil, wp_eVar, vAt_0, vAt_s, wp_eCall, wp_e2, ix_name hv gy, wpR_ok, wp_dTup]
    exact h p.2 y s _ hy (d3.mem p hp).2 (nbd_mem (nb_dct hb) p hp) (by have := depd_mem hp; unfold dep at hd; omega) ⟨h2, q'⟩
  · refine ⟨by rw [List.length_map, sort_len]; exact len_size64 hl, ?_⟩
    unfold rowsT at q
    rw [names_rkd, names_is ek] at q
    exact q
theorem view_lst {xs : List T} {v : T} (h : Vw s (.lst xs) v) : ∃ vs, (v = .lst vs ∨ ∃ k : Nat, v = .cel k ∧ s[k]? = some (.lst vs)) ∧ Vws s xs vs ∧ tyName v s = some "list" ∧ isNonT v = false := by
  rw [Vw] at h
  obtain ⟨vs, hv, h2⟩ := h
  refine ⟨vs, hv, h2, ?_⟩
  rcases hv with rfl | ⟨k, rfl, e⟩
  · exact ⟨rfl, rfl⟩
  · exact ⟨by simp [tyName, e], rfl⟩
theorem view_dct {xs : List (Key × T)} {v : T} (h : Vw s (.dct xs) v) : ∃ vs, (v = .dct vs ∨ ∃ k : Nat, v = .cel k ∧ s[k]? = some (.dct vs)) ∧ Vwd s xs vs ∧ tyName v s = some "dict" ∧ isNonT v = false := by
  rw [Vw] at h
  obtain ⟨vs, hv, h2⟩ := h
  refine ⟨vs, hv, h2, ?_⟩
  rcases hv with rfl | ⟨k, rfl, e⟩
  · exact ⟨rfl, rfl⟩
  · exact ⟨by simp [tyName, e], rfl⟩
@[simp] theorem tup_lst (xs : List T) : biTuple [.lst xs] s = .ok (.tup xs) s := rfl
theorem rank_step (h : RankOk n φ) : RankOk (n + 1) (runB0 false 3 (b_rank_s φ)) := by
  intro t v s R hv d hb hd q
  have h2 : (2 : Nat) ≤ sizeLine := by decide
  cases t with
  | lst xs =>
    obtain ⟨vs, hv, hvs, ty, nn⟩ := view_lst hv
    simp [b_rank_s, st1, isTy, ty, nn, h2]
    exact rk_seq h hv hvs d hb hd (by simpa [rkT] using q)
  | dct xs =>
    obtain ⟨vs, hv, hvs, ty, nn⟩ := view_dct hv
    have := rk_rows (R := fun x s => wpR (biTuple [x] s) fun y s => R (.tup [.int 4, y]) s) h hv hvs d hb hd (by simpa [rkT] using q)
    rw [wp_runB0, b_rank_s]
    simp only [wp_sSeq, wp_sIf, wp_sRet, wp_sNil, st1, List.replicate, wp_eT, wp_e2, wp_eA, wp_aCons, wp_aNil, wp_eVar, wp_eC, vAt_0, p_isN, nn, wpR_ok, truB_bl, Bool.false_eq_true, if_false, p_isI, ty, Option.some.injEq, exists_eq_left', isTy, kn_int, kn_str, kn_list, true_and, wp_dTup, List.length_cons, List.length_nil]
    simpa [h2] using this
  | non => rw [Vw] at hv; subst hv; simp [b_rank_s, st1, h2]; exact q
           exact fun _ z => by cases z
           exact fun _ z => by cases z
  | int i => rw [Vw] at hv; subst hv; simp [b_rank_s, st1, isTy, h2]; exact q
             exact fun _ z => by cases z
             exact fun _ z => by cases z
  | str x => rw [Vw] at hv; subst hv; simp [b_rank_s, st1, isTy, h2]; exact q
             exact fun _ z => by cases z
             exact fun _ z => by cases z
  | _ => cases hb
theorem lrank_step (h : RankOk n φ) : RankOk (n + 1) (runB0 false 3 (b__law_rank_s φ)) := by
  intro t v s R hv d hb hd q
  have h2 : (2 : Nat) ≤ sizeLine := by decide
  cases t with
  | lst xs =>
    obtain ⟨vs, hv, hvs, ty, nn⟩ := view_lst hv
    simp [b__law_rank_s, st1, isTy, ty, nn, h2]
    exact rk_seq h hv hvs d hb hd (by simpa [rkT] using q)
  | dct xs =>
    obtain ⟨vs, hv, hvs, ty, nn⟩ := view_dct hv
    have := rk_rows (R := fun x s => wpR (biTuple [x] s) fun y s => R (.tup [.int 4, y]) s) h hv hvs d hb hd (by simpa [rkT] using q)
    rw [wp_runB0, b__law_rank_s]
    simp only [wp_sSeq, wp_sIf, wp_sRet, wp_sNil, st1, List.replicate, wp_eT, wp_e2, wp_eA, wp_aCons, wp_aNil, wp_eVar, wp_eC, vAt_0, p_isN, nn, wpR_ok, truB_bl, Bool.false_eq_true, if_false, p_isI, ty, Option.some.injEq, exists_eq_left', isTy, kn_int, kn_str, kn_list, true_and, wp_dTup, List.length_cons, List.length_nil]
    simpa [h2, ty, isTy] using this
  | non => rw [Vw] at hv; subst hv; simp [b__law_rank_s, st1, h2]; exact q
           exact fun _ z => by cases z
           exact fun _ z => by cases z
  | int i => rw [Vw] at hv; subst hv; simp [b__law_rank_s, st1, isTy, h2]; exact q
             exact fun _ z => by cases z
             exact fun _ z => by cases z
  | str x => rw [Vw] at hv; subst hv; simp [b__law_rank_s, st1, isTy, h2]; exact q
             exact fun _ z => by cases z
             exact fun _ z => by cases z
  | _ => cases hb
end
end TL

/-! plain Lean over the T-layer, 12: shared copies, each with its own objects; wrecked ones -/
namespace TL
open PySem PySem.Spec L2

mutual
/-- v is the value t, its lists and dicts shared objects from lo to hi, each its own -/
def Own (s : Sh) : T → T → Nat → Nat → Prop
  | .lst xs, v, lo, hi => ∃ (k : Nat) (vs : List T), v = .cel k ∧ s[k]? = some (.lst vs) ∧ hi = k + 1 ∧ Owns s xs vs lo k
  | .dct kvs, v, lo, hi => ∃ (k : Nat) (ws : List (Key × T)), v = .cel k ∧ s[k]? = some (.dct ws) ∧ hi = k + 1 ∧ Ownd s kvs ws lo k
  | t, v, lo, hi => v = t ∧ lo ≤ hi
def Owns (s : Sh) : List T → List T → Nat → Nat → Prop
  | [], vs, lo, hi => vs = [] ∧ lo ≤ hi
  | x :: xs, vs, lo, hi => ∃ (y : T) (ys : List T) (m : Nat), vs = y :: ys ∧ Own s x y lo m ∧ Owns s xs ys m hi
def Ownd (s : Sh) : List (Key × T) → List (Key × T) → Nat → Nat → Prop
  | [], vs, lo, hi => vs = [] ∧ lo ≤ hi
  | (k, x) :: xs, vs, lo, hi => ∃ (y : T) (ys : List (Key × T)) (m : Nat), vs = (k, y) :: ys ∧ Own s x y lo m ∧ Ownd s xs ys m hi
end
section
variable {s s' : Sh}
mutual
theorem own_le : ∀ (t v : T) (lo hi : Nat), Own s t v lo hi → lo ≤ hi
  | .lst xs, v, lo, hi, h => by
    rw [Own] at h
    obtain ⟨k, vs, _, _, rfl, h⟩ := h
    have := owns_le xs vs lo k h
    omega
  | .dct xs, v, lo, hi, h => by
    rw [Own] at h
    obtain ⟨k, vs, _, _, rfl, h⟩ := h
    have := ownd_le xs vs lo k h
    omega
  | .non, _, _, _, h => by simp [Own] at h; exact h.2
  | .bl _, _, _, _, h => by simp [Own] at h; exact h.2
  | .int _, _, _, _, h => by simp [Own] at h; exact h.2
  | .str _, _, _, _, h => by simp [Own] at h; exact h.2
  | .tup _, _, _, _, h => by simp [Own] at h; exact h.2
  | .cel _, _, _, _, h => by simp [Own] at h; exact h.2
  | .glo _, _, _, _, h => by simp [Own] at h; exact h.2
  | .ty _, _, _, _, h => by simp [Own] at h; exact h.2
  | .scr _, _, _, _, h => by simp [Own] at h; exact h.2
theorem owns_le : ∀ (xs vs : List T) (lo hi : Nat), Owns s xs vs lo hi → lo ≤ hi
  | [], _, _, _, h => by rw [Owns] at h; exact h.2
  | x :: xs, vs, lo, hi, h => by
    rw [Owns] at h
    obtain ⟨y, ys, m, _, h1, h2⟩ := h
    exact Nat.le_trans (own_le x y lo m h1) (owns_le xs ys m hi h2)
theorem ownd_le : ∀ (xs vs : List (Key × T)) (lo hi : Nat), Ownd s xs vs lo hi → lo ≤ hi
  | [], _, _, _, h => by rw [Ownd] at h; exact h.2
  | (k, x) :: xs, vs, lo, hi, h => by
    rw [Ownd] at h
    obtain ⟨y, ys, m, _, h1, h2⟩ := h
    exact Nat.le_trans (own_le x y lo m h1) (ownd_le xs ys m hi h2)
end
mutual
theorem own_same : ∀ (t v : T) (lo hi : Nat), (∀ j, lo ≤ j → j < hi → s'[j]? = s[j]?) → Own s t v lo hi → Own s' t v lo hi
  | .lst xs, v, lo, hi, e, h => by
    rw [Own] at h ⊢
    obtain ⟨k, vs, h1, h2, rfl, h⟩ := h
    have := owns_le xs vs lo k h
    exact ⟨k, vs, h1, (e k this (Nat.lt_succ_self _)).trans h2, rfl, owns_same xs vs lo k (fun j a b => e j a (by omega)) h⟩
  | .dct xs, v, lo, hi, e, h => by
    rw [Own] at h ⊢
    obtain ⟨k, vs, h1, h2, rfl, h⟩ := h
    have := ownd_le xs vs lo k h
    exact ⟨k, vs, h1, (e k this (Nat.lt_succ_self _)).trans h2, rfl, ownd_same xs vs lo k (fun j a b => e j a (by omega)) h⟩
  | .non, _, _, _, _, h => by simpa [Own] using h
  | .bl _, _, _, _, _, h => by simpa [Own] using h
  | .int _, _, _, _, _, h => by simpa [Own] using h
  | .str _, _, _, _, _, h => by simpa [Own] using h
  | .tup _, _, _, _, _, h => by simpa [Own] using h
  | .cel _, _, _, _, _, h => by simpa [Own] using h
  | .glo _, _, _, _, _, h => by simpa [Own] using h
  | .ty _, _, _, _, _, h => by simpa [Own] using h
  | .scr _, _, _, _, _, h => by simpa [Own] using h
theorem owns_same : ∀ (xs vs : List T) (lo hi : Nat), (∀ j, lo ≤ j → j < hi → s'[j]? = s[j]?) → Owns s xs vs lo hi → Owns s' xs vs lo hi
  | [], _, _, _, _, h => by rw [Owns] at h ⊢; exact h
  | x :: xs, vs, lo, hi, e, h => by
    rw [Owns] at h ⊢
    obtain ⟨y, ys, m, h0, h1, h2⟩ := h
    have a := own_le x y lo m h1
    have b := owns_le xs ys m hi h2
    exact ⟨y, ys, m, h0, own_same x y lo m (fun j p q => e j p (by omega)) h1, owns_same xs ys m hi (fun j p q => e j (by omega) q) h2⟩
theorem ownd_same : ∀ (xs vs : List (Key × T)) (lo hi : Nat), (∀ j, lo ≤ j → j < hi → s'[j]? = s[j]?) → Ownd s xs vs lo hi → Ownd s' xs vs lo hi
  | [], _, _, _, _, h => by rw [Ownd] at h ⊢; exact h
  | (k, x) :: xs, vs, lo, hi, e, h => by
    rw [Ownd] at h ⊢
    obtain ⟨y, ys, m, h0, h1, h2⟩ := h
    have a := own_le x y lo m h1
    have b := ownd_le xs ys m hi h2
    exact ⟨y, ys, m, h0, own_same x y lo m (fun j p q => e j p (by omega)) h1, ownd_same xs ys m hi (fun j p q => e j (by omega) q) h2⟩
end
mutual
theorem own_vw : ∀ (t v : T) (lo hi : Nat), Own s t v lo hi → Vw s t v
  | .lst xs, v, lo, hi, h => by
    rw [Own] at h
    rw [Vw]
    obtain ⟨k, vs, h1, h2, rfl, h⟩ := h
    exact ⟨vs, .inr ⟨k, h1, h2⟩, owns_vws xs vs lo k h⟩
  | .dct xs, v, lo, hi, h => by
    rw [Own] at h
    rw [Vw]
    obtain ⟨k, vs, h1, h2, rfl, h⟩ := h
    exact ⟨vs, .inr ⟨k, h1, h2⟩, ownd_vwd xs vs lo k h⟩
  | .non, _, _, _, h => by simp [Own] at h; simp [Vw]; exact h.1
  | .bl _, _, _, _, h => by simp [Own] at h; simp [Vw]; exact h.1
  | .int _, _, _, _, h => by simp [Own] at h; simp [Vw]; exact h.1
  | .str _, _, _, _, h => by simp [Own] at h; simp [Vw]; exact h.1
  | .tup _, _, _, _, h => by simp [Own] at h; simp [Vw]; exact h.1
  | .cel _, _, _, _, h => by simp [Own] at h; simp [Vw]; exact h.1
  | .glo _, _, _, _, h => by simp [Own] at h; simp [Vw]; exact h.1
  | .ty _, _, _, _, h => by simp [Own] at h; simp [Vw]; exact h.1
  | .scr _, _, _, _, h => by simp [Own] at h; simp [Vw]; exact h.1
theorem owns_vws : ∀ (xs vs : List T) (lo hi : Nat), Owns s xs vs lo hi → Vws s xs vs
  | [], _, _, _, h => by rw [Owns] at h; rw [Vws]; exact h.1
  | x :: xs, vs, lo, hi, h => by
    rw [Owns] at h
    rw [Vws]
    obtain ⟨y, ys, m, h0, h1, h2⟩ := h
    exact ⟨y, ys, h0, own_vw x y lo m h1, owns_vws xs ys m hi h2⟩
theorem ownd_vwd : ∀ (xs vs : List (Key × T)) (lo hi : Nat), Ownd s xs vs lo hi → Vwd s xs vs
  | [], _, _, _, h => by rw [Ownd] at h; rw [Vwd]; exact h.1
  | (k, x) :: xs, vs, lo, hi, h => by
    rw [Ownd] at h
    rw [Vwd]
    obtain ⟨y, ys, m, h0, h1, h2⟩ := h
    exact ⟨y, ys, h0, own_vw x y lo m h1, ownd_vwd xs ys m hi h2⟩
end
end

/-! ### copied -/
/-- the state grew, what stood stands -/
structure Gr (s s' : Sh) : Prop where
  le : s.length ≤ s'.length
  eq : ∀ j, j < s.length → s'[j]? = s[j]?
theorem Gr.refl (s : Sh) : Gr s s := ⟨Nat.le_refl _, fun _ _ => rfl⟩
theorem Gr.trans {a b c : Sh} (h : Gr a b) (k : Gr b c) : Gr a c := ⟨Nat.le_trans h.le k.le, fun j hj => (k.eq j (Nat.lt_of_lt_of_le hj h.le)).trans (h.eq j hj)⟩
theorem Gr.snoc (s : Sh) (o : SO) : Gr s (s ++ [o]) := ⟨by simp, fun j hj => List.getElem?_append_left hj⟩
theorem Dr.gr {rest s s' : Sh} (h : Dr rest s) (g : Gr s s') : ∃ rest', Dr rest' s' := by
  obtain ⟨ns, a, c, d, rfl, h1, h2, h3, h4⟩ := h
  have e := g.eq 0 (by simp)
  cases s' with
  | nil => simp at e
  | cons x r =>
    have : x = dr ns a c d := by simpa using e
    subst this
    exact ⟨r, ns, a, c, d, rfl, h1, h2, h3, h4⟩
def CopiedOk (n : Nat) (φ : Fn) : Prop := ∀ (t : T) (s : Sh) (Q : T → Sh → Prop), DV t → nb t = true → dep t < n → (∀ v s', Gr s s' → Own s' t v s.length s'.length → Q v s') → wpR (φ [t] s) Q
theorem copied0 (φ : Fn) : CopiedOk 0 φ := fun _ _ _ _ _ h _ => absurd h (Nat.not_lt_zero _)
section
variable {n : Nat} {φ : Fn}
theorem copied_seq (h : CopiedOk n φ) {x0 x2 : Slot} : ∀ (xs : List T) (s : Sh) (Q : List T → Sh → Prop), (∀ x ∈ xs, DV x ∧ nb x = true ∧ dep x < n) → (∀ vs s', Gr s s' → vs.length = xs.length → Owns s' xs vs s.length s'.length → Q vs s') →
    wpR (compL (.nm 1) cYes (eCall φ (aCons (eVar 1) aNil)) xs [x0, .no, x2] s) Q
  | [], s, Q, _, q => q [] s (Gr.refl _) rfl (by rw [Owns]; exact ⟨rfl, Nat.le_refl _⟩)
  | x :: xs, s, Q, hx, q => by
    unfold compL
    simp only [setT, wpR_bind, wp_cYes, if_true, wp_eCall, wp_aCons, wp_aNil, wp_eVar, List.set_cons_succ, List.set_cons_zero, vAt_0, vAt_s]
    obtain ⟨a1, a2, a3⟩ := hx x (by simp)
    refine h x s _ a1 a2 a3 fun y s1 g1 o1 => ?_
    refine copied_seq h xs s1 _ (fun z hz => hx z (by simp [hz])) fun ys s2 g2 l2 o2 => ?_
    refine q (y :: ys) s2 (g1.trans g2) (by rw [List.length_cons, List.length_cons, l2]) ?_
    rw [Owns]
    exact ⟨y, ys, s1.length, rfl, own_same x y _ _ (fun j _ hj => g2.eq j hj) o1, o2⟩
theorem copied_dct (h : CopiedOk n φ) {full : List (Key × T)} : ∀ (kvs : List (Key × T)) (s : Sh) (acc : List (Key × T)) (Q : List (Key × T) → Sh → Prop), (∀ p ∈ kvs, KeyT p.1 ∧ dgetT full p.1 = some p.2 ∧ DV p.2 ∧ nb p.2 = true ∧ dep p.2 < n) → ((acc ++ kvs).map (·.1)).Nodup → acc.length + kvs.length ≤ 64 →
    (∀ ws s', Gr s s' → Ownd s' kvs ws s.length s'.length → Q (acc ++ ws) s') →
    wpR (dcompL (.nm 2) cYes (eVar 2) (eCall φ (aCons (e2 opIx (eVar 0) (eVar 2)) aNil)) (kvs.map fun p => keyT p.1) [.t (.dct full), .no, .no] s acc) Q
  | [], s, acc, Q, _, _, _, q => by
    have := q [] s (Gr.refl _) (by rw [Ownd]; exact ⟨rfl, Nat.le_refl _⟩)
    rw [List.append_nil] at this
    exact this
  | (k, x) :: kvs, s, acc, Q, hx, nd, hl, q => by
    obtain ⟨⟨z, ez, _⟩, a0, a1, a2, a3⟩ := hx (k, x) (by simp)
    simp only at ez a0 a1 a2 a3
    subst ez
    rw [List.map_cons]
    unfold dcompL
    simp only [setT, wpR_bind, wp_cYes, if_true, wp_eVar, List.set_cons_succ, List.set_cons_zero, vAt_0, vAt_s, keyT, keyOf]
    have hlt : acc.length < sizeLine := Nat.lt_of_lt_of_le (show acc.length < 64 by rw [List.length_cons] at hl; omega) (by decide)
    rw [if_pos hlt]
    simp only [wpR_bind, wp_eCall, wp_aCons, wp_aNil, wp_e2, wp_eVar, vAt_0, vAt_s, p_ixD]
    refine ⟨x, a0, ?_⟩
    refine h x s _ a1 a2 a3 fun y s1 g1 o1 => ?_
    have fresh : (acc.any fun kv => decide (kv.1 = (Sum.inr z : Key))) = false := by
      rw [List.any_eq_false]
      intro p hp e
      have e := of_decide_eq_true e
      rw [List.map_append, List.nodup_append] at nd
      exact nd.2.2 p.1 (List.mem_map.mpr ⟨p, hp, rfl⟩) (Sum.inr z) (by simp) e
    have e1 : dputT acc (Sum.inr z) y = acc ++ [(Sum.inr z, y)] := by
      unfold dputT
      rw [fresh]
      simp
    rw [e1]
    refine copied_dct h kvs s1 _ _ (fun p hp => hx p (by simp [hp])) (by simpa using nd) (by simp at hl ⊢; omega) fun ws s2 g2 o2 => ?_
    have := q ((Sum.inr z, y) :: ws) s2 (g1.trans g2) (by
      rw [Ownd]
      exact ⟨y, ws, s1.length, rfl, own_same x y _ _ (fun j _ hj => g2.eq j hj) o1, o2⟩)
    simpa using this
@[simp] theorem wp_share_dct {R : T → Sh → Prop} {s : Sh} (xs : List (Key × T)) : wpR (shareT (.dct xs) s) R = R (.cel s.length) (s ++ [.dct xs]) := rfl
@[simp] theorem wp_eDComp {R : T → Sh → Prop} {l : Loc} {s : Sh} (vs : List Nat) (it : EvL) (tt : Tgt) (c : Et) (ek ev : Ev) : wpR (eDComp vs it tt c ek ev l s) R = (noOwn l vs = true ∧ wpR (it l s) fun items s => wpR (dcompL tt c ek ev items (wipeL l vs) s []) fun ys s => R (.dct ys) s) := by
  unfold eDComp
  split
  · rename_i h
    simp [h, wp_noexc]
  · rename_i h; simp [h]
theorem copied_step (h : CopiedOk n φ) : CopiedOk (n + 1) (runB0 false 3 (b_copied_s φ)) := by
  intro t s Q d hb hd q
  have atom : (∀ xs, t ≠ .lst xs) → (∀ xs, t ≠ .dct xs) → Q t s := fun h1 h2 => q t s (Gr.refl _) (by
    cases t with
    | lst xs => exact absurd rfl (h1 xs)
    | dct xs => exact absurd rfl (h2 xs)
    | _ => first | (cases hb; done) | simp [Own])
  cases t with
  | lst xs =>
    simp [b_copied_s, st1, isTy, List.replicate, noOwn, wipeL, itemsN]
    refine copied_seq h xs s _ (fun x hx => ⟨d.2.mem x hx, nbs_mem (nb_lst hb) x hx, by have := deps_mem hx; unfold dep at hd; omega⟩) fun vs s1 g1 l1 o1 => ?_
    refine ⟨by rw [l1]; exact len_size d.1, ?_⟩
    refine q _ _ (g1.trans (Gr.snoc _ _)) ?_
    rw [Own]
    exact ⟨s1.length, vs, rfl, by simp, by simp, owns_same xs vs _ _ (fun j _ hj => List.getElem?_append_left hj) o1⟩
  | dct kvs =>
    obtain ⟨d1, d2, d3⟩ := d
    simp [b_copied_s, st1, isTy, List.replicate, noOwn, wipeL, itemsN]
    refine copied_dct h kvs s [] _ (fun p hp => ⟨(d3.mem p hp).1, dget_mem d2 hp, (d3.mem p hp).2, nbd_mem (nb_dct hb) p hp, by have := depd_mem hp; unfold dep at hd; omega⟩) (by simpa using d2) (by simp; omega) fun ws s1 g1 o1 => ?_
    refine q _ _ (g1.trans (Gr.snoc _ _)) ?_
    rw [Own]
    exact ⟨s1.length, ws, rfl, by simp, by simp, ownd_same kvs ws _ _ (fun j _ hj => List.getElem?_append_left hj) o1⟩
  | non => simp [b_copied_s, st1, isTy]; exact atom (fun _ z => by cases z) (fun _ z => by cases z)
  | int i => simp [b_copied_s, st1, isTy]; exact atom (fun _ z => by cases z) (fun _ z => by cases z)
  | str i => simp [b_copied_s, st1, isTy]; exact atom (fun _ z => by cases z) (fun _ z => by cases z)
  | _ => cases hb
end
end TL

/-! plain Lean over the T-layer, 13: _law_wreck -/
namespace TL
open PySem PySem.Spec L2

/-- only objects from lo to hi changed -/
structure Ch (lo hi : Nat) (s s' : Sh) : Prop where
  len : s'.length = s.length
  eq : ∀ j, j < lo ∨ hi ≤ j → s'[j]? = s[j]?
theorem Ch.refl (lo hi : Nat) (s : Sh) : Ch lo hi s s := ⟨rfl, fun _ _ => rfl⟩
theorem Ch.trans {lo hi : Nat} {a b c : Sh} (h : Ch lo hi a b) (k : Ch lo hi b c) : Ch lo hi a c := ⟨k.len.trans h.len, fun j hj => (k.eq j hj).trans (h.eq j hj)⟩
theorem Ch.mono {lo hi lo' hi' : Nat} {a b : Sh} (h : Ch lo hi a b) (h1 : lo' ≤ lo) (h2 : hi ≤ hi') : Ch lo' hi' a b := ⟨h.len, fun j hj => h.eq j (by omega)⟩
theorem Ch.set {lo hi k : Nat} {s : Sh} {o : SO} (h1 : lo ≤ k) (h2 : k < hi) : Ch lo hi s (s.set k o) := ⟨List.length_set, fun j hj => List.getElem?_set_ne (by omega)⟩
theorem Dr.ch {rest s s' : Sh} {lo hi : Nat} (h : Dr rest s) (c : Ch lo hi s s') (h0 : 0 < lo) : ∃ rest', Dr rest' s' := by
  obtain ⟨ns, a, p, d, rfl, h1, h2, h3, h4⟩ := h
  have e := c.eq 0 (.inl h0)
  cases s' with
  | nil => simp at e
  | cons x r =>
    have : x = dr ns a p d := by simpa using e
    subst this
    exact ⟨r, ns, a, p, d, rfl, h1, h2, h3, h4⟩
def WreckOk (n : Nat) (φ : Fn) : Prop := ∀ (t v : T) (lo hi : Nat) (s : Sh) (Q : T → Sh → Prop), Own s t v lo hi → DV t → nb t = true → dep t < n → (∀ r s', Ch lo hi s s' → Q r s') → wpR (φ [v] s) Q
theorem wreck0 (φ : Fn) : WreckOk 0 φ := fun _ _ _ _ _ _ _ _ _ h _ => absurd h (Nat.not_lt_zero _)
section
variable {n : Nat} {φ : Fn} {nx bk ct : Loc → Sh → Prop} {rt : T → Sh → Prop}
theorem wp_forC_cel {l : Loc} {s : Sh} {i : Nat} {tt : Tgt} {b : Sv} {k : Nat} {xs : List T} (e : l.at i = .t (.cel k)) (hs : s[k]? = some (.lst xs)) : sForC i tt b l s = forC tt b k xs xs l s := by
  unfold sForC
  rw [e]
  simp only [hs]
theorem wreck_seq (h : WreckOk n φ) {k : Nat} {all : List T} : ∀ (xs vs : List T) (lo : Nat) (s : Sh) (x1 x2 : Slot), Owns s xs vs lo k → s[k]? = some (.lst all) → (∀ x ∈ xs, DV x ∧ nb x = true ∧ dep x < n) → (∀ x1 x2 s', Ch lo k s s' → nx [.t (.cel k), x1, x2] s') →
    wpF (forC (.nm 1) (sDrop (eCall φ (aCons (eVar 1) aNil))) k all vs [.t (.cel k), x1, x2] s) nx rt bk ct
  | [], vs, lo, s, x1, x2, o, hs, _, q => by
    rw [Owns] at o
    obtain ⟨rfl, _⟩ := o
    unfold forC
    rw [if_pos hs]
    exact q _ _ _ (Ch.refl _ _ _)
  | x :: xs, vs, lo, s, x1, x2, o, hs, hx, q => by
    rw [Owns] at o
    obtain ⟨y, ys, m, rfl, o1, o2⟩ := o
    have m1 := own_le x y lo m o1
    have m2 := owns_le xs ys m k o2
    unfold forC
    rw [if_pos hs]
    simp only [setT, List.set_cons_succ, List.set_cons_zero]
    obtain ⟨a1, a2, a3⟩ := hx x (by simp)
    have step : wpR (φ [y] s) fun r s1 => wpF (forC (.nm 1) (sDrop (eCall φ (aCons (eVar 1) aNil))) k all ys [.t (.cel k), .t y, x2] s1) nx rt bk ct := by
      refine h x y lo m s _ o1 a1 a2 a3 fun r s1 c1 => ?_
      exact wreck_seq h xs ys m s1 _ _ (owns_same xs ys m k (fun j p _ => c1.eq j (.inr p)) o2) ((c1.eq k (.inr m2)).trans hs) (fun z hz => hx z (by simp [hz])) fun x1 x2 s2 c2 => q _ _ _ ((c1.mono (Nat.le_refl _) m2).trans (c2.mono m1 (Nat.le_refl _)))
    have e : sDrop (eCall φ (aCons (eVar 1) aNil)) [.t (.cel k), .t y, x2] s = match φ [y] s with
      | .ok _ s1 => .nx [.t (.cel k), .t y, x2] s1
      | .exc e s1 => .exc e [.t (.cel k), .t y, x2] s1
      | .bad => .bad := by
      show sDrop _ _ _ = _
      unfold sDrop sE eCall aCons aNil eVar
      simp only [at_s, at_0, Res.bind_ok]
      cases φ [y] s <;> rfl
    rw [e]
    cases eq : φ [y] s with
    | ok r s1 => rw [eq] at step; exact step
    | exc e s1 => rw [eq] at step; exact step.elim
    | bad => rw [eq] at step; exact step.elim
/-- each name's objects -/
theorem ownd_parts {s : Sh} : ∀ (kvs ws : List (Key × T)) (lo hi : Nat), Ownd s kvs ws lo hi → (kvs.map (·.1)).Nodup → ∃ a b : Key → Nat, (∀ p ∈ kvs, ∃ y, dgetT ws p.1 = some y ∧ Own s p.2 y (a p.1) (b p.1) ∧ lo ≤ a p.1 ∧ b p.1 ≤ hi) ∧ ∀ p ∈ kvs, ∀ q ∈ kvs, p.1 ≠ q.1 → b p.1 ≤ a q.1 ∨ b q.1 ≤ a p.1
  | [], ws, lo, hi, _, _ => ⟨fun _ => 0, fun _ => 0, fun p hp => (by cases hp), fun p hp => (by cases hp)⟩
  | (k, x) :: kvs, ws, lo, hi, o, nd => by
    rw [Ownd] at o
    obtain ⟨y, ys, m, rfl, o1, o2⟩ := o
    have m1 := own_le x y lo m o1
    have m2 := ownd_le kvs ys m hi o2
    rw [List.map_cons, List.nodup_cons] at nd
    obtain ⟨a, b, h1, h2⟩ := ownd_parts kvs ys m hi o2 nd.2
    have ne : ∀ p ∈ kvs, p.1 ≠ k := fun p hp e => nd.1 (List.mem_map.mpr ⟨p, hp, e⟩)
    refine ⟨fun j => if j = k then lo else a j, fun j => if j = k then m else b j, fun p hp => ?_, fun p hp q hq hne => ?_⟩
    · rcases List.mem_cons.mp hp with rfl | hp
      · exact ⟨y, by simp [dgetT], by simpa using o1, by simp, by simpa using m2⟩
      · obtain ⟨z, g, q1, q2, q3⟩ := h1 p hp
        have e := ne p hp
        have e2 : dgetT ((k, y) :: ys) p.1 = dgetT ys p.1 := by simp [dgetT, Ne.symm e]
        simp only [if_neg e]
        exact ⟨z, e2.trans g, q1, Nat.le_trans m1 q2, q3⟩
    · rcases List.mem_cons.mp hp with rfl | hp
      · rcases List.mem_cons.mp hq with rfl | hq
        · exact absurd rfl hne
        · have e := ne q hq
          simp only [if_neg e, if_true]
          obtain ⟨z, g, q1, q2, q3⟩ := h1 q hq
          exact .inl q2
      · have e := ne p hp
        rcases List.mem_cons.mp hq with rfl | hq
        · simp only [if_neg e, if_true]
          obtain ⟨z, g, q1, q2, q3⟩ := h1 p hp
          exact .inr q2
        · have e' := ne q hq
          simp only [if_neg e, if_neg e']
          exact h2 p hp q hq hne
theorem wreck_names (h : WreckOk n φ) {s0 : Sh} {k lo : Nat} {kvs ws : List (Key × T)} {a b : Key → Nat} (hk : s0[k]? = some (.dct ws))
    (h1 : ∀ p ∈ kvs, ∃ y, dgetT ws p.1 = some y ∧ Own s0 p.2 y (a p.1) (b p.1) ∧ lo ≤ a p.1 ∧ b p.1 ≤ k) (h2 : ∀ p ∈ kvs, ∀ q ∈ kvs, p.1 ≠ q.1 → b p.1 ≤ a q.1 ∨ b q.1 ≤ a p.1) (hx : ∀ p ∈ kvs, DV p.2 ∧ nb p.2 = true ∧ dep p.2 < n) :
    ∀ (zs : List Str) (s : Sh) (x1 x2 : Slot), (∀ z ∈ zs, ∃ p ∈ kvs, p.1 = Sum.inr z) → zs.Nodup → Ch lo k s0 s → (∀ z ∈ zs, ∀ j, a (.inr z) ≤ j → j < b (.inr z) → s[j]? = s0[j]?) → (∀ x1 x2 s', Ch lo k s0 s' → nx [.t (.cel k), x1, x2] s') →
    wpF (forL (.nm 2) (sDrop (eCall φ (aCons (e2 opIx (eVar 0) (eVar 2)) aNil))) (zs.map T.str) [.t (.cel k), x1, x2] s) nx rt bk ct
  | [], s, x1, x2, _, _, c, _, q => by
    unfold forL
    exact q _ _ _ c
  | z :: zs, s, x1, x2, hz, nd, c, hs, q => by
    rw [List.map_cons]
    unfold forL
    simp only [setT, List.set_cons_succ, List.set_cons_zero]
    obtain ⟨p, hp, ep⟩ := hz z (by simp)
    obtain ⟨y, g, o, l1, l2⟩ := h1 p hp
    rw [ep] at g o l1 l2
    have hks : s[k]? = some (.dct ws) := (c.eq k (.inr (Nat.le_refl _))).trans hk
    have o' : Own s p.2 y (a (.inr z)) (b (.inr z)) := own_same p.2 y _ _ (fun j q1 q2 => hs z (by simp) j q1 q2) o
    obtain ⟨a1, a2, a3⟩ := hx p hp
    rw [List.nodup_cons] at nd
    have step : wpR (φ [y] s) fun r s1 => wpF (forL (.nm 2) (sDrop (eCall φ (aCons (e2 opIx (eVar 0) (eVar 2)) aNil))) (zs.map T.str) [.t (.cel k), x1, .t (.str z)] s1) nx rt bk ct := by
      refine h p.2 y _ _ s _ o' a1 a2 a3 fun r s1 c1 => ?_
      refine wreck_names h hk h1 h2 hx zs s1 _ _ (fun w hw => hz w (by simp [hw])) nd.2 (c.trans (c1.mono l1 l2)) (fun w hw j q1 q2 => ?_) q
      obtain ⟨p', hp', ep'⟩ := hz w (by simp [hw])
      have ne : p.1 ≠ p'.1 := by
        rw [ep, ep']
        intro e
        exact nd.1 ((Sum.inr.inj e) ▸ hw)
      have := h2 p hp p' hp' ne
      rw [ep, ep'] at this
      rw [c1.eq j (by omega)]
      exact hs w (by simp [hw]) j q1 q2
    have e : sDrop (eCall φ (aCons (e2 opIx (eVar 0) (eVar 2)) aNil)) [.t (.cel k), x1, .t (.str z)] s = match φ [y] s with
      | .ok _ s1 => .nx [.t (.cel k), x1, .t (.str z)] s1
      | .exc e s1 => .exc e [.t (.cel k), x1, .t (.str z)] s1
      | .bad => .bad := by
      unfold sDrop sE eCall aCons aNil e2 eVar
      simp only [at_s, at_0, Res.bind_ok, ix_name (.inr ⟨k, rfl, hks⟩) g]
      cases φ [y] s <;> rfl
    rw [e]
    cases eq : φ [y] s with
    | ok r s1 => rw [eq] at step; exact step
    | exc e s1 => rw [eq] at step; exact step.elim
    | bad => rw [eq] at step; exact step.elim
theorem mth_cel {l : Loc} {s : Sh} {i k : Nat} {f : Mth} {ts xs : List T} {t' : T} (e : l.at i = .t (.cel k)) (hs : s[k]? = some (.lst xs)) (hf : f xs ts = some t') (q : nx l (s.set k (tSo t'))) : wpF (sMthK i f ts l s) nx rt bk ct := by
  unfold sMthK
  rw [e]
  simp only [hs, hf]
  exact q
theorem slotLst_cel {l : Loc} {s : Sh} {i k : Nat} {xs : List T} (e : l.at i = .t (.cel k)) (hs : s[k]? = some (.lst xs)) : slotLst l s i = true := by
  unfold slotLst
  rw [e]
  simp only [hs]
theorem put_cel {l : Loc} {s : Sh} {i k : Nat} {x : Str} {v : T} {ws : List (Key × T)} (e : l.at i = .t (.cel k)) (hs : s[k]? = some (.dct ws)) (h : ws.length < sizeLine) (q : nx l (s.set k (.dct (dputT ws (.inr x) v)))) : wpF (sPutK i v (.str x) l s) nx rt bk ct := by
  unfold sPutK
  rw [e]
  simp only [hs, soT, putOwn, keyOf, if_pos h]
  exact q
theorem wreck_step (h : WreckOk n φ) : WreckOk (n + 1) (runB0 false 3 (b__law_wreck_s φ)) := by
  intro t v lo hi s Q o d hb hd q
  cases t with
  | lst xs =>
    have o' := o
    rw [Own] at o
    obtain ⟨k, vs, rfl, hs, rfl, o⟩ := o
    have hl : vs.length ≤ 100000 := by rw [vws_len (owns_vws xs vs lo k o)]; exact d.1
    have lo_k := owns_le xs vs lo k o
    have ty : tyName (.cel k) s = some "list" := by simp [tyName, hs]
    rw [wp_runB0, b__law_wreck_s, st1, wp_sIf]
    simp only [wp_eT, wp_eA, wp_aCons, wp_aNil, wp_eVar, wp_eC, vAt_0, p_isI, ty, Option.some.injEq, exists_eq_left', kn_list, true_and, truB_bl, wpR_ok, List.replicate]
    have e1 : isTy "list" "list" = true := by decide
    rw [e1, if_pos rfl]
    simp only [wp_sSeq]
    rw [wp_forC_cel rfl hs]
    refine wreck_seq h xs vs lo s _ _ o hs (fun x hx => ⟨d.2.mem x hx, nbs_mem (nb_lst hb) x hx, by have := deps_mem hx; unfold dep at hd; omega⟩) fun x1 x2 s1 c1 => ?_
    have hs1 : s1[k]? = some (.lst vs) := (c1.eq k (.inr (Nat.le_refl _))).trans hs
    have kl : k < s1.length := by
      rcases Nat.lt_or_ge k s1.length with h | h
      · exact h
      · rw [List.getElem?_eq_none h] at hs1; cases hs1
    rw [wp_sMth]
    refine ⟨slotLst_cel rfl hs1, ?_⟩
    simp only [wp_aCons, wp_aNil, wp_eC]
    refine mth_cel (t' := .lst (vs ++ [T.int 0])) rfl hs1 (by show (if vs.length < sizeLine then _ else _) = _; rw [if_pos (Nat.lt_of_le_of_lt hl (by decide))]) ?_
    have hs2 : (s1.set k (tSo (.lst (vs ++ [T.int 0]))))[k]? = some (.lst (vs ++ [T.int 0])) := by
      rw [List.getElem?_set_self kl]
      rfl
    rw [wp_sMth]
    refine ⟨slotLst_cel rfl hs2, ?_⟩
    simp only [wp_aNil]
    refine mth_cel (t' := .lst (vs ++ [T.int 0]).reverse) rfl hs2 rfl ?_
    refine q _ _ ?_
    exact ((c1.mono (Nat.le_refl _) (Nat.le_succ _)).trans (Ch.set lo_k (Nat.lt_succ_self _))).trans (Ch.set lo_k (Nat.lt_succ_self _))
  | dct kvs =>
    obtain ⟨d1, d2, d3⟩ := d
    rw [Own] at o
    obtain ⟨k, ws, rfl, hs, rfl, o⟩ := o
    have lo_k := ownd_le kvs ws lo k o
    obtain ⟨ks, ek⟩ := keyStrs_of d3
    have vw := vwd_keys (ownd_vwd kvs ws lo k o)
    have ew : keyStrs ws = some ks := by rw [vw.1, ek]
    have hl : ks.length < 64 := by rw [keyStrs_len ek]; exact d1
    have ty : tyName (.cel k) s = some "dict" := by simp [tyName, hs]
    obtain ⟨a, b, p1, p2⟩ := ownd_parts kvs ws lo k o d2
    have nd : (sortS ks).Nodup := by
      have := keyStrs_map ek
      rw [this] at d2
      have : ks.Nodup := by
        rw [List.nodup_iff_pairwise_ne, List.pairwise_map] at d2
        exact d2.imp fun h e => h (by rw [e])
      exact (List.mergeSort_perm ks lebS).nodup_iff.mpr this
    rw [wp_runB0, b__law_wreck_s, st1, wp_sIf]
    simp only [wp_eT, wp_eA, wp_aCons, wp_aNil, wp_eVar, wp_eC, vAt_0, p_isI, ty, Option.some.injEq, exists_eq_left', kn_list, true_and, truB_bl, wpR_ok, List.replicate]
    have e1 : isTy "dict" "list" = false := by decide
    have e2 : isTy "dict" "tuple" = false := by decide
    have e3 : isTy "dict" "dict" = true := by decide
    rw [e1]
    simp only [Bool.false_eq_true, if_false, wp_sIf, wp_eT, wp_eA, wp_aCons, wp_aNil, wp_eVar, wp_eC, vAt_0, p_isI, ty, Option.some.injEq, exists_eq_left', kn_tuple, kn_dict, true_and, truB_bl, wpR_ok, e2, e3, if_true]
    rw [wp_sSeq, wp_sFor]
    simp only [wp_itV, wp_eA, wp_aCons, wp_aNil, wp_eVar, vAt_0, sortC_is (.inr ⟨k, rfl, hs⟩) ew hl, wpR_ok, itemsT]
    refine wreck_names h hs p1 p2 (fun p hp => ⟨(d3.mem p hp).2, nbd_mem (nb_dct hb) p hp, by have := depd_mem hp; unfold dep at hd; omega⟩) (sortS ks) s _ _ (fun z hz => ?_) nd (Ch.refl _ _ _) (fun _ _ _ _ _ => rfl) fun x1 x2 s1 c1 => ?_
    · exact keyStrs_mem ek (sort_mem hz)
    · have hs1 : s1[k]? = some (.dct ws) := (c1.eq k (.inr (Nat.le_refl _))).trans hs
      simp only [wp_sPut, wp_eC, at_0, slotMut_c, true_and]
      refine put_cel rfl hs1 (Nat.lt_of_lt_of_le (show ws.length < 64 by rw [vw.2]; exact d1) (by decide)) (q _ _ ?_)
      exact (c1.mono (Nat.le_refl _) (Nat.le_succ _)).trans (Ch.set lo_k (Nat.lt_succ_self _))
  | non =>
    have : v = .non := by simp [Own] at o; exact o.1
    subst this
    simp [b__law_wreck_s, st1, isTy]; exact q _ _ (Ch.refl _ _ _)
  | int i =>
    have : v = .int i := by simp [Own] at o; exact o.1
    subst this
    simp [b__law_wreck_s, st1, isTy]; exact q _ _ (Ch.refl _ _ _)
  | str i =>
    have : v = .str i := by simp [Own] at o; exact o.1
    subst this
    simp [b__law_wreck_s, st1, isTy]; exact q _ _ (Ch.refl _ _ _)
  | _ => cases hb
end
end TL

/-! plain Lean over the T-layer, 14: order, least, greatest, sorted ranks, near values -/
namespace TL
open PySem PySem.Spec PySem.SeqAt L2

theorem res_eq {α : Type} {r : Res α} {k : α} {s : Sh} (h : wpR r fun a s' => a = k ∧ s' = s) : r = .ok k s := by
  cases r with
  | ok a s' => rw [h.1, h.2]
  | exc _ _ => exact h.elim
  | bad => exact h.elim
mutual
theorem nocel : ∀ t : T, DV t → noCel t = true
  | .non, _ => rfl
  | .bl _, _ => rfl
  | .int _, _ => rfl
  | .str _, _ => rfl
  | .lst xs, h => by rw [noCel]; exact nocels xs h.2
  | .tup xs, h => by rw [noCel]; exact nocels xs h.2
  | .dct xs, h => by rw [noCel]; exact noceld xs h.2.2
  | .cel _, h => h.elim
  | .glo _, h => h.elim
  | .ty _, h => h.elim
  | .scr _, h => h.elim
theorem nocels : ∀ ts : List T, DVs ts → noCels ts = true
  | [], _ => rfl
  | x :: xs, h => by
    rw [noCels, nocel x h.1, nocels xs h.2]
    rfl
theorem noceld : ∀ ts : List (Key × T), DVd ts → noCelD ts = true
  | [], _ => rfl
  | (k, x) :: xs, h => by
    rw [noCelD, nocel x h.2.1, noceld xs h.2.2]
    rfl
end
theorem jv_tup {d : Nat} {t : T} (h : JV d t) : ∃ x xs, rkT t = .tup (.int x :: xs) := by
  have hb := h.nb
  cases t with
  | non => exact ⟨_, _, rfl⟩
  | int i => exact ⟨_, _, rfl⟩
  | str i => exact ⟨_, _, rfl⟩
  | lst i => exact ⟨_, _, rfl⟩
  | dct i => exact ⟨_, _, rfl⟩
  | _ => cases hb
/-! ### the order of ranks -/
theorem rlt_irr (a : T) : rlt a a = false := PyProof.Rows.lex_irrefl (O := PyProof.Rows.itemOrd) _
theorem rlt_tr {a b c : T} (h : rlt a b = true) (k : rlt b c = true) : rlt a c = true := PyProof.Rows.lex_trans (O := PyProof.Rows.itemOrd) _ _ _ h k
theorem ordT_rk {d : Nat} {a b : T} (ha : JV d a) (hb : JV d b) (hd : d < 50) : ordT (rkT a) (rkT b) = some (rlt a b) := by
  unfold ordT
  rw [flat_plain _ (ha.rk hd).fl, flat_plain _ (hb.rk hd).fl, decide_eq_true (by have := (ha.rk hd).dp; omega : min (toD (rkT a)).depth (toD (rkT b)).depth ≤ 150)]
  exact jv_rlt ha hb
theorem gt_rk {d : Nat} {a b : T} (ha : JV d a) (hb : JV d b) (hd : d < 50) (s : Sh) : opGt (rkT a) (rkT b) s = .ok (.bl (rlt b a)) s := by
  have e := ordT_rk hb ha hd
  obtain ⟨x, xs, ea⟩ := jv_tup ha
  obtain ⟨y, ys, eb⟩ := jv_tup hb
  rw [ea, eb] at e ⊢
  unfold opGt opCmp
  simp only [e]
theorem lt_rk {d : Nat} {a b : T} (ha : JV d a) (hb : JV d b) (hd : d < 50) (s : Sh) : opLt (rkT a) (rkT b) s = .ok (.bl (rlt a b)) s := by
  have e := ordT_rk ha hb hd
  obtain ⟨x, xs, ea⟩ := jv_tup ha
  obtain ⟨y, ys, eb⟩ := jv_tup hb
  rw [ea, eb] at e ⊢
  unfold opLt opCmp
  simp only [e]
/-- -1, 0 or 1 -/
def cmpR (a b : T) : Int := (if rlt b a then 1 else 0) - (if rlt a b then 1 else 0)
@[simp] theorem p_intB (k : Bool) (s : Sh) : biInt [.bl k] s = .ok (.int (if k then 1 else 0)) s := rfl
def OrderOk (n : Nat) (φ : Fn) : Prop := ∀ (d : Nat) (a b : T) (s : Sh) (R : T → Sh → Prop), JV d a → JV d b → d < n → R (.int (cmpR a b)) s → wpR (φ [a, b] s) R
theorem order_ok {n : Nat} {φ : Fn} (h : RankOk n φ) (hn : n ≤ 50) : OrderOk n (runB0 false 4 (b_order φ)) := by
  intro d a b s R ha hb hd q
  rw [wp_runB0, b_order, st2, wp_sSeq, wp_sPar]
  simp only [wp_eCall, wp_aCons, wp_aNil, wp_eVar, vAt_0, vAt_s]
  refine h a a s _ (vw_refl s a) ha.dv ha.nb (Nat.lt_of_le_of_lt ha.dp hd) ?_
  refine h b b s _ (vw_refl s b) hb.dv hb.nb (Nat.lt_of_le_of_lt hb.dp hd) ?_
  simp only [List.replicate, List.set_cons_succ, List.set_cons_zero, wp_sRet, wp_e2, wp_eA, wp_aCons, wp_aNil, wp_eVar, vAt_0, vAt_s, gt_rk ha hb (Nat.lt_of_lt_of_le hd hn), lt_rk ha hb (Nat.lt_of_lt_of_le hd hn), wpR_ok, p_intB, p_subI]
  exact q

/-! ### min, max by rank -/
section
variable {n : Nat} {φ : Fn}
theorem rank_eq (h : RankOk n φ) {t : T} {d : Nat} (j : JV d t) (hd : d < n) : φ [t] [] = .ok (rkT t) [] := res_eq (h t t [] _ (vw_refl [] t) j.dv j.nb (Nat.lt_of_le_of_lt j.dp hd) ⟨rfl, rfl⟩)
theorem pick_ok (h : RankOk n φ) (hn : n ≤ 50) {d : Nat} (hd : d < n) (mx : Bool) {ts : List T} (hx : ∀ x ∈ ts, JV d x) (h0 : ts ≠ []) : ∃ t, pickK mx φ ts = some t ∧ t ∈ ts ∧ ∀ x ∈ ts, (if mx then rlt t x else rlt x t) = false := by
  have hd' : d < 50 := Nat.lt_of_lt_of_le hd hn
  have k1 : ∀ t, JV d t → keyT1 φ t = rkT t := fun t j => by unfold keyT1; rw [rank_eq h j hd]
  have c1 : noCels ts = true := nocels ts (DVs.of fun x m => (hx x m).dv)
  have c2 : (ts.all fun t => keyOk φ t) = true := List.all_eq_true.mpr fun t m => by
    have j := hx t m
    unfold keyOk
    rw [rank_eq h j hd]
    simp only
    rw [(j.rk hd').fl, decide_eq_true (j.rk hd').dp]
    rfl
  have c3 : (ts.all fun a => ts.all fun b => ordOk (keyT1 φ a) (keyT1 φ b)) = true := List.all_eq_true.mpr fun a ma => List.all_eq_true.mpr fun b mb => by
    unfold ordOk
    rw [k1 a (hx a ma), k1 b (hx b mb), jv_rlt (hx a ma) (hx b mb)]
    rfl
  have je : ∀ i, JV d (ts.getD i .non) := fun i => by
    rw [List.getD_eq_getElem?_getD]
    cases e : ts[i]? with
    | none => exact (jv_plain (.inl rfl)).mono (Nat.zero_le _)
    | some a => exact hx a (List.mem_of_getElem? e)
  have ob : ∀ i j, ordB (kdAt φ ts i) (kdAt φ ts j) = rlt (ts.getD i .non) (ts.getD j .non) := fun i j => by
    unfold ordB kdAt
    rw [k1 _ (je i), k1 _ (je j), jv_rlt (je i) (je j)]
    rfl
  have len0 : 0 < ts.length := List.length_pos_iff.mpr h0
  have irr : ∀ i, btK mx φ ts i i = false := fun i => by
    unfold btK
    rw [ob]
    cases mx <;> exact rlt_irr _
  have tr : ∀ i j k, btK mx φ ts i j = true → btK mx φ ts j k = true → btK mx φ ts i k = true := fun i j k p q => by
    unfold btK at p q ⊢
    rw [ob, ob] at p q ⊢
    cases mx with
    | false => exact rlt_tr p q
    | true => exact rlt_tr q p
  have bm := best_min irr tr (ts.length - 1)
  have bl := best_le (f := btK mx φ ts) (ts.length - 1)
  have hlt : PySem.argBest (btK mx φ ts) (ts.length - 1) < ts.length := by omega
  refine ⟨ts[PySem.argBest (btK mx φ ts) (ts.length - 1)], ?_, List.getElem_mem hlt, fun x m => ?_⟩
  · unfold pickK
    rw [if_pos ⟨h0, c1, c2, c3⟩]
    exact List.getElem?_eq_getElem hlt
  · obtain ⟨i, hi, rfl⟩ := List.mem_iff_getElem.mp m
    have hbt : ∀ i j, btK mx φ ts i j = if mx then rlt (ts.getD j .non) (ts.getD i .non) else rlt (ts.getD i .non) (ts.getD j .non) := fun i j => by
      unfold btK
      rw [ob, ob]
    have := bm i (by omega)
    rw [hbt] at this
    have e : ∀ j (hj : j < ts.length), ts.getD j .non = ts[j] := fun j hj => by
      rw [List.getD_eq_getElem?_getD, List.getElem?_eq_getElem hj]
      rfl
    rw [e i hi, e _ hlt] at this
    exact this
theorem wp_eMinK {mx : Bool} {ev : Ev} {l : Loc} {s : Sh} {R : T → Sh → Prop} : wpR (eMinK mx φ ev l s) R = wpR (ev l s) fun x s => ∃ ts t, x = .lst ts ∧ pickK mx φ ts = some t ∧ R t s := by
  unfold eMinK
  rw [wpR_bind]
  congr 1
  funext x s
  cases x with
  | lst ts =>
    simp only
    cases e : pickK mx φ ts with
    | none => simp [e]
    | some t => simp [e]
  | _ => simp
/-- least, greatest: a copy of an item that no item is below, above -/
def BestOk (n : Nat) (mx : Bool) (φ : Fn) : Prop := ∀ (d : Nat) (ts : List T) (s : Sh) (Q : T → Sh → Prop), d < n → (∀ x ∈ ts, JV d x) → ts ≠ [] →
  (∀ t v s', t ∈ ts → (∀ x ∈ ts, (if mx then rlt t x else rlt x t) = false) → Gr s s' → Own s' t v s.length s'.length → Q v s') → wpR (φ [.lst ts] s) Q
theorem least_ok {ψ : Fn} (h : RankOk n φ) (hn : n ≤ 50) (hc : CopiedOk n ψ) : BestOk n false (runB0 false 1 (b_least φ ψ)) := by
  intro d ts s Q hd hx h0 q
  rw [wp_runB0, b_least, st1, wp_sRet]
  simp only [wp_eCall, wp_aCons, wp_aNil, wp_eMinK, wp_eVar, vAt_0]
  obtain ⟨t, e, m, best⟩ := pick_ok h hn hd false hx h0
  refine ⟨ts, t, rfl, e, ?_⟩
  have j := hx t m
  exact hc t s _ j.dv j.nb (Nat.lt_of_le_of_lt j.dp hd) fun v s' g o => q t v s' m best g o
theorem greatest_ok {ψ : Fn} (h : RankOk n φ) (hn : n ≤ 50) (hc : CopiedOk n ψ) : BestOk n true (runB0 false 1 (b_greatest φ ψ)) := by
  intro d ts s Q hd hx h0 q
  rw [wp_runB0, b_greatest, st1, wp_sRet]
  simp only [wp_eCall, wp_aCons, wp_aNil, wp_eMinK, wp_eVar, vAt_0]
  obtain ⟨t, e, m, best⟩ := pick_ok h hn hd true hx h0
  refine ⟨ts, t, rfl, e, ?_⟩
  have j := hx t m
  exact hc t s _ j.dv j.nb (Nat.lt_of_le_of_lt j.dp hd) fun v s' g o => q t v s' m best g o
end

/-! ### sorted ranks -/
theorem leT_tr {a b c : T} (h : leT a b = true) (k : leT b c = true) : leT a c = true := by
  unfold leT at *
  rw [Bool.not_eq_true'] at *
  cases e : W.dataLt (toD c) (toD a) with
  | false => rfl
  | true =>
    rcases PyProof.Rows.lex_negTrans (O := PyProof.Rows.itemOrd) _ (W.keyToks (toD b)) _ e with q | q
    · have : W.dataLt (toD c) (toD b) = true := q
      rw [k] at this; cases this
    · have : W.dataLt (toD b) (toD a) = true := q
      rw [h] at this; cases this
theorem leT_tot (a b : T) : (leT a b || leT b a) = true := by
  unfold leT
  cases e : W.dataLt (toD b) (toD a) with
  | false => rfl
  | true =>
    cases e2 : W.dataLt (toD a) (toD b) with
    | false => rfl
    | true =>
      have := PyProof.Rows.lex_trans (O := PyProof.Rows.itemOrd) _ _ _ e e2
      rw [PyProof.Rows.lex_irrefl] at this
      cases this
theorem sort_ranks {d : Nat} (hd : d < 50) {ts : List T} (hx : ∀ x ∈ ts, JV d x) (h0 : ts ≠ []) (s : Sh) : ∃ rs, biSort [.lst (ts.map rkT)] s = .ok (.lst rs) s ∧
    ∃ lo hi, lo ∈ ts ∧ hi ∈ ts ∧ atI rs 0 = some (rkT lo) ∧ atI rs (-1) = some (rkT hi) ∧ (∀ x ∈ ts, rlt x lo = false) ∧ ∀ x ∈ ts, rlt hi x = false := by
  have hs : strsOf (ts.map rkT) = none := by
    cases ts with
    | nil => exact absurd rfl h0
    | cons t ts =>
      obtain ⟨x, xs, e⟩ := jv_tup (hx t (by simp))
      rw [List.map_cons, e]
      rfl
  have ok : sortOkT (ts.map rkT) = true := by
    unfold sortOkT
    rw [Bool.and_eq_true, Bool.and_eq_true]
    refine ⟨List.all_eq_true.mpr fun y hy => ?_, ?_, ?_⟩
    · obtain ⟨x, m, rfl⟩ := List.mem_map.mp hy
      rw [flat_plain _ ((hx x m).rk hd).fl, decide_eq_true ((hx x m).rk hd).dp]
      rfl
    · unfold ordAllB
      rw [List.map_map, Bool.and_eq_true]
      refine ⟨List.all_eq_true.mpr fun y hy => ?_, List.all_eq_true.mpr fun y hy => List.all_eq_true.mpr fun z hz => ?_⟩
      · obtain ⟨x, m, rfl⟩ := List.mem_map.mp hy
        exact plain_toD _ (flat_plain _ ((hx x m).rk hd).fl)
      · obtain ⟨x, m, rfl⟩ := List.mem_map.mp hy
        obtain ⟨x', m', rfl⟩ := List.mem_map.mp hz
        show (ordD (toD (rkT x)) (toD (rkT x'))).isSome = true
        rw [jv_rlt (hx x m) (hx x' m')]
        rfl
    · have ft : ∀ t, JV d t → fstD (toD (rkT t)) = some 2 := fun t j => by
        obtain ⟨x, xs, e⟩ := jv_tup j
        rw [e, toD, toDs, toD]
        rfl
      cases ts with
      | nil => exact absurd rfl h0
      | cons t ts =>
        rw [List.map_cons, List.map_cons]
        unfold sortOrdB
        rw [Bool.or_eq_true]
        refine .inl ?_
        rw [Bool.and_eq_true, ft t (hx t (by simp))]
        refine ⟨rfl, List.all_eq_true.mpr fun y hy => ?_⟩
        rw [← List.map_cons, ← List.map_cons, List.map_map] at hy
        obtain ⟨x, m, rfl⟩ := List.mem_map.mp hy
        exact decide_eq_true (ft x (hx x m))
  refine ⟨sortTs (ts.map rkT), ?_, ?_⟩
  · unfold biSort
    simp only [hs]
    rw [if_pos ok]
  have pw : (sortTs (ts.map rkT)).Pairwise fun a b => leT a b = true := List.pairwise_mergeSort (le := leT) (fun _ _ _ h k => leT_tr h k) leT_tot _
  have pm : ∀ y, y ∈ sortTs (ts.map rkT) ↔ y ∈ ts.map rkT := fun y => (List.mergeSort_perm (ts.map rkT) leT).mem_iff
  have ne : 0 < (sortTs (ts.map rkT)).length := by
    unfold sortTs
    rw [List.length_mergeSort, List.length_map]
    exact List.length_pos_iff.mpr h0
  revert pw pm ne
  generalize sortTs (ts.map rkT) = rs
  intro pw pm ne
  have lo_mem : rs[0] ∈ rs := List.getElem_mem ne
  have hi_mem : rs[rs.length - 1] ∈ rs := List.getElem_mem (by omega)
  obtain ⟨lo, ml, el⟩ := List.mem_map.mp ((pm _).mp lo_mem)
  obtain ⟨hi, mh, eh⟩ := List.mem_map.mp ((pm _).mp hi_mem)
  have le_of : ∀ i j (hi : i < rs.length) (hj : j < rs.length), i ≤ j → leT rs[i] rs[j] = true := fun i j hi hj hij => by
    rcases Nat.lt_or_eq_of_le hij with h | rfl
    · exact List.pairwise_iff_getElem.mp pw i j hi hj h
    · have := leT_tot rs[i] rs[i]
      simpa using this
  have a0 : atI rs 0 = some rs[0] := by
    unfold atI ixN
    rw [if_pos (by decide), if_pos (by omega)]
    exact List.getElem?_eq_getElem ne
  have a1 : atI rs (-1) = some rs[rs.length - 1] := by
    unfold atI ixN
    rw [if_neg (by decide), if_pos (by omega)]
    have : (-1 + (rs.length : Int)).toNat = rs.length - 1 := by omega
    show rs[((-1 : Int) + (rs.length : Int)).toNat]? = _
    rw [this]
    exact List.getElem?_eq_getElem (by omega)
  refine ⟨lo, hi, ml, mh, by rw [a0, el], by rw [a1, eh], fun x m => ?_, fun x m => ?_⟩
  · obtain ⟨i, hi, ei⟩ := List.mem_iff_getElem.mp ((pm (rkT x)).mpr (List.mem_map.mpr ⟨x, m, rfl⟩))
    have := le_of 0 i ne hi (Nat.zero_le _)
    unfold leT at this
    rw [ei, ← el, Bool.not_eq_true'] at this
    exact this
  · obtain ⟨i, hi', ei⟩ := List.mem_iff_getElem.mp ((pm (rkT x)).mpr (List.mem_map.mpr ⟨x, m, rfl⟩))
    have := le_of i (rs.length - 1) hi' (by omega) (by omega)
    unfold leT at this
    rw [ei, ← eh, Bool.not_eq_true'] at this
    exact this
theorem ne_rk {d : Nat} (hd : d < 50) {a b : T} (ha : JV d a) (hb : JV d b) (h1 : rlt a b = false) (h2 : rlt b a = false) (s : Sh) : opNe (rkT a) (rkT b) s = .ok (.bl false) s := by
  have e : eqT (rkT a) (rkT b) = true := eqv_of (by rw [jv_rlt ha hb, h1]) (by rw [jv_rlt hb ha, h2])
  have ok : eqOk (rkT a) (rkT b) = true := by
    unfold eqOk
    rw [flat_plain _ (ha.rk hd).fl, flat_plain _ (hb.rk hd).fl, decide_eq_true (by have := (ha.rk hd).dp; omega : min (toD (rkT a)).depth (toD (rkT b)).depth ≤ 150)]
    rfl
  obtain ⟨x, xs, ea⟩ := jv_tup ha
  obtain ⟨y, ys, eb⟩ := jv_tup hb
  rw [ea, eb] at e ok ⊢
  show (if eqOk _ _ = true then Res.ok (T.bl (true ^^ eqT _ _)) s else Res.bad) = _
  rw [if_pos ok, e]
  rfl
end TL

/-! plain Lean over the T-layer, 15: values whose first list is short; near values -/
namespace TL
open PySem PySem.Spec L2

/-- a list is of m items at most -/
def Tl (m : Nat) (t : T) : Prop := ∀ xs, t = .lst xs → xs.length ≤ m
theorem Tl.mono {m k : Nat} {t : T} (h : Tl m t) (l : m ≤ k) : Tl k t := fun xs e => Nat.le_trans (h xs e) l
theorem tl_plain {m : Nat} {t : T} (h : PlainT t) : Tl m t := fun xs e => by
  subst e
  rcases h with h | ⟨i, h, _⟩ | ⟨x, h, _⟩ <;> cases h
def ValueTl (n : Nat) (φ : Fn) : Prop := ∀ (rest s : Sh) (b : Nat) (R : T → Sh → Prop), Dr rest s → b < n → (∀ t s, Dr rest s → JV b t → Tl 3 t → R t s) → wpR (φ [.cel 0, .int b] s) R
theorem value_tl {n : Nat} {φ ψ χ ρ : Fn} (h : PullOk φ) (hp : PlainOk ρ) (hv : ValueOk n ψ) (hr : RecordOk n χ) : ValueTl (n + 1) (runB0 false 4 (b__law_value φ ψ χ ρ)) := by
  intro rest s b R d hb q
  simp [b__law_value, st2, List.replicate]
  refine h rest s 7 _ d (by decide) (by decide) fun r s1 d1 r0 r1 => ?_
  simp
  have pl : wpR (ρ [.cel 0] s1) R := hp rest s1 R d1 fun t s2 d2 ht => q t s2 d2 ((jv_plain ht).mono (Nat.zero_le _)) (tl_plain ht)
  by_cases hz : b = 0
  · rw [if_pos hz]; exact pl
  · rw [if_neg hz]
    by_cases h4 : r < 4
    · rw [if_pos h4]; exact pl
    · rw [if_neg h4]
      have eb : (b : Int) - 1 = ((b - 1 : Nat) : Int) := by omega
      by_cases h5 : r = 4
      · rw [if_pos h5]
        rw [eb]
        exact hr rest s1 (b - 1) 3 R d1 (by omega) (by decide) fun kvs s2 d2 hk _ => q _ s2 d2 (hk.mono (by omega)) fun _ z => by cases z
      · rw [if_neg h5]
        simp [noOwn, wipeL]
        refine h rest s1 4 _ d1 (by decide) (by decide) fun k s2 d2 k0 k1 => ?_
        simp [rg1_int k0 (show k ≤ 100000 by omega)]
        refine comp_inv (P := JV (b - 1)) (J := Dr rest) (fun x hx s3 d3 => ⟨_, rfl, ?_⟩) d2 fun ys s3 hl hy d3 => ?_
        · simp
          rw [eb]
          exact hv rest s3 (b - 1) _ d3 (by omega) fun t s4 d4 ht => ⟨ht, d4⟩
        · have hl3 : ys.length ≤ 3 := by
            rw [hl]
            simp [rangeT]
            omega
          exact ⟨len_size (by omega), q _ s3 d3 ((jv_lst (by omega) hy).mono (by omega)) fun xs e => by cases e; exact hl3⟩
def NearOk (φ : Fn) : Prop := ∀ (rest s : Sh) (t : T) (d m : Nat) (R : T → Sh → Prop), Dr rest s → JV d t → Tl m t → m < 100000 → (∀ u s, Dr rest s → JV (d + 1) u → Tl (m + 1) u → R u s) → wpR (φ [.cel 0, t] s) R
theorem near_ok {φ ψ χ : Fn} (hp : PlainOk φ) (ha : AnyOk ψ) (h : PullOk χ) : NearOk (runB0 false 3 (b__law_near φ ψ χ)) := by
  intro rest s t d m R dr j tl hm q
  have three : (3 : Nat) ≤ sizeLine := by decide
  have one : (1 : Nat) ≤ sizeLine := by decide
  -- the last way
  have last : ∀ s, Dr rest s → wpR (φ [.cel 0] s) fun p s => 1 ≤ sizeLine ∧ 3 ≤ sizeLine ∧ wpR (ψ [.cel 0, .lst [t, p, .lst [t]]] s) R := fun s dr => hp rest s _ dr fun p s1 d1 pp => by
    refine ⟨one, three, ha rest s1 _ R d1 (by simp) (by simp) fun x hx s2 d2 => ?_⟩
    simp only [List.mem_cons, List.not_mem_nil, or_false] at hx
    rcases hx with rfl | rfl | rfl
    · exact q _ s2 d2 (j.mono (by omega)) (tl.mono (by omega))
    · exact q _ s2 d2 ((jv_plain pp).mono (by omega)) (tl_plain pp)
    · refine q _ s2 d2 (jv_lst (by simp) fun y hy => ?_) fun xs e => ?_
      · cases List.mem_singleton.mp hy; exact j
      · cases e; simp
  cases t with
  | lst xs =>
    simp [b__law_near, st2, isTy, List.replicate]
    refine h rest s 2 _ dr (by decide) (by decide) fun r s1 d1 r0 r1 => ?_
    simp
    by_cases hr : r = 0
    · rw [if_pos hr]
      refine hp rest s1 _ d1 fun p s2 d2 pp => ?_
      have hl := tl xs rfl
      simp [one]
      rw [p_addL _ _ _ (by simp; exact len_size (by omega))]
      refine q _ s2 d2 ?_ fun ys e => ?_
      · refine (jv_lst (d := d - 1) (by simp; omega) fun x hx => ?_).mono (by have := j.lst_pos; omega)
        rcases List.mem_append.mp hx with hx | hx
        · exact j.lst x hx
        · cases List.mem_singleton.mp hx; exact (jv_plain pp).mono (Nat.zero_le _)
      · cases e; simp; exact hl
    · rw [if_neg hr]
      exact last s1 d1
  | dct kvs =>
    obtain ⟨d1, d2, d3⟩ := j.dv
    have hpos := j.dct_pos
    simp [b__law_near, st2, isTy, List.replicate, ne_nilD]
    by_cases hx : kvs = []
    · subst hx
      simp
      exact last s dr
    · simp [hx]
      have e1 : ∀ s, biDict [.dct kvs] s = .ok (.dct kvs) s := fun _ => rfl
      rw [e1]
      simp
      refine hp rest s _ dr fun p s1 dr1 pp => ⟨rfl, ?_⟩
      obtain ⟨ks1, ek1, es1⟩ := sort_dct (s := s1) d1 d3
      rw [es1]
      simp
      have hk0 : 0 < ks1.length := by rw [keyStrs_len ek1]; exact List.length_pos_iff.mpr hx
      have hk1 := keyStrs_len ek1
      refine ha rest s1 _ _ dr1 (by rw [List.length_map, sort_len]; exact hk0) (by rw [List.length_map, sort_len]; omega) fun x hx' s2 dr2 => ?_
      obtain ⟨z, hz, rfl⟩ := List.mem_map.mp hx'
      obtain ⟨p', hp', ep⟩ := keyStrs_mem ek1 (sort_mem hz)
      refine own_put rfl (Nat.lt_of_lt_of_le (show kvs.length < 64 from d1) (by decide)) ⟨_, rfl, q _ s2 dr2 ?_ fun _ z => by cases z⟩
      have hmem : (Sum.inr z : Key) ∈ kvs.map (·.1) := List.mem_map.mpr ⟨p', hp', ep⟩
      have hl : (dputT kvs (Sum.inr z) p).length = kvs.length := by
        have := congrArg List.length (show (dputT kvs (Sum.inr z) p).map (·.1) = kvs.map (·.1) from by
          rcases dput_keys kvs (Sum.inr z) p with ⟨_, e⟩ | ⟨c, _⟩
          · exact e
          · exact absurd hmem c)
        simpa using this
      refine (jv_dct (d := d - 1) (by rw [hl]; exact d1) (dput_nd d2) fun p2 hp2 => ?_).mono (by omega)
      rcases dput_mem hp2 with hp2 | rfl
      · exact j.dct p2 hp2
      · refine ⟨?_, (jv_plain pp).mono (Nat.zero_le _)⟩
        show KeyT (Sum.inr z)
        rw [← ep]
        exact (j.dct p' hp').1
  | non => simp [b__law_near, st2, isTy]; exact last s dr
  | int i => simp [b__law_near, st2, isTy]; exact last s dr
  | str x => simp [b__law_near, st2, isTy]; exact last s dr
  | _ => cases j.nb
end TL

/-! plain Lean over the T-layer, 16: the law k02 -/
namespace TL
open PySem PySem.Spec L2

section
variable {R : T → Sh → Prop} {s : Sh} {l : Loc} {nx bk ct : Loc → Sh → Prop} {rt : T → Sh → Prop}
@[simp] theorem neI (i j : Int) : opNe (.int i) (.int j) s = .ok (.bl (!decide (i = j))) s := by
  have e : eqOk (.int i) (.int j) = true := by simp [eqOk, plainT, toD, PyData.depth]
  have h : opNe (.int i) (.int j) s = if eqOk (.int i) (.int j) then Res.ok (T.bl (true ^^ eqT (.int i) (.int j))) s else Res.bad := rfl
  rw [h, if_pos e, Bool.true_xor]
  unfold eqT
  have : PyData.eqv (toD (.int i)) (toD (.int j)) = decide (i = j) := by
    show (i == j) = decide (i = j)
    rw [Bool.eq_iff_iff]
    simp
  rw [this]
theorem wp_disp2 {x y : Str} {ea eb : Ev} (hne : (Sum.inr x : Key) ≠ Sum.inr y) : wpR (eDisp [(eC (.str x), ea), (eC (.str y), eb)] l s) R = wpR (ea l s) fun v s => wpR (eb l s) fun w s => R (.dct [(.inr x, v), (.inr y, w)]) s := by
  have m : ∀ v w : T, mergeT [] [((Sum.inr x : Key), v), ((Sum.inr y : Key), w)] = [((Sum.inr x : Key), v), ((Sum.inr y : Key), w)] := fun v w => merge_new (acc := []) (by simpa using hne)
  unfold eDisp
  simp only [pairsEv, wpR_bind, wp_eC, keyOf]
  congr 1
  funext v s
  simp only [wpR_bind, wpR_ok]
  congr 1
  funext w s
  rw [m]
/-- if c: return .., c False; the state goes on -/
theorem chkJ {c : Et} {e : Ev} (J : Sh → Prop) (h : wpR (c l s) fun k s' => k = false ∧ J s') (q : ∀ s', J s' → nx l s') : wpF (sIf c (sRet e) sNil l s) nx rt bk ct := by
  rw [wp_sIf]
  exact h.imp fun u s' ⟨e1, e2⟩ => by rw [e1]; exact q s' e2
theorem asgJ {i : Nat} {ev : Ev} (P : T → Sh → Prop) (h : wpR (ev l s) P) (k : ∀ u s', P u s' → nx (l.set i (.t u)) s') : wpF (sAsg i ev l s) nx rt bk ct := by
  rw [wp_sAsg]
  exact h.imp k
end
theorem sort_one (z : Str) : sortS [z] = [z] := List.mergeSort_of_pairwise (by simp)
theorem sort_nil : sortS [] = [] := List.mergeSort_of_pairwise (by simp)
theorem sort_ab : sortS [("a" : Str), ("b" : Str)] = [("a" : Str), ("b" : Str)] := List.mergeSort_of_pairwise (by
  rw [List.pairwise_cons]
  refine ⟨fun x hx => ?_, by simp⟩
  cases List.mem_singleton.mp hx
  decide +kernel)
theorem c02_1 : cmpR (.dct [(.inr "a", .int 1)]) (.dct [(.inr "a", .int 1), (.inr "b", .non)]) = -1 := by
  have h1 : rkT (.dct [(.inr "a", .int 1)]) = .tup [.int 4, .tup [.tup [.str "a", .tup [.int 1, .int 1]]]] := by
    simp only [rkT, rkd, rowsT, namesT, sort_one]
    rfl
  have h2 : rkT (.dct [(.inr "a", .int 1), (.inr "b", .non)]) = .tup [.int 4, .tup [.tup [.str "a", .tup [.int 1, .int 1]], .tup [.str "b", .tup [.int 0, .int 0]]]] := by
    have hab : ("a" : Str) ≠ ("b" : Str) := by decide +kernel
    simp only [rkT, rkd, rowsT, namesT, sort_ab]
    simp [dgetT, hab]
  unfold cmpR rlt
  rw [h1, h2]
  decide +kernel
theorem c02_2 : cmpR (.lst []) .non = 1 := by decide +kernel
theorem c02_3 : cmpR (.str "5") (.int 5) = 1 := by decide +kernel
theorem c02_4 : cmpR (.dct []) (.lst [.lst []]) = 1 := by
  have h1 : rkT (.dct []) = .tup [.int 4, .tup []] := by
    simp only [rkT, rkd, rowsT, namesT, sort_nil]
    rfl
  unfold cmpR rlt
  rw [h1]
  decide +kernel
theorem c02_5 : cmpR (.dct [(.inr "b", .int 0)]) (.dct [(.inr "a", .int 9)]) = 1 := by
  have h1 : ∀ (z : Str) (i : Int), rkT (.dct [(.inr z, .int i)]) = .tup [.int 4, .tup [.tup [.str z, .tup [.int 1, .int i]]]] := fun z i => by
    simp only [rkT, rkd, rowsT, namesT, sort_one]
    simp [dgetT]
  unfold cmpR rlt
  rw [h1, h1]
  decide +kernel
end TL

/-! plain Lean over the T-layer, 17: the law k02 -/
namespace TL
open PySem PySem.Spec L2

def K2J (ns : List Int) (items : List T) (l : Loc) (s : Sh) : Prop := (∃ rest, Dr rest s) ∧ ∃ a2 a3 a4 a5 a6 a7 a8 a9 a10 a11 a12 a13 a15, l = [.t (.scr ns), .t (.cel 0), a2, a3, a4, a5, a6, a7, a8, a9, a10, a11, a12, a13, .no, a15, .no]
/-- the walk through all pairs -/
def K2P (ns : List Int) (s0 : Sh) (W : List T) (a2 a3 a4 a5 a13 a15 : Slot) (items : List T) (l : Loc) (s : Sh) : Prop := s = s0 ∧ (∀ y ∈ items, ∃ i : Nat, i < 3 ∧ y = .int i) ∧ ∃ a8 a9 a10 a11 a12, l = [.t (.scr ns), .t (.cel 0), a2, a3, a4, a5, .t (.lst W), .t (.lst W), a8, a9, a10, a11, a12, a13, .no, a15, .no]
def K2Q (ns : List Int) (s0 : Sh) (W : List T) (i : Nat) (a2 a3 a4 a5 a13 a15 : Slot) (items : List T) (l : Loc) (s : Sh) : Prop := s = s0 ∧ (∀ y ∈ items, ∃ i : Nat, i < 3 ∧ y = .int i) ∧ ∃ a9 a10 a11 a12, l = [.t (.scr ns), .t (.cel 0), a2, a3, a4, a5, .t (.lst W), .t (.lst W), .t (.int i), a9, a10, a11, a12, a13, .no, a15, .no]
theorem range3 : ∀ y ∈ rangeT 0 3, ∃ i : Nat, i < 3 ∧ y = .int i := fun y hy => by
  obtain ⟨i, hi, rfl⟩ := List.mem_map.mp hy
  exact ⟨i, List.mem_range.mp hi, by simp⟩
theorem jv_lst_dv {d : Nat} {xs : List T} (hl : xs.length ≤ 100) (h : ∀ x ∈ xs, JV d x) : JV (d + 1) (.lst xs) := jv_lst (by omega) h
section
variable {po pl pg pe pw pr cp pu va ne pa op : Fn}
theorem k02_law (ho : OrderOk 12 po) (hl : LikeOk 12 pl) (hg : BestOk 12 true pg) (he : BestOk 12 false pe) (hw : WreckOk 12 pw) (hr : RankOk 12 pr) (hcp : CopyOk 12 cp) (hu : PullOk pu) (hva : ValueTl 4 va) (hne : NearOk ne) (ha : AnyOk pa)
    (hop : ∀ (ns : List Int) (R : T → Sh → Prop) (s : Sh), ns.length ≤ 63 → R (.lst [.lst (ns.map T.int), .int 0, .int 0, .int 43]) s → wpR (op [.scr ns] s) R) {ns : List Int} (hns : ns.length ≤ 63) :
    wpR (runB0 false 17 (b_law_k02 po pl pg pe pw pr cp pu va ne pa op) [.scr ns] []) fun t _ => t = .bl true := by
  have r4 : rg1 [.int 4] = fun s => .ok (rangeT 0 4) s := by funext s; exact rg1_int (by decide) (by decide)
  have r3 : rg1 [.int 3] = fun s => .ok (rangeT 0 3) s := by funext s; exact rg1_int (by decide) (by decide)
  have s0' : (0 : Nat) ≤ sizeLine := by decide
  have s1' : (1 : Nat) ≤ sizeLine := by decide
  have s2' : (2 : Nat) ≤ sizeLine := by decide
  have s3' : (3 : Nat) ≤ sizeLine := by decide
  have jn : JV 3 .non := ⟨trivial, rfl, Nat.zero_le _⟩
  have ji : ∀ i : Int, JV 3 (.int i) := fun i => ⟨trivial, rfl, Nat.zero_le _⟩
  have ji0 : ∀ i : Int, JV 0 (.int i) := fun i => ⟨trivial, rfl, Nat.zero_le _⟩
  have jd0 : JV 3 (.dct []) := (jv_dct (d := 0) (by decide) (by simp) fun p hp => (by cases hp)).mono (by decide)
  have jl0 : ∀ d, JV (d + 1) (.lst []) := fun d => jv_lst (by simp) fun x hx => by cases hx
  rw [wp_runB0]
  unfold b_law_k02
  simp only [wp_sSeq]
  rw [wp_sAsg]
  simp only [wp_eShare, wp_eCall, wp_aCons, wp_aNil, wp_eVar, st1, vAt_0]
  refine hop ns _ _ hns ?_
  rw [wp_share_lst, wp_sFor]
  simp only [List.replicate, List.length_nil, List.nil_append, wp_itA, wp_aCons, wp_aNil, wp_eC, r4, wpR_ok]
  refine for_inv (J := K2J ns) ?_ ?_ ?_
  · rintro l s ⟨⟨rest, d⟩, a2, a3, a4, a5, a6, a7, a8, a9, a10, a11, a12, a13, a15, rfl⟩
    simp only [wp_sRet, wp_eAnd, wp_e2, wp_eCall, wp_aCons, wp_aNil, wp_eC, wp_eA, wp_dLst, wp_disp1]
    refine ho 3 _ _ s _ (jv_str (by decide +kernel) 3) (ji 5) (by decide) ?_
    rw [c02_3]
    simp only [eqI, wpR_ok, onB_bl, decide_true, if_true]
    refine ⟨s0', s1', ?_⟩
    refine ho 3 _ _ s _ jd0 ((jv_lst (d := 1) (by simp) fun x hx => by cases List.mem_singleton.mp hx; exact jl0 0).mono (by decide)) (by decide) ?_
    rw [c02_4]
    simp only [eqI, wpR_ok, onB_bl, decide_true, if_true]
    refine ho 3 _ _ s _ ((jv_one (d := 0) (ji0 _) (by decide +kernel)).mono (by decide)) ((jv_one (d := 0) (ji0 _) (by decide +kernel)).mono (by decide)) (by decide) ?_
    rw [c02_5]
    simp only [eqI, wpR_ok, decide_true]
  · rintro x items l s ⟨⟨rest, d⟩, a2, a3, a4, a5, a6, a7, a8, a9, a10, a11, a12, a13, a15, rfl⟩
    refine ⟨_, rfl, ?_⟩
    simp only [wp_sSeq, List.set_cons_succ, List.set_cons_zero]
    refine asg_dr (rest := rest) (fun u => JV 3 u ∧ Tl 3 u) (by
      simp only [wp_eCall, wp_aCons, wp_aNil, wp_eVar, wp_eC, vAt_0, vAt_s]
      exact hva rest s 3 _ d (by decide) fun t s1 d1 j tl => ⟨⟨j, tl⟩, d1⟩) ?_
    rintro one s1 ⟨j1, t1⟩ d1
    simp only [List.set_cons_succ, List.set_cons_zero]
    refine asg_dr (rest := rest) (fun u => JV 4 u ∧ Tl 4 u) (by
      simp only [wp_eCall, wp_aCons, wp_aNil, wp_eVar, wp_eC, wp_eA, wp_dLst, vAt_0, vAt_s]
      refine hva rest s1 3 _ d1 (by decide) fun t s2 d2 j2 t2 => ?_
      refine hne rest s2 one 3 3 _ d2 j1 t1 (by decide) fun u s3 d3 j3 t3 => ?_
      refine hcp one s3 _ j1.dv (Nat.lt_of_le_of_lt j1.dp (by decide)) ⟨s3', ?_⟩
      refine ha rest s3 _ _ d3 (by simp) (by simp) fun y hy s4 d4 => ⟨?_, d4⟩
      simp only [List.mem_cons, List.not_mem_nil, or_false] at hy
      rcases hy with rfl | rfl | rfl
      · exact ⟨j2.mono (by decide), t2.mono (by decide)⟩
      · exact ⟨j3, t3⟩
      · exact ⟨j1.mono (by decide), t1.mono (by decide)⟩) ?_
    rintro other s2 ⟨j2, t2⟩ d2
    simp only [List.set_cons_succ, List.set_cons_zero]
    refine asg_dr (rest := rest) (fun u => JV 5 u ∧ Tl 5 u) (by
      simp only [wp_eCall, wp_aCons, wp_aNil, wp_eVar, wp_eC, wp_eA, wp_dLst, vAt_0, vAt_s]
      refine hva rest s2 2 _ d2 (by decide) fun t s3 d3 j3 t3 => ?_
      refine hne rest s3 other 4 4 _ d3 j2 t2 (by decide) fun u s4 d4 j4 t4 => ⟨s2', ?_⟩
      refine ha rest s4 _ _ d4 (by simp) (by simp) fun y hy s5 d5 => ⟨?_, d5⟩
      simp only [List.mem_cons, List.not_mem_nil, or_false] at hy
      rcases hy with rfl | rfl
      · exact ⟨j3.mono (by decide), t3.mono (by decide)⟩
      · exact ⟨j4, t4⟩) ?_
    rintro third s3 ⟨j3, t3⟩ d3
    simp only [List.set_cons_succ, List.set_cons_zero]
    have jW : ∀ x ∈ [one, other, third], JV 5 x := fun x hx => by
      simp only [List.mem_cons, List.not_mem_nil, or_false] at hx
      rcases hx with rfl | rfl | rfl
      · exact j1.mono (by decide)
      · exact j2.mono (by decide)
      · exact j3
    have lW : [one, other, third].length = 3 := rfl
    have jWl : JV 6 (.lst [one, other, third]) := jv_lst (by simp) jW
    refine asg_to (.lst [one, other, third]) (by
      simp only [wp_eA, wp_aCons, wp_aNil, wp_eVar, wp_dLst, vAt_0, vAt_s]
      exact ⟨s3', by trivial, by trivial⟩) ?_
    simp only [List.set_cons_succ, List.set_cons_zero]
    generalize [one, other, third] = W at jW lW jWl ⊢
    refine asg_to (.lst W) (by
      simp only [wp_eCall, wp_aCons, wp_aNil, wp_eVar, vAt_0, vAt_s]
      exact hcp _ s3 _ jWl.dv (Nat.lt_of_le_of_lt jWl.dp (by decide)) ⟨rfl, rfl⟩) ?_
    simp only [List.set_cons_succ, List.set_cons_zero]
    rw [wp_sFor]
    simp only [wp_itA, wp_aCons, wp_aNil, wp_eC, r3, wpR_ok]
    refine for_inv (J := K2P ns s3 W (.t x) (.t one) (.t other) (.t third) a13 a15) ?_ ?_ ⟨rfl, range3, _, _, _, _, _, rfl⟩
    case refine_2 =>
      rintro y items2 l s ⟨rfl, hy, b8, b9, b10, b11, b12, rfl⟩
      obtain ⟨i, hi, rfl⟩ := hy y (by simp)
      refine ⟨_, rfl, ?_⟩
      simp only [List.set_cons_succ, List.set_cons_zero]
      rw [wp_sFor]
      simp only [wp_itA, wp_aCons, wp_aNil, wp_eC, r3, wpR_ok]
      refine for_inv (J := K2Q ns s W i (.t x) (.t one) (.t other) (.t third) a13 a15) ?_ ?_ ⟨rfl, range3, _, _, _, _, rfl⟩
      · rintro l s' ⟨rfl, _, c9, c10, c11, c12, rfl⟩
        exact ⟨rfl, fun z hz => hy z (by simp [hz]), _, _, _, _, _, rfl⟩
      · rintro z items3 l s' ⟨rfl, hz, c9, c10, c11, c12, rfl⟩
        obtain ⟨j, hj, rfl⟩ := hz z (by simp)
        refine ⟨_, rfl, ?_⟩
        obtain ⟨u, eu, _, mu⟩ := atI_nat (xs := W) (i := (i : Int)) (by omega) (by omega)
        obtain ⟨w, ew, _, mw⟩ := atI_nat (xs := W) (i := (j : Int)) (by omega) (by omega)
        have ju := jW u mu
        have jw := jW w mw
        simp only [List.set_cons_succ, List.set_cons_zero, wp_sSeq]
        rw [wp_sPar]
        simp only [wp_eCall, wp_aCons, wp_aNil, wp_e2, wp_eVar, vAt_0, vAt_s, p_ixL, eu, ew, Option.some.injEq, exists_eq_left']
        refine hr u u s' _ (vw_refl s' u) ju.dv ju.nb (Nat.lt_of_le_of_lt ju.dp (by decide)) ?_
        refine hr w w s' _ (vw_refl s' w) jw.dv jw.nb (Nat.lt_of_le_of_lt jw.dp (by decide)) ?_
        simp only [List.set_cons_succ, List.set_cons_zero]
        refine asg_to (.int (cmpR u w)) (by
          simp only [wp_e2, wp_eA, wp_aCons, wp_aNil, wp_eVar, vAt_0, vAt_s, gt_rk ju jw (by decide), lt_rk ju jw (by decide), wpR_ok, p_intB, p_subI]
          exact ⟨by trivial, by trivial⟩) ?_
        simp only [List.set_cons_succ, List.set_cons_zero]
        refine chk ?_ ?_
        · simp only [wp_cNot, wp_eT, wp_eCall, wp_aCons, wp_aNil, wp_e2, wp_eVar, vAt_0, vAt_s, p_ixL, eu, ew, Option.some.injEq, exists_eq_left']
          refine ho 5 u w s' _ ju jw (by decide) ?_
          refine hl _ s' _ (show DV (.int _) from trivial) (show 0 < 12 by decide) ?_
          exact ⟨rfl, rfl⟩
        · exact ⟨rfl, fun z hz' => hz z (by simp [hz']), _, _, _, _, rfl⟩
    rintro l s ⟨rfl, _, b8, b9, b10, b11, b12, rfl⟩
    -- more values
    refine asg_dr (rest := rest) (fun u => ∃ ws, u = .lst ws ∧ ws.length ≤ 9 ∧ ws ≠ [] ∧ ∀ x ∈ ws, JV 5 x) (by
      simp only [wp_e2, wp_eVar, vAt_0, vAt_s, wp_eComp, wp_itA, wp_aCons, wp_aNil, wp_eCall, wp_eC]
      refine ⟨rfl, ?_⟩
      refine hu rest s 6 _ d3 (by decide) (by decide) fun k s4 d4 k0 k1 => ?_
      rw [rg1_int k0 (show k ≤ 100000 by omega)]
      simp only [wpR_ok, wipeL]
      refine comp_inv (P := JV 1) (J := Dr rest) (fun x hx s5 d5 => ⟨_, rfl, ?_⟩) d4 fun ys s5 hl' hy d5 => ?_
      · simp only [List.set_cons_succ, List.set_cons_zero, wp_eCall, wp_aCons, wp_aNil, wp_eVar, wp_eC, vAt_0, vAt_s]
        exact hva rest s5 1 _ d5 (by decide) fun t s6 d6 j6 _ => ⟨j6, d6⟩
      · have hl3 : ys.length ≤ 6 := by
          rw [hl']
          simp [rangeT]
          omega
        refine ⟨len_size (by omega), ?_⟩
        rw [p_addL _ _ _ (len_size (by omega))]
        refine ⟨⟨W ++ ys, rfl, by rw [List.length_append]; omega, fun e => ?_, fun x hx => ?_⟩, d5⟩
        · rw [List.append_eq_nil_iff] at e
          rw [e.1] at lW
          cases lW
        · rcases List.mem_append.mp hx with hx | hx
          · exact jW x hx
          · exact (hy x hx).mono (by decide)) ?_
    rintro u s4 ⟨ws, rfl, lw, nw, jw⟩ d4
    simp only [List.set_cons_succ, List.set_cons_zero]
    have jwl : JV 6 (.lst ws) := jv_lst (by omega) jw
    obtain ⟨rs, ers, lo, hi, mlo, mhi, at0, at1, lo_min, hi_max⟩ := sort_ranks (d := 5) (by decide) jw nw s4
    refine asg_to (.lst rs) (by
      simp only [wp_eA, wp_aCons, wp_aNil, wp_eComp, wp_itN, vAt_0, vAt_s, itemsN, wpR_ok]
      refine ⟨rfl, ?_⟩
      refine comp_map (f := rkT) (fun x hx R' q' => ?_) ?_
      · have jx := jw x hx
        simp only [List.set_cons_succ, List.set_cons_zero, wipeL, wp_eCall, wp_aCons, wp_aNil, wp_eVar, vAt_0, vAt_s]
        exact hr x x s4 _ (vw_refl s4 x) jx.dv jx.nb (Nat.lt_of_le_of_lt jx.dp (by decide)) q'
      · refine ⟨by rw [List.length_map]; exact len_size (by omega), ?_⟩
        rw [ers]
        exact ⟨rfl, rfl⟩) ?_
    simp only [List.set_cons_succ, List.set_cons_zero]
    refine asg_to (.lst ws) (by
      simp only [wp_eCall, wp_aCons, wp_aNil, wp_eVar, vAt_0, vAt_s]
      exact hcp _ s4 _ jwl.dv (Nat.lt_of_le_of_lt jwl.dp (by decide)) ⟨rfl, rfl⟩) ?_
    simp only [List.set_cons_succ, List.set_cons_zero]
    refine chkJ (fun s' => ∃ rest', Dr rest' s') ?_ ?_
    · simp only [wp_cOr, wp_eT, wp_e2, wp_eCall, wp_aCons, wp_aNil, wp_eVar, wp_e1, wp_eC, vAt_0, vAt_s, p_ixL, at0, at1, p_negI, wpR_ok, Option.some.injEq, exists_eq_left']
      refine he 5 ws s4 _ (by decide) jw nw fun t v s5 mt best g5 o5 => ?_
      have jt := jw t mt
      refine hr t v s5 _ (own_vw t v _ _ o5) jt.dv jt.nb (Nat.lt_of_le_of_lt jt.dp (by decide)) ?_
      rw [ne_rk (by decide) jt (jw lo mlo) (lo_min t mt) (best lo mlo)]
      simp only [wpR_ok, truB_bl, Bool.false_eq_true, if_false]
      refine hg 5 ws s5 _ (by decide) jw nw fun t' v' s6 mt' best' g6 o6 => ?_
      have jt' := jw t' mt'
      refine hr t' v' s6 _ (own_vw t' v' _ _ o6) jt'.dv jt'.nb (Nat.lt_of_le_of_lt jt'.dp (by decide)) ?_
      rw [ne_rk (by decide) jt' (jw hi mhi) (best' hi mhi) (hi_max t' mt')]
      simp only [wpR_ok, truB_bl]
      exact ⟨by trivial, d4.gr (g5.trans g6)⟩
    rintro s5 ⟨rest5, d5⟩
    rw [wp_sDrop]
    simp only [wp_eCall, wp_aCons, wp_aNil, wp_eShare, wp_eA, wp_eVar, wp_dLst, vAt_0, vAt_s]
    refine he 5 ws s5 _ (by decide) jw nw fun t v s6 mt best g6 o6 => ?_
    refine hg 5 ws s6 _ (by decide) jw nw fun t' v' s7 mt' best' g7 o7 => ⟨s2', ?_⟩
    rw [wp_share_lst]
    have jtt : JV 6 (.lst [t, t']) := jv_lst (by simp) fun y hy => by
      simp only [List.mem_cons, List.not_mem_nil, or_false] at hy
      rcases hy with rfl | rfl
      · exact jw _ mt
      · exact jw _ mt'
    have len5 : 0 < s5.length := by
      obtain ⟨_, _, _, _, rfl, _⟩ := d5
      exact Nat.succ_pos _
    refine hw (.lst [t, t']) (.cel s7.length) s5.length (s7.length + 1) _ _ ?_ jtt.dv jtt.nb (Nat.lt_of_le_of_lt jtt.dp (by decide)) fun r s8 c8 => ?_
    · rw [Own]
      refine ⟨s7.length, [v, v'], rfl, by simp, rfl, ?_⟩
      refine owns_same (s := s7) _ _ _ _ (fun j _ hj => List.getElem?_append_left hj) ?_
      rw [Owns]
      refine ⟨v, [v'], s6.length, rfl, own_same t v _ _ (fun j _ hj => g7.eq j hj) o6, ?_⟩
      rw [Owns]
      refine ⟨v', [], s7.length, rfl, o7, ?_⟩
      rw [Owns]
      exact ⟨rfl, Nat.le_refl _⟩
    obtain ⟨rest6, d6⟩ := d5.gr ((g6.trans g7).trans (Gr.snoc s7 (.lst [v, v'])))
    obtain ⟨rest8, d8⟩ := d6.ch c8 len5
    refine chk ?_ ?_
    · simp only [wp_cOr, wp_cNot, wp_eT, wp_e2, wp_eCall, wp_aCons, wp_aNil, wp_eVar, wp_eC, wp_e1, wp_eA, wp_dLst, vAt_0, vAt_s, p_negI, wpR_ok]
      refine hl (.lst ws) s8 _ jwl.dv (Nat.lt_of_le_of_lt jwl.dp (by decide)) ?_
      simp only [truB_bl, wpR_ok, Bool.not_true, Bool.false_eq_true, if_false, wp_disp1]
      simp only [wp_eC]
      rw [wp_disp2 (x := "a") (y := "b") (by decide +kernel)]
      simp only [wp_eC]
      refine ho 3 _ _ s8 _ ((jv_one (d := 0) (ji0 _) (by decide +kernel)).mono (by decide)) ?_ (by decide) ?_
      · refine (jv_dct (d := 0) (by simp) (by decide +kernel) fun p hp => ?_).mono (by decide)
        simp only [List.mem_cons, List.not_mem_nil, or_false] at hp
        rcases hp with rfl | rfl
        · exact ⟨⟨_, rfl, by decide +kernel⟩, trivial, rfl, Nat.le_refl _⟩
        · exact ⟨⟨_, rfl, by decide +kernel⟩, trivial, rfl, Nat.le_refl _⟩
      rw [c02_1]
      simp only [neI, wpR_ok, truB_bl, decide_true, Bool.not_true, Bool.false_eq_true, if_false]
      refine ⟨Nat.zero_le _, ?_⟩
      refine ho 3 _ _ s8 _ ((jl0 0).mono (by decide)) jn (by decide) ?_
      rw [c02_2]
      simp only [neI, wpR_ok, truB_bl, decide_true, Bool.not_true]
      exact ⟨trivial, trivial⟩
    exact ⟨⟨rest8, d8⟩, _, _, _, _, _, _, _, _, _, _, _, _, _, rfl⟩
  · exact ⟨⟨[], ns, 0, 0, 43, rfl, hns, by decide, by decide, by decide⟩, .no, .no, .no, .no, .no, .no, .no, .no, .no, .no, .no, .no, .no, rfl⟩
end
end TL

namespace LK02
open PySem L2 TL

structure Tab where
  copied : Fn
  rank : Fn
  order : Fn
  least : Fn
  greatest : Fn
  _law_open : Fn
  _law_pull : Fn
  _law_any : Fn
  _law_num : Fn
  _law_like : Fn
  _law_copy : Fn
  _law_rank : Fn
  _law_name : Fn
  _law_plain : Fn
  _law_value : Fn
  _law_record : Fn
  _law_wreck : Fn
  _law_near : Fn
  law : Fn
noncomputable def F : Nat → Tab
  | 0 => ⟨badFn, badFn, badFn, badFn, badFn, badFn, badFn, badFn, badFn, badFn, badFn, badFn, badFn, badFn, badFn, badFn, badFn, badFn, badFn⟩
  | n + 1 => ⟨runB0 false 3 (b_copied_s (F n).copied),
    runB0 false 3 (b_rank_s (F n).rank),
    runB0 false 4 (b_order (F n).rank),
    runB0 false 1 (b_least (F n).rank (F n).copied),
    runB0 false 1 (b_greatest (F n).rank (F n).copied),
    runB0 true 1 (b__law_open),
    runB0 false 4 (b__law_pull),
    runB0 false 2 (b__law_any (F n)._law_pull),
    runB0 false 1 (b__law_num),
    runB0 false 4 (b__law_like (F n)._law_like (F n)._law_num),
    runB0 false 3 (b__law_copy (F n)._law_copy),
    runB0 false 3 (b__law_rank_s (F n)._law_rank),
    runB0 false 1 (b__law_name (F n)._law_pull),
    runB0 false 4 (b__law_plain (F n)._law_any (F n)._law_pull),
    runB0 false 4 (b__law_value (F n)._law_pull (F n)._law_value (F n)._law_record (F n)._law_plain),
    runB0 false 5 (b__law_record (F n)._law_pull (F n)._law_name (F n)._law_value),
    runB0 false 3 (b__law_wreck_s (F n)._law_wreck),
    runB0 false 3 (b__law_near (F n)._law_plain (F n)._law_any (F n)._law_pull),
    runB0 false 17 (b_law_k02 (F n).order (F n)._law_like (F n).greatest (F n).least (F n)._law_wreck (F n)._law_rank (F n)._law_copy (F n)._law_pull (F n)._law_value (F n)._law_near (F n)._law_any (F n)._law_open)⟩
end LK02

namespace LK02
open PySem PySem.Spec L2 TL

theorem f_pull (n : Nat) : PullOk (F (n + 1))._law_pull := pull_ok
theorem f_num (n : Nat) : NumOk (F (n + 1))._law_num := num_ok
theorem f_like : ∀ n : Nat, LikeOk n (F (n + 1))._law_like
  | 0 => like0 _
  | n + 1 => like_step (f_like n) (f_num n)
theorem f_copy : ∀ n : Nat, CopyOk n (F n)._law_copy
  | 0 => copy0 _
  | n + 1 => copy_step (f_copy n)
theorem f_any (n : Nat) : AnyOk (F (n + 2))._law_any := any_ok (f_pull n)
theorem f_name (n : Nat) : NameOk (F (n + 2))._law_name := name_ok (f_pull n)
theorem f_plain (n : Nat) : PlainOk (F (n + 3))._law_plain := plain_ok (f_pull (n + 1)) (f_any n)
theorem f_value : ∀ j m : Nat, 2 * j + 4 ≤ m → ValueOk j (F m)._law_value ∧ RecordOk j (F m)._law_record
  | 0, m, _ => ⟨value0 _, record0 _⟩
  | j + 1, m, h => by
    have v : ∀ m, 2 * j + 5 ≤ m → ValueOk (j + 1) (F m)._law_value := fun m h => by
      obtain ⟨k, rfl⟩ : ∃ k, m = k + 4 := ⟨m - 4, by omega⟩
      obtain ⟨h1, h2⟩ := f_value j (k + 3) (by omega)
      exact value_step (f_pull (k + 2)) (f_plain k) h1 h2
    refine ⟨v m (by omega), ?_⟩
    obtain ⟨k, rfl⟩ : ∃ k, m = k + 3 := ⟨m - 3, by omega⟩
    exact record_step (f_pull (k + 1)) (f_name k) (v (k + 2) (by omega))
theorem f_valtl (m : Nat) (h : 10 ≤ m) : ValueTl 4 (F (m + 1))._law_value := by
  obtain ⟨k, rfl⟩ : ∃ k, m = k + 3 := ⟨m - 3, by omega⟩
  obtain ⟨h1, h2⟩ := f_value 3 (k + 3) h
  exact value_tl (f_pull (k + 2)) (f_plain k) h1 h2
theorem f_near (n : Nat) : NearOk (F (n + 4))._law_near := near_ok (f_plain n) (f_any (n + 1)) (f_pull (n + 2))
theorem f_rank : ∀ n : Nat, RankOk n (F n).rank
  | 0 => rank0 _
  | n + 1 => rank_step (f_rank n)
theorem f_lrank : ∀ n : Nat, RankOk n (F n)._law_rank
  | 0 => rank0 _
  | n + 1 => lrank_step (f_lrank n)
theorem f_copied : ∀ n : Nat, CopiedOk n (F n).copied
  | 0 => copied0 _
  | n + 1 => copied_step (f_copied n)
theorem f_wreck : ∀ n : Nat, WreckOk n (F n)._law_wreck
  | 0 => wreck0 _
  | n + 1 => wreck_step (f_wreck n)
theorem rank12 {n : Nat} (hn : 12 ≤ n) {φ : Fn} (h : RankOk n φ) : RankOk 12 φ := fun t v s R a b c d q => h t v s R a b c (Nat.lt_of_lt_of_le d hn) q
theorem copied12 {n : Nat} (hn : 12 ≤ n) {φ : Fn} (h : CopiedOk n φ) : CopiedOk 12 φ := fun t s R a b d q => h t s R a b (Nat.lt_of_lt_of_le d hn) q
theorem law_ok (ns : List Int) (h : ns.length ≤ 63) : wpR ((F 41).law [.scr ns] []) fun t _ => t = .bl true :=
  k02_law (order_ok (rank12 (by decide) (f_rank 39)) (by decide)) (fun t s R d hd q => f_like 39 t s R d (Nat.lt_of_lt_of_le hd (by decide)) q)
    (greatest_ok (rank12 (by decide) (f_rank 39)) (by decide) (copied12 (by decide) (f_copied 39))) (least_ok (rank12 (by decide) (f_rank 39)) (by decide) (copied12 (by decide) (f_copied 39)))
    (fun t v lo hi s Q a b c d q => f_wreck 40 t v lo hi s Q a b c (Nat.lt_of_lt_of_le d (by decide)) q) (rank12 (by decide) (f_lrank 40)) (fun t s R d hd q => f_copy 40 t s R d (Nat.lt_of_lt_of_le hd (by decide)) q)
    (f_pull 39) (f_valtl 39 (by decide)) (f_near 36) (f_any 38) (fun ns R s h q => open_ok h q) h
end LK02

namespace LK02
open PySem PySem.Spec PyProof.Rows L2 TL

def top (i : Nat) : Stmt := PySem.Challenge.pw_lodepath_k02_whole_values_stand_in_one_o.main.body.getD i (.Pass ⟨0, 0, 0, 0⟩)
abbrev s_copied : Stmt := top 1
abbrev s_rank : Stmt := top 2
abbrev s_order : Stmt := top 3
abbrev s_least : Stmt := top 4
abbrev s_greatest : Stmt := top 5
abbrev s__law_open : Stmt := top 7
abbrev s__law_pull : Stmt := top 8
abbrev s__law_any : Stmt := top 9
abbrev s__law_num : Stmt := top 10
abbrev s__law_like : Stmt := top 11
abbrev s__law_copy : Stmt := top 12
abbrev s__law_rank : Stmt := top 13
abbrev s__law_name : Stmt := top 14
abbrev s__law_plain : Stmt := top 15
abbrev s__law_value : Stmt := top 16
abbrev s__law_record : Stmt := top 17
abbrev s__law_wreck : Stmt := top 18
abbrev s__law_near : Stmt := top 19
abbrev s_law : Stmt := top 20
def d_copied : He.DefD := ⟨("copied", none), "copied", "copied", defArgs s_copied, defBody s_copied, defScope s_copied, [], []⟩
def d_rank : He.DefD := ⟨("rank", none), "rank", "rank", defArgs s_rank, defBody s_rank, defScope s_rank, [], []⟩
def d_order : He.DefD := ⟨("order", none), "order", "order", defArgs s_order, defBody s_order, defScope s_order, [], []⟩
def d_least : He.DefD := ⟨("least", none), "least", "least", defArgs s_least, defBody s_least, defScope s_least, [], []⟩
def d_greatest : He.DefD := ⟨("greatest", none), "greatest", "greatest", defArgs s_greatest, defBody s_greatest, defScope s_greatest, [], []⟩
def d__law_open : He.DefD := ⟨("_law_open", none), "_law_open", "_law_open", defArgs s__law_open, defBody s__law_open, defScope s__law_open, [], []⟩
def d__law_pull : He.DefD := ⟨("_law_pull", none), "_law_pull", "_law_pull", defArgs s__law_pull, defBody s__law_pull, defScope s__law_pull, [], []⟩
def d__law_any : He.DefD := ⟨("_law_any", none), "_law_any", "_law_any", defArgs s__law_any, defBody s__law_any, defScope s__law_any, [], []⟩
def d__law_num : He.DefD := ⟨("_law_num", none), "_law_num", "_law_num", defArgs s__law_num, defBody s__law_num, defScope s__law_num, [], []⟩
def d__law_like : He.DefD := ⟨("_law_like", none), "_law_like", "_law_like", defArgs s__law_like, defBody s__law_like, defScope s__law_like, [], []⟩
def d__law_copy : He.DefD := ⟨("_law_copy", none), "_law_copy", "_law_copy", defArgs s__law_copy, defBody s__law_copy, defScope s__law_copy, [], []⟩
def d__law_rank : He.DefD := ⟨("_law_rank", none), "_law_rank", "_law_rank", defArgs s__law_rank, defBody s__law_rank, defScope s__law_rank, [], []⟩
def d__law_name : He.DefD := ⟨("_law_name", none), "_law_name", "_law_name", defArgs s__law_name, defBody s__law_name, defScope s__law_name, [], []⟩
def d__law_plain : He.DefD := ⟨("_law_plain", none), "_law_plain", "_law_plain", defArgs s__law_plain, defBody s__law_plain, defScope s__law_plain, [], []⟩
def d__law_value : He.DefD := ⟨("_law_value", none), "_law_value", "_law_value", defArgs s__law_value, defBody s__law_value, defScope s__law_value, [], []⟩
def d__law_record : He.DefD := ⟨("_law_record", none), "_law_record", "_law_record", defArgs s__law_record, defBody s__law_record, defScope s__law_record, [], []⟩
def d__law_wreck : He.DefD := ⟨("_law_wreck", none), "_law_wreck", "_law_wreck", defArgs s__law_wreck, defBody s__law_wreck, defScope s__law_wreck, [], []⟩
def d__law_near : He.DefD := ⟨("_law_near", none), "_law_near", "_law_near", defArgs s__law_near, defBody s__law_near, defScope s__law_near, [], []⟩
def d_law : He.DefD := ⟨("law", none), "law", "law", defArgs s_law, defBody s_law, defScope s_law, [], []⟩
def fn : List He.DefD := [d_copied, d_rank, d_order, d_least, d_greatest, d__law_open, d__law_pull, d__law_any, d__law_num, d__law_like, d__law_copy, d__law_rank, d__law_name, d__law_plain, d__law_value, d__law_record, d__law_wreck, d__law_near, d_law]
def fa : List He.Fa := [.glo "copied", .glo "rank", .glo "order", .glo "least", .glo "greatest", .glo "_law_open", .glo "_law_pull", .glo "_law_any", .glo "_law_num", .glo "_law_like", .glo "_law_copy", .glo "_law_rank", .glo "_law_name", .glo "_law_plain", .glo "_law_value", .glo "_law_record", .glo "_law_wreck", .glo "_law_near", .glo "law", .free "all", .free "bool", .free "dict", .free "int", .free "isinstance", .free "len", .free "list", .free "max", .free "min", .free "range", .free "sorted", .free "str", .free "tuple"]
def loose0 : List Str := ["copied", "rank", "order", "least", "greatest", "_law_open", "_law_pull", "_law_any", "_law_num", "_law_like", "_law_copy", "_law_rank", "_law_name", "_law_plain", "_law_value", "_law_record", "_law_wreck", "_law_near"]
def loose : List Str := loose0
structure St (K : PySem.W.Frag) (mg : Str → Option Value) : Prop where
  d_copied : ∃ f fd, FunD K "copied" "copied" (defArgs s_copied) (defBody s_copied) (defScope s_copied) [] [] f fd ∧ mg "copied" = some (.ref f)
  d_rank : ∃ f fd, FunD K "rank" "rank" (defArgs s_rank) (defBody s_rank) (defScope s_rank) [] [] f fd ∧ mg "rank" = some (.ref f)
  d_order : ∃ f fd, FunD K "order" "order" (defArgs s_order) (defBody s_order) (defScope s_order) [] [] f fd ∧ mg "order" = some (.ref f)
  d_least : ∃ f fd, FunD K "least" "least" (defArgs s_least) (defBody s_least) (defScope s_least) [] [] f fd ∧ mg "least" = some (.ref f)
  d_greatest : ∃ f fd, FunD K "greatest" "greatest" (defArgs s_greatest) (defBody s_greatest) (defScope s_greatest) [] [] f fd ∧ mg "greatest" = some (.ref f)
  d__law_open : ∃ f fd, FunD K "_law_open" "_law_open" (defArgs s__law_open) (defBody s__law_open) (defScope s__law_open) [] [] f fd ∧ mg "_law_open" = some (.ref f)
  d__law_pull : ∃ f fd, FunD K "_law_pull" "_law_pull" (defArgs s__law_pull) (defBody s__law_pull) (defScope s__law_pull) [] [] f fd ∧ mg "_law_pull" = some (.ref f)
  d__law_any : ∃ f fd, FunD K "_law_any" "_law_any" (defArgs s__law_any) (defBody s__law_any) (defScope s__law_any) [] [] f fd ∧ mg "_law_any" = some (.ref f)
  d__law_num : ∃ f fd, FunD K "_law_num" "_law_num" (defArgs s__law_num) (defBody s__law_num) (defScope s__law_num) [] [] f fd ∧ mg "_law_num" = some (.ref f)
  d__law_like : ∃ f fd, FunD K "_law_like" "_law_like" (defArgs s__law_like) (defBody s__law_like) (defScope s__law_like) [] [] f fd ∧ mg "_law_like" = some (.ref f)
  d__law_copy : ∃ f fd, FunD K "_law_copy" "_law_copy" (defArgs s__law_copy) (defBody s__law_copy) (defScope s__law_copy) [] [] f fd ∧ mg "_law_copy" = some (.ref f)
  d__law_rank : ∃ f fd, FunD K "_law_rank" "_law_rank" (defArgs s__law_rank) (defBody s__law_rank) (defScope s__law_rank) [] [] f fd ∧ mg "_law_rank" = some (.ref f)
  d__law_name : ∃ f fd, FunD K "_law_name" "_law_name" (defArgs s__law_name) (defBody s__law_name) (defScope s__law_name) [] [] f fd ∧ mg "_law_name" = some (.ref f)
  d__law_plain : ∃ f fd, FunD K "_law_plain" "_law_plain" (defArgs s__law_plain) (defBody s__law_plain) (defScope s__law_plain) [] [] f fd ∧ mg "_law_plain" = some (.ref f)
  d__law_value : ∃ f fd, FunD K "_law_value" "_law_value" (defArgs s__law_value) (defBody s__law_value) (defScope s__law_value) [] [] f fd ∧ mg "_law_value" = some (.ref f)
  d__law_record : ∃ f fd, FunD K "_law_record" "_law_record" (defArgs s__law_record) (defBody s__law_record) (defScope s__law_record) [] [] f fd ∧ mg "_law_record" = some (.ref f)
  d__law_wreck : ∃ f fd, FunD K "_law_wreck" "_law_wreck" (defArgs s__law_wreck) (defBody s__law_wreck) (defScope s__law_wreck) [] [] f fd ∧ mg "_law_wreck" = some (.ref f)
  d__law_near : ∃ f fd, FunD K "_law_near" "_law_near" (defArgs s__law_near) (defBody s__law_near) (defScope s__law_near) [] [] f fd ∧ mg "_law_near" = some (.ref f)
  d_law : ∃ f fd, FunD K "law" "law" (defArgs s_law) (defBody s_law) (defScope s_law) [] [] f fd ∧ mg "law" = some (.ref f)
  n_all : mg "all" = none
  n_bool : mg "bool" = none
  n_dict : mg "dict" = none
  n_int : mg "int" = none
  n_isinstance : mg "isinstance" = none
  n_len : mg "len" = none
  n_list : mg "list" = none
  n_max : mg "max" = none
  n_min : mg "min" = none
  n_range : mg "range" = none
  n_sorted : mg "sorted" = none
  n_str : mg "str" = none
  n_tuple : mg "tuple" = none
theorem st_of {K : PySem.W.Frag} {h : Heap} {mg : Str → Option Value} (X : K.In h) (G : h.Ns mainGlobals mg) (c : He.SaysD fa fn K) : St K mg :=
  ⟨(by obtain ⟨fd, h⟩ := c.def_ 0; exact ⟨_, fd, h, He.glo_ok X G (c.fact 0)⟩),
   (by obtain ⟨fd, h⟩ := c.def_ 1; exact ⟨_, fd, h, He.glo_ok X G (c.fact 1)⟩),
   (by obtain ⟨fd, h⟩ := c.def_ 2; exact ⟨_, fd, h, He.glo_ok X G (c.fact 2)⟩),
   (by obtain ⟨fd, h⟩ := c.def_ 3; exact ⟨_, fd, h, He.glo_ok X G (c.fact 3)⟩),
   (by obtain ⟨fd, h⟩ := c.def_ 4; exact ⟨_, fd, h, He.glo_ok X G (c.fact 4)⟩),
   (by obtain ⟨fd, h⟩ := c.def_ 5; exact ⟨_, fd, h, He.glo_ok X G (c.fact 5)⟩),
   (by obtain ⟨fd, h⟩ := c.def_ 6; exact ⟨_, fd, h, He.glo_ok X G (c.fact 6)⟩),
   (by obtain ⟨fd, h⟩ := c.def_ 7; exact ⟨_, fd, h, He.glo_ok X G (c.fact 7)⟩),
   (by obtain ⟨fd, h⟩ := c.def_ 8; exact ⟨_, fd, h, He.glo_ok X G (c.fact 8)⟩),
   (by obtain ⟨fd, h⟩ := c.def_ 9; exact ⟨_, fd, h, He.glo_ok X G (c.fact 9)⟩),
   (by obtain ⟨fd, h⟩ := c.def_ 10; exact ⟨_, fd, h, He.glo_ok X G (c.fact 10)⟩),
   (by obtain ⟨fd, h⟩ := c.def_ 11; exact ⟨_, fd, h, He.glo_ok X G (c.fact 11)⟩),
   (by obtain ⟨fd, h⟩ := c.def_ 12; exact ⟨_, fd, h, He.glo_ok X G (c.fact 12)⟩),
   (by obtain ⟨fd, h⟩ := c.def_ 13; exact ⟨_, fd, h, He.glo_ok X G (c.fact 13)⟩),
   (by obtain ⟨fd, h⟩ := c.def_ 14; exact ⟨_, fd, h, He.glo_ok X G (c.fact 14)⟩),
   (by obtain ⟨fd, h⟩ := c.def_ 15; exact ⟨_, fd, h, He.glo_ok X G (c.fact 15)⟩),
   (by obtain ⟨fd, h⟩ := c.def_ 16; exact ⟨_, fd, h, He.glo_ok X G (c.fact 16)⟩),
   (by obtain ⟨fd, h⟩ := c.def_ 17; exact ⟨_, fd, h, He.glo_ok X G (c.fact 17)⟩),
   (by obtain ⟨fd, h⟩ := c.def_ 18; exact ⟨_, fd, h, He.glo_ok X G (c.fact 18)⟩),
   (He.free_ok X G (c.fact 19)),
   (He.free_ok X G (c.fact 20)),
   (He.free_ok X G (c.fact 21)),
   (He.free_ok X G (c.fact 22)),
   (He.free_ok X G (c.fact 23)),
   (He.free_ok X G (c.fact 24)),
   (He.free_ok X G (c.fact 25)),
   (He.free_ok X G (c.fact 26)),
   (He.free_ok X G (c.fact 27)),
   (He.free_ok X G (c.fact 28)),
   (He.free_ok X G (c.fact 29)),
   (He.free_ok X G (c.fact 30)),
   (He.free_ok X G (c.fact 31))⟩
structure Is (P : Program) (w : World) (K : PySem.W.Frag) (mg : Str → Option Value) (base : Heap) (n : Nat) : Prop where
  c_copied : CalP P w K mg base CX0 (2 * n) "copied" ["value"] false (F n).copied
  c_rank : CalP P w K mg base CX0 (2 * n) "rank" ["value"] false (F n).rank
  c_order : CalP P w K mg base CX0 (2 * n) "order" ["one", "other"] false (F n).order
  c_least : CalP P w K mg base CX0 (2 * n) "least" ["values"] false (F n).least
  c_greatest : CalP P w K mg base CX0 (2 * n) "greatest" ["values"] false (F n).greatest
  c__law_open : CalP P w K mg base CX0 (2 * n) "_law_open" ["_law_script"] true (F n)._law_open
  c__law_pull : CalP P w K mg base CX0 (2 * n) "_law_pull" ["_law_draw", "_law_top"] false (F n)._law_pull
  c__law_any : CalP P w K mg base CX0 (2 * n) "_law_any" ["_law_draw", "_law_some"] false (F n)._law_any
  c__law_num : CalP P w K mg base CX0 (2 * n) "_law_num" ["_law_found"] false (F n)._law_num
  c__law_like : CalP P w K mg base CX0 (2 * n) "_law_like" ["_law_found", "_law_due"] false (F n)._law_like
  c__law_copy : CalP P w K mg base CX0 (2 * n) "_law_copy" ["_law_value_here"] false (F n)._law_copy
  c__law_rank : CalP P w K mg base CX0 (2 * n) "_law_rank" ["_law_value_here"] false (F n)._law_rank
  c__law_name : CalP P w K mg base CX0 (2 * n) "_law_name" ["_law_draw"] false (F n)._law_name
  c__law_plain : CalP P w K mg base CX0 (2 * n) "_law_plain" ["_law_draw"] false (F n)._law_plain
  c__law_value : CalP P w K mg base CX0 (2 * n) "_law_value" ["_law_draw", "_law_bot"] false (F n)._law_value
  c__law_record : CalP P w K mg base CX0 (2 * n) "_law_record" ["_law_draw", "_law_bot", "_law_wide"] false (F n)._law_record
  c__law_wreck : CalP P w K mg base CX0 (2 * n) "_law_wreck" ["_law_value_here"] false (F n)._law_wreck
  c__law_near : CalP P w K mg base CX0 (2 * n) "_law_near" ["_law_draw", "_law_value_here"] false (F n)._law_near
  c_law : CalP P w K mg base CX0 (2 * n) "law" ["_law_script"] false (F n).law
theorem sc_copied : FnScope ["value", "one", "name"] ["value"] (defScope s_copied) := ⟨rfl, rfl, rfl, by decide +kernel, rfl, by decide +kernel, by decide +kernel⟩
theorem o_copied {P : Program} {w : World} {K : PySem.W.Frag} {mg : Str → Option Value} {base : Heap} {n : Nat} (S : St K mg) (I : Is P w K mg base n) {f : Addr} {fd : FuncData} (Fd : FunD K "copied" "copied" (defArgs s_copied) (defBody s_copied) (defScope s_copied) [] [] f fd) : FnOk P w K mg base CX0 (2 * n + 2) f fd ["value"] (spT K false 1 (F (n + 1)).copied) := by
  refine fn_tl1 Fd sc_copied fun cdv A outer s H E hr hr1 => ?_
  have nd := sc_copied.nd
  exact (ts_cons (ts_if (tt_val (t_bi call_isi sv_isi (by rfl) S.n_isinstance (by decide +kernel) (ta_cons (t_var (pv 0)) (ta_cons (t_tyv (by rfl) S.n_tuple (by decide +kernel)) ta_nil)))) (ts_one (ts_ret (t_ty call_tuple_of sv_tuple (by rfl) S.n_tuple (by decide +kernel) (ta_cons (fz (t_compN (own := [("one", 1)]) wopen0 (pv 0) rfl nd (blkOk_by (own := [("one", 1)]) (by kernel_rfl)) (by decide) (nm_sem 1) (fun _ _ _ _ _ => pg_name (i := 1) nd rfl (by first | exact Or.inl rfl | exact Or.inr rfl)) (fun _ _ _ _ _ => tts_nil) (fun _ _ _ _ _ => (TPR.toE (t_callP I.c_copied hr hx0 (by rfl) (ta_cons (t_var (pv 1)) ta_nil) (alen_cons alen_nil)))))) ta_nil)))) ts_nil) (ts_cons (ts_if (tt_val (t_bi call_isi sv_isi (by rfl) S.n_isinstance (by decide +kernel) (ta_cons (t_var (pv 0)) (ta_cons (t_tyv (by rfl) S.n_list (by decide +kernel)) ta_nil)))) (ts_one (ts_ret (t_share (t_compN (own := [("one", 1)]) wopen0 (pv 0) rfl nd (blkOk_by (own := [("one", 1)]) (by kernel_rfl)) (by decide) (nm_sem 1) (fun _ _ _ _ _ => pg_name (i := 1) nd rfl (by first | exact Or.inl rfl | exact Or.inr rfl)) (fun _ _ _ _ _ => tts_nil) (fun _ _ _ _ _ => (TPR.toE (t_callP I.c_copied hr hx0 (by rfl) (ta_cons (t_var (pv 1)) ta_nil) (alen_cons alen_nil)))))))) ts_nil) (ts_cons (ts_if (tt_val (t_bi call_isi sv_isi (by rfl) S.n_isinstance (by decide +kernel) (ta_cons (t_var (pv 0)) (ta_cons (t_tyv (by rfl) S.n_dict (by decide +kernel)) ta_nil)))) (ts_one (ts_ret (t_share (t_dcompN (own := [("name", 2)]) wopen0 (pv 0) rfl nd (blkOk_by (own := [("name", 2)]) (by kernel_rfl)) (by decide) (nm_sem 2) (fun _ _ _ _ _ => pg_name (i := 2) nd rfl (by first | exact Or.inl rfl | exact Or.inr rfl)) (fun _ _ _ _ _ => tts_nil) (fun _ _ _ _ _ => (t_var (pv 2))) (fun _ _ _ _ _ => (TPR.toE (t_callP I.c_copied hr hx0 (by rfl) (ta_cons (t_ix (ru hr) (t_var (pv 0)) (t_var (pv 2))) ta_nil) (alen_cons alen_nil)))))))) ts_nil) (ts_one (ts_ret (t_var (pv 0)))))))
theorem sc_rank : FnScope ["value", "one", "name"] ["value"] (defScope s_rank) := ⟨rfl, rfl, rfl, by decide +kernel, rfl, by decide +kernel, by decide +kernel⟩
theorem o_rank {P : Program} {w : World} {K : PySem.W.Frag} {mg : Str → Option Value} {base : Heap} {n : Nat} (S : St K mg) (I : Is P w K mg base n) {f : Addr} {fd : FuncData} (Fd : FunD K "rank" "rank" (defArgs s_rank) (defBody s_rank) (defScope s_rank) [] [] f fd) : FnOk P w K mg base CX0 (2 * n + 2) f fd ["value"] (spT K false 1 (F (n + 1)).rank) := by
  refine fn_tl1 Fd sc_rank fun cdv A outer s H E hr hr1 => ?_
  have nd := sc_rank.nd
  exact (ts_cons (ts_if (tt_cmp op_isN sv_isN (t_var (pv 0)) t_non (nomark _)) (ts_one (ts_ret (t_tup (ta_cons t_int (ta_cons t_int ta_nil))))) ts_nil) (ts_cons (ts_if (tt_val (t_bi call_isi sv_isi (by rfl) S.n_isinstance (by decide +kernel) (ta_cons (t_var (pv 0)) (ta_cons (t_tyv (by rfl) S.n_int (by decide +kernel)) ta_nil)))) (ts_one (ts_ret (t_tup (ta_cons t_int (ta_cons (t_var (pv 0)) ta_nil))))) ts_nil) (ts_cons (ts_if (tt_val (t_bi call_isi sv_isi (by rfl) S.n_isinstance (by decide +kernel) (ta_cons (t_var (pv 0)) (ta_cons (t_tyv (by rfl) S.n_str (by decide +kernel)) ta_nil)))) (ts_one (ts_ret (t_tup (ta_cons t_int (ta_cons (t_var (pv 0)) ta_nil))))) ts_nil) (ts_cons (ts_if (tt_val (t_bi call_isi sv_isi (by rfl) S.n_isinstance (by decide +kernel) (ta_cons (t_var (pv 0)) (ta_cons (t_tyv (by rfl) S.n_list (by decide +kernel)) ta_nil)))) (ts_one (ts_ret (t_tup (ta_cons t_int (ta_cons (t_ty call_tuple_of sv_tuple (by rfl) S.n_tuple (by decide +kernel) (ta_cons (fz (t_compC (own := [("one", 1)]) wopen0 (pv 0) rfl nd (blkOk_by (own := [("one", 1)]) (by kernel_rfl)) (by decide) (nm_sem 1) (fun _ _ _ _ _ => pg_name (i := 1) nd rfl (by first | exact Or.inl rfl | exact Or.inr rfl)) (fun _ _ _ _ _ => tts_nil) (fun _ _ _ _ _ => (TPR.toE (t_callP I.c_rank hr hx0 (by rfl) (ta_cons (t_var (pv 1)) ta_nil) (alen_cons alen_nil)))))) ta_nil)) ta_nil))))) ts_nil) (ts_one (ts_ret (t_tup (ta_cons t_int (ta_cons (t_ty call_tuple_of sv_tuple (by rfl) S.n_tuple (by decide +kernel) (ta_cons (fz (t_comp (own := [("name", 2)]) rfl nd (ti_val (fz (t_biO (call_sortO rfl (ru hr)) sv_sortC (by rfl) S.n_sorted (by decide +kernel) (ta_cons (t_var (pv 0)) ta_nil)))) (blkOk_by (own := [("name", 2)]) (by kernel_rfl)) (by decide) (nm_sem 2) (fun _ _ _ _ _ => pg_name (i := 2) nd rfl (by first | exact Or.inl rfl | exact Or.inr rfl)) (fun _ _ _ _ _ => tts_nil) (fun _ _ _ _ _ => (t_tup (ta_cons (t_var (pv 2)) (ta_cons (TPR.toE (t_callP I.c_rank hr hx0 (by rfl) (ta_cons (t_ix (ru hr) (t_var (pv 0)) (t_var (pv 2))) ta_nil) (alen_cons alen_nil))) ta_nil)))))) ta_nil)) ta_nil)))))))))
theorem sc_order : FnScope ["one", "other", "low", "high"] ["one", "other"] (defScope s_order) := ⟨rfl, rfl, rfl, by decide +kernel, rfl, by decide +kernel, by decide +kernel⟩
theorem o_order {P : Program} {w : World} {K : PySem.W.Frag} {mg : Str → Option Value} {base : Heap} {n : Nat} (S : St K mg) (I : Is P w K mg base n) {f : Addr} {fd : FuncData} (Fd : FunD K "order" "order" (defArgs s_order) (defBody s_order) (defScope s_order) [] [] f fd) : FnOk P w K mg base CX0 (2 * n + 2) f fd ["one", "other"] (spT K false 2 (F (n + 1)).order) := by
  refine fn_tl1 Fd sc_order fun cdv A outer s H E hr hr1 => ?_
  have nd := sc_order.nd
  exact (ts_cons (ts_par (i := 2) (j := 3) rfl nd (ta_cons (TPR.toE (t_callP I.c_rank hr hx0 (by rfl) (ta_cons (t_var (pv 0)) ta_nil) (alen_cons alen_nil))) (ta_cons (TPR.toE (t_callP I.c_rank hr hx0 (by rfl) (ta_cons (t_var (pv 1)) ta_nil) (alen_cons alen_nil))) ta_nil))) (ts_one (ts_ret (t_op op_sub sv_sub (t_ty call_int1 sv_int (by rfl) S.n_int (by decide +kernel) (ta_cons (t_cmp (orp_gt (ru hr)) sv_gt (t_var (pv 2)) (t_var (pv 3)) (nomark _)) ta_nil)) (t_ty call_int1 sv_int (by rfl) S.n_int (by decide +kernel) (ta_cons (t_cmp (orp_lt (ru hr)) sv_lt (t_var (pv 2)) (t_var (pv 3)) (nomark _)) ta_nil))))))
theorem sc_least : FnScope ["values"] ["values"] (defScope s_least) := ⟨rfl, rfl, rfl, by decide +kernel, rfl, by decide +kernel, by decide +kernel⟩
theorem o_least {P : Program} {w : World} {K : PySem.W.Frag} {mg : Str → Option Value} {base : Heap} {n : Nat} (S : St K mg) (I : Is P w K mg base n) {f : Addr} {fd : FuncData} (Fd : FunD K "least" "least" (defArgs s_least) (defBody s_least) (defScope s_least) [] [] f fd) : FnOk P w K mg base CX0 (2 * n + 2) f fd ["values"] (spT K false 1 (F (n + 1)).least) := by
  refine fn_tl1 Fd sc_least fun cdv A outer s H E hr hr1 => ?_
  have nd := sc_least.nd
  exact (ts_one (ts_ret (TPR.toE (t_callP I.c_copied hr hx0 (by rfl) (ta_cons (t_minKey false I.c_rank hr1 (ru hr) hcx0 rfl (by rfl) (by rfl) S.n_min (by decide +kernel) (t_var (pv 0))) ta_nil) (alen_cons alen_nil)))))
theorem sc_greatest : FnScope ["values"] ["values"] (defScope s_greatest) := ⟨rfl, rfl, rfl, by decide +kernel, rfl, by decide +kernel, by decide +kernel⟩
theorem o_greatest {P : Program} {w : World} {K : PySem.W.Frag} {mg : Str → Option Value} {base : Heap} {n : Nat} (S : St K mg) (I : Is P w K mg base n) {f : Addr} {fd : FuncData} (Fd : FunD K "greatest" "greatest" (defArgs s_greatest) (defBody s_greatest) (defScope s_greatest) [] [] f fd) : FnOk P w K mg base CX0 (2 * n + 2) f fd ["values"] (spT K false 1 (F (n + 1)).greatest) := by
  refine fn_tl1 Fd sc_greatest fun cdv A outer s H E hr hr1 => ?_
  have nd := sc_greatest.nd
  exact (ts_one (ts_ret (TPR.toE (t_callP I.c_copied hr hx0 (by rfl) (ta_cons (t_minKey true I.c_rank hr1 (ru hr) hcx0 rfl (by rfl) (by rfl) S.n_max (by decide +kernel) (t_var (pv 0))) ta_nil) (alen_cons alen_nil)))))
theorem sc__law_open : FnScope ["_law_script"] ["_law_script"] (defScope s__law_open) := ⟨rfl, rfl, rfl, by decide +kernel, rfl, by decide +kernel, by decide +kernel⟩
theorem o__law_open {P : Program} {w : World} {K : PySem.W.Frag} {mg : Str → Option Value} {base : Heap} {n : Nat} (S : St K mg) (I : Is P w K mg base n) {f : Addr} {fd : FuncData} (Fd : FunD K "_law_open" "_law_open" (defArgs s__law_open) (defBody s__law_open) (defScope s__law_open) [] [] f fd) : FnOk P w K mg base CX0 (2 * n + 2) f fd ["_law_script"] (spT K true 1 (F (n + 1))._law_open) := by
  refine fn_tl1 Fd sc__law_open fun cdv A outer s H E hr hr1 => ?_
  have nd := sc__law_open.nd
  exact (ts_one (ts_retO (t_lst (ta_cons (fz (t_tyO call_list_of sv_listO (by rfl) S.n_list (by decide +kernel) (ta_cons (t_sl (t_var (pv 0)) tpo_none (tpo_some t_int)) ta_nil))) (ta_cons t_int (ta_cons t_int (ta_cons t_int ta_nil)))))))
theorem sc__law_pull : FnScope ["_law_draw", "_law_top", "_law_cell", "_law_got"] ["_law_draw", "_law_top"] (defScope s__law_pull) := ⟨rfl, rfl, rfl, by decide +kernel, rfl, by decide +kernel, by decide +kernel⟩
theorem o__law_pull {P : Program} {w : World} {K : PySem.W.Frag} {mg : Str → Option Value} {base : Heap} {n : Nat} (S : St K mg) (I : Is P w K mg base n) {f : Addr} {fd : FuncData} (Fd : FunD K "_law_pull" "_law_pull" (defArgs s__law_pull) (defBody s__law_pull) (defScope s__law_pull) [] [] f fd) : FnOk P w K mg base CX0 (2 * n + 2) f fd ["_law_draw", "_law_top"] (spT K false 2 (F (n + 1))._law_pull) := by
  refine fn_tl1 Fd sc__law_pull fun cdv A outer s H E hr hr1 => ?_
  have nd := sc__law_pull.nd
  exact (ts_cons (ts_if (tt_w (tw_and (tt_cmp (orp_lt (ru hr)) sv_lt (t_ix (ru hr) (t_var (pv 0)) t_int) (t_var (pv 1)) (nomark _)) (tw_and1 (tt_cmp (orp_lt (ru hr)) sv_lt (t_ix (ru hr) (t_var (pv 0)) t_int) (t_bi call_lenA sv_len (by rfl) S.n_len (by decide +kernel) (ta_cons (t_ix (ru hr) (t_var (pv 0)) t_int) ta_nil)) (nomark _))))) (ts_cons (ts_asg (ps_set (i := 2) nd rfl (by first | exact Or.inl rfl | exact Or.inr rfl) (t_ix (ru hr) (t_ix (ru hr) (t_var (pv 0)) t_int) (t_ix (ru hr) (t_var (pv 0)) t_int)))) (ts_cons (ts_put (ru hr) (pv 0) t_int (t_op orp_add sv_add (t_ix (ru hr) (t_var (pv 0)) t_int) t_int)) (ts_cons (ts_put (ru hr) (pv 0) t_int t_int) (ts_one (ts_if (tt_cmp orp_ge sv_cmp (t_var (pv 2)) (t_op op_pow sv_pow t_int t_int) (nomark _)) (ts_one (ts_put (ru hr) (pv 0) t_int (t_var (pv 2)))) (ts_one (ts_put (ru hr) (pv 0) t_int (t_op op_modN sv_mod (t_op orp_add sv_add (t_op orp_add sv_add (t_op orp_mul sv_mul (t_ix (ru hr) (t_var (pv 0)) t_int) t_int) (t_op orp_mul sv_mul (t_op op_modN sv_mod (t_var (pv 2)) t_int) t_int)) t_int) t_int)))))))) ts_nil) (ts_cons (ts_if (tt_cmp orp_ge sv_cmp (t_ix (ru hr) (t_var (pv 0)) t_int) (t_var (pv 1)) (nomark _)) (ts_cons (ts_asg (ps_set (i := 3) nd rfl (by first | exact Or.inl rfl | exact Or.inr rfl) (t_op op_modN sv_mod (t_ix (ru hr) (t_var (pv 0)) t_int) (t_var (pv 1))))) (ts_cons (ts_put (ru hr) (pv 0) t_int (t_op op_fdivN sv_fdiv (t_ix (ru hr) (t_var (pv 0)) t_int) (t_var (pv 1)))) (ts_one (ts_ret (t_var (pv 3)))))) ts_nil) (ts_cons (ts_put (ru hr) (pv 0) t_int (t_op op_modN sv_mod (t_op orp_add sv_add (t_op orp_add sv_add (t_op op_pow sv_pow (t_ix (ru hr) (t_var (pv 0)) t_int) t_int) (t_op orp_mul sv_mul (t_ix (ru hr) (t_var (pv 0)) t_int) t_int)) t_int) t_int)) (ts_one (ts_ret (t_op op_modN sv_mod (t_op orp_add sv_add (t_op op_fdivN sv_fdiv (t_ix (ru hr) (t_var (pv 0)) t_int) t_int) (t_op orp_mul sv_mul (t_op op_modN sv_mod (t_ix (ru hr) (t_var (pv 0)) t_int) t_int) t_int)) (t_var (pv 1))))))))
theorem sc__law_any : FnScope ["_law_draw", "_law_some"] ["_law_draw", "_law_some"] (defScope s__law_any) := ⟨rfl, rfl, rfl, by decide +kernel, rfl, by decide +kernel, by decide +kernel⟩
theorem o__law_any {P : Program} {w : World} {K : PySem.W.Frag} {mg : Str → Option Value} {base : Heap} {n : Nat} (S : St K mg) (I : Is P w K mg base n) {f : Addr} {fd : FuncData} (Fd : FunD K "_law_any" "_law_any" (defArgs s__law_any) (defBody s__law_any) (defScope s__law_any) [] [] f fd) : FnOk P w K mg base CX0 (2 * n + 2) f fd ["_law_draw", "_law_some"] (spT K false 2 (F (n + 1))._law_any) := by
  refine fn_tl1 Fd sc__law_any fun cdv A outer s H E hr hr1 => ?_
  have nd := sc__law_any.nd
  exact (ts_one (ts_ret (t_ix (ru hr) (t_var (pv 1)) (TPR.toE (t_callP I.c__law_pull hr hx0 (by rfl) (ta_cons (t_var (pv 0)) (ta_cons (t_bi call_lenA sv_len (by rfl) S.n_len (by decide +kernel) (ta_cons (t_var (pv 1)) ta_nil)) ta_nil)) (alen_cons (alen_cons alen_nil)))))))
theorem sc__law_num : FnScope ["_law_found"] ["_law_found"] (defScope s__law_num) := ⟨rfl, rfl, rfl, by decide +kernel, rfl, by decide +kernel, by decide +kernel⟩
theorem o__law_num {P : Program} {w : World} {K : PySem.W.Frag} {mg : Str → Option Value} {base : Heap} {n : Nat} (S : St K mg) (I : Is P w K mg base n) {f : Addr} {fd : FuncData} (Fd : FunD K "_law_num" "_law_num" (defArgs s__law_num) (defBody s__law_num) (defScope s__law_num) [] [] f fd) : FnOk P w K mg base CX0 (2 * n + 2) f fd ["_law_found"] (spT K false 1 (F (n + 1))._law_num) := by
  refine fn_tl1 Fd sc__law_num fun cdv A outer s H E hr hr1 => ?_
  have nd := sc__law_num.nd
  exact (ts_one (ts_ret (t_and (t_bi call_isi sv_isi (by rfl) S.n_isinstance (by decide +kernel) (ta_cons (t_var (pv 0)) (ta_cons (t_tyv (by rfl) S.n_int (by decide +kernel)) ta_nil))) (t_one (t_not (t_bi call_isi sv_isi (by rfl) S.n_isinstance (by decide +kernel) (ta_cons (t_var (pv 0)) (ta_cons (t_tyv (by rfl) S.n_bool (by decide +kernel)) ta_nil))))))))
theorem sc__law_like : FnScope ["_law_found", "_law_due", "_law_name_here", "_law_k"] ["_law_found", "_law_due"] (defScope s__law_like) := ⟨rfl, rfl, rfl, by decide +kernel, rfl, by decide +kernel, by decide +kernel⟩
theorem o__law_like {P : Program} {w : World} {K : PySem.W.Frag} {mg : Str → Option Value} {base : Heap} {n : Nat} (S : St K mg) (I : Is P w K mg base n) {f : Addr} {fd : FuncData} (Fd : FunD K "_law_like" "_law_like" (defArgs s__law_like) (defBody s__law_like) (defScope s__law_like) [] [] f fd) : FnOk P w K mg base CX0 (2 * n + 2) f fd ["_law_found", "_law_due"] (spT K false 2 (F (n + 1))._law_like) := by
  refine fn_tl1 Fd sc__law_like fun cdv A outer s H E hr hr1 => ?_
  have nd := sc__law_like.nd
  exact (ts_cons (ts_if (tt_cmp op_isN sv_isN (t_var (pv 1)) t_non (nomark _)) (ts_one (ts_ret (t_cmp op_isN sv_isN (t_var (pv 0)) t_non (nomark _)))) ts_nil) (ts_cons (ts_if (tt_val (t_bi call_isi sv_isi (by rfl) S.n_isinstance (by decide +kernel) (ta_cons (t_var (pv 1)) (ta_cons (t_tyv (by rfl) S.n_bool (by decide +kernel)) ta_nil)))) (ts_one (ts_ret (t_and (t_bi call_isi sv_isi (by rfl) S.n_isinstance (by decide +kernel) (ta_cons (t_var (pv 0)) (ta_cons (t_tyv (by rfl) S.n_bool (by decide +kernel)) ta_nil))) (t_one (t_cmp (orp_eq (ru hr)) sv_eqv (t_var (pv 0)) (t_var (pv 1)) (nomark _)))))) ts_nil) (ts_cons (ts_if (tt_val (t_bi call_isi sv_isi (by rfl) S.n_isinstance (by decide +kernel) (ta_cons (t_var (pv 1)) (ta_cons (t_tyv (by rfl) S.n_int (by decide +kernel)) ta_nil)))) (ts_one (ts_ret (t_and (TPR.toE (t_callP I.c__law_num hr hx0 (by rfl) (ta_cons (t_var (pv 0)) ta_nil) (alen_cons alen_nil))) (t_one (t_cmp (orp_eq (ru hr)) sv_eqv (t_var (pv 0)) (t_var (pv 1)) (nomark _)))))) ts_nil) (ts_cons (ts_if (tt_val (t_bi call_isi sv_isi (by rfl) S.n_isinstance (by decide +kernel) (ta_cons (t_var (pv 1)) (ta_cons (t_tyv (by rfl) S.n_str (by decide +kernel)) ta_nil)))) (ts_one (ts_ret (t_and (t_bi call_isi sv_isi (by rfl) S.n_isinstance (by decide +kernel) (ta_cons (t_var (pv 0)) (ta_cons (t_tyv (by rfl) S.n_str (by decide +kernel)) ta_nil))) (t_one (t_cmp (orp_eq (ru hr)) sv_eqv (t_var (pv 0)) (t_var (pv 1)) (nomark _)))))) ts_nil) (ts_cons (ts_if (tt_val (t_bi call_isi sv_isi (by rfl) S.n_isinstance (by decide +kernel) (ta_cons (t_var (pv 1)) (ta_cons (t_tyv (by rfl) S.n_dict (by decide +kernel)) ta_nil)))) (ts_cons (ts_if (tt_w (tw_or (tt_not (tt_val (t_bi call_isi sv_isi (by rfl) S.n_isinstance (by decide +kernel) (ta_cons (t_var (pv 0)) (ta_cons (t_tyv (by rfl) S.n_dict (by decide +kernel)) ta_nil))))) (tw_or1 (tt_cmp (orp_ne (ru hr)) sv_eqv (fz (t_biO (call_sortO rfl (ru hr)) sv_sortO (by rfl) S.n_sorted (by decide +kernel) (ta_cons (t_var (pv 0)) ta_nil))) (fz (t_biO (call_sortO rfl (ru hr)) sv_sortO (by rfl) S.n_sorted (by decide +kernel) (ta_cons (t_var (pv 1)) ta_nil))) (nomark _))))) (ts_one (ts_ret t_bl)) ts_nil) (ts_one (ts_ret (t_bi (cr_all rfl) sv_all (by rfl) S.n_all (by decide +kernel) (ta_cons (fz (t_compN (own := [("_law_name_here", 2)]) wopen0 (pv 1) rfl nd (blkOk_by (own := [("_law_name_here", 2)]) (by kernel_rfl)) (by decide) (nm_sem 2) (fun _ _ _ _ _ => pg_name (i := 2) nd rfl (by first | exact Or.inl rfl | exact Or.inr rfl)) (fun _ _ _ _ _ => tts_nil) (fun _ _ _ _ _ => (TPR.toE (t_callP I.c__law_like hr hx0 (by rfl) (ta_cons (t_ix (ru hr) (t_var (pv 0)) (t_var (pv 2))) (ta_cons (t_ix (ru hr) (t_var (pv 1)) (t_var (pv 2))) ta_nil)) (alen_cons (alen_cons alen_nil))))))) ta_nil))))) ts_nil) (ts_cons (ts_if (tt_w (tw_or (tt_cmp (orp_ne (ru hr)) sv_eqv (t_bi call_isi sv_isi (by rfl) S.n_isinstance (by decide +kernel) (ta_cons (t_var (pv 1)) (ta_cons (t_tyv (by rfl) S.n_tuple (by decide +kernel)) ta_nil))) (t_bi call_isi sv_isi (by rfl) S.n_isinstance (by decide +kernel) (ta_cons (t_var (pv 0)) (ta_cons (t_tyv (by rfl) S.n_tuple (by decide +kernel)) ta_nil))) (nomark _)) (tw_or1 (tt_cmp (orp_ne (ru hr)) sv_eqv (t_bi call_isi sv_isi (by rfl) S.n_isinstance (by decide +kernel) (ta_cons (t_var (pv 1)) (ta_cons (t_tyv (by rfl) S.n_list (by decide +kernel)) ta_nil))) (t_bi call_isi sv_isi (by rfl) S.n_isinstance (by decide +kernel) (ta_cons (t_var (pv 0)) (ta_cons (t_tyv (by rfl) S.n_list (by decide +kernel)) ta_nil))) (nomark _))))) (ts_one (ts_ret t_bl)) ts_nil) (ts_one (ts_ret (t_and (t_cmp (orp_eq (ru hr)) sv_eqv (t_bi call_lenA sv_len (by rfl) S.n_len (by decide +kernel) (ta_cons (t_var (pv 0)) ta_nil)) (t_bi call_lenA sv_len (by rfl) S.n_len (by decide +kernel) (ta_cons (t_var (pv 1)) ta_nil)) (nomark _)) (t_one (t_bi (cr_all rfl) sv_all (by rfl) S.n_all (by decide +kernel) (ta_cons (fz (t_comp (own := [("_law_k", 3)]) rfl nd (ti_range1 (by rfl) S.n_range (ta_cons (t_bi call_lenA sv_len (by rfl) S.n_len (by decide +kernel) (ta_cons (t_var (pv 1)) ta_nil)) ta_nil)) (blkOk_by (own := [("_law_k", 3)]) (by kernel_rfl)) (by decide) (nm_sem 3) (fun _ _ _ _ _ => pg_name (i := 3) nd rfl (by first | exact Or.inl rfl | exact Or.inr rfl)) (fun _ _ _ _ _ => tts_nil) (fun _ _ _ _ _ => (TPR.toE (t_callP I.c__law_like hr hx0 (by rfl) (ta_cons (t_ix (ru hr) (t_var (pv 0)) (t_var (pv 3))) (ta_cons (t_ix (ru hr) (t_var (pv 1)) (t_var (pv 3))) ta_nil)) (alen_cons (alen_cons alen_nil))))))) ta_nil))))))))))))
theorem sc__law_copy : FnScope ["_law_value_here", "_law_one", "_law_name_here"] ["_law_value_here"] (defScope s__law_copy) := ⟨rfl, rfl, rfl, by decide +kernel, rfl, by decide +kernel, by decide +kernel⟩
theorem o__law_copy {P : Program} {w : World} {K : PySem.W.Frag} {mg : Str → Option Value} {base : Heap} {n : Nat} (S : St K mg) (I : Is P w K mg base n) {f : Addr} {fd : FuncData} (Fd : FunD K "_law_copy" "_law_copy" (defArgs s__law_copy) (defBody s__law_copy) (defScope s__law_copy) [] [] f fd) : FnOk P w K mg base CX0 (2 * n + 2) f fd ["_law_value_here"] (spT K false 1 (F (n + 1))._law_copy) := by
  refine fn_tl1 Fd sc__law_copy fun cdv A outer s H E hr hr1 => ?_
  have nd := sc__law_copy.nd
  exact (ts_cons (ts_if (tt_val (t_bi call_isi sv_isi (by rfl) S.n_isinstance (by decide +kernel) (ta_cons (t_var (pv 0)) (ta_cons (t_tyv (by rfl) S.n_list (by decide +kernel)) ta_nil)))) (ts_one (ts_ret (fz (t_compN (own := [("_law_one", 1)]) wopen0 (pv 0) rfl nd (blkOk_by (own := [("_law_one", 1)]) (by kernel_rfl)) (by decide) (nm_sem 1) (fun _ _ _ _ _ => pg_name (i := 1) nd rfl (by first | exact Or.inl rfl | exact Or.inr rfl)) (fun _ _ _ _ _ => tts_nil) (fun _ _ _ _ _ => (TPR.toE (t_callP I.c__law_copy hr hx0 (by rfl) (ta_cons (t_var (pv 1)) ta_nil) (alen_cons alen_nil)))))))) ts_nil) (ts_cons (ts_if (tt_val (t_bi call_isi sv_isi (by rfl) S.n_isinstance (by decide +kernel) (ta_cons (t_var (pv 0)) (ta_cons (t_tyv (by rfl) S.n_tuple (by decide +kernel)) ta_nil)))) (ts_one (ts_ret (t_ty call_tuple_of sv_tuple (by rfl) S.n_tuple (by decide +kernel) (ta_cons (fz (t_compN (own := [("_law_one", 1)]) wopen0 (pv 0) rfl nd (blkOk_by (own := [("_law_one", 1)]) (by kernel_rfl)) (by decide) (nm_sem 1) (fun _ _ _ _ _ => pg_name (i := 1) nd rfl (by first | exact Or.inl rfl | exact Or.inr rfl)) (fun _ _ _ _ _ => tts_nil) (fun _ _ _ _ _ => (TPR.toE (t_callP I.c__law_copy hr hx0 (by rfl) (ta_cons (t_var (pv 1)) ta_nil) (alen_cons alen_nil)))))) ta_nil)))) ts_nil) (ts_cons (ts_if (tt_val (t_bi call_isi sv_isi (by rfl) S.n_isinstance (by decide +kernel) (ta_cons (t_var (pv 0)) (ta_cons (t_tyv (by rfl) S.n_dict (by decide +kernel)) ta_nil)))) (ts_one (ts_ret (fz (t_tyO (call_dictA rfl) sv_dictO (by rfl) S.n_dict (by decide +kernel) (ta_cons (fz (t_compN (own := [("_law_name_here", 2)]) wopen0 (pv 0) rfl nd (blkOk_by (own := [("_law_name_here", 2)]) (by kernel_rfl)) (by decide) (nm_sem 2) (fun _ _ _ _ _ => pg_name (i := 2) nd rfl (by first | exact Or.inl rfl | exact Or.inr rfl)) (fun _ _ _ _ _ => tts_nil) (fun _ _ _ _ _ => (t_tup (ta_cons (t_var (pv 2)) (ta_cons (TPR.toE (t_callP I.c__law_copy hr hx0 (by rfl) (ta_cons (t_ix (ru hr) (t_var (pv 0)) (t_var (pv 2))) ta_nil) (alen_cons alen_nil))) ta_nil)))))) ta_nil))))) ts_nil) (ts_one (ts_ret (t_var (pv 0)))))))
theorem sc__law_rank : FnScope ["_law_value_here", "_law_one", "_law_name_here"] ["_law_value_here"] (defScope s__law_rank) := ⟨rfl, rfl, rfl, by decide +kernel, rfl, by decide +kernel, by decide +kernel⟩
theorem o__law_rank {P : Program} {w : World} {K : PySem.W.Frag} {mg : Str → Option Value} {base : Heap} {n : Nat} (S : St K mg) (I : Is P w K mg base n) {f : Addr} {fd : FuncData} (Fd : FunD K "_law_rank" "_law_rank" (defArgs s__law_rank) (defBody s__law_rank) (defScope s__law_rank) [] [] f fd) : FnOk P w K mg base CX0 (2 * n + 2) f fd ["_law_value_here"] (spT K false 1 (F (n + 1))._law_rank) := by
  refine fn_tl1 Fd sc__law_rank fun cdv A outer s H E hr hr1 => ?_
  have nd := sc__law_rank.nd
  exact (ts_cons (ts_if (tt_cmp op_isN sv_isN (t_var (pv 0)) t_non (nomark _)) (ts_one (ts_ret (t_tup (ta_cons t_int (ta_cons t_int ta_nil))))) ts_nil) (ts_cons (ts_if (tt_val (t_bi call_isi sv_isi (by rfl) S.n_isinstance (by decide +kernel) (ta_cons (t_var (pv 0)) (ta_cons (t_tyv (by rfl) S.n_int (by decide +kernel)) ta_nil)))) (ts_one (ts_ret (t_tup (ta_cons t_int (ta_cons (t_var (pv 0)) ta_nil))))) ts_nil) (ts_cons (ts_if (tt_val (t_bi call_isi sv_isi (by rfl) S.n_isinstance (by decide +kernel) (ta_cons (t_var (pv 0)) (ta_cons (t_tyv (by rfl) S.n_str (by decide +kernel)) ta_nil)))) (ts_one (ts_ret (t_tup (ta_cons t_int (ta_cons (t_var (pv 0)) ta_nil))))) ts_nil) (ts_cons (ts_if (tt_val (t_isT (t_var (pv 0)) (pa_tys_cons (by rfl) S.n_list (by decide +kernel) (pa_tys_cons (by rfl) S.n_tuple (by decide +kernel) pa_tys_nil)) (by decide) (by decide) (by rfl) S.n_isinstance (by decide +kernel))) (ts_one (ts_ret (t_tup (ta_cons t_int (ta_cons (t_ty call_tuple_of sv_tuple (by rfl) S.n_tuple (by decide +kernel) (ta_cons (fz (t_compC (own := [("_law_one", 1)]) wopen0 (pv 0) rfl nd (blkOk_by (own := [("_law_one", 1)]) (by kernel_rfl)) (by decide) (nm_sem 1) (fun _ _ _ _ _ => pg_name (i := 1) nd rfl (by first | exact Or.inl rfl | exact Or.inr rfl)) (fun _ _ _ _ _ => tts_nil) (fun _ _ _ _ _ => (TPR.toE (t_callP I.c__law_rank hr hx0 (by rfl) (ta_cons (t_var (pv 1)) ta_nil) (alen_cons alen_nil)))))) ta_nil)) ta_nil))))) ts_nil) (ts_one (ts_ret (t_tup (ta_cons t_int (ta_cons (t_ty call_tuple_of sv_tuple (by rfl) S.n_tuple (by decide +kernel) (ta_cons (fz (t_comp (own := [("_law_name_here", 2)]) rfl nd (ti_val (fz (t_biO (call_sortO rfl (ru hr)) sv_sortC (by rfl) S.n_sorted (by decide +kernel) (ta_cons (t_var (pv 0)) ta_nil)))) (blkOk_by (own := [("_law_name_here", 2)]) (by kernel_rfl)) (by decide) (nm_sem 2) (fun _ _ _ _ _ => pg_name (i := 2) nd rfl (by first | exact Or.inl rfl | exact Or.inr rfl)) (fun _ _ _ _ _ => tts_nil) (fun _ _ _ _ _ => (t_tup (ta_cons (t_var (pv 2)) (ta_cons (TPR.toE (t_callP I.c__law_rank hr hx0 (by rfl) (ta_cons (t_ix (ru hr) (t_var (pv 0)) (t_var (pv 2))) ta_nil) (alen_cons alen_nil))) ta_nil)))))) ta_nil)) ta_nil)))))))))
theorem sc__law_name : FnScope ["_law_draw"] ["_law_draw"] (defScope s__law_name) := ⟨rfl, rfl, rfl, by decide +kernel, rfl, by decide +kernel, by decide +kernel⟩
theorem o__law_name {P : Program} {w : World} {K : PySem.W.Frag} {mg : Str → Option Value} {base : Heap} {n : Nat} (S : St K mg) (I : Is P w K mg base n) {f : Addr} {fd : FuncData} (Fd : FunD K "_law_name" "_law_name" (defArgs s__law_name) (defBody s__law_name) (defScope s__law_name) [] [] f fd) : FnOk P w K mg base CX0 (2 * n + 2) f fd ["_law_draw"] (spT K false 1 (F (n + 1))._law_name) := by
  refine fn_tl1 Fd sc__law_name fun cdv A outer s H E hr hr1 => ?_
  have nd := sc__law_name.nd
  exact (ts_cons (ts_if (tt_cmp (orp_eq (ru hr)) sv_eqv (TPR.toE (t_callP I.c__law_pull hr hx0 (by rfl) (ta_cons (t_var (pv 0)) (ta_cons t_int ta_nil)) (alen_cons (alen_cons alen_nil)))) t_int (nomark _)) (ts_one (ts_ret (t_op orp_mul sv_mul (t_ix (ru hr) t_str (TPR.toE (t_callP I.c__law_pull hr hx0 (by rfl) (ta_cons (t_var (pv 0)) (ta_cons t_int ta_nil)) (alen_cons (alen_cons alen_nil))))) (t_op orp_add sv_add t_int (TPR.toE (t_callP I.c__law_pull hr hx0 (by rfl) (ta_cons (t_var (pv 0)) (ta_cons t_int ta_nil)) (alen_cons (alen_cons alen_nil)))))))) ts_nil) (ts_one (ts_ret (t_ix (ru hr) (fz (t_lst (ta_cons t_str (ta_cons t_str (ta_cons t_str (ta_cons t_str (ta_cons t_str (ta_cons t_str ta_nil)))))))) (TPR.toE (t_callP I.c__law_pull hr hx0 (by rfl) (ta_cons (t_var (pv 0)) (ta_cons t_int ta_nil)) (alen_cons (alen_cons alen_nil))))))))
theorem sc__law_plain : FnScope ["_law_draw", "_law_fork", "_law_some", "_law_stem"] ["_law_draw"] (defScope s__law_plain) := ⟨rfl, rfl, rfl, by decide +kernel, rfl, by decide +kernel, by decide +kernel⟩
theorem o__law_plain {P : Program} {w : World} {K : PySem.W.Frag} {mg : Str → Option Value} {base : Heap} {n : Nat} (S : St K mg) (I : Is P w K mg base n) {f : Addr} {fd : FuncData} (Fd : FunD K "_law_plain" "_law_plain" (defArgs s__law_plain) (defBody s__law_plain) (defScope s__law_plain) [] [] f fd) : FnOk P w K mg base CX0 (2 * n + 2) f fd ["_law_draw"] (spT K false 1 (F (n + 1))._law_plain) := by
  refine fn_tl1 Fd sc__law_plain fun cdv A outer s H E hr hr1 => ?_
  have nd := sc__law_plain.nd
  exact (ts_cons (ts_asg (ps_set (i := 1) nd rfl (by first | exact Or.inl rfl | exact Or.inr rfl) (TPR.toE (t_callP I.c__law_pull hr hx0 (by rfl) (ta_cons (t_var (pv 0)) (ta_cons t_int ta_nil)) (alen_cons (alen_cons alen_nil)))))) (ts_cons (ts_if (tt_cmp (orp_lt (ru hr)) sv_lt (t_var (pv 1)) t_int (nomark _)) (ts_one (ts_ret (t_if (tt_cmp (orp_eq (ru hr)) sv_eqv (t_var (pv 1)) t_int (nomark _)) t_non (t_op op_sub sv_sub (TPR.toE (t_callP I.c__law_pull hr hx0 (by rfl) (ta_cons (t_var (pv 0)) (ta_cons t_int ta_nil)) (alen_cons (alen_cons alen_nil)))) t_int)))) ts_nil) (ts_cons (ts_asg (ps_set (i := 2) nd rfl (by first | exact Or.inl rfl | exact Or.inr rfl) (fz (t_lst (ta_cons t_str (ta_cons t_str (ta_cons t_str (ta_cons t_str (ta_cons t_str (ta_cons t_str (ta_cons t_str (ta_cons t_str ta_nil)))))))))))) (ts_cons (ts_if (tt_cmp (orp_eq (ru hr)) sv_eqv (t_var (pv 1)) t_int (nomark _)) (ts_one (ts_asg (ps_set (i := 2) nd rfl (by first | exact Or.inl rfl | exact Or.inr rfl) (fz (t_lst (ta_cons (t_op op_sub sv_sub (t_op op_pow sv_pow t_int t_int) t_int) (ta_cons (t_op op_sub sv_sub t_int (t_op op_pow sv_pow t_int t_int)) (ta_cons t_int (ta_cons (t_neg t_int) (ta_cons (TPR.toE (t_callP I.c__law_pull hr hx0 (by rfl) (ta_cons (t_var (pv 0)) (ta_cons (t_op op_pow sv_pow t_int t_int) ta_nil)) (alen_cons (alen_cons alen_nil)))) ta_nil)))))))))) ts_nil) (ts_cons (ts_if (tt_cmp (orp_eq (ru hr)) sv_eqv (t_var (pv 1)) t_int (nomark _)) (ts_cons (ts_asg (ps_set (i := 3) nd rfl (by first | exact Or.inl rfl | exact Or.inr rfl) (TPR.toE (t_callP I.c__law_any hr hx0 (by rfl) (ta_cons (t_var (pv 0)) (ta_cons (fz (t_lst (ta_cons t_str (ta_cons t_str (ta_cons t_str (ta_cons t_str ta_nil)))))) ta_nil)) (alen_cons (alen_cons alen_nil)))))) (ts_one (ts_asg (ps_set (i := 2) nd rfl (by first | exact Or.inl rfl | exact Or.inr rfl) (fz (t_lst (ta_cons (t_sl (t_op orp_add sv_add (t_op orp_add sv_add (t_sl (t_var (pv 3)) tpo_none (tpo_some (TPR.toE (t_callP I.c__law_pull hr hx0 (by rfl) (ta_cons (t_var (pv 0)) (ta_cons t_int ta_nil)) (alen_cons (alen_cons alen_nil)))))) (t_ix (ru hr) t_str (TPR.toE (t_callP I.c__law_pull hr hx0 (by rfl) (ta_cons (t_var (pv 0)) (ta_cons t_int ta_nil)) (alen_cons (alen_cons alen_nil)))))) (t_var (pv 3))) tpo_none (tpo_some t_int)) ta_nil))))))) ts_nil) (ts_one (ts_ret (TPR.toE (t_callP I.c__law_any hr hx0 (by rfl) (ta_cons (t_var (pv 0)) (ta_cons (t_var (pv 2)) ta_nil)) (alen_cons (alen_cons alen_nil)))))))))))
theorem sc__law_value : FnScope ["_law_draw", "_law_bot", "_law_fork", "_law_k"] ["_law_draw", "_law_bot"] (defScope s__law_value) := ⟨rfl, rfl, rfl, by decide +kernel, rfl, by decide +kernel, by decide +kernel⟩
theorem o__law_value {P : Program} {w : World} {K : PySem.W.Frag} {mg : Str → Option Value} {base : Heap} {n : Nat} (S : St K mg) (I : Is P w K mg base n) {f : Addr} {fd : FuncData} (Fd : FunD K "_law_value" "_law_value" (defArgs s__law_value) (defBody s__law_value) (defScope s__law_value) [] [] f fd) : FnOk P w K mg base CX0 (2 * n + 2) f fd ["_law_draw", "_law_bot"] (spT K false 2 (F (n + 1))._law_value) := by
  refine fn_tl1 Fd sc__law_value fun cdv A outer s H E hr hr1 => ?_
  have nd := sc__law_value.nd
  exact (ts_cons (ts_asg (ps_set (i := 2) nd rfl (by first | exact Or.inl rfl | exact Or.inr rfl) (TPR.toE (t_callP I.c__law_pull hr hx0 (by rfl) (ta_cons (t_var (pv 0)) (ta_cons t_int ta_nil)) (alen_cons (alen_cons alen_nil)))))) (ts_cons (ts_if (tt_w (tw_or (tt_cmp (orp_eq (ru hr)) sv_eqv (t_var (pv 1)) t_int (nomark _)) (tw_or1 (tt_cmp (orp_lt (ru hr)) sv_lt (t_var (pv 2)) t_int (nomark _))))) (ts_one (ts_ret (TPR.toE (t_callP I.c__law_plain hr hx0 (by rfl) (ta_cons (t_var (pv 0)) ta_nil) (alen_cons alen_nil))))) ts_nil) (ts_cons (ts_if (tt_cmp (orp_eq (ru hr)) sv_eqv (t_var (pv 2)) t_int (nomark _)) (ts_one (ts_ret (TPR.toE (t_callP I.c__law_record hr hx0 (by rfl) (ta_cons (t_var (pv 0)) (ta_cons (t_op op_sub sv_sub (t_var (pv 1)) t_int) (ta_cons t_int ta_nil))) (alen_cons (alen_cons (alen_cons alen_nil))))))) ts_nil) (ts_one (ts_ret (fz (t_comp (own := [("_law_k", 3)]) rfl nd (ti_range1 (by rfl) S.n_range (ta_cons (TPR.toE (t_callP I.c__law_pull hr hx0 (by rfl) (ta_cons (t_var (pv 0)) (ta_cons t_int ta_nil)) (alen_cons (alen_cons alen_nil)))) ta_nil)) (blkOk_by (own := [("_law_k", 3)]) (by kernel_rfl)) (by decide) (nm_sem 3) (fun _ _ _ _ _ => pg_name (i := 3) nd rfl (by first | exact Or.inl rfl | exact Or.inr rfl)) (fun _ _ _ _ _ => tts_nil) (fun _ _ _ _ _ => (TPR.toE (t_callP I.c__law_value hr hx0 (by rfl) (ta_cons (t_var (pv 0)) (ta_cons (t_op op_sub sv_sub (t_var (pv 1)) t_int) ta_nil)) (alen_cons (alen_cons alen_nil))))))))))))
theorem sc__law_record : FnScope ["_law_draw", "_law_bot", "_law_wide", "_law_found", "_law_k"] ["_law_draw", "_law_bot", "_law_wide"] (defScope s__law_record) := ⟨rfl, rfl, rfl, by decide +kernel, rfl, by decide +kernel, by decide +kernel⟩
theorem o__law_record {P : Program} {w : World} {K : PySem.W.Frag} {mg : Str → Option Value} {base : Heap} {n : Nat} (S : St K mg) (I : Is P w K mg base n) {f : Addr} {fd : FuncData} (Fd : FunD K "_law_record" "_law_record" (defArgs s__law_record) (defBody s__law_record) (defScope s__law_record) [] [] f fd) : FnOk P w K mg base CX0 (2 * n + 2) f fd ["_law_draw", "_law_bot", "_law_wide"] (spT K false 3 (F (n + 1))._law_record) := by
  refine fn_tl1 Fd sc__law_record fun cdv A outer s H E hr hr1 => ?_
  have nd := sc__law_record.nd
  exact (ts_cons (ts_asgO (ps_set (i := 3) nd rfl (by first | exact Or.inl rfl | exact Or.inr rfl) t_dnew)) (ts_cons (ts_for PassesOwn.leaving rfl (ti_range1 (by rfl) S.n_range (ta_cons (TPR.toE (t_callP I.c__law_pull hr hx0 (by rfl) (ta_cons (t_var (pv 0)) (ta_cons (t_op orp_add sv_add (t_var (pv 2)) t_int) ta_nil)) (alen_cons (alen_cons alen_nil)))) ta_nil)) ⟨(pg_name (i := 4) nd rfl (by first | exact Or.inl rfl | exact Or.inr rfl)), (nm_sem 4)⟩ (ts_one (ts_put (ru hr) (pv 3) (TPR.toE (t_callP I.c__law_name hr hx0 (by rfl) (ta_cons (t_var (pv 0)) ta_nil) (alen_cons alen_nil))) (TPR.toE (t_callP I.c__law_value hr hx0 (by rfl) (ta_cons (t_var (pv 0)) (ta_cons (t_var (pv 1)) ta_nil)) (alen_cons (alen_cons alen_nil))))))) (ts_one (ts_retVF (pv 3)))))
theorem sc__law_wreck : FnScope ["_law_value_here", "_law_one", "_law_name_here"] ["_law_value_here"] (defScope s__law_wreck) := ⟨rfl, rfl, rfl, by decide +kernel, rfl, by decide +kernel, by decide +kernel⟩
theorem o__law_wreck {P : Program} {w : World} {K : PySem.W.Frag} {mg : Str → Option Value} {base : Heap} {n : Nat} (S : St K mg) (I : Is P w K mg base n) {f : Addr} {fd : FuncData} (Fd : FunD K "_law_wreck" "_law_wreck" (defArgs s__law_wreck) (defBody s__law_wreck) (defScope s__law_wreck) [] [] f fd) : FnOk P w K mg base CX0 (2 * n + 2) f fd ["_law_value_here"] (spT K false 1 (F (n + 1))._law_wreck) := by
  refine fn_tl1 Fd sc__law_wreck fun cdv A outer s H E hr hr1 => ?_
  have nd := sc__law_wreck.nd
  exact (ts_one (ts_if (tt_val (t_bi call_isi sv_isi (by rfl) S.n_isinstance (by decide +kernel) (ta_cons (t_var (pv 0)) (ta_cons (t_tyv (by rfl) S.n_list (by decide +kernel)) ta_nil)))) (ts_cons (ts_forC wopen0 (pv 0) PassesOwn.leaving rfl ⟨(pg_name (i := 1) nd rfl (by first | exact Or.inl rfl | exact Or.inr rfl)), (nm_sem 1)⟩ (ts_one (ts_expr (TPR.toE (t_callP I.c__law_wreck hr hx0 (by rfl) (ta_cons (t_var (pv 1)) ta_nil) (alen_cons alen_nil)))))) (ts_cons (ts_mth PySem.F.slot_list_append PySem.F.type_list_append mt_append mk_append (pv 0) (ta_cons t_int ta_nil)) (ts_one (ts_mth0 PySem.F.slot_list_reverse PySem.F.type_list_reverse mt_reverse mk_reverse (pv 0))))) (ts_one (ts_if (tt_val (t_bi call_isi sv_isi (by rfl) S.n_isinstance (by decide +kernel) (ta_cons (t_var (pv 0)) (ta_cons (t_tyv (by rfl) S.n_tuple (by decide +kernel)) ta_nil)))) (ts_one (ts_forC wopen0 (pv 0) PassesOwn.leaving rfl ⟨(pg_name (i := 1) nd rfl (by first | exact Or.inl rfl | exact Or.inr rfl)), (nm_sem 1)⟩ (ts_one (ts_expr (TPR.toE (t_callP I.c__law_wreck hr hx0 (by rfl) (ta_cons (t_var (pv 1)) ta_nil) (alen_cons alen_nil))))))) (ts_one (ts_if (tt_val (t_bi call_isi sv_isi (by rfl) S.n_isinstance (by decide +kernel) (ta_cons (t_var (pv 0)) (ta_cons (t_tyv (by rfl) S.n_dict (by decide +kernel)) ta_nil)))) (ts_cons (ts_for PassesOwn.leaving rfl (ti_val (fz (t_biO (call_sortO rfl (ru hr)) sv_sortC (by rfl) S.n_sorted (by decide +kernel) (ta_cons (t_var (pv 0)) ta_nil)))) ⟨(pg_name (i := 2) nd rfl (by first | exact Or.inl rfl | exact Or.inr rfl)), (nm_sem 2)⟩ (ts_one (ts_expr (TPR.toE (t_callP I.c__law_wreck hr hx0 (by rfl) (ta_cons (t_ix (ru hr) (t_var (pv 0)) (t_var (pv 2))) ta_nil) (alen_cons alen_nil)))))) (ts_one (ts_put (ru hr) (pv 0) t_str t_int))) ts_nil))))))
theorem sc__law_near : FnScope ["_law_draw", "_law_value_here", "_law_found"] ["_law_draw", "_law_value_here"] (defScope s__law_near) := ⟨rfl, rfl, rfl, by decide +kernel, rfl, by decide +kernel, by decide +kernel⟩
theorem o__law_near {P : Program} {w : World} {K : PySem.W.Frag} {mg : Str → Option Value} {base : Heap} {n : Nat} (S : St K mg) (I : Is P w K mg base n) {f : Addr} {fd : FuncData} (Fd : FunD K "_law_near" "_law_near" (defArgs s__law_near) (defBody s__law_near) (defScope s__law_near) [] [] f fd) : FnOk P w K mg base CX0 (2 * n + 2) f fd ["_law_draw", "_law_value_here"] (spT K false 2 (F (n + 1))._law_near) := by
  refine fn_tl1 Fd sc__law_near fun cdv A outer s H E hr hr1 => ?_
  have nd := sc__law_near.nd
  exact (ts_cons (ts_if (tt_w (tw_and (tt_val (t_bi call_isi sv_isi (by rfl) S.n_isinstance (by decide +kernel) (ta_cons (t_var (pv 1)) (ta_cons (t_tyv (by rfl) S.n_list (by decide +kernel)) ta_nil)))) (tw_and1 (tt_cmp (orp_eq (ru hr)) sv_eqv (TPR.toE (t_callP I.c__law_pull hr hx0 (by rfl) (ta_cons (t_var (pv 0)) (ta_cons t_int ta_nil)) (alen_cons (alen_cons alen_nil)))) t_int (nomark _))))) (ts_one (ts_ret (t_op orp_add sv_add (t_var (pv 1)) (fz (t_lst (ta_cons (TPR.toE (t_callP I.c__law_plain hr hx0 (by rfl) (ta_cons (t_var (pv 0)) ta_nil) (alen_cons alen_nil))) ta_nil)))))) ts_nil) (ts_cons (ts_if (tt_w (tw_and (tt_val (t_bi call_isi sv_isi (by rfl) S.n_isinstance (by decide +kernel) (ta_cons (t_var (pv 1)) (ta_cons (t_tyv (by rfl) S.n_dict (by decide +kernel)) ta_nil)))) (tw_and1 (tt_cmp (orp_ne (ru hr)) sv_eqv (t_var (pv 1)) (fz t_dnew) (nomark _))))) (ts_cons (ts_asgO (ps_set (i := 2) nd rfl (by first | exact Or.inl rfl | exact Or.inr rfl) (t_tyO (call_dictA rfl) sv_dictO (by rfl) S.n_dict (by decide +kernel) (ta_cons (t_var (pv 1)) ta_nil)))) (ts_cons (ts_put (ru hr) (pv 2) (TPR.toE (t_callP I.c__law_any hr hx0 (by rfl) (ta_cons (t_var (pv 0)) (ta_cons (fz (t_biO (call_sortO rfl (ru hr)) sv_sortO (by rfl) S.n_sorted (by decide +kernel) (ta_cons (t_var (pv 1)) ta_nil))) ta_nil)) (alen_cons (alen_cons alen_nil)))) (TPR.toE (t_callP I.c__law_plain hr hx0 (by rfl) (ta_cons (t_var (pv 0)) ta_nil) (alen_cons alen_nil)))) (ts_one (ts_retVF (pv 2))))) ts_nil) (ts_one (ts_ret (TPR.toE (t_callP I.c__law_any hr hx0 (by rfl) (ta_cons (t_var (pv 0)) (ta_cons (fz (t_lst (ta_cons (t_var (pv 1)) (ta_cons (TPR.toE (t_callP I.c__law_plain hr hx0 (by rfl) (ta_cons (t_var (pv 0)) ta_nil) (alen_cons alen_nil))) (ta_cons (fz (t_lst (ta_cons (t_var (pv 1)) ta_nil))) ta_nil))))) ta_nil)) (alen_cons (alen_cons alen_nil))))))))
theorem sc_law : FnScope ["_law_script", "_law_draw", "_law_turn", "_law_one", "_law_other", "_law_third", "_law_some", "_law_handed", "_law_mine", "_law_theirs", "_law_bot", "_law_tip", "_law_due", "_law_values", "_law_k", "_law_ranks", "_law_value_here"] ["_law_script"] (defScope s_law) := ⟨rfl, rfl, rfl, by decide +kernel, rfl, by decide +kernel, by decide +kernel⟩
theorem o_law {P : Program} {w : World} {K : PySem.W.Frag} {mg : Str → Option Value} {base : Heap} {n : Nat} (S : St K mg) (I : Is P w K mg base n) {f : Addr} {fd : FuncData} (Fd : FunD K "law" "law" (defArgs s_law) (defBody s_law) (defScope s_law) [] [] f fd) : FnOk P w K mg base CX0 (2 * n + 2) f fd ["_law_script"] (spT K false 1 (F (n + 1)).law) := by
  refine fn_tl1 Fd sc_law fun cdv A outer s H E hr hr1 => ?_
  have nd := sc_law.nd
  exact (ts_cons (ts_asg (ps_set (i := 1) nd rfl (by first | exact Or.inl rfl | exact Or.inr rfl) (t_share (TPR.toO (t_callP I.c__law_open hr hx0 (by rfl) (ta_cons (t_var (pv 0)) ta_nil) (alen_cons alen_nil)))))) (ts_cons (ts_for PassesOwn.leaving rfl (ti_range1 (by rfl) S.n_range (ta_cons t_int ta_nil)) ⟨(pg_name (i := 2) nd rfl (by first | exact Or.inl rfl | exact Or.inr rfl)), (nm_sem 2)⟩ (ts_cons (ts_asg (ps_set (i := 3) nd rfl (by first | exact Or.inl rfl | exact Or.inr rfl) (TPR.toE (t_callP I.c__law_value hr hx0 (by rfl) (ta_cons (t_var (pv 1)) (ta_cons t_int ta_nil)) (alen_cons (alen_cons alen_nil)))))) (ts_cons (ts_asg (ps_set (i := 4) nd rfl (by first | exact Or.inl rfl | exact Or.inr rfl) (TPR.toE (t_callP I.c__law_any hr hx0 (by rfl) (ta_cons (t_var (pv 1)) (ta_cons (fz (t_lst (ta_cons (TPR.toE (t_callP I.c__law_value hr hx0 (by rfl) (ta_cons (t_var (pv 1)) (ta_cons t_int ta_nil)) (alen_cons (alen_cons alen_nil)))) (ta_cons (TPR.toE (t_callP I.c__law_near hr hx0 (by rfl) (ta_cons (t_var (pv 1)) (ta_cons (t_var (pv 3)) ta_nil)) (alen_cons (alen_cons alen_nil)))) (ta_cons (TPR.toE (t_callP I.c__law_copy hr hx0 (by rfl) (ta_cons (t_var (pv 3)) ta_nil) (alen_cons alen_nil))) ta_nil))))) ta_nil)) (alen_cons (alen_cons alen_nil)))))) (ts_cons (ts_asg (ps_set (i := 5) nd rfl (by first | exact Or.inl rfl | exact Or.inr rfl) (TPR.toE (t_callP I.c__law_any hr hx0 (by rfl) (ta_cons (t_var (pv 1)) (ta_cons (fz (t_lst (ta_cons (TPR.toE (t_callP I.c__law_value hr hx0 (by rfl) (ta_cons (t_var (pv 1)) (ta_cons t_int ta_nil)) (alen_cons (alen_cons alen_nil)))) (ta_cons (TPR.toE (t_callP I.c__law_near hr hx0 (by rfl) (ta_cons (t_var (pv 1)) (ta_cons (t_var (pv 4)) ta_nil)) (alen_cons (alen_cons alen_nil)))) ta_nil)))) ta_nil)) (alen_cons (alen_cons alen_nil)))))) (ts_cons (ts_asg (ps_set (i := 6) nd rfl (by first | exact Or.inl rfl | exact Or.inr rfl) (fz (t_lst (ta_cons (t_var (pv 3)) (ta_cons (t_var (pv 4)) (ta_cons (t_var (pv 5)) ta_nil))))))) (ts_cons (ts_asg (ps_set (i := 7) nd rfl (by first | exact Or.inl rfl | exact Or.inr rfl) (TPR.toE (t_callP I.c__law_copy hr hx0 (by rfl) (ta_cons (t_var (pv 6)) ta_nil) (alen_cons alen_nil))))) (ts_cons (ts_for PassesOwn.leaving rfl (ti_range1 (by rfl) S.n_range (ta_cons t_int ta_nil)) ⟨(pg_name (i := 8) nd rfl (by first | exact Or.inl rfl | exact Or.inr rfl)), (nm_sem 8)⟩ (ts_one (ts_for PassesOwn.leaving rfl (ti_range1 (by rfl) S.n_range (ta_cons t_int ta_nil)) ⟨(pg_name (i := 9) nd rfl (by first | exact Or.inl rfl | exact Or.inr rfl)), (nm_sem 9)⟩ (ts_cons (ts_par (i := 10) (j := 11) rfl nd (ta_cons (TPR.toE (t_callP I.c__law_rank hr hx0 (by rfl) (ta_cons (t_ix (ru hr) (t_var (pv 6)) (t_var (pv 8))) ta_nil) (alen_cons alen_nil))) (ta_cons (TPR.toE (t_callP I.c__law_rank hr hx0 (by rfl) (ta_cons (t_ix (ru hr) (t_var (pv 6)) (t_var (pv 9))) ta_nil) (alen_cons alen_nil))) ta_nil))) (ts_cons (ts_asg (ps_set (i := 12) nd rfl (by first | exact Or.inl rfl | exact Or.inr rfl) (t_op op_sub sv_sub (t_ty call_int1 sv_int (by rfl) S.n_int (by decide +kernel) (ta_cons (t_cmp (orp_gt (ru hr)) sv_gt (t_var (pv 10)) (t_var (pv 11)) (nomark _)) ta_nil)) (t_ty call_int1 sv_int (by rfl) S.n_int (by decide +kernel) (ta_cons (t_cmp (orp_lt (ru hr)) sv_lt (t_var (pv 10)) (t_var (pv 11)) (nomark _)) ta_nil))))) (ts_one (ts_if (tt_not (tt_val (TPR.toE (t_callP I.c__law_like hr hx0 (by rfl) (ta_cons (TPR.toE (t_callP I.c_order hr hx0 (by rfl) (ta_cons (t_ix (ru hr) (t_var (pv 7)) (t_var (pv 8))) (ta_cons (t_ix (ru hr) (t_var (pv 7)) (t_var (pv 9))) ta_nil)) (alen_cons (alen_cons alen_nil)))) (ta_cons (t_var (pv 12)) ta_nil)) (alen_cons (alen_cons alen_nil)))))) (ts_one (ts_ret t_bl)) ts_nil))))))) (ts_cons (ts_asg (ps_set (i := 13) nd rfl (by first | exact Or.inl rfl | exact Or.inr rfl) (t_op orp_add sv_add (t_var (pv 6)) (fz (t_comp (own := [("_law_k", 14)]) rfl nd (ti_range1 (by rfl) S.n_range (ta_cons (TPR.toE (t_callP I.c__law_pull hr hx0 (by rfl) (ta_cons (t_var (pv 1)) (ta_cons t_int ta_nil)) (alen_cons (alen_cons alen_nil)))) ta_nil)) (blkOk_by (own := [("_law_k", 14)]) (by kernel_rfl)) (by decide) (nm_sem 14) (fun _ _ _ _ _ => pg_name (i := 14) nd rfl (by first | exact Or.inl rfl | exact Or.inr rfl)) (fun _ _ _ _ _ => tts_nil) (fun _ _ _ _ _ => (TPR.toE (t_callP I.c__law_value hr hx0 (by rfl) (ta_cons (t_var (pv 1)) (ta_cons t_int ta_nil)) (alen_cons (alen_cons alen_nil)))))))))) (ts_cons (ts_asg (ps_set (i := 15) nd rfl (by first | exact Or.inl rfl | exact Or.inr rfl) (fz (t_biO (call_sortO rfl (ru hr)) sv_sortO (by rfl) S.n_sorted (by decide +kernel) (ta_cons (fz (t_compN (own := [("_law_value_here", 16)]) wopen0 (pv 13) rfl nd (blkOk_by (own := [("_law_value_here", 16)]) (by kernel_rfl)) (by decide) (nm_sem 16) (fun _ _ _ _ _ => pg_name (i := 16) nd rfl (by first | exact Or.inl rfl | exact Or.inr rfl)) (fun _ _ _ _ _ => tts_nil) (fun _ _ _ _ _ => (TPR.toE (t_callP I.c__law_rank hr hx0 (by rfl) (ta_cons (t_var (pv 16)) ta_nil) (alen_cons alen_nil)))))) ta_nil))))) (ts_cons (ts_asg (ps_set (i := 7) nd rfl (by first | exact Or.inl rfl | exact Or.inr rfl) (TPR.toE (t_callP I.c__law_copy hr hx0 (by rfl) (ta_cons (t_var (pv 13)) ta_nil) (alen_cons alen_nil))))) (ts_cons (ts_if (tt_w (tw_or (tt_cmp (orp_ne (ru hr)) sv_eqv (TPR.toE (t_callP I.c__law_rank hr hx0 (by rfl) (ta_cons (TPR.toE (t_callP I.c_least hr hx0 (by rfl) (ta_cons (t_var (pv 7)) ta_nil) (alen_cons alen_nil))) ta_nil) (alen_cons alen_nil))) (t_ix (ru hr) (t_var (pv 15)) t_int) (nomark _)) (tw_or1 (tt_cmp (orp_ne (ru hr)) sv_eqv (TPR.toE (t_callP I.c__law_rank hr hx0 (by rfl) (ta_cons (TPR.toE (t_callP I.c_greatest hr hx0 (by rfl) (ta_cons (t_var (pv 7)) ta_nil) (alen_cons alen_nil))) ta_nil) (alen_cons alen_nil))) (t_ix (ru hr) (t_var (pv 15)) (t_neg t_int)) (nomark _))))) (ts_one (ts_ret t_bl)) ts_nil) (ts_cons (ts_expr (TPR.toE (t_callP I.c__law_wreck hr hx0 (by rfl) (ta_cons (t_share (t_lst (ta_cons (TPR.toE (t_callP I.c_least hr hx0 (by rfl) (ta_cons (t_var (pv 7)) ta_nil) (alen_cons alen_nil))) (ta_cons (TPR.toE (t_callP I.c_greatest hr hx0 (by rfl) (ta_cons (t_var (pv 7)) ta_nil) (alen_cons alen_nil))) ta_nil)))) ta_nil) (alen_cons alen_nil)))) (ts_one (ts_if (tt_w (tw_or (tt_not (tt_val (TPR.toE (t_callP I.c__law_like hr hx0 (by rfl) (ta_cons (t_var (pv 7)) (ta_cons (t_var (pv 13)) ta_nil)) (alen_cons (alen_cons alen_nil)))))) (tw_or (tt_cmp (orp_ne (ru hr)) sv_eqv (TPR.toE (t_callP I.c_order hr hx0 (by rfl) (ta_cons (fz (t_disp (tdp_cons t_str t_int tdp_nil))) (ta_cons (fz (t_disp (tdp_cons t_str t_int (tdp_cons t_str t_non tdp_nil)))) ta_nil)) (alen_cons (alen_cons alen_nil)))) (t_neg t_int) (nomark _)) (tw_or1 (tt_cmp (orp_ne (ru hr)) sv_eqv (TPR.toE (t_callP I.c_order hr hx0 (by rfl) (ta_cons (fz (t_lst ta_nil)) (ta_cons t_non ta_nil)) (alen_cons (alen_cons alen_nil)))) t_int (nomark _)))))) (ts_one (ts_ret t_bl)) ts_nil)))))))))))))) (ts_one (ts_ret (t_and (t_cmp (orp_eq (ru hr)) sv_eqv (TPR.toE (t_callP I.c_order hr hx0 (by rfl) (ta_cons t_str (ta_cons t_int ta_nil)) (alen_cons (alen_cons alen_nil)))) t_int (nomark _)) (t_and (t_cmp (orp_eq (ru hr)) sv_eqv (TPR.toE (t_callP I.c_order hr hx0 (by rfl) (ta_cons (fz t_dnew) (ta_cons (fz (t_lst (ta_cons (fz (t_lst ta_nil)) ta_nil))) ta_nil)) (alen_cons (alen_cons alen_nil)))) t_int (nomark _)) (t_one (t_cmp (orp_eq (ru hr)) sv_eqv (TPR.toE (t_callP I.c_order hr hx0 (by rfl) (ta_cons (fz (t_disp (tdp_cons t_str t_int tdp_nil))) (ta_cons (fz (t_disp (tdp_cons t_str t_int tdp_nil))) ta_nil)) (alen_cons (alen_cons alen_nil)))) t_int (nomark _)))))))))
theorem bd_copied {K : PySem.W.Frag} {f : Addr} {fd : FuncData} (Fd : FunD K "copied" "copied" (defArgs s_copied) (defBody s_copied) (defScope s_copied) [] [] f fd) : Binds K fd ["value"] [] := Fd.bindsN fun _ _ _ _ _ _ us hl => match us, hl with | [_], _ => rfl
theorem bd_rank {K : PySem.W.Frag} {f : Addr} {fd : FuncData} (Fd : FunD K "rank" "rank" (defArgs s_rank) (defBody s_rank) (defScope s_rank) [] [] f fd) : Binds K fd ["value"] [] := Fd.bindsN fun _ _ _ _ _ _ us hl => match us, hl with | [_], _ => rfl
theorem bd_order {K : PySem.W.Frag} {f : Addr} {fd : FuncData} (Fd : FunD K "order" "order" (defArgs s_order) (defBody s_order) (defScope s_order) [] [] f fd) : Binds K fd ["one", "other"] [] := Fd.bindsN fun _ _ _ _ _ _ us hl => match us, hl with | [_, _], _ => rfl
theorem bd_least {K : PySem.W.Frag} {f : Addr} {fd : FuncData} (Fd : FunD K "least" "least" (defArgs s_least) (defBody s_least) (defScope s_least) [] [] f fd) : Binds K fd ["values"] [] := Fd.bindsN fun _ _ _ _ _ _ us hl => match us, hl with | [_], _ => rfl
theorem bd_greatest {K : PySem.W.Frag} {f : Addr} {fd : FuncData} (Fd : FunD K "greatest" "greatest" (defArgs s_greatest) (defBody s_greatest) (defScope s_greatest) [] [] f fd) : Binds K fd ["values"] [] := Fd.bindsN fun _ _ _ _ _ _ us hl => match us, hl with | [_], _ => rfl
theorem bd__law_open {K : PySem.W.Frag} {f : Addr} {fd : FuncData} (Fd : FunD K "_law_open" "_law_open" (defArgs s__law_open) (defBody s__law_open) (defScope s__law_open) [] [] f fd) : Binds K fd ["_law_script"] [] := Fd.bindsN fun _ _ _ _ _ _ us hl => match us, hl with | [_], _ => rfl
theorem bd__law_pull {K : PySem.W.Frag} {f : Addr} {fd : FuncData} (Fd : FunD K "_law_pull" "_law_pull" (defArgs s__law_pull) (defBody s__law_pull) (defScope s__law_pull) [] [] f fd) : Binds K fd ["_law_draw", "_law_top"] [] := Fd.bindsN fun _ _ _ _ _ _ us hl => match us, hl with | [_, _], _ => rfl
theorem bd__law_any {K : PySem.W.Frag} {f : Addr} {fd : FuncData} (Fd : FunD K "_law_any" "_law_any" (defArgs s__law_any) (defBody s__law_any) (defScope s__law_any) [] [] f fd) : Binds K fd ["_law_draw", "_law_some"] [] := Fd.bindsN fun _ _ _ _ _ _ us hl => match us, hl with | [_, _], _ => rfl
theorem bd__law_num {K : PySem.W.Frag} {f : Addr} {fd : FuncData} (Fd : FunD K "_law_num" "_law_num" (defArgs s__law_num) (defBody s__law_num) (defScope s__law_num) [] [] f fd) : Binds K fd ["_law_found"] [] := Fd.bindsN fun _ _ _ _ _ _ us hl => match us, hl with | [_], _ => rfl
theorem bd__law_like {K : PySem.W.Frag} {f : Addr} {fd : FuncData} (Fd : FunD K "_law_like" "_law_like" (defArgs s__law_like) (defBody s__law_like) (defScope s__law_like) [] [] f fd) : Binds K fd ["_law_found", "_law_due"] [] := Fd.bindsN fun _ _ _ _ _ _ us hl => match us, hl with | [_, _], _ => rfl
theorem bd__law_copy {K : PySem.W.Frag} {f : Addr} {fd : FuncData} (Fd : FunD K "_law_copy" "_law_copy" (defArgs s__law_copy) (defBody s__law_copy) (defScope s__law_copy) [] [] f fd) : Binds K fd ["_law_value_here"] [] := Fd.bindsN fun _ _ _ _ _ _ us hl => match us, hl with | [_], _ => rfl
theorem bd__law_rank {K : PySem.W.Frag} {f : Addr} {fd : FuncData} (Fd : FunD K "_law_rank" "_law_rank" (defArgs s__law_rank) (defBody s__law_rank) (defScope s__law_rank) [] [] f fd) : Binds K fd ["_law_value_here"] [] := Fd.bindsN fun _ _ _ _ _ _ us hl => match us, hl with | [_], _ => rfl
theorem bd__law_name {K : PySem.W.Frag} {f : Addr} {fd : FuncData} (Fd : FunD K "_law_name" "_law_name" (defArgs s__law_name) (defBody s__law_name) (defScope s__law_name) [] [] f fd) : Binds K fd ["_law_draw"] [] := Fd.bindsN fun _ _ _ _ _ _ us hl => match us, hl with | [_], _ => rfl
theorem bd__law_plain {K : PySem.W.Frag} {f : Addr} {fd : FuncData} (Fd : FunD K "_law_plain" "_law_plain" (defArgs s__law_plain) (defBody s__law_plain) (defScope s__law_plain) [] [] f fd) : Binds K fd ["_law_draw"] [] := Fd.bindsN fun _ _ _ _ _ _ us hl => match us, hl with | [_], _ => rfl
theorem bd__law_value {K : PySem.W.Frag} {f : Addr} {fd : FuncData} (Fd : FunD K "_law_value" "_law_value" (defArgs s__law_value) (defBody s__law_value) (defScope s__law_value) [] [] f fd) : Binds K fd ["_law_draw", "_law_bot"] [] := Fd.bindsN fun _ _ _ _ _ _ us hl => match us, hl with | [_, _], _ => rfl
theorem bd__law_record {K : PySem.W.Frag} {f : Addr} {fd : FuncData} (Fd : FunD K "_law_record" "_law_record" (defArgs s__law_record) (defBody s__law_record) (defScope s__law_record) [] [] f fd) : Binds K fd ["_law_draw", "_law_bot", "_law_wide"] [] := Fd.bindsN fun _ _ _ _ _ _ us hl => match us, hl with | [_, _, _], _ => rfl
theorem bd__law_wreck {K : PySem.W.Frag} {f : Addr} {fd : FuncData} (Fd : FunD K "_law_wreck" "_law_wreck" (defArgs s__law_wreck) (defBody s__law_wreck) (defScope s__law_wreck) [] [] f fd) : Binds K fd ["_law_value_here"] [] := Fd.bindsN fun _ _ _ _ _ _ us hl => match us, hl with | [_], _ => rfl
theorem bd__law_near {K : PySem.W.Frag} {f : Addr} {fd : FuncData} (Fd : FunD K "_law_near" "_law_near" (defArgs s__law_near) (defBody s__law_near) (defScope s__law_near) [] [] f fd) : Binds K fd ["_law_draw", "_law_value_here"] [] := Fd.bindsN fun _ _ _ _ _ _ us hl => match us, hl with | [_, _], _ => rfl
theorem bd_law {K : PySem.W.Frag} {f : Addr} {fd : FuncData} (Fd : FunD K "law" "law" (defArgs s_law) (defBody s_law) (defScope s_law) [] [] f fd) : Binds K fd ["_law_script"] [] := Fd.bindsN fun _ _ _ _ _ _ us hl => match us, hl with | [_], _ => rfl
theorem is_of {P : Program} {w : World} {K : PySem.W.Frag} {mg : Str → Option Value} {base : Heap} (S : St K mg) : ∀ n, Is P w K mg base n
  | 0 => ⟨(by obtain ⟨f, fd, Fd, hm⟩ := S.d_copied; exact ⟨f, fd, fn_bad, hm, Fd.kp, bd_copied Fd⟩),
      (by obtain ⟨f, fd, Fd, hm⟩ := S.d_rank; exact ⟨f, fd, fn_bad, hm, Fd.kp, bd_rank Fd⟩),
      (by obtain ⟨f, fd, Fd, hm⟩ := S.d_order; exact ⟨f, fd, fn_bad, hm, Fd.kp, bd_order Fd⟩),
      (by obtain ⟨f, fd, Fd, hm⟩ := S.d_least; exact ⟨f, fd, fn_bad, hm, Fd.kp, bd_least Fd⟩),
      (by obtain ⟨f, fd, Fd, hm⟩ := S.d_greatest; exact ⟨f, fd, fn_bad, hm, Fd.kp, bd_greatest Fd⟩),
      (by obtain ⟨f, fd, Fd, hm⟩ := S.d__law_open; exact ⟨f, fd, fn_bad, hm, Fd.kp, bd__law_open Fd⟩),
      (by obtain ⟨f, fd, Fd, hm⟩ := S.d__law_pull; exact ⟨f, fd, fn_bad, hm, Fd.kp, bd__law_pull Fd⟩),
      (by obtain ⟨f, fd, Fd, hm⟩ := S.d__law_any; exact ⟨f, fd, fn_bad, hm, Fd.kp, bd__law_any Fd⟩),
      (by obtain ⟨f, fd, Fd, hm⟩ := S.d__law_num; exact ⟨f, fd, fn_bad, hm, Fd.kp, bd__law_num Fd⟩),
      (by obtain ⟨f, fd, Fd, hm⟩ := S.d__law_like; exact ⟨f, fd, fn_bad, hm, Fd.kp, bd__law_like Fd⟩),
      (by obtain ⟨f, fd, Fd, hm⟩ := S.d__law_copy; exact ⟨f, fd, fn_bad, hm, Fd.kp, bd__law_copy Fd⟩),
      (by obtain ⟨f, fd, Fd, hm⟩ := S.d__law_rank; exact ⟨f, fd, fn_bad, hm, Fd.kp, bd__law_rank Fd⟩),
      (by obtain ⟨f, fd, Fd, hm⟩ := S.d__law_name; exact ⟨f, fd, fn_bad, hm, Fd.kp, bd__law_name Fd⟩),
      (by obtain ⟨f, fd, Fd, hm⟩ := S.d__law_plain; exact ⟨f, fd, fn_bad, hm, Fd.kp, bd__law_plain Fd⟩),
      (by obtain ⟨f, fd, Fd, hm⟩ := S.d__law_value; exact ⟨f, fd, fn_bad, hm, Fd.kp, bd__law_value Fd⟩),
      (by obtain ⟨f, fd, Fd, hm⟩ := S.d__law_record; exact ⟨f, fd, fn_bad, hm, Fd.kp, bd__law_record Fd⟩),
      (by obtain ⟨f, fd, Fd, hm⟩ := S.d__law_wreck; exact ⟨f, fd, fn_bad, hm, Fd.kp, bd__law_wreck Fd⟩),
      (by obtain ⟨f, fd, Fd, hm⟩ := S.d__law_near; exact ⟨f, fd, fn_bad, hm, Fd.kp, bd__law_near Fd⟩),
      (by obtain ⟨f, fd, Fd, hm⟩ := S.d_law; exact ⟨f, fd, fn_bad, hm, Fd.kp, bd_law Fd⟩)⟩
  | n + 1 => by
    have I := is_of (P := P) (w := w) (base := base) S n
    exact ⟨(by obtain ⟨f, fd, Fd, hm⟩ := S.d_copied; exact ⟨f, fd, o_copied S I Fd, hm, Fd.kp, bd_copied Fd⟩),
      (by obtain ⟨f, fd, Fd, hm⟩ := S.d_rank; exact ⟨f, fd, o_rank S I Fd, hm, Fd.kp, bd_rank Fd⟩),
      (by obtain ⟨f, fd, Fd, hm⟩ := S.d_order; exact ⟨f, fd, o_order S I Fd, hm, Fd.kp, bd_order Fd⟩),
      (by obtain ⟨f, fd, Fd, hm⟩ := S.d_least; exact ⟨f, fd, o_least S I Fd, hm, Fd.kp, bd_least Fd⟩),
      (by obtain ⟨f, fd, Fd, hm⟩ := S.d_greatest; exact ⟨f, fd, o_greatest S I Fd, hm, Fd.kp, bd_greatest Fd⟩),
      (by obtain ⟨f, fd, Fd, hm⟩ := S.d__law_open; exact ⟨f, fd, o__law_open S I Fd, hm, Fd.kp, bd__law_open Fd⟩),
      (by obtain ⟨f, fd, Fd, hm⟩ := S.d__law_pull; exact ⟨f, fd, o__law_pull S I Fd, hm, Fd.kp, bd__law_pull Fd⟩),
      (by obtain ⟨f, fd, Fd, hm⟩ := S.d__law_any; exact ⟨f, fd, o__law_any S I Fd, hm, Fd.kp, bd__law_any Fd⟩),
      (by obtain ⟨f, fd, Fd, hm⟩ := S.d__law_num; exact ⟨f, fd, o__law_num S I Fd, hm, Fd.kp, bd__law_num Fd⟩),
      (by obtain ⟨f, fd, Fd, hm⟩ := S.d__law_like; exact ⟨f, fd, o__law_like S I Fd, hm, Fd.kp, bd__law_like Fd⟩),
      (by obtain ⟨f, fd, Fd, hm⟩ := S.d__law_copy; exact ⟨f, fd, o__law_copy S I Fd, hm, Fd.kp, bd__law_copy Fd⟩),
      (by obtain ⟨f, fd, Fd, hm⟩ := S.d__law_rank; exact ⟨f, fd, o__law_rank S I Fd, hm, Fd.kp, bd__law_rank Fd⟩),
      (by obtain ⟨f, fd, Fd, hm⟩ := S.d__law_name; exact ⟨f, fd, o__law_name S I Fd, hm, Fd.kp, bd__law_name Fd⟩),
      (by obtain ⟨f, fd, Fd, hm⟩ := S.d__law_plain; exact ⟨f, fd, o__law_plain S I Fd, hm, Fd.kp, bd__law_plain Fd⟩),
      (by obtain ⟨f, fd, Fd, hm⟩ := S.d__law_value; exact ⟨f, fd, o__law_value S I Fd, hm, Fd.kp, bd__law_value Fd⟩),
      (by obtain ⟨f, fd, Fd, hm⟩ := S.d__law_record; exact ⟨f, fd, o__law_record S I Fd, hm, Fd.kp, bd__law_record Fd⟩),
      (by obtain ⟨f, fd, Fd, hm⟩ := S.d__law_wreck; exact ⟨f, fd, o__law_wreck S I Fd, hm, Fd.kp, bd__law_wreck Fd⟩),
      (by obtain ⟨f, fd, Fd, hm⟩ := S.d__law_near; exact ⟨f, fd, o__law_near S I Fd, hm, Fd.kp, bd__law_near Fd⟩),
      (by obtain ⟨f, fd, Fd, hm⟩ := S.d_law; exact ⟨f, fd, o_law S I Fd, hm, Fd.kp, bd_law Fd⟩)⟩
theorem facts {P : Program} {w : World} {K : PySem.W.Frag} {h : Heap} {mg : Str → Option Value} {f : Addr} (X : K.In h) (G : h.Ns mainGlobals mg) (hfa : mg ("law" : Str) = some (.ref f)) (c : He.SaysD fa fn K) :
    ∃ fd : FuncData, (∀ (s : Shared) (v : Value), BindsTo s fd ⟨[v], []⟩ [("_law_script", v)]) ∧ ∀ base : Heap, FnOk P w K mg base CX0 82 f fd ["_law_script"] (spLaw K) := by
  have S := st_of X G c
  obtain ⟨f', fd, Fd, hm⟩ := S.d_law
  have e : f' = f := by
    rw [hm] at hfa
    injection hfa with h1
    injection h1
  subst e
  exact ⟨fd, fun s v => Fd.bindsA (ps := ["_law_script"]) (fun _ _ _ _ _ _ us hl => match us, hl with | [_], _ => rfl) s [v] rfl, fun base => law_sp (o_law S (is_of S 40) Fd) law_ok⟩
abbrev R : PySem.W.OpenRow := PySem.W.OpenLaw.row PySem.Challenge.rw_lodepath_k02_whole_values_stand_in_one_o
abbrev hk : PySem.W.Hook := He.hookD 4 fa fn
def ob (s : PySem.W.SharedT) : He.AlD := He.obsDG 4 fa fn (HandSHeadRun.getT s)
theorem ob_eq (s : PySem.W.SharedT) : ob s = hk.obs s.abs := He.obsDG_eq (HandSHeadRun.getT_eq s)
theorem run (w : World) : HandSHeadRun.RunEq R (PySem.W.view R.prog [20]) hk ob 2000 loose w := by
  intro os
  kernel_rfl
end LK02
open PySem PySem.W PySem.Calls PyProof.Rows
theorem PySem.Challenge.cw_lodepath_k02_whole_values_stand_in_one_o_holds : PySem.Challenge.rw_lodepath_k02_whole_values_stand_in_one_o.Holds := by
  w_on; o_law
  refine HandSHeadRun.head_any (r := OpenLaw.row PySem.Challenge.rw_lodepath_k02_whole_values_stand_in_one_o) (q := view (OpenLaw.row PySem.Challenge.rw_lodepath_k02_whole_values_stand_in_one_o).prog [20]) (H := LK02.hk) (ob := LK02.ob) (M := 2000) (loose := LK02.loose) (d := HandSHeadRun.topDef (OpenLaw.row PySem.Challenge.rw_lodepath_k02_whole_values_stand_in_one_o).prog 20) (kwd := []) LK02.ob_eq
    (by kernel_rfl) (fun s => by kernel_rfl) LK02.run (by kernel_rfl) (by kernel_rfl) (by kernel_rfl) (by rfl) (by first | assumption | decide +kernel) (by decide +kernel) ⟨rfl, rfl, rfl, rfl, rfl, by decide +kernel⟩ ?hw ?hc
  case hw => w_witness2
  case hc =>
    refine L2.walk_ofE (l := PySem.Challenge.rw_lodepath_k02_whole_values_stand_in_one_o) (n := 63) (k := 82) (x := "_law_script") (CX := L2.CX0) rfl (by decide) (by kernel_rfl) ⟨rfl, by decide, by decide⟩ ?F (fun _ _ _ _ z => z)
    intro w mg fa h Y G hmg0
    obtain ⟨K, KX, c⟩ := Y
    have hmg : mg ("law" : PySem.Str) = some (.ref fa) := by
      have e : (HandSHeadRun.topDef (OpenLaw.row PySem.Challenge.rw_lodepath_k02_whole_values_stand_in_one_o).prog 20).name = ("law" : PySem.Str) := by kernel_rfl
      rw [← e]
      exact hmg0
    obtain ⟨fd, hb, hF⟩ := LK02.facts (P := (PySem.Challenge.rw_lodepath_k02_whole_values_stand_in_one_o).prog) (w := w) KX G hmg c
    exact ⟨K, fd, TL.spLaw K, KX, hb, fun H a ns hl _ hS => ⟨a, ns, rfl, hS, hl, fun _ => rfl⟩, fun base _ _ => hF base⟩

