import PyProof.Rows.All
import Wide.All
import OpenK.AllK
import Wide.FinOn
import HandS.ForMost
import HandS.Exc
import HandS.ExcOwn
import HandS.WordsExc
import HandS.Lambda
import HandS.Iter
import HandS.TupAny
import HandS.TupLe
import HandS.Deep
import HandS.NoneIn
import HandS.IsInst
import HandS.Codes
import HandS.SetFor
import HandS.Strs
import HandS.Comp
import HandS.Zip
import HandS.CallSlots
import HandS.SortInts
import HandS.Small
import HandS.Style
import KE.KDictList
import KE.KDictSum
import PyProof.Rows.SortShellAny
import KE.KDictZip
import KE.KTupSum
import KE.SortKeyHeap
import KE.SortData
import KE.KSortKey
import PyProof.TupleOfSeq
import HandS.DictComp
import KE.KItemsList
import HandS.ListItems
import KE.GoesZip
import KE.GoesMore
import KE.DataFind
import HandS.Defaults
import KE.KUnpackStar
import HandS.ExcInit
import HandS.ExcField
import HandS.ExcIs
import KE.KExcIs
import KE.KExcInit
import KE.GoesEnum
import HandS.Sort
import PyProof.NeKinds
import HandS.WordsDict
import PyProof.EqKinds
import HandS.Rev
import HandS.DictEq
import PySem.Challenge.RW_weighdoors_k23_goals_or_not
set_option Elab.async false
set_option linter.all false
set_option maxRecDepth 100000
set_option maxHeartbeats 4000000
namespace DL
open PySem PySem.Spec PyProof.Rows L2
inductive D where
  | non | bl (b : Bool) | int (i : Int) | str (x : Str)
  | lst (xs : List D) | tup (xs : List D) | dct (kvs : List (Key × D))
  | obj (C : Addr) (fs : List (Str × D)) | own (k : Nat) | val (v : V) | scr (ns : List Int) | exn (C : Addr) (fs : List (Str × D))
inductive MO where
  | lst (xs : List D) | dct (kvs : List (Key × D)) | ins (C : Addr) (fs : List (Str × D)) | pen (n : Nat) | gone
def MO.live : MO → Bool
  | .gone => false
  | _ => true
section
variable {α β : Type}
def gval (kvs : List (Key × α)) (k : Key) : Option α := (kvs.find? fun kv => decide (kv.1 = k)).map (·.2)
def gput (kvs : List (Key × α)) (k : Key) (v : α) : List (Key × α) :=
  if (kvs.any fun kv => decide (kv.1 = k)) = true then kvs.map (fun kv => if kv.1 = k then (kv.1, v) else kv) else kvs ++ [(k, v)]
def gdrop (kvs : List (Key × α)) (k : Key) : List (Key × α) := kvs.filter fun kv => decide (kv.1 ≠ k)
def gmerge (kvs more : List (Key × α)) : List (Key × α) := more.foldl (fun acc kv => gput acc kv.1 kv.2) kvs
theorem gval_pos {j k : Key} {x : α} {r : List (Key × α)} (e : j = k) : gval ((j, x) :: r) k = some x := by simp [gval, List.find?_cons, e]
theorem gval_neg {j k : Key} {x : α} {r : List (Key × α)} (e : ¬ j = k) : gval ((j, x) :: r) k = gval r k := by simp [gval, List.find?_cons, e]
end
def tob (its : Array Value) : Obj := { cls := .type "tuple", data := .seq its }
def TupA (K : PySem.W.Frag) (F : Hp) (a : Addr) (xs : List V) : Prop :=
  (∃ its, F a = some (.frz (tob its) (.tup xs))) ∨
    ∃ (o : Obj) (its : Array Value) (n : Nat), K.lookup a = some o ∧ o.cls = .type "tuple" ∧ o.dict = none ∧ o.data = .seq its n ∧ its.size ≤ sizeLine ∧ Vals xs its.toList
theorem TupA.sqT {K : PySem.W.Frag} {F : Hp} {a : Addr} {xs : List V} (h : TupA K F a xs) : SqT K F a xs :=
  h.elim (fun ⟨_, h⟩ => .inl (.inr ⟨_, h⟩)) (fun ⟨o, its, n, h1, h2, _, h4⟩ => .inr ⟨o, its, n, h1, h2, h4⟩)
def exc (a C : Addr) (d : Option Addr) : HO := .ext fun h => ∃ o : Obj, h.get? a = some o ∧ Zc (.ref C) d o ∧ ∃ vs, o.data = .fields vs
section
variable (K : PySem.W.Frag) (F : Hp) (as : List Addr)
mutual
def Rp : D → V → Prop
  | .non, v => v = .non
  | .bl b, v => v = .bl b
  | .int i, v => v = .int i
  | .str x, v => v = .str x
  | .lst xs, v => ∃ a vs, v = .ref a ∧ F a = some (.lst vs) ∧ RpL xs vs
  | .tup xs, v => ∃ a vs, v = .ref a ∧ TupA K F a vs ∧ RpL xs vs
  | .dct kvs, v => ∃ a o ws, v = .ref a ∧ F a = some (.frz o (.dK ws)) ∧ RpK kvs ws
  | .obj C fs, v => ∃ a dx ws, v = .ref a ∧ F a = some (.ins C dx ws) ∧ RpF fs ws
  | .own k, v => ∃ a, as[k]? = some a ∧ v = .ref a
  | .val w, v => v = w
  | .scr ns, v => ∃ a, v = .ref a ∧ SqL K F a (ns.map .int)
  | .exn C fs, v => ∃ a d ws, v = .ref a ∧ F a = some (exc a C d) ∧ (∀ b, d = some b → F b = some (.xd ws)) ∧ (d = none → ws = []) ∧ RpF fs ws
def RpL : List D → List V → Prop
  | [], vs => vs = []
  | x :: xs, vs => ∃ v r, vs = v :: r ∧ Rp x v ∧ RpL xs r
def RpK : List (Key × D) → List (Key × V) → Prop
  | [], ws => ws = []
  | (k, x) :: xs, ws => ∃ v r, ws = (k, v) :: r ∧ Rp x v ∧ RpK xs r
def RpF : List (Str × D) → List (Str × V) → Prop
  | [], ws => ws = []
  | (k, x) :: xs, ws => ∃ v r, ws = (k, v) :: r ∧ Rp x v ∧ RpF xs r
end
end
def Pl : HO → Prop
  | .lst _ => True
  | .tup _ => True
  | .dK _ => True
  | .dT _ => True
  | _ => False
def Ps : HO → Prop
  | .frz _ _ => True
  | .lst _ => True
  | .ins _ _ _ => True
  | .own _ => True
  | .xd _ => True
  | .met _ _ => True
  | .rng _ _ => True
  | .ext _ => True
  | _ => False
structure Er (F F' : Hp) : Prop where
  rd : ∀ a o, Pl o → Rd F a o → Rd F' a o
  ex : ∀ a o, Ps o → F a = some o → F' a = some o
  dm : ∀ a, F' a = none → F a = none
theorem Er.refl (F : Hp) : Er F F := ⟨fun _ _ _ h => h, fun _ _ _ h => h, fun _ h => h⟩
theorem Er.trans {F F1 F2 : Hp} (a : Er F F1) (b : Er F1 F2) : Er F F2 := ⟨fun x o p h => b.rd x o p (a.rd x o p h), fun x o p h => b.ex x o p (a.ex x o p h), fun x h => a.dm x (b.dm x h)⟩
theorem Er.of {F F' : Hp} (h : ∀ a o, F a = some o → F' a = some o) : Er F F' :=
  ⟨fun a o _ q => q.elim (fun q => .inl (h a o q)) (fun ⟨ob, q⟩ => .inr ⟨ob, h a _ q⟩), fun a o _ q => h a o q, fun a q => by
    cases e : F a with
    | none => rfl
    | some o => rw [h a o e] at q; cases q⟩
theorem Er.new {F : Hp} {p : Addr} {o : HO} (h : F p = none) : Er F (upd F p o) := .of fun a u e => by
  rw [upd_ne (ne_of_none e h)]; exact e
theorem Er.sqL {K : PySem.W.Frag} {F F' : Hp} (e : Er F F') {a : Addr} {xs : List V} (h : SqL K F a xs) : SqL K F' a xs := h.elim (fun h => .inl (e.rd a _ trivial h)) .inr
theorem Er.sqT {K : PySem.W.Frag} {F F' : Hp} (e : Er F F') {a : Addr} {xs : List V} (h : SqT K F a xs) : SqT K F' a xs := h.elim (fun h => .inl (e.rd a _ trivial h)) .inr
theorem Er.tup {K : PySem.W.Frag} {F F' : Hp} (e : Er F F') {a : Addr} {xs : List V} (h : TupA K F a xs) : TupA K F' a xs := h.elim (fun ⟨its, h⟩ => .inl ⟨its, e.ex a _ trivial h⟩) .inr
theorem pre_get {as as' : List Addr} (h : as <+: as') {k : Nat} {a : Addr} (e : as[k]? = some a) : as'[k]? = some a := by
  obtain ⟨t, rfl⟩ := h
  rw [List.getElem?_append_left (List.getElem?_eq_some_iff.mp e).1]
  exact e
section
variable {K : PySem.W.Frag} {F F' : Hp} {as as' : List Addr}
mutual
theorem Rp.mono (e : Er F F') (p : as <+: as') : ∀ (d : D) (v : V), Rp K F as d v → Rp K F' as' d v
  | .non, _, h => h
  | .bl _, _, h => h
  | .int _, _, h => h
  | .str _, _, h => h
  | .lst xs, _, ⟨a, vs, h1, h2, h3⟩ => ⟨a, vs, h1, e.ex _ _ trivial h2, RpL.mono e p xs vs h3⟩
  | .tup xs, _, ⟨a, vs, h1, h2, h3⟩ => ⟨a, vs, h1, e.tup h2, RpL.mono e p xs vs h3⟩
  | .dct kvs, _, ⟨a, o, ws, h1, h2, h3⟩ => ⟨a, o, ws, h1, e.ex _ _ trivial h2, RpK.mono e p kvs ws h3⟩
  | .obj _ fs, _, ⟨a, dx, ws, h1, h2, h3⟩ => ⟨a, dx, ws, h1, e.ex _ _ trivial h2, RpF.mono e p fs ws h3⟩
  | .own _, _, ⟨a, h1, h2⟩ => ⟨a, pre_get p h1, h2⟩
  | .val _, _, h => h
  | .scr _, _, ⟨a, h1, h2⟩ => ⟨a, h1, e.sqL h2⟩
  | .exn _ fs, _, ⟨a, d, ws, h1, h2, h3, h4, h5⟩ => ⟨a, d, ws, h1, e.ex a (exc a _ d) trivial h2, fun b hb => e.ex _ _ trivial (h3 b hb), h4, RpF.mono e p fs ws h5⟩
theorem RpL.mono (e : Er F F') (p : as <+: as') : ∀ (ds : List D) (vs : List V), RpL K F as ds vs → RpL K F' as' ds vs
  | [], _, h => h
  | x :: xs, _, ⟨v, r, h1, h2, h3⟩ => ⟨v, r, h1, Rp.mono e p x v h2, RpL.mono e p xs r h3⟩
theorem RpK.mono (e : Er F F') (p : as <+: as') : ∀ (ds : List (Key × D)) (vs : List (Key × V)), RpK K F as ds vs → RpK K F' as' ds vs
  | [], _, h => h
  | (_, x) :: xs, _, ⟨v, r, h1, h2, h3⟩ => ⟨v, r, h1, Rp.mono e p x v h2, RpK.mono e p xs r h3⟩
theorem RpF.mono (e : Er F F') (p : as <+: as') : ∀ (ds : List (Str × D)) (vs : List (Str × V)), RpF K F as ds vs → RpF K F' as' ds vs
  | [], _, h => h
  | (_, x) :: xs, _, ⟨v, r, h1, h2, h3⟩ => ⟨v, r, h1, Rp.mono e p x v h2, RpF.mono e p xs r h3⟩
end
theorem RpL.len : ∀ {ds : List D} {vs : List V}, RpL K F as ds vs → ds.length = vs.length
  | [], _, h => by cases h; rfl
  | _ :: _, _, ⟨_, _, h1, _, h3⟩ => by subst h1; simp [RpL.len h3]
theorem RpK.len : ∀ {ds : List (Key × D)} {vs : List (Key × V)}, RpK K F as ds vs → ds.length = vs.length
  | [], _, h => by cases h; rfl
  | (_, _) :: _, _, ⟨_, _, h1, _, h3⟩ => by subst h1; simp [RpK.len h3]
theorem RpL.append : ∀ {ds es : List D} {vs us : List V}, RpL K F as ds vs → RpL K F as es us → RpL K F as (ds ++ es) (vs ++ us)
  | [], _, _, _, h, g => by cases h; exact g
  | _ :: _, _, _, _, ⟨v, r, h1, h2, h3⟩, g => by subst h1; exact ⟨v, _, rfl, h2, RpL.append h3 g⟩
theorem RpL.get : ∀ {ds : List D} {vs : List V} {i : Nat} {d : D}, RpL K F as ds vs → ds[i]? = some d → ∃ v, vs[i]? = some v ∧ Rp K F as d v
  | [], _, _, _, _, e => by simp at e
  | _ :: _, _, 0, _, ⟨v, r, h1, h2, _⟩, e => by subst h1; simp at e; subst e; exact ⟨v, rfl, h2⟩
  | _ :: _, _, i + 1, _, ⟨v, r, h1, _, h3⟩, e => by
    subst h1
    obtain ⟨w, q1, q2⟩ := RpL.get (i := i) h3 (by simpa using e)
    exact ⟨w, by simpa using q1, q2⟩
theorem RpL.get' {ds : List D} {vs : List V} {i : Nat} {v : V} (h : RpL K F as ds vs) (e : vs[i]? = some v) : ∃ d, ds[i]? = some d ∧ Rp K F as d v := by
  have hi := (List.getElem?_eq_some_iff.mp e).1
  rw [← h.len] at hi
  obtain ⟨w, q1, q2⟩ := h.get (List.getElem?_eq_getElem hi)
  rw [e] at q1; cases q1
  exact ⟨_, List.getElem?_eq_getElem hi, q2⟩
theorem RpL.take : ∀ {ds : List D} {vs : List V} (n : Nat), RpL K F as ds vs → RpL K F as (ds.take n) (vs.take n)
  | [], _, n, h => by cases h; simp [RpL]
  | _ :: _, _, 0, _ => rfl
  | _ :: _, _, n + 1, ⟨v, r, h1, h2, h3⟩ => by subst h1; exact ⟨v, _, rfl, h2, RpL.take n h3⟩
theorem RpL.drop : ∀ {ds : List D} {vs : List V} (n : Nat), RpL K F as ds vs → RpL K F as (ds.drop n) (vs.drop n)
  | [], _, n, h => by cases h; simp [RpL]
  | _ :: _, _, 0, h => h
  | _ :: _, _, n + 1, ⟨v, r, h1, h2, h3⟩ => by subst h1; exact RpL.drop n h3
theorem RpL.set {d : D} {v : V} (hv : Rp K F as d v) : ∀ {ds : List D} {vs : List V} (n : Nat), RpL K F as ds vs → RpL K F as (ds.set n d) (vs.set n v)
  | [], _, n, h => by cases h; rfl
  | _ :: _, _, 0, ⟨_, r, h1, _, h3⟩ => by subst h1; exact ⟨v, _, rfl, hv, h3⟩
  | _ :: _, _, n + 1, ⟨w, r, h1, h2, h3⟩ => by subst h1; exact ⟨w, _, rfl, h2, RpL.set hv n h3⟩
theorem RpL.erase : ∀ {ds : List D} {vs : List V} (n : Nat), RpL K F as ds vs → RpL K F as (ds.eraseIdx n) (vs.eraseIdx n)
  | [], _, n, h => by cases h; rfl
  | _ :: _, _, 0, ⟨_, r, h1, _, h3⟩ => by subst h1; exact h3
  | _ :: _, _, n + 1, ⟨w, r, h1, h2, h3⟩ => by subst h1; exact ⟨w, _, rfl, h2, RpL.erase n h3⟩
theorem RpL.reverse : ∀ {ds : List D} {vs : List V}, RpL K F as ds vs → RpL K F as ds.reverse vs.reverse
  | [], _, h => by cases h; rfl
  | d :: ds, _, ⟨w, r, h1, h2, h3⟩ => by
    subst h1
    simp only [List.reverse_cons]
    exact RpL.append (RpL.reverse h3) ⟨w, [], rfl, h2, rfl⟩
theorem RpL.dropLast : ∀ {ds : List D} {vs : List V}, RpL K F as ds vs → RpL K F as ds.dropLast vs.dropLast := fun {ds vs} h => by
  rw [List.dropLast_eq_take, List.dropLast_eq_take, h.len]
  exact h.take _
theorem RpL.mapInt : ∀ {ns : List Int}, RpL K F as (ns.map .int) (ns.map .int)
  | [] => rfl
  | n :: ns => ⟨.int n, _, rfl, rfl, RpL.mapInt⟩
theorem RpL.ofInt : ∀ {ns : List Int} {vs : List V}, RpL K F as (ns.map .int) vs → vs = ns.map .int
  | [], _, h => h
  | n :: ns, _, ⟨_, _, h1, h2, h3⟩ => by cases h2; rw [h1, RpL.ofInt h3]; rfl
theorem RpL.mapStr : ∀ {ns : List Str}, RpL K F as (ns.map .str) (ns.map .str)
  | [] => rfl
  | n :: ns => ⟨.str n, _, rfl, rfl, RpL.mapStr⟩
theorem RpL.ofStr : ∀ {ns : List Str} {vs : List V}, RpL K F as (ns.map .str) vs → vs = ns.map .str
  | [], _, h => h
  | n :: ns, _, ⟨_, _, h1, h2, h3⟩ => by cases h2; rw [h1, RpL.ofStr h3]; rfl
theorem RpL.mapBl : ∀ {ns : List Bool}, RpL K F as (ns.map .bl) (ns.map .bl)
  | [] => rfl
  | n :: ns => ⟨.bl n, _, rfl, rfl, RpL.mapBl⟩
theorem RpL.ofBl : ∀ {ns : List Bool} {vs : List V}, RpL K F as (ns.map .bl) vs → vs = ns.map .bl
  | [], _, h => h
  | n :: ns, _, ⟨_, _, h1, h2, h3⟩ => by cases h2; rw [h1, RpL.ofBl h3]; rfl
theorem RpK.val : ∀ {kvs : List (Key × D)} {ws : List (Key × V)} (k : Key), RpK K F as kvs ws → (∀ d, gval kvs k = some d → ∃ v, valV ws k = some v ∧ Rp K F as d v) ∧ (gval kvs k = none → valV ws k = none)
  | [], _, k, h => by cases h; exact ⟨fun _ q => (by simp [gval] at q), fun _ => rfl⟩
  | (j, x) :: xs, _, k, ⟨v, r, h1, h2, h3⟩ => by
    subst h1
    obtain ⟨ih1, ih2⟩ := RpK.val k h3
    by_cases e : j = k
    · rw [gval_pos e, valV_pos (p := (j, v)) e]
      exact ⟨fun d q => by cases q; exact ⟨v, rfl, h2⟩, fun q => by cases q⟩
    · rw [gval_neg e, valV_neg (p := (j, v)) e]
      exact ⟨ih1, ih2⟩
theorem RpK.isSome {kvs : List (Key × D)} {ws : List (Key × V)} (k : Key) (h : RpK K F as kvs ws) : (valV ws k).isSome = (gval kvs k).isSome := by
  obtain ⟨h1, h2⟩ := h.val k
  cases e : gval kvs k with
  | none => rw [h2 e]; rfl
  | some d => obtain ⟨v, q, _⟩ := h1 d e; rw [q]; rfl
theorem RpK.putMap {k : Key} {d : D} {v : V} (hv : Rp K F as d v) : ∀ {kvs : List (Key × D)} {ws : List (Key × V)}, RpK K F as kvs ws →
    RpK K F as (kvs.map fun kv => if kv.1 = k then (kv.1, d) else kv) (ws.map fun kv => if kv.1 = k then (kv.1, v) else kv)
  | [], _, h => by cases h; rfl
  | (j, x) :: xs, _, ⟨w, r, h1, h2, h3⟩ => by
    subst h1
    simp only [List.map_cons]
    by_cases e : j = k
    · rw [if_pos e, if_pos e]; exact ⟨v, _, rfl, hv, RpK.putMap hv h3⟩
    · rw [if_neg e, if_neg e]; exact ⟨w, _, rfl, h2, RpK.putMap hv h3⟩
theorem RpK.anyEq (k : Key) : ∀ {kvs : List (Key × D)} {ws : List (Key × V)}, RpK K F as kvs ws → (kvs.any fun kv => decide (kv.1 = k)) = (ws.any fun kv => decide (kv.1 = k))
  | [], _, h => by cases h; rfl
  | (j, x) :: xs, _, ⟨w, r, h1, h2, h3⟩ => by subst h1; simp only [List.any_cons, RpK.anyEq k h3]
theorem RpK.keys : ∀ {kvs : List (Key × D)} {ws : List (Key × V)}, RpK K F as kvs ws → ws.map (·.1) = kvs.map (·.1)
  | [], _, h => by cases h; rfl
  | (j, x) :: xs, _, ⟨w, r, h1, h2, h3⟩ => by subst h1; simp only [List.map_cons, RpK.keys h3]
theorem RpK.vals : ∀ {kvs : List (Key × D)} {ws : List (Key × V)}, RpK K F as kvs ws → RpL K F as (kvs.map (·.2)) (ws.map (·.2))
  | [], _, h => by cases h; rfl
  | (j, x) :: xs, _, ⟨w, r, h1, h2, h3⟩ => by subst h1; exact ⟨w, _, rfl, h2, RpK.vals h3⟩
theorem RpK.append : ∀ {ds es : List (Key × D)} {vs us : List (Key × V)}, RpK K F as ds vs → RpK K F as es us → RpK K F as (ds ++ es) (vs ++ us)
  | [], _, _, _, h, g => by cases h; exact g
  | (_, _) :: _, _, _, _, ⟨v, r, h1, h2, h3⟩, g => by subst h1; exact ⟨v, _, rfl, h2, RpK.append h3 g⟩
theorem RpF.look : ∀ {fs : List (Str × D)} {ws : List (Str × V)} (k : Str) {d : D}, RpF K F as fs ws → fs.lookup k = some d → ∃ v, ws.lookup k = some v ∧ Rp K F as d v
  | [], _, k, _, h, e => by simp [List.lookup] at e
  | (j, x) :: xs, _, k, d, ⟨v, r, h1, h2, h3⟩, e => by
    subst h1
    rw [List.lookup_cons] at e ⊢
    cases q : k == j with
    | true => rw [q] at e; cases e; exact ⟨v, rfl, h2⟩
    | false => rw [q] at e; exact RpF.look k h3 e
theorem RpF.none : ∀ {fs : List (Str × D)} {ws : List (Str × V)} (k : Str), RpF K F as fs ws → fs.lookup k = none → ws.lookup k = none
  | [], _, k, h, e => by cases h; rfl
  | (j, x) :: xs, _, k, ⟨v, r, h1, h2, h3⟩, e => by
    subst h1
    rw [List.lookup_cons] at e ⊢
    cases q : k == j with
    | true => rw [q] at e; cases e
    | false => rw [q] at e; exact RpF.none k h3 e
theorem RpK.put {k : Key} {d : D} {v : V} (hv : Rp K F as d v) {kvs : List (Key × D)} {ws : List (Key × V)} (h : RpK K F as kvs ws) : RpK K F as (gput kvs k d) (putK ws k v) := by
  unfold gput putK
  rw [h.anyEq k]
  split
  · exact h.putMap hv
  · exact h.append ⟨v, [], rfl, hv, rfl⟩
theorem RpK.drop (k : Key) : ∀ {kvs : List (Key × D)} {ws : List (Key × V)}, RpK K F as kvs ws → RpK K F as (gdrop kvs k) (dropK ws k)
  | [], _, h => by cases h; rfl
  | (j, x) :: xs, _, ⟨w, r, h1, h2, h3⟩ => by
    subst h1
    have ih := RpK.drop k h3
    unfold gdrop dropK at *
    rw [List.filter_cons, List.filter_cons]
    by_cases e : j = k
    · rw [if_neg (by simp [e]), if_neg (by simp [e])]; exact ih
    · rw [if_pos (by simp [e]), if_pos (by simp [e])]; exact ⟨w, _, rfl, h2, ih⟩
theorem RpK.merge : ∀ {more : List (Key × D)} {ms : List (Key × V)} {kvs : List (Key × D)} {ws : List (Key × V)}, RpK K F as more ms → RpK K F as kvs ws → RpK K F as (gmerge kvs more) (mergeK ws ms)
  | [], _, _, _, h, g => by cases h; exact g
  | (j, x) :: xs, _, _, _, ⟨w, r, h1, h2, h3⟩, g => by subst h1; exact RpK.merge (more := xs) (ms := r) h3 (g.put h2)
end
end DL
namespace DL
abbrev tP_door_kept : PySem.Addr := 56
def tabT : List (PySem.Addr × PySem.Str) := [(56, ("door_kept" : PySem.Str) ++ ".<locals>." ++ "<lambda>")]
end DL
namespace DL
open PySem PySem.Spec PyProof.Rows L2
theorem Er.trans' {F H : Hp} {p : Addr} {o : HO} (e : Er F H) (hF : F p = none) : Er F (upd H p o) :=
  ⟨fun a u q r => by
      have ne : a ≠ p := fun z => by
        subst z
        rcases r with r | ⟨_, r⟩ <;> rw [hF] at r <;> cases r
      rcases e.rd a u q r with r | ⟨ob, r⟩
      · exact .inl (by rw [upd_ne ne]; exact r)
      · exact .inr ⟨ob, by rw [upd_ne ne]; exact r⟩,
    fun a u q r => by
      have ne : a ≠ p := fun z => by subst z; rw [hF] at r; cases r
      rw [upd_ne ne]; exact e.ex a u q r,
    fun a q => by
      by_cases z : a = p
      · subst z; exact hF
      · rw [upd_ne z] at q; exact e.dm a q⟩
def PenOk (K : PySem.W.Frag) (F H : Hp) (n : Nat) (a : Addr) : Prop :=
  ∃ (c : Addr) (ns : List Int) (t r : Int), H a = some (.dK [(.inr "cells", .ref c), (.inr "turn", .int t), (.inr "rest", .int r)]) ∧ F c = some (.lst (ns.map V.int)) ∧ ns.length ≤ 63 ∧ 0 ≤ t ∧ t ≤ n ∧ 0 ≤ r
def MOk (K : PySem.W.Frag) (F : Hp) (as : List Addr) (H : Hp) (a : Addr) : MO → Prop
  | .lst xs => ∃ vs, H a = some (.lst vs) ∧ RpL K F as xs vs
  | .dct kvs => ∃ ws, H a = some (.dK ws) ∧ RpK K F as kvs ws
  | .ins C fs => ∃ dx ws, H a = some (.ins C dx ws) ∧ RpF K F as fs ws
  | .pen n => PenOk K F H n a
  | .gone => F a ≠ none
theorem MOk.mono {K : PySem.W.Frag} {F F' H H' : Hp} {as as' : List Addr} {a : Addr} (e : Er F F') (p : as <+: as') (q : H' a = H a) : ∀ {m : MO}, MOk K F as H a m → MOk K F' as' H' a m
  | .lst xs, ⟨vs, h1, h2⟩ => ⟨vs, q.trans h1, RpL.mono e p _ _ h2⟩
  | .dct xs, ⟨vs, h1, h2⟩ => ⟨vs, q.trans h1, RpK.mono e p _ _ h2⟩
  | .ins C fs, ⟨dx, ws, h1, h2⟩ => ⟨dx, ws, q.trans h1, RpF.mono e p _ _ h2⟩
  | .pen n, ⟨c, ns, t, r, h1, h2, h3⟩ => ⟨c, ns, t, r, q.trans h1, e.ex _ _ trivial h2, h3⟩
  | .gone, h => fun z => h (e.dm _ z)
theorem MOk.dead {K : PySem.W.Frag} {F F' H H' : Hp} {as as' : List Addr} {a : Addr} {m : MO} (l : m.live = false) (e : Er F F') (c : MOk K F as H a m) : MOk K F' as' H' a m := by
  cases m with
  | gone => exact fun z => c (e.dm _ z)
  | _ => cases l
theorem MOk.some {K : PySem.W.Frag} {F H : Hp} {as : List Addr} {a : Addr} : ∀ {m : MO}, MOk K F as H a m → m.live = true → ∃ o, H a = some o
  | .lst xs, ⟨vs, h1, h2⟩, _ => ⟨_, h1⟩
  | .dct xs, ⟨vs, h1, h2⟩, _ => ⟨_, h1⟩
  | .ins C fs, ⟨dx, ws, h1, h2⟩, _ => ⟨_, h1⟩
  | .pen n, ⟨c, ns, t, r, h1, h2, h3⟩, _ => ⟨_, h1⟩
  | .gone, _, h => by cases h
structure Hs (K : PySem.W.Frag) (R F : Hp) (as : List Addr) (mu : List MO) (H : Hp) : Prop where
  er : Er F H
  fr : ∀ a o, R a = some o → H a = some o
  frF : ∀ a o, R a = some o → F a = none
  frA : ∀ a, a ∈ as → R a = none
  ln : as.length = mu.length
  nd : ∀ (i j : Nat) a m n, as[i]? = some a → as[j]? = some a → mu[i]? = some m → mu[j]? = some n → m.live = true → n.live = true → i = j
  sep : ∀ (k : Nat) a m, as[k]? = some a → mu[k]? = some m → m.live = true → F a = none
  ct : ∀ (k : Nat) a m, as[k]? = some a → mu[k]? = some m → MOk K F as H a m
  tb : LamX.Tabs tabT H
  nt : ∀ a ps, H a = some (.tbl ps) → F a = none ∧ R a = none
def Pn : HO → Prop
  | .tbl _ => False
  | .ext _ => False
  | _ => True
theorem MOk.pn {K : PySem.W.Frag} {F H : Hp} {as : List Addr} {a : Addr} {o : HO} : ∀ {m : MO}, MOk K F as H a m → m.live = true → H a = Option.some o → Pn o
  | .lst xs, ⟨vs, h1, h2⟩, _, e => by rw [h1] at e; cases e; trivial
  | .dct xs, ⟨vs, h1, h2⟩, _, e => by rw [h1] at e; cases e; trivial
  | .ins C fs, ⟨dx, vs, h1, h2⟩, _, e => by rw [h1] at e; cases e; trivial
  | .pen n, ⟨c, ns, t, r, h1, h2, h3⟩, _, e => by rw [h1] at e; cases e; trivial
  | .gone, _, h, _ => by cases h
theorem tabs_upd {H : Hp} {p : Addr} {o : HO} (t : LamX.Tabs tabT H) (hp : ∀ u, H p = some u → Pn u) : LamX.Tabs tabT (upd H p o) := fun z hz => by
  obtain ⟨ps, h1, h2, h3⟩ := t z hz
  have keep : ∀ b u, H b = some u → ¬ Pn u → upd H p o b = some u := fun b u e n => by
    rw [upd_ne (fun w => n (hp u (by rw [← w]; exact e)))]; exact e
  refine ⟨ps, keep _ _ h1 (fun w => w), h2, fun pos cv hc => ?_⟩
  obtain ⟨c, e1, e2⟩ := h3 pos cv hc
  exact ⟨c, e1, keep _ _ e2 (fun w => w)⟩
theorem nt_upd {R F H : Hp} {p : Addr} {o : HO} (n : ∀ a ps, H a = some (.tbl ps) → F a = none ∧ R a = none) (ho : Pn o) : ∀ a ps, upd H p o a = some (.tbl ps) → F a = none ∧ R a = none := fun a ps e => by
  by_cases z : a = p
  · subst z; rw [upd_same] at e; cases e; exact ho.elim
  · rw [upd_ne z] at e; exact n a ps e
abbrev Sl := Option D
def At (K : PySem.W.Frag) (F : Hp) (as : List Addr) (dl : List Sl) (σ : L2.St) : Prop := dl.length = σ.length ∧ ∀ (i : Nat) d, dl[i]? = some (some d) → ∃ v, σ[i]? = some (some v) ∧ Rp K F as d v
theorem At.mono {K : PySem.W.Frag} {F F' : Hp} {as as' : List Addr} {dl : List Sl} {σ : L2.St} (e : Er F F') (p : as <+: as') (h : At K F as dl σ) : At K F' as' dl σ :=
  ⟨h.1, fun i d q => let ⟨v, h1, h2⟩ := h.2 i d q; ⟨v, h1, Rp.mono e p d v h2⟩⟩
theorem At.set {K : PySem.W.Frag} {F : Hp} {as : List Addr} {dl : List Sl} {σ : L2.St} {d : D} {v : V} (h : At K F as dl σ) (i : Nat) (r : Rp K F as d v) : At K F as (dl.set i (some d)) (σ.set i (some v)) := by
  refine ⟨by simp [h.1], fun j e q => ?_⟩
  by_cases hj : i = j
  · subst hj
    have hi : i < dl.length := by
      have := (List.getElem?_eq_some_iff.mp q).1
      simpa using this
    rw [List.getElem?_set_self hi] at q
    cases q
    exact ⟨v, List.getElem?_set_self (by rw [← h.1]; exact hi), r⟩
  · rw [List.getElem?_set_ne hj] at q
    rw [List.getElem?_set_ne hj]
    exact h.2 j e q
theorem At.setN {K : PySem.W.Frag} {F : Hp} {as : List Addr} {dl : List Sl} {σ : L2.St} {x : Option V} (h : At K F as dl σ) (i : Nat) : At K F as (dl.set i none) (σ.set i x) := by
  refine ⟨by simp [h.1], fun j e q => ?_⟩
  by_cases hj : i = j
  · subst hj
    have hi : i < dl.length := by
      have := (List.getElem?_eq_some_iff.mp q).1
      simpa using this
    rw [List.getElem?_set_self hi] at q
    cases q
  · rw [List.getElem?_set_ne hj] at q
    rw [List.getElem?_set_ne hj]
    exact h.2 j e q
section
variable {X : Cx}
def SE (X : Cx) (e : Expr) : TE := fun σ H Q => ∀ pins s, Inv X pins σ H s → wpAny (model X.prog X.w) X.A (eval e X.env) (EP X pins σ Q) X.xe s
def ST (X : Cx) (e : Expr) : TT := fun σ H Q => ∀ pins s, Inv X pins σ H s → wpAny (model X.prog X.w) X.A (isTrue e X.env (eval e X.env)) (TP X pins σ Q) X.xe s
def SW (X : Cx) (e : Expr) : TT := fun σ H Q => ∀ whole pins s, Inv X pins σ H s → wpAny (model X.prog X.w) X.A (isTrue e X.env whole) (TP X pins σ Q) X.xe s
def SA (X : Cx) (es : List Expr) : TA := fun σ H Q => ∀ (pos : Pos) pins s, Inv X pins σ H s → wpAny (model X.prog X.w) X.A (spliced (backTo pos (starEach es X.env))) (AP X pins σ Q) X.xe s
def SS (X : Cx) (st : Stmt) : TS := fun D σ H => ∀ pins s, Inv X pins σ H s → wpAny (model X.prog X.w) X.A (exec st X.env) (SP X pins D) X.xe s
def SSs (X : Cx) (st : List Stmt) : TS := fun D σ H => ∀ pins s, Inv X pins σ H s → wpAny (model X.prog X.w) X.A (execs st X.env) (SP X pins D) X.xe s
theorem SE.pe {e : Expr} : PE X e (SE X e) := ⟨fun pins s _ _ _ I h => h pins s I⟩
theorem ST.pt {e : Expr} : PT X e (ST X e) := ⟨fun pins s _ _ _ I h => h pins s I⟩
theorem SW.pw {e : Expr} : PW X e (SW X e) := ⟨fun wh pins s _ _ _ I h => h wh pins s I⟩
theorem SA.pa {es : List Expr} : PA X es (SA X es) := ⟨fun pos pins s _ _ _ I h => h pos pins s I⟩
theorem SS.ps {st : Stmt} : PS X st (SS X st) := ⟨fun pins s _ _ _ I h => h pins s I⟩
theorem SSs.pss {st : List Stmt} : PSs X st (SSs X st) := ⟨fun pins s _ _ _ I h => h pins s I⟩
theorem SE.by {e : Expr} {t : TE} (h : PE X e t) {σ : L2.St} {H : Hp} {Q : VK} (q : t σ H Q) : SE X e σ H Q := fun pins s I => h.run pins s σ H Q I q
theorem ST.by {e : Expr} {t : TT} (h : PT X e t) {σ : L2.St} {H : Hp} {Q : Bool → Hp → Prop} (q : t σ H Q) : ST X e σ H Q := fun pins s I => h.run pins s σ H Q I q
theorem SW.by {e : Expr} {t : TT} (h : PW X e t) {σ : L2.St} {H : Hp} {Q : Bool → Hp → Prop} (q : t σ H Q) : SW X e σ H Q := fun wh pins s I => h.run wh pins s σ H Q I q
theorem SA.by {es : List Expr} {t : TA} (h : PA X es t) {σ : L2.St} {H : Hp} {Q : List V → Hp → Prop} (q : t σ H Q) : SA X es σ H Q := fun pos pins s I => h.run pos pins s σ H Q I q
theorem SS.by {st : Stmt} {t : TS} (h : PS X st t) {σ : L2.St} {H : Hp} {D : Ends} (q : t D σ H) : SS X st D σ H := fun pins s I => h.run pins s σ H D I q
theorem SSs.by {st : List Stmt} {t : TS} (h : PSs X st t) {σ : L2.St} {H : Hp} {D : Ends} (q : t D σ H) : SSs X st D σ H := fun pins s I => h.run pins s σ H D I q
end
structure Xn where
  cls : Value
  fs : Option (List (Str × D))
abbrev DK := D → List MO → Prop
abbrev XP := Xn → List MO → Prop
def X0 : XP := fun _ _ => False
section
variable (K : PySem.W.Frag) (R F : Hp) (as : List Addr)
def Kont (Φ : DK) (Q : VK) : Prop := ∀ v x mu' F' as' H', Φ x mu' → Er F F' → as <+: as' → Hs K R F' as' mu' H' → Rp K F' as' x v → Q v H'
def KontT (Φ : Bool → List MO → Prop) (Q : Bool → Hp → Prop) : Prop := ∀ x mu' F' as' H', Φ x mu' → Er F F' → as <+: as' → Hs K R F' as' mu' H' → Q x H'
def KontA (Φ : List D → List MO → Prop) (Q : List V → Hp → Prop) : Prop := ∀ vs xs mu' F' as' H', Φ xs mu' → Er F F' → as <+: as' → Hs K R F' as' mu' H' → RpL K F' as' xs vs → Q vs H'
def KontO (Φ : MO → List MO → Prop) (Q : VK) : Prop := ∀ p m mu' F' as' H', Φ m mu' → Er F F' → as <+: as' → Hs K R F' as' mu' H' → R p = none → F' p = none → (∀ (k : Nat) m', as'[k]? = some p → mu'[k]? = some m' → m'.live = false) → MOk K F' as' H' p m → m.live = true → Q (.ref p) H'
def XOk (Hx : Hp) (F' : Hp) (as' : List Addr) (d : Option Addr) : Option (List (Str × D)) → Prop
  | none => d = none
  | some fs => ∃ b ws, d = some b ∧ Hx b = some (.xd ws) ∧ F' b = some (.xd ws) ∧ RpF K F' as' fs ws
def KontX (ε : XP) (W : Value → Option Addr → Hp → Prop) : Prop := ∀ (x : Xn) d mu' F' as' H', ε x mu' → Er F F' → as <+: as' → Hs K R F' as' mu' H' → XOk K H' F' as' d x.fs → W x.cls d H'
end
section
variable (X : Cx)
structure WE (X : Cx) (e : Expr) (dl : List Sl) (mu : List MO) (Φ : DK) (ε : XP)  : Prop where
  run : ∀ W R F as σ H Q, Takes X W → Hs X.K R F as mu H → At X.K F as dl σ → Kont X.K R F as Φ Q → KontX X.K R F as ε (fun c d H => W c d σ H) → SE X e σ H Q
instance {X : Cx} (e : Expr) (dl : List Sl) (mu : List MO) (Φ : DK) (ε : XP)  : CoeFun (WE X e dl mu Φ ε) (fun _ => ∀ W R F as σ H Q, Takes X W → Hs X.K R F as mu H → At X.K F as dl σ → Kont X.K R F as Φ Q → KontX X.K R F as ε (fun c d H => W c d σ H) → SE X e σ H Q) := ⟨fun h => h.run⟩
structure WO (X : Cx) (e : Expr) (dl : List Sl) (mu : List MO) (Φ : MO → List MO → Prop) (ε : XP)  : Prop where
  run : ∀ W R F as σ H Q, Takes X W → Hs X.K R F as mu H → At X.K F as dl σ → KontO X.K R F as Φ Q → KontX X.K R F as ε (fun c d H => W c d σ H) → SE X e σ H Q
instance {X : Cx} (e : Expr) (dl : List Sl) (mu : List MO) (Φ : MO → List MO → Prop) (ε : XP)  : CoeFun (WO X e dl mu Φ ε) (fun _ => ∀ W R F as σ H Q, Takes X W → Hs X.K R F as mu H → At X.K F as dl σ → KontO X.K R F as Φ Q → KontX X.K R F as ε (fun c d H => W c d σ H) → SE X e σ H Q) := ⟨fun h => h.run⟩
structure WT (X : Cx) (e : Expr) (dl : List Sl) (mu : List MO) (Φ : Bool → List MO → Prop) (ε : XP)  : Prop where
  run : ∀ W R F as σ H Q, Takes X W → Hs X.K R F as mu H → At X.K F as dl σ → KontT X.K R F as Φ Q → KontX X.K R F as ε (fun c d H => W c d σ H) → ST X e σ H Q
instance {X : Cx} (e : Expr) (dl : List Sl) (mu : List MO) (Φ : Bool → List MO → Prop) (ε : XP)  : CoeFun (WT X e dl mu Φ ε) (fun _ => ∀ W R F as σ H Q, Takes X W → Hs X.K R F as mu H → At X.K F as dl σ → KontT X.K R F as Φ Q → KontX X.K R F as ε (fun c d H => W c d σ H) → ST X e σ H Q) := ⟨fun h => h.run⟩
structure WW (X : Cx) (e : Expr) (dl : List Sl) (mu : List MO) (Φ : Bool → List MO → Prop) (ε : XP)  : Prop where
  run : ∀ W R F as σ H Q, Takes X W → Hs X.K R F as mu H → At X.K F as dl σ → KontT X.K R F as Φ Q → KontX X.K R F as ε (fun c d H => W c d σ H) → SW X e σ H Q
instance {X : Cx} (e : Expr) (dl : List Sl) (mu : List MO) (Φ : Bool → List MO → Prop) (ε : XP)  : CoeFun (WW X e dl mu Φ ε) (fun _ => ∀ W R F as σ H Q, Takes X W → Hs X.K R F as mu H → At X.K F as dl σ → KontT X.K R F as Φ Q → KontX X.K R F as ε (fun c d H => W c d σ H) → SW X e σ H Q) := ⟨fun h => h.run⟩
structure WA (X : Cx) (es : List Expr) (dl : List Sl) (mu : List MO) (Φ : List D → List MO → Prop) (ε : XP)  : Prop where
  run : ∀ W R F as σ H Q, Takes X W → Hs X.K R F as mu H → At X.K F as dl σ → KontA X.K R F as Φ Q → KontX X.K R F as ε (fun c d H => W c d σ H) → SA X es σ H Q
instance {X : Cx} (es : List Expr) (dl : List Sl) (mu : List MO) (Φ : List D → List MO → Prop) (ε : XP)  : CoeFun (WA X es dl mu Φ ε) (fun _ => ∀ W R F as σ H Q, Takes X W → Hs X.K R F as mu H → At X.K F as dl σ → KontA X.K R F as Φ Q → KontX X.K R F as ε (fun c d H => W c d σ H) → SA X es σ H Q) := ⟨fun h => h.run⟩
end
abbrev SK := List Sl → List MO → Prop
structure DEnds where
  nx : SK
  rt : DK
  bk : SK := fun _ _ => False
  ct : SK := fun _ _ => False
  ex : Xn → SK := fun _ _ _ => False
def KontS (K : PySem.W.Frag) (R F : Hp) (as : List Addr) (Ψ : SK) (N : L2.St → Hp → Prop) : Prop := ∀ dl' mu' F' as' σ' H', Ψ dl' mu' → Er F F' → as <+: as' → Hs K R F' as' mu' H' → At K F' as' dl' σ' → N σ' H'
structure KontE (X : Cx) (R F : Hp) (as : List Addr) (Ψ : DEnds) (W : WX) (E : Ends) : Prop where
  nx : KontS X.K R F as Ψ.nx E.nx
  rt : Kont X.K R F as Ψ.rt E.rt
  bk : KontS X.K R F as Ψ.bk E.bk
  ct : KontS X.K R F as Ψ.ct E.ct
  ex : ∀ (x : Xn) d dl' mu' F' as' σ' H', Ψ.ex x dl' mu' → Er F F' → as <+: as' → Hs X.K R F' as' mu' H' → At X.K F' as' dl' σ' → XOk X.K H' F' as' d x.fs → W x.cls d σ' H'
structure WS (X : Cx) (st : Stmt) (dl : List Sl) (mu : List MO) (Ψ : DEnds)  : Prop where
  run : ∀ W R F as σ H E, Takes X W → Hs X.K R F as mu H → At X.K F as dl σ → KontE X R F as Ψ W E → SS X st E σ H
instance {X : Cx} (st : Stmt) (dl : List Sl) (mu : List MO) (Ψ : DEnds)  : CoeFun (WS X st dl mu Ψ) (fun _ => ∀ W R F as σ H E, Takes X W → Hs X.K R F as mu H → At X.K F as dl σ → KontE X R F as Ψ W E → SS X st E σ H) := ⟨fun h => h.run⟩
structure WSs (X : Cx) (st : List Stmt) (dl : List Sl) (mu : List MO) (Ψ : DEnds)  : Prop where
  run : ∀ W R F as σ H E, Takes X W → Hs X.K R F as mu H → At X.K F as dl σ → KontE X R F as Ψ W E → SSs X st E σ H
instance {X : Cx} (st : List Stmt) (dl : List Sl) (mu : List MO) (Ψ : DEnds)  : CoeFun (WSs X st dl mu Ψ) (fun _ => ∀ W R F as σ H E, Takes X W → Hs X.K R F as mu H → At X.K F as dl σ → KontE X R F as Ψ W E → SSs X st E σ H) := ⟨fun h => h.run⟩
section
variable {K : PySem.W.Frag} {R F F1 : Hp} {as as1 : List Addr}
theorem Kont.go {Φ : DK} {Q : VK} (k : Kont K R F as Φ Q) (e : Er F F1) (p : as <+: as1) : Kont K R F1 as1 Φ Q := fun v x mu' F' as' H' h e' p' => k v x mu' F' as' H' h (e.trans e') (p.trans p')
theorem KontT.go {Φ : Bool → List MO → Prop} {Q : Bool → Hp → Prop} (k : KontT K R F as Φ Q) (e : Er F F1) (p : as <+: as1) : KontT K R F1 as1 Φ Q := fun x mu' F' as' H' h e' p' => k x mu' F' as' H' h (e.trans e') (p.trans p')
theorem KontA.go {Φ : List D → List MO → Prop} {Q : List V → Hp → Prop} (k : KontA K R F as Φ Q) (e : Er F F1) (p : as <+: as1) : KontA K R F1 as1 Φ Q := fun v x mu' F' as' H' h e' p' => k v x mu' F' as' H' h (e.trans e') (p.trans p')
theorem KontO.go {Φ : MO → List MO → Prop} {Q : VK} (k : KontO K R F as Φ Q) (e : Er F F1) (p : as <+: as1) : KontO K R F1 as1 Φ Q := fun v x mu' F' as' H' h e' p' => k v x mu' F' as' H' h (e.trans e') (p.trans p')
theorem KontX.go {ε : XP} {W : Value → Option Addr → Hp → Prop} (k : KontX K R F as ε W) (e : Er F F1) (p : as <+: as1) : KontX K R F1 as1 ε W := fun x d mu' F' as' H' h e' p' => k x d mu' F' as' H' h (e.trans e') (p.trans p')
theorem KontS.go {Ψ : SK} {N : L2.St → Hp → Prop} (k : KontS K R F as Ψ N) (e : Er F F1) (p : as <+: as1) : KontS K R F1 as1 Ψ N := fun a b F' as' c d h e' p' => k a b F' as' c d h (e.trans e') (p.trans p')
end
theorem KontE.go {X : Cx} {R F F1 : Hp} {as as1 : List Addr} {Ψ : DEnds} {W : WX} {E : Ends} (k : KontE X R F as Ψ W E) (e : Er F F1) (p : as <+: as1) : KontE X R F1 as1 Ψ W E :=
  ⟨k.nx.go e p, k.rt.go e p, k.bk.go e p, k.ct.go e p, fun x d dl' mu' F' as' σ' H' h e' p' => k.ex x d dl' mu' F' as' σ' H' h (e.trans e') (p.trans p')⟩
theorem KontE.toX {X : Cx} {R F : Hp} {as : List Addr} {Ψ : DEnds} {W : WX} {E : Ends} (k : KontE X R F as Ψ W E) {dl : List Sl} {σ : L2.St} (h : At X.K F as dl σ) : KontX X.K R F as (fun x mu => Ψ.ex x dl mu) (fun c d H => W c d σ H) :=
  fun x d mu' F' as' H' q e p hs xo => k.ex x d dl mu' F' as' σ H' q e p hs (h.mono e p) xo
section
variable {K : PySem.W.Frag} {R F H : Hp} {as : List Addr} {mu : List MO} {p : Addr} {o : HO}
theorem Hs.free (h : Hs K R F as mu H) (hp : H p = none) : F p = none ∧ R p = none ∧ ∀ (k : Nat) m, as[k]? = some p → mu[k]? = some m → m.live = false := by
  refine ⟨h.er.dm p hp, ?_, fun k m e1 e2 => ?_⟩
  · cases q : R p with
    | none => rfl
    | some o => rw [h.fr p o q] at hp; cases hp
  · cases q : m.live with
    | false => rfl
    | true =>
      obtain ⟨o, e⟩ := (h.ct k p m e1 e2).some q
      rw [hp] at e; cases e
theorem Hs.grow {H' : Hp} (h : Hs K R F as mu H) (k : ∀ a o, H a = some o → H' a = some o) (kn : ∀ a ps, H' a = some (.tbl ps) → F a = none ∧ R a = none) : Hs K R F as mu H' where
  tb := h.tb.ext k
  nt := kn
  er := h.er.trans (.of k)
  fr a o e := k a o (h.fr a o e)
  frF := h.frF
  frA := h.frA
  ln := h.ln
  nd := h.nd
  sep := h.sep
  ct i a m e1 e2 := by
    have c := h.ct i a m e1 e2
    cases m with
    | gone => exact c
    | lst xs => obtain ⟨vs, q1, q2⟩ := c; exact ⟨vs, k _ _ q1, q2⟩
    | dct xs => obtain ⟨vs, q1, q2⟩ := c; exact ⟨vs, k _ _ q1, q2⟩
    | ins C fs => obtain ⟨dx, vs, q1, q2⟩ := c; exact ⟨dx, vs, k _ _ q1, q2⟩
    | pen n => obtain ⟨c, ns, t, r, q1, q2⟩ := c; exact ⟨c, ns, t, r, k _ _ q1, q2⟩
theorem Hs.up (h : Hs K R F as mu H) (hp : H p = none) (ho : Pn o := by trivial) : Hs K R F as mu (upd H p o) := h.grow (fun a u e => by
  rw [upd_ne (ne_of_none e hp)]; exact e) (nt_upd h.nt ho)
theorem Hs.tell (h : Hs K R F as mu H) (hp : H p = some o) (hF : F p = none) (hR : R p = none) (hA : ∀ (k : Nat) m, as[k]? = some p → mu[k]? = some m → m.live = false) (ho : Pn o := by trivial) : Hs K R (upd F p o) as mu H where
  tb := h.tb
  nt a ps e := by
    have ne : a ≠ p := fun z => by subst z; rw [hp] at e; cases e; exact ho.elim
    rw [upd_ne ne]; exact h.nt a ps e
  er := ⟨fun a u q r => by
    by_cases e : a = p
    · subst e
      rcases r with r | ⟨ob, r⟩
      · rw [upd_same] at r; cases r; exact .inl hp
      · rw [upd_same] at r; cases r; exact .inr ⟨ob, hp⟩
    · refine h.er.rd a u q ?_
      rcases r with r | ⟨ob, r⟩
      · rw [upd_ne e] at r; exact .inl r
      · rw [upd_ne e] at r; exact .inr ⟨ob, r⟩,
    fun a u q r => by
    by_cases e : a = p
    · subst e; rw [upd_same] at r; cases r; exact hp
    · rw [upd_ne e] at r; exact h.er.ex a u q r,
    fun a q => by
    by_cases e : a = p
    · subst e; rw [hp] at q; cases q
    · rw [upd_ne e]; exact h.er.dm a q⟩
  fr := h.fr
  frF a u e := by
    have ne : a ≠ p := fun z => by subst z; rw [hR] at e; cases e
    rw [upd_ne ne]; exact h.frF a u e
  frA := h.frA
  ln := h.ln
  nd := h.nd
  sep k a m e1 e2 q := by
    have ne : a ≠ p := fun z => by
      subst z
      have := hA k m e1 e2
      rw [q] at this; cases this
    rw [upd_ne ne]; exact h.sep k a m e1 e2 q
  ct k a m e1 e2 := (h.ct k a m e1 e2).mono (Er.new hF) (List.prefix_refl _) rfl
theorem Hs.over (h : Hs K R F as mu H) (hF : F p = none) (hR : R p = none) (hA : ∀ (k : Nat) m, as[k]? = some p → mu[k]? = some m → m.live = false) (hp : ∀ u, H p = some u → Pn u) (ho : Pn o := by trivial) : Hs K R F as mu (upd H p o) where
  tb := tabs_upd h.tb hp
  nt := nt_upd h.nt ho
  er := h.er.trans' hF
  fr a u e := by
    have ne : a ≠ p := fun z => by subst z; rw [hR] at e; cases e
    rw [upd_ne ne]; exact h.fr a u e
  frF := h.frF
  frA := h.frA
  ln := h.ln
  nd := h.nd
  sep := h.sep
  ct k a m e1 e2 := by
    cases q : m.live with
    | false => exact (h.ct k a m e1 e2).dead q (Er.refl F)
    | true =>
      have ne : a ≠ p := fun z => by
        subst z
        have := hA k m e1 e2
        rw [q] at this; cases this
      exact (h.ct k a m e1 e2).mono (Er.refl F) (List.prefix_refl _) (upd_ne ne)
theorem Hs.laid (h : Hs K R F as mu H) (hp : H p = none) (ho : Pn o := by trivial) : Hs K R (upd F p o) as mu (upd H p o) ∧ Er F (upd F p o) := by
  obtain ⟨h1, h2, h3⟩ := h.free hp
  exact ⟨(h.up hp ho).tell upd_same h1 h2 h3 ho, Er.new h1⟩
theorem Hs.more {m : MO} (h : Hs K R F as mu H) (hF : F p = none) (hR : R p = none) (hA : ∀ (k : Nat) m, as[k]? = some p → mu[k]? = some m → m.live = false) (c : MOk K F as H p m) : Hs K R F (as ++ [p]) (mu ++ [m]) H where
  tb := h.tb
  nt := h.nt
  er := h.er
  fr := h.fr
  frF := h.frF
  frA a e := by
    rcases List.mem_append.mp e with e | e
    · exact h.frA a e
    · rw [List.mem_singleton.mp e]; exact hR
  ln := by simp [h.ln]
  nd i j a m1 m2 e1 e2 e3 e4 l1 l2 := by
    have hl := h.ln
    by_cases hi : i < as.length
    · rw [List.getElem?_append_left hi] at e1
      rw [List.getElem?_append_left (by omega)] at e3
      by_cases hj : j < as.length
      · rw [List.getElem?_append_left hj] at e2
        rw [List.getElem?_append_left (by omega)] at e4
        exact h.nd i j a m1 m2 e1 e2 e3 e4 l1 l2
      · have hj' : j = as.length := by have := (List.getElem?_eq_some_iff.mp e2).1; simp at this; omega
        subst hj'
        simp at e2; subst e2
        have := hA i m1 e1 e3
        rw [l1] at this; cases this
    · have hi' : i = as.length := by have := (List.getElem?_eq_some_iff.mp e1).1; simp at this; omega
      subst hi'
      simp at e1; subst e1
      by_cases hj : j < as.length
      · rw [List.getElem?_append_left hj] at e2
        rw [List.getElem?_append_left (by omega)] at e4
        have := hA j m2 e2 e4
        rw [l2] at this; cases this
      · have := (List.getElem?_eq_some_iff.mp e2).1; simp at this; omega
  sep k a m1 e1 e2 l := by
    have hl := h.ln
    by_cases hk : k < as.length
    · rw [List.getElem?_append_left hk] at e1
      rw [List.getElem?_append_left (by omega)] at e2
      exact h.sep k a m1 e1 e2 l
    · have hk' : k = as.length := by have := (List.getElem?_eq_some_iff.mp e1).1; simp at this; omega
      subst hk'
      simp at e1; subst e1; exact hF
  ct k a m1 e1 e2 := by
    have hl := h.ln
    by_cases hk : k < as.length
    · rw [List.getElem?_append_left hk] at e1
      rw [List.getElem?_append_left (by omega)] at e2
      exact (h.ct k a m1 e1 e2).mono (Er.refl F) (List.prefix_append _ _) rfl
    · have hk' : k = as.length := by have := (List.getElem?_eq_some_iff.mp e1).1; simp at this; omega
      subst hk'
      simp at e1; subst e1
      have e3 : (mu ++ [m])[as.length]? = some m := by rw [hl]; simp
      rw [e3] at e2; cases e2
      exact c.mono (Er.refl F) (List.prefix_append _ _) rfl
theorem Hs.put {m m' : MO} {k : Nat} (h : Hs K R F as mu H) (e1 : as[k]? = some p) (e2 : mu[k]? = some m) (hl : m.live = true) (c : MOk K F as (upd H p o) p m') (ho : Pn o := by trivial) : Hs K R F as (mu.set k m') (upd H p o) where
  tb := tabs_upd h.tb fun u eu => (h.ct k p m e1 e2).pn hl eu
  nt := nt_upd h.nt ho
  er := ⟨fun a u q r => by
      have ne : a ≠ p := fun z => by
        subst z
        have := h.sep k a m e1 e2 hl
        rcases r with r | ⟨_, r⟩ <;> rw [this] at r <;> cases r
      rcases h.er.rd a u q r with r | ⟨ob, r⟩
      · exact .inl (by rw [upd_ne ne]; exact r)
      · exact .inr ⟨ob, by rw [upd_ne ne]; exact r⟩,
    fun a u q r => by
      have ne : a ≠ p := fun z => by subst z; rw [h.sep k a m e1 e2 hl] at r; cases r
      rw [upd_ne ne]; exact h.er.ex a u q r,
    fun a q => by
      by_cases e : a = p
      · subst e; rw [upd_same] at q; cases q
      · rw [upd_ne e] at q; exact h.er.dm a q⟩
  fr a u e := by
    have ne : a ≠ p := fun z => by subst z; rw [h.frA a (List.mem_of_getElem? e1)] at e; cases e
    rw [upd_ne ne]; exact h.fr a u e
  frF := h.frF
  frA := h.frA
  ln := by simp [h.ln]
  nd i j a m1 m2 f1 f2 f3 f4 l1 l2 := by
    by_cases hi : k = i
    · subst hi
      rw [e1] at f1; cases f1
      by_cases hj : k = j
      · exact hj
      · rw [List.getElem?_set_ne hj] at f4
        exact h.nd k j p m m2 e1 f2 e2 f4 hl l2
    · rw [List.getElem?_set_ne hi] at f3
      by_cases hj : k = j
      · subst hj
        rw [e1] at f2; cases f2
        exact h.nd i k p m1 m f1 e1 f3 e2 l1 hl
      · rw [List.getElem?_set_ne hj] at f4
        exact h.nd i j a m1 m2 f1 f2 f3 f4 l1 l2
  sep i a m1 f1 f2 l := by
    by_cases hi : k = i
    · subst hi
      rw [e1] at f1; cases f1
      exact h.sep k p m e1 e2 hl
    · rw [List.getElem?_set_ne hi] at f2
      exact h.sep i a m1 f1 f2 l
  ct i a m1 f1 f2 := by
    by_cases hi : k = i
    · subst hi
      rw [e1] at f1; cases f1
      have hk : k < mu.length := (List.getElem?_eq_some_iff.mp e2).1
      rw [List.getElem?_set_self hk] at f2; cases f2
      exact c
    · rw [List.getElem?_set_ne hi] at f2
      cases q : m1.live with
      | false => exact (h.ct i a m1 f1 f2).dead q (Er.refl F)
      | true =>
        have ne : a ≠ p := fun z => by subst z; exact hi (h.nd k i a m m1 e1 f1 e2 f2 hl q)
        exact (h.ct i a m1 f1 f2).mono (Er.refl F) (List.prefix_refl _) (upd_ne ne)
theorem Hs.freeze {m : MO} {k : Nat} (h : Hs K R F as mu H) (e1 : as[k]? = some p) (e2 : mu[k]? = some m) (hl : m.live = true) (hp : H p = some o) : Hs K R (upd F p o) as (mu.set k .gone) H ∧ Er F (upd F p o) := by
  have hF := h.sep k p m e1 e2 hl
  have hR := h.frA p (List.mem_of_getElem? e1)
  have hk : k < mu.length := (List.getElem?_eq_some_iff.mp e2).1
  refine ⟨⟨?_, h.fr, fun a u e => ?_, h.frA, by simp [h.ln], fun i j a m1 m2 f1 f2 f3 f4 l1 l2 => ?_, fun i a m1 f1 f2 l => ?_, fun i a m1 f1 f2 => ?_, h.tb, fun a ps e => ?_⟩, Er.new hF⟩
  · exact ⟨fun a u q r => by
      by_cases e : a = p
      · subst e
        rcases r with r | ⟨ob, r⟩
        · rw [upd_same] at r; cases r; exact .inl hp
        · rw [upd_same] at r; cases r; exact .inr ⟨ob, hp⟩
      · refine h.er.rd a u q ?_
        rcases r with r | ⟨ob, r⟩
        · rw [upd_ne e] at r; exact .inl r
        · rw [upd_ne e] at r; exact .inr ⟨ob, r⟩,
      fun a u q r => by
      by_cases e : a = p
      · subst e; rw [upd_same] at r; cases r; exact hp
      · rw [upd_ne e] at r; exact h.er.ex a u q r,
      fun a q => by
      by_cases e : a = p
      · subst e; rw [hp] at q; cases q
      · rw [upd_ne e]; exact h.er.dm a q⟩
  · have ne : a ≠ p := fun z => by subst z; rw [hR] at e; cases e
    rw [upd_ne ne]; exact h.frF a u e
  · by_cases hi : k = i
    · subst hi; rw [List.getElem?_set_self hk] at f3; cases f3; cases l1
    · by_cases hj : k = j
      · subst hj; rw [List.getElem?_set_self hk] at f4; cases f4; cases l2
      · rw [List.getElem?_set_ne hi] at f3
        rw [List.getElem?_set_ne hj] at f4
        exact h.nd i j a m1 m2 f1 f2 f3 f4 l1 l2
  · by_cases hi : k = i
    · subst hi; rw [List.getElem?_set_self hk] at f2; cases f2; cases l
    · rw [List.getElem?_set_ne hi] at f2
      have ne : a ≠ p := fun z => by subst z; exact hi (h.nd k i a m m1 e1 f1 e2 f2 hl l)
      rw [upd_ne ne]; exact h.sep i a m1 f1 f2 l
  · by_cases hi : k = i
    · subst hi
      rw [List.getElem?_set_self hk] at f2; cases f2
      rw [e1] at f1; cases f1
      show upd F p o p ≠ none
      rw [upd_same]; intro z; cases z
    · rw [List.getElem?_set_ne hi] at f2
      exact (h.ct i a m1 f1 f2).mono (Er.new hF) (List.prefix_refl _) rfl
  · have ne : a ≠ p := fun z => by
      subst z
      exact (h.ct k a m e1 e2).pn hl e
    rw [upd_ne ne]; exact h.nt a ps e
theorem Hs.ne_new {q : Addr} (h : Hs K R F as mu H) (hq : H q = none) : ∀ a, a ∈ as → a ≠ q := fun a ha z => by
  subst z
  obtain ⟨j, hj⟩ := List.getElem?_of_mem ha
  have hjl : j < mu.length := by rw [← h.ln]; exact (List.getElem?_eq_some_iff.mp hj).1
  have c := h.ct j a _ hj (List.getElem?_eq_getElem hjl)
  cases l : (mu[j]).live with
  | true => obtain ⟨o, e⟩ := c.some l; rw [hq] at e; cases e
  | false =>
    generalize mu[j] = m at *
    cases m with
    | gone => exact c (h.er.dm a hq)
    | _ => cases l
end
end DL
namespace DL
open PySem PySem.Spec PyProof.Rows L2
def rdD (mu : List MO) : D → D
  | .own k => match mu[k]? with
    | some (.lst xs) => .lst xs
    | some (.dct kvs) => .dct kvs
    | some (.ins C fs) => .obj C fs
    | _ => .own k
  | d => d
def Vw (K : PySem.W.Frag) (F : Hp) (as : List Addr) (H : Hp) : D → V → Prop
  | .lst xs, v => ∃ a vs, v = .ref a ∧ H a = some (.lst vs) ∧ RpL K F as xs vs
  | .tup xs, v => ∃ a vs, v = .ref a ∧ TupA K F a vs ∧ RpL K F as xs vs
  | .dct kvs, v => ∃ a ws, v = .ref a ∧ Rd H a (.dK ws) ∧ RpK K F as kvs ws
  | .obj C fs, v => ∃ a dx ws, v = .ref a ∧ H a = some (.ins C dx ws) ∧ RpF K F as fs ws
  | .scr ns, v => ∃ a, v = .ref a ∧ SqL K H a (ns.map .int)
  | d, v => Rp K F as d v
section
variable {K : PySem.W.Frag} {R F H : Hp} {as : List Addr} {mu : List MO} {v : V}
theorem Hs.view (h : Hs K R F as mu H) : ∀ {x : D}, Rp K F as x v → Vw K F as H (rdD mu x) v
  | .non, r => r
  | .bl _, r => r
  | .int _, r => r
  | .str _, r => r
  | .lst xs, ⟨a, vs, h1, h2, h3⟩ => ⟨a, vs, h1, h.er.ex _ _ trivial h2, h3⟩
  | .tup xs, r => r
  | .dct kvs, ⟨a, o, ws, h1, h2, h3⟩ => ⟨a, ws, h1, .inr ⟨o, h.er.ex _ _ trivial h2⟩, h3⟩
  | .obj C fs, ⟨a, dx, ws, h1, h2, h3⟩ => ⟨a, dx, ws, h1, h.er.ex _ _ trivial h2, h3⟩
  | .val _, r => r
  | .scr _, ⟨a, h1, h2⟩ => ⟨a, h1, h.er.sqL h2⟩
  | .exn _ _, r => r
  | .own k, r => by
    obtain ⟨a, e1, e2⟩ := id r
    have hk : k < mu.length := by rw [← h.ln]; exact (List.getElem?_eq_some_iff.mp e1).1
    obtain ⟨m, e3⟩ : ∃ m, mu[k]? = some m := ⟨_, List.getElem?_eq_getElem hk⟩
    have c := h.ct k a m e1 e3
    show Vw K F as H (match mu[k]? with
      | some (.lst xs) => D.lst xs
      | some (.dct kvs) => .dct kvs
      | some (.ins C fs) => .obj C fs
      | _ => .own k) v
    rw [e3]
    cases m with
    | lst xs => obtain ⟨vs, q1, q2⟩ := c; exact ⟨a, vs, e2, q1, q2⟩
    | dct xs => obtain ⟨vs, q1, q2⟩ := c; exact ⟨a, vs, e2, .inl q1, q2⟩
    | ins C fs => obtain ⟨dx, vs, q1, q2⟩ := c; exact ⟨a, dx, vs, e2, q1, q2⟩
    | pen n => exact r
    | gone => exact r
end
section
variable {X : Cx} {e : Expr} {es : List Expr} {dl : List Sl} {mu : List MO} {ε : XP}
theorem Kont.imp {K : PySem.W.Frag} {R F : Hp} {as : List Addr} {Φ Φ' : DK} {Q : VK} (k : Kont K R F as Φ' Q) (h : ∀ x m, Φ x m → Φ' x m) : Kont K R F as Φ Q := fun v x m F' as' H' q => k v x m F' as' H' (h x m q)
theorem WE.imp {Φ Φ' : DK} (h : WE X e dl mu Φ ε) (i : ∀ x m, Φ x m → Φ' x m) : WE X e dl mu Φ' ε := .mk fun W R F as σ H Q tk hs ha k kx => h W R F as σ H Q tk hs ha (k.imp i) kx
theorem WT.imp {Φ Φ' : Bool → List MO → Prop} (h : WT X e dl mu Φ ε) (i : ∀ x m, Φ x m → Φ' x m) : WT X e dl mu Φ' ε := .mk fun W R F as σ H Q tk hs ha k kx => h W R F as σ H Q tk hs ha (fun x m F' as' H' q => k x m F' as' H' (i x m q)) kx
theorem WA.imp {Φ Φ' : List D → List MO → Prop} (h : WA X es dl mu Φ ε) (i : ∀ x m, Φ x m → Φ' x m) : WA X es dl mu Φ' ε := .mk fun W R F as σ H Q tk hs ha k kx => h W R F as σ H Q tk hs ha (fun v x m F' as' H' q => k v x m F' as' H' (i x m q)) kx
def MO.fz : MO → D
  | .lst xs => .lst xs
  | .dct kvs => .dct kvs
  | .ins C fs => .obj C fs
  | .pen _ => .non
  | .gone => .non
def MO.cold : MO → Prop
  | .lst _ => True
  | .dct _ => True
  | .ins _ _ => True
  | _ => False
theorem SE.lock {σ : L2.St} {H : Hp} {Q Q' : VK} (h : SE X e σ H Q') (q : ∀ v H', Q' v H' → Q v H' ∨ ∃ a u, H' a = some u ∧ Mut (some u) ∧ ∀ od, Q v (upd H' a (.frz od u))) : SE X e σ H Q := fun pins s I => by
  refine thn (h pins s I) fun u s' ⟨v, H', I', r, q'⟩ => ?_
  rcases q v H' q' with z | ⟨a, o, h1, h2, h3⟩
  · exact ⟨v, H', I', r, z⟩
  · obtain ⟨od, I2⟩ := I'.lock h1 h2
    exact ⟨v, _, I2, r, h3 od⟩
theorem WO.we {Φ : DK} (h : WO X e dl mu (fun m mu' => m.cold ∧ Φ m.fz mu') ε) : WE X e dl mu Φ ε := .mk fun W R F as σ H Q tk hs ha k kx =>
  SE.lock (Q' := fun v H' => Q v H' ∨ ∃ a u, H' a = some u ∧ Mut (some u) ∧ ∀ od, Q v (upd H' a (.frz od u))) (h W R F as σ H _ tk hs ha (fun p m mu' F' as' H' hm e1 e2 hs' hR hF hA c l => by
  cases m with
  | lst xs =>
    obtain ⟨vs, q1, q2⟩ := c
    exact .inl (k _ _ _ _ _ _ hm.2 (e1.trans (Er.new hF)) e2 (hs'.tell q1 hF hR hA) ⟨p, vs, rfl, upd_same, RpL.mono (Er.new hF) (List.prefix_refl _) _ _ q2⟩)
  | dct xs =>
    obtain ⟨vs, q1, q2⟩ := c
    exact .inr ⟨p, _, q1, trivial, fun od => k _ _ _ _ _ _ hm.2 (e1.trans (Er.new hF)) e2 ((hs'.over hF hR hA (fun u eu => by rw [q1] at eu; cases eu; trivial)).tell upd_same hF hR hA) ⟨p, od, vs, rfl, upd_same, RpK.mono (Er.new hF) (List.prefix_refl _) _ _ q2⟩⟩
  | ins C fs =>
    obtain ⟨dx, vs, q1, q2⟩ := c
    exact .inl (k _ _ _ _ _ _ hm.2 (e1.trans (Er.new hF)) e2 (hs'.tell q1 hF hR hA) ⟨p, dx, vs, rfl, upd_same, RpF.mono (Er.new hF) (List.prefix_refl _) _ _ q2⟩)
  | pen n => exact hm.1.elim
  | gone => exact hm.1.elim) kx) fun _ _ z => z
end
section
variable {X : Cx} {e a b c : Expr} {es : List Expr} {dl : List Sl} {mu : List MO} {Φ : DK} {ε : XP} {pos : Pos}
theorem we_of {t : TE} (h : PE X e t) (q : ∀ R F as σ H Q, Hs X.K R F as mu H → At X.K F as dl σ → Kont X.K R F as Φ Q → t σ H Q) : WE X e dl mu Φ ε := .mk fun W R F as σ H Q _ hs ha k _ => SE.by h (q R F as σ H Q hs ha k)
theorem Kont.now {K : PySem.W.Frag} {R F H : Hp} {as : List Addr} {Q : VK} {x : D} {v : V} (k : Kont K R F as Φ Q) (hs : Hs K R F as mu H) (h : Φ x mu) (r : Rp K F as x v) : Q v H := k v x mu F as H h (Er.refl F) (List.prefix_refl _) hs r
theorem we_name (i : Nat) {x : Str} {d : D} (hd : dl[i]? = some (some d)) (h : Φ d mu) (hN : X.N[i]? = some x := by rfl) (hv : Vis X.env.scope x := by first | exact Or.inl rfl | exact Or.inr (Or.inl rfl) | exact Or.inr (Or.inr rfl)) (h1 : (x == ("__debug__" : Str)) = false := by decide)
    (h2 : (x == ("__classdict__" : Str)) = false := by decide) : WE X (.Name x pos) dl mu Φ ε := we_of (pv i hN hv h1 h2) fun R F as σ H Q hs ha k => by
  obtain ⟨v, e1, e2⟩ := ha.2 i d hd
  exact ⟨v, e1, k.now hs h e2⟩
theorem we_int {i : Int} {j : Nat} (h : Φ (.int i) mu) : WE X (.Constant (.int i) j pos) dl mu Φ ε := we_of pe_int fun R F as σ H Q hs ha k => k.now hs h rfl
theorem we_bl {i : Bool} {j : Nat} (h : Φ (.bl i) mu) : WE X (.Constant (.bool i) j pos) dl mu Φ ε := we_of pe_bl fun R F as σ H Q hs ha k => k.now hs h rfl
theorem we_str {i : Str} {j : Nat} (h : Φ (.str i) mu) : WE X (.Constant (.str i) j pos) dl mu Φ ε := we_of pe_str fun R F as σ H Q hs ha k => k.now hs h rfl
theorem we_non {j : Nat} (h : Φ .non mu) : WE X (.Constant .none j pos) dl mu Φ ε := we_of pe_non fun R F as σ H Q hs ha k => k.now hs h rfl
theorem WE.then {ψ : DK} {t : V → Hp → Prop} {W : WX} {R F : Hp} {as : List Addr} {σ : L2.St} {H : Hp} (h : WE X a dl mu ψ ε) (tk : Takes X W) (hs : Hs X.K R F as mu H) (ha : At X.K F as dl σ) (kx : KontX X.K R F as ε (fun c d H => W c d σ H))
    (q : ∀ v x m F' as' H', ψ x m → Er F F' → as <+: as' → Hs X.K R F' as' m H' → At X.K F' as' dl σ → Rp X.K F' as' x v → KontX X.K R F' as' ε (fun c d H => W c d σ H) → t v H') : SE X a σ H t :=
  h W R F as σ H t tk hs ha (fun v x m F' as' H' p e1 e2 hs' r => q v x m F' as' H' p e1 e2 hs' (ha.mono e1 e2) r (kx.go e1 e2)) kx
theorem WT.then {ψ : Bool → List MO → Prop} {t : Bool → Hp → Prop} {W : WX} {R F : Hp} {as : List Addr} {σ : L2.St} {H : Hp} (h : WT X a dl mu ψ ε) (tk : Takes X W) (hs : Hs X.K R F as mu H) (ha : At X.K F as dl σ) (kx : KontX X.K R F as ε (fun c d H => W c d σ H))
    (q : ∀ x m F' as' H', ψ x m → Er F F' → as <+: as' → Hs X.K R F' as' m H' → At X.K F' as' dl σ → KontX X.K R F' as' ε (fun c d H => W c d σ H) → t x H') : ST X a σ H t :=
  h W R F as σ H t tk hs ha (fun x m F' as' H' p e1 e2 hs' => q x m F' as' H' p e1 e2 hs' (ha.mono e1 e2) (kx.go e1 e2)) kx
theorem WA.then {ψ : List D → List MO → Prop} {t : List V → Hp → Prop} {W : WX} {R F : Hp} {as : List Addr} {σ : L2.St} {H : Hp} (h : WA X es dl mu ψ ε) (tk : Takes X W) (hs : Hs X.K R F as mu H) (ha : At X.K F as dl σ) (kx : KontX X.K R F as ε (fun c d H => W c d σ H))
    (q : ∀ v x m F' as' H', ψ x m → Er F F' → as <+: as' → Hs X.K R F' as' m H' → At X.K F' as' dl σ → RpL X.K F' as' x v → KontX X.K R F' as' ε (fun c d H => W c d σ H) → t v H') : SA X es σ H t :=
  h W R F as σ H t tk hs ha (fun v x m F' as' H' p e1 e2 hs' r => q v x m F' as' H' p e1 e2 hs' (ha.mono e1 e2) r (kx.go e1 e2)) kx
theorem wa_nil {Φ : List D → List MO → Prop} (h : Φ [] mu) : WA X [] dl mu Φ ε := .mk fun W R F as σ H Q tk hs ha k kx => SA.by pa_nil (k [] [] mu F as H h (Er.refl F) (List.prefix_refl _) hs rfl)
theorem wa_cons {Φ : List D → List MO → Prop} (h : WE X e dl mu (fun x m => WA X es dl m (fun xs m' => Φ (x :: xs) m') ε) ε) (hst : starEach (e :: es) X.env = (false, eval e X.env) :: starEach es X.env := by rfl) : WA X (e :: es) dl mu Φ ε :=
  .mk fun W R F as σ H Q tk hs ha k kx => SA.by (pa_cons SE.pe SA.pa hst) (h.then tk hs ha kx fun v x m F' as' H' p e1 e2 hs' ha' r kx' =>
    p.then tk hs' ha' kx' fun vs xs m2 F2 as2 H2 p2 f1 f2 hs2 ha2 r2 kx2 => k _ _ _ _ _ _ p2 (e1.trans f1) (e2.trans f2) hs2 ⟨v, vs, rfl, Rp.mono f1 f2 _ _ r, r2⟩)
def tTupF (t : TA) : TE := fun σ H Q => t σ H fun xs H1 => xs.length ≤ sizeLine ∧ ∀ p its, H1 p = none → Q (.ref p) (upd H1 p (.frz (tob its) (.tup xs)))
theorem pe_tupF {x1 : Nat} {t : TA} (h : PA X es t) : PE X (.Tuple es x1 pos) (tTupF t) := by
  refine ⟨fun pins s σ H Q I hq => ?_⟩
  refine wpAny_Tuple_spliced (thn (h.run pos pins s σ H _ I hq) fun us s1 ⟨xs, H1, I1, r, z, q⟩ => ⟨by rw [← r.length]; exact z, ?_⟩)
  have hf : H1 s1.heap.objs.size = none := I1.hok.fresh (Nat.le_refl _)
  refine ⟨.ref s1.heap.objs.size, upd H1 s1.heap.objs.size (.frz (tob us.toArray) (.tup xs)), I1.laid (t' := s1.toks) (fun b u e => Heap.get?_push_of_some _ e) (Nat.le_refl _) ?_, rfl, q _ _ hf⟩
  exact ⟨Heap.get?_push_size _ rfl, z, us, r, ⟨_, Heap.get?_push_size _ rfl, rfl, _, rfl⟩⟩
theorem we_tup {k' : Nat} (h : WA X es dl mu (fun xs m => xs.length ≤ sizeLine ∧ Φ (.tup xs) m) ε) : WE X (.Tuple es k' pos) dl mu Φ ε :=
  .mk fun W R F as σ H Q tk hs ha k kx => SE.by (pe_tupF SA.pa) (h.then tk hs ha kx fun vs xs m F' as' H' p e1 e2 hs' ha' r kx' => ⟨by rw [← r.len]; exact p.1, fun q its hq => by
    obtain ⟨g1, g2⟩ := hs'.laid (o := .frz (tob its) (.tup vs)) hq
    exact k _ _ _ _ _ _ p.2 (e1.trans g2) e2 g1 ⟨q, vs, rfl, .inl ⟨its, upd_same⟩, RpL.mono g2 (List.prefix_refl _) _ _ r⟩⟩)
theorem wo_lst {Φ : MO → List MO → Prop} (h : WA X es dl mu (fun xs m => xs.length ≤ sizeLine ∧ Φ (.lst xs) m) ε) : WO X (.List es pos) dl mu Φ ε :=
  .mk fun W R F as σ H Q tk hs ha k kx => SE.by (pe_lst SA.pa) (h.then tk hs ha kx fun vs xs m F' as' H' p e1 e2 hs' ha' r kx' => ⟨by rw [← r.len]; exact p.1, fun q hq => by
    obtain ⟨g1, g2, g3⟩ := hs'.free hq
    exact k _ _ _ _ _ _ p.2 e1 e2 (hs'.up hq) g2 g1 g3 ⟨vs, upd_same, r⟩ rfl⟩)
theorem we_lst (h : WA X es dl mu (fun xs m => xs.length ≤ sizeLine ∧ Φ (.lst xs) m) ε) : WE X (.List es pos) dl mu Φ ε := (wo_lst (h.imp fun xs m p => ⟨p.1, trivial, p.2⟩)).we
def SO (X : Cx) (f : Value → Value → Sem Value) : R2 := fun x y H Q => ∀ pins s σ v u, Inv X pins σ H s → RelV x v → RelV y u → wpAny (model X.prog X.w) X.A (f v u) (EP X pins σ Q) X.xe s
theorem SO.op {f : Value → Value → Sem Value} : OpR X f (SO X f) := fun pins s σ H x y v u Q I rx ry h => h pins s σ v u I rx ry
theorem SO.by {f : Value → Value → Sem Value} {r : R2} (ho : OpR X f r) {x y : V} {H : Hp} {Q : VK} (h : r x y H Q) : SO X f x y H Q := fun pins s σ v u I rx ry => ho pins s σ H x y v u Q I rx ry h
structure WOp (X : Cx) (f : Value → Value → Sem Value) (x y : D) (mu : List MO) (Φ : DK)  : Prop where
  run : ∀ R F as H v w Q, Hs X.K R F as mu H → Vw X.K F as H (rdD mu x) v → Vw X.K F as H (rdD mu y) w → Kont X.K R F as Φ Q → SO X f v w H Q
instance {X : Cx} (f : Value → Value → Sem Value) (x y : D) (mu : List MO) (Φ : DK)  : CoeFun (WOp X f x y mu Φ) (fun _ => ∀ R F as H v w Q, Hs X.K R F as mu H → Vw X.K F as H (rdD mu x) v → Vw X.K F as H (rdD mu y) w → Kont X.K R F as Φ Q → SO X f v w H Q) := ⟨fun h => h.run⟩
theorem we_bin {op : Operator} (h : WE X a dl mu (fun x m => WE X b dl m (fun y m' => WOp X (binaryOp op) x y m' Φ) ε) ε) : WE X (.BinOp a op b pos) dl mu Φ ε := .mk fun W R F as σ H Q tk hs ha k kx =>
  SE.by (pe_op SO.op SE.pe SE.pe) (h.then tk hs ha kx fun v x m F' as' H' p e1 e2 hs' ha' r kx' => p.then tk hs' ha' kx' fun w y m2 F2 as2 H2 p2 f1 f2 hs2 ha2 r2 kx2 =>
    p2 R F2 as2 H2 v w Q hs2 (hs2.view (Rp.mono f1 f2 _ _ r)) (hs2.view r2) (k.go (e1.trans f1) (e2.trans f2)))
theorem we_cmp {op : CmpOp} (h : WE X a dl mu (fun x m => WE X b dl m (fun y m' => WOp X (compareOp op) x y m' Φ) ε) ε) (hm : behindInMarks op b = false) : WE X (.Compare a [op] [b] pos) dl mu Φ ε := .mk fun W R F as σ H Q tk hs ha k kx =>
  SE.by (pe_cmpR SO.op SE.pe SE.pe hm) (h.then tk hs ha kx fun v x m F' as' H' p e1 e2 hs' ha' r kx' => p.then tk hs' ha' kx' fun w y m2 F2 as2 H2 p2 f1 f2 hs2 ha2 r2 kx2 =>
    p2 R F2 as2 H2 v w Q hs2 (hs2.view (Rp.mono f1 f2 _ _ r)) (hs2.view r2) (k.go (e1.trans f1) (e2.trans f2)))
theorem wt_cmp {op : CmpOp} {Φ : Bool → List MO → Prop} (h : WE X a dl mu (fun x m => WE X b dl m (fun y m' => WOp X (compareOp op) x y m' (fun z m => ∃ k, z = .bl k ∧ Φ k m)) ε) ε) (hm : behindInMarks op b = false) : WT X (.Compare a [op] [b] pos) dl mu Φ ε := .mk fun W R F as σ H Q tk hs ha k kx =>
  ST.by (pt_cmpR SO.op SE.pe SE.pe hm) (h.then tk hs ha kx fun v x m F' as' H' p e1 e2 hs' ha' r kx' => p.then tk hs' ha' kx' fun w y m2 F2 as2 H2 p2 f1 f2 hs2 ha2 r2 kx2 =>
    p2 R F2 as2 H2 v w _ hs2 (hs2.view (Rp.mono f1 f2 _ _ r)) (hs2.view r2) fun z zd m3 F3 as3 H3 ⟨c, hc, hΦ⟩ g1 g2 hs3 r3 => by
      subst hc
      exact ⟨c, r3, k c m3 F3 as3 H3 hΦ ((e1.trans f1).trans g1) ((e2.trans f2).trans g2) hs3⟩)
end
end DL
namespace DL
open PySem PySem.Spec PyProof.Rows L2
mutual
def eqD : D → D → Bool
  | .non, .non => true
  | .bl a, .bl b => a == b
  | .bl a, .int j => (if a then 1 else 0) == j
  | .int i, .bl b => i == (if b then 1 else 0)
  | .int i, .int j => i == j
  | .str x, .str y => x == y
  | .lst xs, .lst ys => eqDs xs ys
  | .tup xs, .tup ys => eqDs xs ys
  | _, _ => false
def eqDs : List D → List D → Bool
  | [], [] => true
  | x :: xs, y :: ys => eqD x y && eqDs xs ys
  | _, _ => false
end
mutual
def okD : Nat → D → Bool
  | _, .non => true
  | _, .bl _ => true
  | _, .int _ => true
  | _, .str x => PyData.strOk x
  | 0, .lst _ => false
  | 0, .tup _ => false
  | n + 1, .lst xs => okDs n xs
  | n + 1, .tup xs => okDs n xs
  | _, _ => false
def okDs : Nat → List D → Bool
  | _, [] => true
  | n, x :: xs => okD n x && okDs n xs
end
mutual
def pyD : D → PyData
  | .non => .none
  | .bl b => .bool b
  | .int i => .int i
  | .str x => .str x
  | .lst xs => .list (pyDs xs)
  | .tup xs => .tuple (pyDs xs)
  | _ => .none
def pyDs : List D → List PyData
  | [] => []
  | x :: xs => pyD x :: pyDs xs
end
section
variable {K : PySem.W.Frag} {R F H : Hp} {as : List Addr} {mu : List MO}
mutual
theorem okD.dp (e : Er F H) : ∀ (n : Nat) (d : D) (v : V), okD n d = true → Rp K F as d v → Dp K H v (pyD d)
  | _, .non, _, _, r => by cases r; simp only [pyD]; exact .non
  | _, .bl b, _, _, r => by cases r; simp only [pyD]; exact .bl b
  | _, .int b, _, _, r => by cases r; simp only [pyD]; exact .int b
  | _, .str b, _, _, r => by cases r; simp only [pyD]; exact .str b
  | 0, .lst _, _, h, _ => by simp [okD] at h
  | 0, .tup _, _, h, _ => by simp [okD] at h
  | n + 1, .lst xs, _, h, ⟨a, vs, h1, h2, h3⟩ => by
    subst h1
    simp only [pyD]
    exact .lst (.inl (.inl (e.ex _ _ trivial h2))) (okDs.dp e n xs vs (by simpa [okD] using h) h3)
  | n + 1, .tup xs, _, h, ⟨a, vs, h1, h2, h3⟩ => by
    subst h1
    simp only [pyD]
    exact .tup (e.tup h2).sqT (okDs.dp e n xs vs (by simpa [okD] using h) h3)
  | _, .dct _, _, h, _ => by simp [okD] at h
  | _, .obj _ _, _, h, _ => by simp [okD] at h
  | _, .exn _ _, _, h, _ => by simp [okD] at h
  | _, .own _, _, h, _ => by simp [okD] at h
  | _, .val _, _, h, _ => by simp [okD] at h
  | _, .scr _, _, h, _ => by simp [okD] at h
theorem okDs.dp (e : Er F H) : ∀ (n : Nat) (ds : List D) (vs : List V), okDs n ds = true → RpL K F as ds vs → DpAll K H vs (pyDs ds)
  | _, [], _, _, r => by cases r; simp only [pyDs]; exact .nil
  | n, x :: xs, _, h, ⟨v, r, h1, h2, h3⟩ => by
    subst h1
    simp only [okDs, Bool.and_eq_true] at h
    simp only [pyDs]
    exact .cons (okD.dp e n x v h.1 h2) (okDs.dp e n xs r h.2 h3)
end
mutual
theorem okD.can : ∀ (n : Nat) (d : D), okD n d = true → (pyD d).canLay0 = true ∧ (pyD d).depth ≤ n
  | _, .non, _ => by simp [pyD, PyData.canLay0, PyData.depth]
  | _, .bl b, _ => by simp [pyD, PyData.canLay0, PyData.depth]
  | _, .int b, _ => by simp [pyD, PyData.canLay0, PyData.depth]
  | _, .str b, h => by simp [okD] at h; simp [pyD, PyData.canLay0, PyData.depth, h]
  | 0, .lst _, h => by simp [okD] at h
  | 0, .tup _, h => by simp [okD] at h
  | n + 1, .lst xs, h => by
    obtain ⟨h1, h2⟩ := okDs.can n xs (by simpa [okD] using h)
    simp only [pyD, PyData.canLay0, PyData.depth]
    exact ⟨h1, by omega⟩
  | n + 1, .tup xs, h => by
    obtain ⟨h1, h2⟩ := okDs.can n xs (by simpa [okD] using h)
    simp only [pyD, PyData.canLay0, PyData.depth]
    exact ⟨h1, by omega⟩
  | _, .dct _, h => by simp [okD] at h
  | _, .obj _ _, h => by simp [okD] at h
  | _, .exn _ _, h => by simp [okD] at h
  | _, .own _, h => by simp [okD] at h
  | _, .val _, h => by simp [okD] at h
  | _, .scr _, h => by simp [okD] at h
theorem okDs.can : ∀ (n : Nat) (ds : List D), okDs n ds = true → PyData.canLayAll0 (pyDs ds) = true ∧ PyData.depthAll (pyDs ds) ≤ n
  | _, [], _ => by simp [pyDs, PyData.canLayAll0, PyData.depthAll]
  | n, x :: xs, h => by
    simp only [okDs, Bool.and_eq_true] at h
    obtain ⟨h1, h2⟩ := okD.can n x h.1
    obtain ⟨h3, h4⟩ := okDs.can n xs h.2
    simp only [pyDs, PyData.canLayAll0, PyData.depthAll, h1, h3, Bool.and_self, true_and]
    exact Nat.max_le.mpr ⟨h2, h4⟩
end
theorem okD.shaped {n : Nat} {d : D} (h : okD n d = true) (hn : n ≤ 64) : SeqAt.shaped (pyD d) = true := by
  obtain ⟨h1, h2⟩ := okD.can n d h
  unfold SeqAt.shaped
  rw [h1]
  simp only [Bool.true_and, decide_eq_true_eq]
  omega
mutual
theorem eqD.py : ∀ (m n : Nat) (x y : D), okD m x = true → okD n y = true → PyData.eqv (pyD x) (pyD y) = eqD x y
  | _, _, .non, y, _, h => by cases y <;> simp_all [okD, pyD, PyData.eqv, eqD]
  | _, _, .bl _, y, _, h => by cases y <;> simp_all [okD, pyD, PyData.eqv, eqD]
  | _, _, .int _, y, _, h => by cases y <;> simp_all [okD, pyD, PyData.eqv, eqD]
  | _, _, .str _, y, _, h => by cases y <;> simp_all [okD, pyD, PyData.eqv, eqD]
  | 0, _, .lst _, _, h, _ => by simp [okD] at h
  | 0, _, .tup _, _, h, _ => by simp [okD] at h
  | _ + 1, 0, .lst xs, .lst ys, _, h => by simp [okD] at h
  | _ + 1, 0, .tup xs, .tup ys, _, h => by simp [okD] at h
  | m + 1, n + 1, .lst xs, .lst ys, h, g => by
    simp only [pyD, PyData.eqv, eqD]
    exact eqDs.py m n xs ys (by simpa [okD] using h) (by simpa [okD] using g)
  | m + 1, n + 1, .tup xs, .tup ys, h, g => by
    simp only [pyD, PyData.eqv, eqD]
    exact eqDs.py m n xs ys (by simpa [okD] using h) (by simpa [okD] using g)
  | m + 1, _, .lst xs, .non, h, g => by simp [pyD, PyData.eqv, eqD]
  | m + 1, _, .lst xs, .bl _, h, g => by simp [pyD, PyData.eqv, eqD]
  | m + 1, _, .lst xs, .int _, h, g => by simp [pyD, PyData.eqv, eqD]
  | m + 1, _, .lst xs, .str _, h, g => by simp [pyD, PyData.eqv, eqD]
  | m + 1, _, .lst xs, .tup _, h, g => by simp [pyD, PyData.eqv, eqD]
  | m + 1, _, .tup xs, .non, h, g => by simp [pyD, PyData.eqv, eqD]
  | m + 1, _, .tup xs, .bl _, h, g => by simp [pyD, PyData.eqv, eqD]
  | m + 1, _, .tup xs, .int _, h, g => by simp [pyD, PyData.eqv, eqD]
  | m + 1, _, .tup xs, .str _, h, g => by simp [pyD, PyData.eqv, eqD]
  | m + 1, _, .tup xs, .lst _, h, g => by simp [pyD, PyData.eqv, eqD]
  | _ + 1, _, .lst _, .dct _, _, h => by simp [okD] at h
  | _ + 1, _, .lst _, .obj _ _, _, h => by simp [okD] at h
  | _ + 1, _, .lst _, .exn _ _, _, h => by simp [okD] at h
  | _ + 1, _, .lst _, .own _, _, h => by simp [okD] at h
  | _ + 1, _, .lst _, .val _, _, h => by simp [okD] at h
  | _ + 1, _, .lst _, .scr _, _, h => by simp [okD] at h
  | _ + 1, _, .tup _, .dct _, _, h => by simp [okD] at h
  | _ + 1, _, .tup _, .obj _ _, _, h => by simp [okD] at h
  | _ + 1, _, .tup _, .exn _ _, _, h => by simp [okD] at h
  | _ + 1, _, .tup _, .own _, _, h => by simp [okD] at h
  | _ + 1, _, .tup _, .val _, _, h => by simp [okD] at h
  | _ + 1, _, .tup _, .scr _, _, h => by simp [okD] at h
  | _, _, .dct _, _, h, _ => by simp [okD] at h
  | _, _, .obj _ _, _, h, _ => by simp [okD] at h
  | _, _, .exn _ _, _, h, _ => by simp [okD] at h
  | _, _, .own _, _, h, _ => by simp [okD] at h
  | _, _, .val _, _, h, _ => by simp [okD] at h
  | _, _, .scr _, _, h, _ => by simp [okD] at h
theorem eqDs.py : ∀ (m n : Nat) (x y : List D), okDs m x = true → okDs n y = true → PyData.eqvAll (pyDs x) (pyDs y) = eqDs x y
  | _, _, [], [], _, _ => by simp [pyDs, PyData.eqvAll, eqDs]
  | _, _, [], _ :: _, _, _ => by simp [pyDs, PyData.eqvAll, eqDs]
  | _, _, _ :: _, [], _, _ => by simp [pyDs, PyData.eqvAll, eqDs]
  | m, n, x :: xs, y :: ys, h, g => by
    simp only [okDs, Bool.and_eq_true] at h g
    simp only [pyDs, PyData.eqvAll, eqDs, eqD.py m n x y h.1 g.1, eqDs.py m n xs ys h.2 g.2]
end
theorem Vw.dp {n : Nat} {x : D} {v : V} (hs : Hs K R F as mu H) (h : okD n x = true) (w : Vw K F as H x v) : Dp K H v (pyD x) := by
  cases x with
  | lst xs =>
    obtain ⟨a, vs, h1, h2, h3⟩ := w
    cases n with
    | zero => simp [okD] at h
    | succ n =>
      subst h1
      simp only [pyD]
      exact .lst (.inl (.inl h2)) (okDs.dp hs.er n xs vs (by simpa [okD] using h) h3)
  | tup xs =>
    obtain ⟨a, vs, h1, h2, h3⟩ := w
    cases n with
    | zero => simp [okD] at h
    | succ n =>
      subst h1
      simp only [pyD]
      exact .tup (hs.er.tup h2).sqT (okDs.dp hs.er n xs vs (by simpa [okD] using h) h3)
  | non => exact okD.dp (as := as) hs.er n .non v h w
  | bl b => exact okD.dp (as := as) hs.er n (.bl b) v h w
  | int b => exact okD.dp (as := as) hs.er n (.int b) v h w
  | str b => exact okD.dp (as := as) hs.er n (.str b) v h w
  | dct _ => simp [okD] at h
  | obj _ _ => simp [okD] at h
  | own _ => simp [okD] at h
  | val _ => simp [okD] at h
  | scr _ => simp [okD] at h
  | exn _ _ => simp [okD] at h
end
section
variable {X : Cx}
def rCatF (K : PySem.W.Frag) : R2 := fun x y H Q => ∃ a b xs ys, x = .ref a ∧ y = .ref b ∧ SqT K H a xs ∧ SqT K H b ys ∧ xs.length + ys.length ≤ sizeLine ∧
  (xs = [] → Q (.ref b) H) ∧ (xs ≠ [] → ys = [] → Q (.ref a) H) ∧ (xs ≠ [] → ys ≠ [] → ∀ p its, H p = none → Q (.ref p) (upd H p (.frz (tob its) (.tup (xs ++ ys)))))
theorem op_catF : OpR X (binaryOp .Add) (rCatF X.K) := by
  intro pins s σ H x y v u Q I rx ry h
  obtain ⟨a, b, xs, ys, rfl, rfl, ha, hb, hz, q0, q1, q2⟩ := h
  by_cases hx : xs = []
  · subst hx
    cases rx
    cases ry
    obtain ⟨its, r1, p1, _⟩ := I.tuple ha
    obtain ⟨its2, r2, p2, _⟩ := I.tuple hb
    cases r1
    exact cat_tup0 p1 p2 ⟨.ref b, H, I, rfl, q0 rfl⟩
  · cases rx
    cases ry
    obtain ⟨its, r1, p1, _⟩ := I.tuple ha
    obtain ⟨its2, r2, p2, _⟩ := I.tuple hb
    refine HT.cat_tup p1 p2 (fun z => hx (r1.nil_iff.mp z)) (fun z => ⟨.ref a, H, I, rfl, q1 hx (r2.nil_iff.mp z)⟩) (fun z => ?_) (by rw [← r1.length, ← r2.length]; exact hz)
    refine ⟨.ref s.heap.objs.size, _, I.laid (t' := s.toks) (o := .frz (tob (its ++ its2).toArray) (.tup (xs ++ ys))) (fun b ob q => Heap.get?_push_of_some _ q) (Nat.le_refl _) ?_, rfl, q2 hx (fun w => z (r2.nil_iff.mpr w)) _ _ (I.hok.fresh (Nat.le_refl _))⟩
    exact ⟨Heap.get?_push_size _ rfl, by rw [List.length_append]; exact hz, _, r1.append r2, IsTup.new _ _⟩
end
section
variable {X : Cx} {x y : D} {mu : List MO} {Φ : DK}
def addD : D → D → (D → Prop) → Prop
  | .int i, .int j, k => k (.int (i + j))
  | .str a, .str b, k => a.length + b.length ≤ sizeLine ∧ k (.str (a ++ b))
  | .lst a, .lst b, k => a.length + b.length ≤ sizeLine ∧ k (.lst (a ++ b))
  | .tup a, .tup b, k => a.length + b.length ≤ sizeLine ∧ k (.tup (a ++ b))
  | _, _, _ => False
theorem wop_add (h : addD (rdD mu x) (rdD mu y) (fun z => Φ z mu)) : WOp X (binaryOp .Add) x y mu Φ := .mk fun R F as H v w Q hs r1 r2 k => by
  generalize rdD mu x = x' at *
  generalize rdD mu y = y' at *
  unfold addD at h
  split at h
  · cases r1; cases r2
    exact SO.by op_add ⟨_, _, rfl, rfl, k.now hs h rfl⟩
  · cases r1; cases r2
    exact SO.by op_add_str ⟨_, _, rfl, rfl, h.1, k.now hs h.2 rfl⟩
  · obtain ⟨a, vs, rfl, h1, h2⟩ := r1
    obtain ⟨b, ws, rfl, g1, g2⟩ := r2
    refine SO.by op_cat ⟨a, b, vs, ws, rfl, rfl, h1, g1, by rw [← h2.len, ← g2.len]; exact h.1, fun p hp => ?_⟩
    obtain ⟨q1, q2⟩ := hs.laid (o := .lst (vs ++ ws)) hp
    exact k _ _ _ _ _ _ h.2 q2 (List.prefix_refl _) q1 ⟨p, _, rfl, upd_same, RpL.mono q2 (List.prefix_refl _) _ _ (h2.append g2)⟩
  · obtain ⟨a, vs, rfl, h1, h2⟩ := r1
    obtain ⟨b, ws, rfl, g1, g2⟩ := r2
    refine SO.by op_catF ⟨a, b, vs, ws, rfl, rfl, (hs.er.tup h1).sqT, (hs.er.tup g1).sqT, by rw [← h2.len, ← g2.len]; exact h.1, fun e => ?_, fun e1 e2 => ?_, fun e1 e2 p its hp => ?_⟩
    · subst e
      exact k.now hs h.2 ⟨b, ws, rfl, g1, h2.append g2⟩
    · subst e2
      refine k.now hs h.2 ⟨a, vs, rfl, h1, ?_⟩
      have := h2.append g2
      rw [List.append_nil] at this
      exact this
    · obtain ⟨q1, q2⟩ := hs.laid (o := .frz (tob its) (.tup (vs ++ ws))) hp
      exact k _ _ _ _ _ _ h.2 q2 (List.prefix_refl _) q1 ⟨p, _, rfl, .inl ⟨its, upd_same⟩, RpL.mono q2 (List.prefix_refl _) _ _ (h2.append g2)⟩
  · exact h.elim
def subD : D → D → (D → Prop) → Prop
  | .int i, .int j, k => k (.int (i - j))
  | _, _, _ => False
theorem wop_sub (h : subD (rdD mu x) (rdD mu y) (fun z => Φ z mu)) : WOp X (binaryOp .Sub) x y mu Φ := .mk fun R F as H v w Q hs r1 r2 k => by
  generalize rdD mu x = x' at *
  generalize rdD mu y = y' at *
  unfold subD at h
  split at h
  · cases r1; cases r2
    exact SO.by op_sub ⟨_, _, rfl, rfl, k.now hs h rfl⟩
  · exact h.elim
def mulD : D → D → (D → Prop) → Prop
  | .int i, .int j, k => CMul i j ∧ k (.int (i * j))
  | .lst a, .int j, k => (-(2 ^ 63) ≤ j ∧ j < 2 ^ 63 ∧ a.length * j.toNat ≤ sizeLine) ∧ k (.lst (List.replicate j.toNat a).flatten)
  | _, _, _ => False
theorem RpL.rep {K : PySem.W.Frag} {F : Hp} {as : List Addr} {ds : List D} {vs : List V} (h : RpL K F as ds vs) : ∀ n : Nat, RpL K F as (List.replicate n ds).flatten (List.replicate n vs).flatten
  | 0 => rfl
  | n + 1 => by simp only [List.replicate_succ, List.flatten_cons]; exact h.append (h.rep n)
theorem wop_mul (h : mulD (rdD mu x) (rdD mu y) (fun z => Φ z mu)) : WOp X (binaryOp .Mult) x y mu Φ := .mk fun R F as H v w Q hs r1 r2 k => by
  generalize rdD mu x = x' at *
  generalize rdD mu y = y' at *
  unfold mulD at h
  split at h
  · cases r1; cases r2
    exact SO.by op_mul ⟨_, _, rfl, rfl, h.1, k.now hs h.2 rfl⟩
  · obtain ⟨a, vs, rfl, h1, h2⟩ := r1
    cases r2
    refine SO.by op_rep ⟨a, _, vs, rfl, rfl, h1, h.1.1, h.1.2.1, by rw [← h2.len]; exact h.1.2.2, fun p hp => ?_⟩
    obtain ⟨q1, q2⟩ := hs.laid (o := .lst (List.replicate _ vs).flatten) hp
    exact k _ _ _ _ _ _ h.2 q2 (List.prefix_refl _) q1 ⟨p, _, rfl, upd_same, RpL.mono q2 (List.prefix_refl _) _ _ (h2.rep _)⟩
  · exact h.elim
def modD : D → D → (D → Prop) → Prop
  | .int i, .int j, k => 0 < j ∧ k (.int (i % j))
  | _, _, _ => False
theorem wop_mod (h : modD (rdD mu x) (rdD mu y) (fun z => Φ z mu)) : WOp X (binaryOp .Mod) x y mu Φ := .mk fun R F as H v w Q hs r1 r2 k => by
  generalize rdD mu x = x' at *
  generalize rdD mu y = y' at *
  unfold modD at h
  split at h
  · cases r1; cases r2
    exact SO.by op_mod ⟨_, _, rfl, rfl, h.1, k.now hs h.2 rfl⟩
  · exact h.elim
def fdivD : D → D → (D → Prop) → Prop
  | .int i, .int j, k => CDiv i j ∧ k (.int (i / j))
  | _, _, _ => False
theorem wop_fdiv (h : fdivD (rdD mu x) (rdD mu y) (fun z => Φ z mu)) : WOp X (binaryOp .FloorDiv) x y mu Φ := .mk fun R F as H v w Q hs r1 r2 k => by
  generalize rdD mu x = x' at *
  generalize rdD mu y = y' at *
  unfold fdivD at h
  split at h
  · cases r1; cases r2
    exact SO.by op_fdiv ⟨_, _, rfl, rfl, h.1, k.now hs h.2 rfl⟩
  · exact h.elim
def powD : D → D → (D → Prop) → Prop
  | .int i, .int j, k => CPow i j ∧ k (.int (i ^ j.toNat))
  | _, _, _ => False
theorem wop_pow (h : powD (rdD mu x) (rdD mu y) (fun z => Φ z mu)) : WOp X (binaryOp .Pow) x y mu Φ := .mk fun R F as H v w Q hs r1 r2 k => by
  generalize rdD mu x = x' at *
  generalize rdD mu y = y' at *
  unfold powD at h
  split at h
  · cases r1; cases r2
    exact SO.by op_pow ⟨_, _, rfl, rfl, h.1, k.now hs h.2 rfl⟩
  · exact h.elim
def ltS (a b : Str) : Bool := decide (a.cps.toList < b.cps.toList)
def ltD : D → D → (Bool → Prop) → Prop
  | .int i, .int j, k => k (decide (i < j))
  | .str a, .str b, k => k (ltS a b)
  | _, _, _ => False
def leD : D → D → (Bool → Prop) → Prop
  | .int i, .int j, k => k (decide (i ≤ j))
  | .str a, .str b, k => k (!ltS b a)
  | _, _, _ => False
theorem wop_lt (h : ltD (rdD mu x) (rdD mu y) (fun z => Φ (.bl z) mu)) : WOp X (compareOp .Lt) x y mu Φ := .mk fun R F as H v w Q hs r1 r2 k => by
  generalize rdD mu x = x' at *
  generalize rdD mu y = y' at *
  unfold ltD at h
  split at h
  · cases r1; cases r2
    exact SO.by op_lt ⟨_, _, rfl, rfl, k.now hs h rfl⟩
  · cases r1; cases r2
    exact SO.by op_lt_str ⟨_, _, rfl, rfl, k.now hs h rfl⟩
  · exact h.elim
theorem wop_gt (h : ltD (rdD mu y) (rdD mu x) (fun z => Φ (.bl z) mu)) : WOp X (compareOp .Gt) x y mu Φ := .mk fun R F as H v w Q hs r1 r2 k => by
  generalize rdD mu x = x' at *
  generalize rdD mu y = y' at *
  unfold ltD at h
  split at h
  · cases r1; cases r2
    exact SO.by op_gt ⟨_, _, rfl, rfl, k.now hs h rfl⟩
  · cases r1; cases r2
    exact SO.by op_gt_str ⟨_, _, rfl, rfl, k.now hs h rfl⟩
  · exact h.elim
theorem wop_le (h : leD (rdD mu x) (rdD mu y) (fun z => Φ (.bl z) mu)) : WOp X (compareOp .LtE) x y mu Φ := .mk fun R F as H v w Q hs r1 r2 k => by
  generalize rdD mu x = x' at *
  generalize rdD mu y = y' at *
  unfold leD at h
  split at h
  · cases r1; cases r2
    exact SO.by op_le ⟨_, _, rfl, rfl, k.now hs h rfl⟩
  · cases r1; cases r2
    exact SO.by op_le_str ⟨_, _, rfl, rfl, k.now hs h rfl⟩
  · exact h.elim
theorem wop_ge (h : leD (rdD mu y) (rdD mu x) (fun z => Φ (.bl z) mu)) : WOp X (compareOp .GtE) x y mu Φ := .mk fun R F as H v w Q hs r1 r2 k => by
  generalize rdD mu x = x' at *
  generalize rdD mu y = y' at *
  unfold leD at h
  split at h
  · cases r1; cases r2
    exact SO.by op_ge ⟨_, _, rfl, rfl, k.now hs h rfl⟩
  · cases r1; cases r2
    exact SO.by op_ge_str ⟨_, _, rfl, rfl, k.now hs h rfl⟩
  · exact h.elim
def scalD : D → D → Bool
  | .non, .non => true | .non, .int _ => true | .int _, .non => true | .non, .bl _ => true | .bl _, .non => true | .non, .str _ => true | .str _, .non => true
  | .int _, .int _ => true | .bl _, .bl _ => true | .str _, .str _ => true
  | .int _, .str _ => true | .str _, .int _ => true | .bl _, .str _ => true | .str _, .bl _ => true
  | _, _ => false
def eqK (x y : D) (k : Bool → Prop) : Prop := (scalD x y = true ∨ (okD 60 x = true ∧ okD 60 y = true)) ∧ k (eqD x y)
theorem scalD_eq {K : PySem.W.Frag} {F H : Hp} {as : List Addr} {x y : D} {v w : V} (h : scalD x y = true) (r1 : Vw K F as H x v) (r2 : Vw K F as H y w) : scal v w = true ∧ decide (v = w) = eqD x y := by
  unfold scalD at h
  split at h <;> first | (cases r1; cases r2; refine ⟨rfl, ?_⟩; (first | (simp [eqD]; done) | (simp only [eqD]; rw [Bool.eq_iff_iff]; simp))) | cases h
theorem wop_eq (hu : X.A.units + 64 < cLine) (h : eqK (rdD mu x) (rdD mu y) (fun z => Φ (.bl z) mu)) : WOp X (compareOp .Eq) x y mu Φ := .mk fun R F as H v w Q hs r1 r2 k => by
  generalize rdD mu x = x' at *
  generalize rdD mu y = y' at *
  obtain ⟨h1 | ⟨h1, h2⟩, h3⟩ := h
  · obtain ⟨g1, g2⟩ := scalD_eq h1 r1 r2
    exact SO.by op_eq ⟨g1, k.now hs h3 (by rw [g2]; rfl)⟩
  · refine SO.by (op_eqD hu) ⟨_, _, r1.dp hs h1, r2.dp hs h2, okD.shaped h1 (by decide), okD.shaped h2 (by decide), ?_⟩
    rw [eqD.py 60 60 _ _ h1 h2]
    exact k.now hs h3 rfl
theorem wop_ne (hu : X.A.units + 64 < cLine) (h : eqK (rdD mu x) (rdD mu y) (fun z => Φ (.bl (!z)) mu)) : WOp X (compareOp .NotEq) x y mu Φ := .mk fun R F as H v w Q hs r1 r2 k => by
  generalize rdD mu x = x' at *
  generalize rdD mu y = y' at *
  obtain ⟨h1 | ⟨h1, h2⟩, h3⟩ := h
  · obtain ⟨g1, g2⟩ := scalD_eq h1 r1 r2
    exact SO.by op_ne ⟨g1, k.now hs h3 (by rw [g2]; rfl)⟩
  · refine SO.by (op_neD hu) ⟨_, _, r1.dp hs h1, r2.dp hs h2, okD.shaped h1 (by decide), okD.shaped h2 (by decide), ?_⟩
    rw [eqD.py 60 60 _ _ h1 h2]
    exact k.now hs h3 rfl
def isN : D → Bool
  | .non => true
  | .val w => decide (w = .non)
  | _ => false
theorem isN.eq {K : PySem.W.Frag} {F H : Hp} {as : List Addr} {x : D} {v : V} (r : Vw K F as H x v) : decide (v = .non) = isN x := by
  cases x with
  | non => cases r; rfl
  | bl b => cases r; rfl
  | int b => cases r; rfl
  | str b => cases r; rfl
  | lst xs => obtain ⟨a, vs, rfl, _⟩ := r; rfl
  | tup xs => obtain ⟨a, vs, rfl, _⟩ := r; rfl
  | dct xs => obtain ⟨a, vs, rfl, _⟩ := r; rfl
  | obj C fs => obtain ⟨a, dx, vs, rfl, _⟩ := r; rfl
  | own k => obtain ⟨a, _, rfl⟩ := r; rfl
  | val w => cases r; rfl
  | scr ns => obtain ⟨a, rfl, _⟩ := r; rfl
  | exn C fs => obtain ⟨a, d, ws, rfl, _⟩ := r; rfl
def isK (x y : D) (k : Bool → Prop) : Prop := match y, x with
  | .non, x => k (isN x)
  | .bl b, .bl a => k (decide (a = b))
  | _, _ => False
theorem wop_is (h : isK (rdD mu x) (rdD mu y) (fun z => Φ (.bl z) mu)) : WOp X (compareOp .Is) x y mu Φ := .mk fun R F as H v w Q hs r1 r2 k => by
  generalize rdD mu x = x' at *
  generalize rdD mu y = y' at *
  unfold isK at h
  split at h
  · cases r2
    exact SO.by op_isN ⟨rfl, k.now hs h (by rw [isN.eq r1]; rfl)⟩
  · cases r1; cases r2
    exact SO.by op_is_bl ⟨_, _, rfl, rfl, k.now hs h rfl⟩
  · exact h.elim
theorem wop_isnot (h : isK (rdD mu x) (rdD mu y) (fun z => Φ (.bl (!z)) mu)) : WOp X (compareOp .IsNot) x y mu Φ := .mk fun R F as H v w Q hs r1 r2 k => by
  generalize rdD mu x = x' at *
  generalize rdD mu y = y' at *
  unfold isK at h
  split at h
  · cases r2
    exact SO.by op_notN ⟨rfl, k.now hs h (by rw [isN.eq r1]; rfl)⟩
  · cases r1; cases r2
    exact SO.by op_isnot_bl ⟨_, _, rfl, rfl, k.now hs h rfl⟩
  · exact h.elim
def flatD : D → Bool
  | .non => true
  | .bl _ => true
  | .int _ => true
  | .str _ => true
  | _ => false
def inS (a b : Str) : Bool := if a.length = 1 then decide (a.cps.getD 0 0 ∈ b.cps.toList) else !(Builtin.Str.occurrences b a 0 b.length 1).isEmpty
theorem inS_sign {c : Nat} {b : Str} : inS ⟨#[c]⟩ b = decide (c ∈ b.cps.toList) := by unfold inS; rw [if_pos (show (⟨#[c]⟩ : Str).length = 1 from rfl)]; rfl
theorem flat_eqV {K : PySem.W.Frag} {F : Hp} {as : List Addr} {x y : D} {v w : V} (f : flatD x = true) (g : flatD y = true) (r1 : Rp K F as x v) (r2 : Rp K F as y w) : flatV v = true ∧ flatV w = true ∧ eqV v w = eqD x y := by
  cases x <;> first | cases f | skip
  all_goals cases y <;> first | cases g | skip
  all_goals cases r1; cases r2; exact ⟨rfl, rfl, by simp [eqV, eqD]⟩
theorem flat_any {K : PySem.W.Frag} {F : Hp} {as : List Addr} {x : D} {v : V} (f : flatD x = true) (r : Rp K F as x v) : ∀ {ys : List D} {ws : List V}, ys.all flatD = true → RpL K F as ys ws → ws.all flatV = true ∧ inV v ws = ys.any (fun y => eqD y x)
  | [], _, _, h => by cases h; exact ⟨rfl, rfl⟩
  | y :: ys, _, g, ⟨w, ws, h1, h2, h3⟩ => by
    subst h1
    simp only [List.all_cons, Bool.and_eq_true] at g
    obtain ⟨i1, i2⟩ := flat_any f r g.2 h3
    obtain ⟨j1, j2, j3⟩ := flat_eqV g.1 f h2 r
    refine ⟨by simp only [List.all_cons, j1, i1, Bool.and_self], ?_⟩
    unfold inV at i2 ⊢
    rw [List.any_cons, List.any_cons, j3, i2]
theorem flat_vw {K : PySem.W.Frag} {F H : Hp} {as : List Addr} {x : D} {v : V} (f : flatD x = true) (r : Vw K F as H x v) : Rp K F as x v ∧ flatV v = true := by
  cases x <;> first | cases f | skip
  all_goals cases r; exact ⟨rfl, rfl⟩
def inK (x y : D) (k : Bool → Prop) : Prop := match y, x with
  | .str b, .str a => k (inS a b)
  | .lst ys, x => ((flatD x = true ∧ ys.all flatD = true) ∨ (okD 60 x = true ∧ okDs 59 ys = true)) ∧ k (ys.any fun z => eqD z x)
  | .tup ys, x => (flatD x = true ∧ ys.all flatD = true) ∧ k (ys.any fun z => eqD z x)
  | .dct kvs, .str a => k (gval kvs (.inr a)).isSome
  | .dct kvs, .int a => k (gval kvs (.inl a)).isSome
  | _, _ => False
theorem any_py {n : Nat} {x : D} (hx : okD 60 x = true) : ∀ {ys : List D}, okDs n ys = true → ((pyDs ys).any fun z => PyData.eqv z (pyD x)) = ys.any fun z => eqD z x
  | [], _ => by simp [pyDs]
  | y :: ys, h => by
    simp only [okDs, Bool.and_eq_true] at h
    simp only [pyDs, List.any_cons, any_py hx h.2, eqD.py n 60 y x h.1 hx]
theorem SO_din {X : Cx} (hu : X.A.units + 64 < cLine) {y : V} {a : Addr} {o : Option V} {H : Hp} {Q : VK} (g : DGet H a y o) (q : Q (.bl o.isSome) H) : SO X (compareOp .In) y (.ref a) H Q := fun pins s σ v u I ry rx => by
  obtain rfl : u = Value.ref a := rx
  exact d_in (by omega) I g ry fun s3 I3 => ⟨.bl o.isSome, H, I3, rfl, q⟩
theorem SO_dnotin {X : Cx} (hu : X.A.units + 64 < cLine) {y : V} {a : Addr} {o : Option V} {H : Hp} {Q : VK} (g : DGet H a y o) (q : Q (.bl (!o.isSome)) H) : SO X (compareOp .NotIn) y (.ref a) H Q := fun pins s σ v u I ry rx => by
  obtain rfl : u = Value.ref a := rx
  exact d_notIn (by omega) I g ry fun s3 I3 => ⟨.bl (!o.isSome), H, I3, rfl, q⟩
theorem wop_in (hu : X.A.units + 65 < cLine) (h : inK (rdD mu x) (rdD mu y) (fun z => Φ (.bl z) mu)) : WOp X (compareOp .In) x y mu Φ := .mk fun R F as H v w Q hs r1 r2 k => by
  generalize rdD mu x = x' at *
  generalize rdD mu y = y' at *
  unfold inK at h
  split at h
  · rename_i b a
    cases r1; cases r2
    unfold inS at h
    by_cases e : a.length = 1
    · rw [if_pos e] at h
      have e' : a = ⟨#[a.cps.getD 0 0]⟩ := by
        obtain ⟨⟨l⟩⟩ := a
        match l, e with
        | [c], _ => rfl
      exact SO.by op_in_sign ⟨a.cps.getD 0 0, b, congrArg V.str e', rfl, k.now hs h rfl⟩
    · rw [if_neg e] at h
      exact SO.by op_in_str ⟨_, _, rfl, rfl, k.now hs h rfl⟩
  · obtain ⟨a, vs, rfl, h1, h2⟩ := r2
    obtain ⟨h3 | h3, h4⟩ := h
    · obtain ⟨f1, f2⟩ := flat_vw h3.1 r1
      obtain ⟨g1, g2⟩ := flat_any h3.1 f1 h3.2 h2
      exact SO.by op_in_seq ⟨a, vs, rfl, .inl (.inl (.inl h1)), f2, g1, k.now hs h4 (by show V.bl (if false = true then _ else _) = _; rw [if_neg (by decide), g2])⟩
    · refine SO.by (op_inD hu) ⟨_, _, r1.dp hs h3.1, .lst (.inl (.inl h1)) (okDs.dp hs.er 59 _ vs h3.2 h2), okD.shaped h3.1 (by decide), ?_, ?_⟩
      · have := okD.shaped (n := 60) (d := .lst _) (by simpa [okD] using h3.2) (by decide)
        simpa [pyD] using this
      · rw [any_py h3.1 h3.2]; exact k.now hs h4 rfl
  · obtain ⟨a, vs, rfl, h1, h2⟩ := r2
    obtain ⟨h3, h4⟩ := h
    obtain ⟨f1, f2⟩ := flat_vw h3.1 r1
    obtain ⟨g1, g2⟩ := flat_any h3.1 f1 h3.2 h2
    exact SO.by op_in_seq ⟨a, vs, rfl, .inr (hs.er.tup h1).sqT, f2, g1, k.now hs h4 (by show V.bl (if false = true then _ else _) = _; rw [if_neg (by decide), g2])⟩
  · cases r1
    obtain ⟨a, ws, rfl, h1, h2⟩ := r2
    exact SO_din (by omega) (.inl ⟨ws, .inr _, h1, rfl, rfl⟩) (k.now hs h (by rw [h2.isSome]; rfl))
  · cases r1
    obtain ⟨a, ws, rfl, h1, h2⟩ := r2
    exact SO_din (by omega) (.inl ⟨ws, .inl _, h1, rfl, rfl⟩) (k.now hs h (by rw [h2.isSome]; rfl))
  · exact h.elim
theorem wop_notin (hu : X.A.units + 65 < cLine) (h : inK (rdD mu x) (rdD mu y) (fun z => Φ (.bl (!z)) mu)) : WOp X (compareOp .NotIn) x y mu Φ := .mk fun R F as H v w Q hs r1 r2 k => by
  generalize rdD mu x = x' at *
  generalize rdD mu y = y' at *
  unfold inK at h
  split at h
  · rename_i b a
    cases r1; cases r2
    unfold inS at h
    by_cases e : a.length = 1
    · rw [if_pos e] at h
      have e' : a = ⟨#[a.cps.getD 0 0]⟩ := by
        obtain ⟨⟨l⟩⟩ := a
        match l, e with
        | [c], _ => rfl
      exact SO.by op_notIn_sign ⟨a.cps.getD 0 0, b, congrArg V.str e', rfl, k.now hs h rfl⟩
    · rw [if_neg e] at h
      exact SO.by op_notin_str ⟨_, _, rfl, rfl, k.now hs h rfl⟩
  · obtain ⟨a, vs, rfl, h1, h2⟩ := r2
    obtain ⟨h3 | h3, h4⟩ := h
    · obtain ⟨f1, f2⟩ := flat_vw h3.1 r1
      obtain ⟨g1, g2⟩ := flat_any h3.1 f1 h3.2 h2
      exact SO.by op_notIn_seq ⟨a, vs, rfl, .inl (.inl (.inl h1)), f2, g1, k.now hs h4 (by show V.bl (if true = true then _ else _) = _; rw [if_pos rfl, g2])⟩
    · refine SO.by (op_notInD hu) ⟨_, _, r1.dp hs h3.1, .lst (.inl (.inl h1)) (okDs.dp hs.er 59 _ vs h3.2 h2), okD.shaped h3.1 (by decide), ?_, ?_⟩
      · have := okD.shaped (n := 60) (d := .lst _) (by simpa [okD] using h3.2) (by decide)
        simpa [pyD] using this
      · rw [any_py h3.1 h3.2]; exact k.now hs h4 rfl
  · obtain ⟨a, vs, rfl, h1, h2⟩ := r2
    obtain ⟨h3, h4⟩ := h
    obtain ⟨f1, f2⟩ := flat_vw h3.1 r1
    obtain ⟨g1, g2⟩ := flat_any h3.1 f1 h3.2 h2
    exact SO.by op_notIn_seq ⟨a, vs, rfl, .inr (hs.er.tup h1).sqT, f2, g1, k.now hs h4 (by show V.bl (if true = true then _ else _) = _; rw [if_pos rfl, g2])⟩
  · cases r1
    obtain ⟨a, ws, rfl, h1, h2⟩ := r2
    exact SO_dnotin (by omega) (.inl ⟨ws, .inr _, h1, rfl, rfl⟩) (k.now hs h (by rw [h2.isSome]; rfl))
  · cases r1
    obtain ⟨a, ws, rfl, h1, h2⟩ := r2
    exact SO_dnotin (by omega) (.inl ⟨ws, .inl _, h1, rfl, rfl⟩) (k.now hs h (by rw [h2.isSome]; rfl))
  · exact h.elim
end
end DL
namespace DL
open PySem PySem.Spec PyProof.Rows L2
section
variable {X : Cx} {e a b c o : Expr} {es : List Expr} {dl : List Sl} {mu : List MO} {Φ : DK} {ε : XP} {pos pos' : Pos} {x : Str}
def truD : D → (Bool → Prop) → Prop
  | .non, k => k false
  | .bl b, k => k b
  | .int i, k => k (i != 0)
  | .str s, k => s.length ≤ sizeLine ∧ k ((s.length : Int) != 0)
  | .lst xs, k => k (!xs.isEmpty)
  | .tup xs, k => k (!xs.isEmpty)
  | _, _ => False
theorem RpL.isEmpty {K : PySem.W.Frag} {F : Hp} {as : List Addr} {ds : List D} {vs : List V} (h : RpL K F as ds vs) : vs.isEmpty = ds.isEmpty := by
  have := h.len
  cases ds <;> cases vs <;> first | rfl | simp at this
theorem wt_truth {Φ : Bool → List MO → Prop} (h : WE X e dl mu (fun x m => truD (rdD m x) fun b => Φ b m) ε) (he : ∀ whole, isTrue e X.env whole = (do let v ← whole; standAt e.pos; holding [v] (truthy v)) := by intro _; rfl) : WT X e dl mu Φ ε :=
  .mk fun W R F as σ H Q tk hs ha k kx => ST.by (pt_truth SE.pe he) (h.then tk hs ha kx fun v x m F' as' H' p e1 e2 hs' ha' r kx' => by
    have r' := hs'.view r
    have K : ∀ b, Φ b m → Q b H' := fun b q => k b m F' as' H' q e1 e2 hs'
    generalize rdD m x = x' at *
    unfold truD at p
    split at p
    · cases r'; exact ⟨_, rfl, K _ p⟩
    · cases r'; exact ⟨_, rfl, K _ p⟩
    · cases r'; exact ⟨_, rfl, K _ p⟩
    · cases r'; exact ⟨_, ⟨p.1, rfl⟩, K _ p.2⟩
    · obtain ⟨q, vs, rfl, h1, h2⟩ := r'
      exact ⟨_, .inl ⟨vs, .inl (.inl h1), rfl⟩, K _ (by rw [h2.isEmpty]; exact p)⟩
    · obtain ⟨q, vs, rfl, h1, h2⟩ := r'
      exact ⟨_, .inr (.inl ⟨vs, (hs'.er.tup h1).sqT, rfl⟩), K _ (by rw [h2.isEmpty]; exact p)⟩
    · exact p.elim)
theorem wt_not {Φ : Bool → List MO → Prop} (h : WT X a dl mu (fun c m => Φ (!c) m) ε) : WT X (.UnaryOp .Not a pos) dl mu Φ ε :=
  .mk fun W R F as σ H Q tk hs ha k kx => ST.by (pt_not ST.pt) (h.then tk hs ha kx fun c m F' as' H' p e1 e2 hs' ha' kx' => k _ m F' as' H' p e1 e2 hs')
theorem WW.wt {Φ : Bool → List MO → Prop} (h : WW X e dl mu Φ ε) : WT X e dl mu Φ ε := .mk fun W R F as σ H Q tk hs ha k kx => ST.by SW.pw.pt (h W R F as σ H Q tk hs ha k kx)
theorem ww_and1 {Φ : Bool → List MO → Prop} (h : WT X a dl mu Φ ε) : WW X (.BoolOp .And [a] pos) dl mu Φ ε := .mk fun W R F as σ H Q tk hs ha k kx => SW.by (pw_and1 ST.pt) (h W R F as σ H Q tk hs ha k kx)
theorem ww_or1 {Φ : Bool → List MO → Prop} (h : WT X a dl mu Φ ε) : WW X (.BoolOp .Or [a] pos) dl mu Φ ε := .mk fun W R F as σ H Q tk hs ha k kx => SW.by (pw_or1 ST.pt) (h W R F as σ H Q tk hs ha k kx)
theorem ww_and {Φ : Bool → List MO → Prop} (h : WT X a dl mu (fun c m => (c = true → WW X (.BoolOp .And (b :: es) pos) dl m Φ ε) ∧ (c = false → Φ false m)) ε) : WW X (.BoolOp .And (a :: b :: es) pos) dl mu Φ ε :=
  .mk fun W R F as σ H Q tk hs ha k kx => SW.by (pw_and ST.pt SW.pw) (h.then tk hs ha kx fun c m F' as' H' p e1 e2 hs' ha' kx' => by
    cases c with
    | true => exact p.1 rfl W R F' as' σ H' Q tk hs' ha' (fun x m' F2 as2 H2 q f1 f2 => k x m' F2 as2 H2 q (e1.trans f1) (e2.trans f2)) kx'
    | false => exact k _ m F' as' H' (p.2 rfl) e1 e2 hs')
theorem ww_or {Φ : Bool → List MO → Prop} (h : WT X a dl mu (fun c m => (c = true → Φ true m) ∧ (c = false → WW X (.BoolOp .Or (b :: es) pos) dl m Φ ε)) ε) : WW X (.BoolOp .Or (a :: b :: es) pos) dl mu Φ ε :=
  .mk fun W R F as σ H Q tk hs ha k kx => SW.by (pw_or ST.pt SW.pw) (h.then tk hs ha kx fun c m F' as' H' p e1 e2 hs' ha' kx' => by
    cases c with
    | false => exact p.2 rfl W R F' as' σ H' Q tk hs' ha' (fun x m' F2 as2 H2 q f1 f2 => k x m' F2 as2 H2 q (e1.trans f1) (e2.trans f2)) kx'
    | true => exact k _ m F' as' H' (p.1 rfl) e1 e2 hs')
theorem we_one {op : BoolOp} (h : WE X a dl mu Φ ε) : WE X (.BoolOp op [a] pos) dl mu Φ ε := .mk fun W R F as σ H Q tk hs ha k kx => SE.by (pe_one SE.pe) (h W R F as σ H Q tk hs ha k kx)
theorem we_and (h : WE X a dl mu (fun x m => ∃ c, x = .bl c ∧ (c = true → WE X (.BoolOp .And (b :: es) pos) dl m Φ ε) ∧ (c = false → Φ (.bl false) m)) ε) : WE X (.BoolOp .And (a :: b :: es) pos) dl mu Φ ε :=
  .mk fun W R F as σ H Q tk hs ha k kx => SE.by (pe_and SE.pe SE.pe) (h.then tk hs ha kx fun v x m F' as' H' ⟨c, ec, p1, p2⟩ e1 e2 hs' ha' r kx' => by
    subst ec
    refine ⟨c, r, ?_⟩
    cases c with
    | true => exact p1 rfl W R F' as' σ H' Q tk hs' ha' (k.go e1 e2) kx'
    | false => exact k _ _ m F' as' H' (p2 rfl) e1 e2 hs' rfl)
theorem we_not (h : WE X a dl mu (fun x m => ∃ c, x = .bl c ∧ Φ (.bl (!c)) m) ε) : WE X (.UnaryOp .Not a pos) dl mu Φ ε :=
  .mk fun W R F as σ H Q tk hs ha k kx => SE.by (pe_not SE.pe) (h.then tk hs ha kx fun v x m F' as' H' ⟨c, ec, p⟩ e1 e2 hs' ha' r kx' => by
    subst ec
    exact ⟨c, r, k _ _ m F' as' H' p e1 e2 hs' rfl⟩)
theorem we_neg (h : WE X a dl mu (fun x m => ∃ i, x = .int i ∧ Φ (.int (-i)) m) ε) : WE X (.UnaryOp .USub a pos) dl mu Φ ε :=
  .mk fun W R F as σ H Q tk hs ha k kx => SE.by (pe_un un_neg SE.pe) (h.then tk hs ha kx fun v x m F' as' H' ⟨c, ec, p⟩ e1 e2 hs' ha' r kx' => by
    subst ec
    exact ⟨c, r, k _ _ m F' as' H' p e1 e2 hs' rfl⟩)
theorem we_ifExp (h : WT X c dl mu (fun t m => (t = true → WE X a dl m Φ ε) ∧ (t = false → WE X b dl m Φ ε)) ε) : WE X (.IfExp c a b pos) dl mu Φ ε :=
  .mk fun W R F as σ H Q tk hs ha k kx => SE.by (pe_ifExp ST.pt SE.pe SE.pe) (h.then tk hs ha kx fun t m F' as' H' p e1 e2 hs' ha' kx' => by
    cases t with
    | true => exact p.1 rfl W R F' as' σ H' Q tk hs' ha' (k.go e1 e2) kx'
    | false => exact p.2 rfl W R F' as' σ H' Q tk hs' ha' (k.go e1 e2) kx')
def SI (X : Cx) : R2 := fun x y H Q => ∀ (value slice : Expr) pins s σ v u, Inv X pins σ H s → RelV x v → RelV y u → subscripted slice false v u = operate [v, u] (getItem v u) → wpAny (model X.prog X.w) X.A (subscriptTail value slice v u) (EP X pins σ Q) X.xe s
theorem SI.ix : IxR X (SI X) := fun value slice pins s σ H x y v u Q I rx ry h hs => h value slice pins s σ v u I rx ry hs
theorem SI.by {r : R2} (ho : IxR X r) {x y : V} {H : Hp} {Q : VK} (h : r x y H Q) : SI X x y H Q := fun value slice pins s σ v u I rx ry hs => ho value slice pins s σ H x y v u Q I rx ry h hs
theorem ix_dict (hu : X.A.units + 1 < cLine) : IxR X (fun x y H Q => ∃ a v, x = .ref a ∧ DGet H a y (some v) ∧ Q v H) := by
  intro value slice pins s σ H x y v u Q I rx ry h hs
  obtain ⟨a, z, rfl, g, q⟩ := h
  obtain rfl : v = Value.ref a := rx
  unfold subscriptTail
  refine wpAny_bind ?_
  have hT := dict_typeIs I g
  rw [getitemInPython_of_ne hT.not_modules]
  refine wpAny_bind (wpAny_specialOf hT PySem.F.slot_dict_getitem.lookup ?_)
  have fin : wpAny (model X.prog X.w) X.A (subscripted slice false (.ref a) u) (fun r s₃ => wpAny (model X.prog X.w) X.A (letTemporaryGo value (.ref a) r >>= fun _ => pure r) (EP X pins σ Q) X.xe s₃) X.xe s := by
    rw [hs]
    exact wpAny_operating (wpAny_mono (d_getItem hu I g ry fun w' s3 I3 rw' => (⟨z, H, I3, rw', q⟩ : EP X pins σ Q w' s3)) (fun r s₃ h₃ => wpAny_bind (wpAny_letTemporaryGo (wpAny_pure h₃))) fun _ _ x => x)
  first
    | exact wpAny_pure (wpAny_bind fin)
    | exact wpAny_bind (wpAny_pure (wpAny_bind fin))
    | exact wpAny_bind fin
def ixD : D → D → (D → Prop) → Prop
  | .lst xs, .int i, k => ∃ d, atI xs i = some d ∧ k d
  | .tup xs, .int i, k => ∃ d, atI xs i = some d ∧ k d
  | .str s, .int i, k => s.length ≤ sizeLine ∧ ∃ c, atI s.cps.toList i = some c ∧ k (.str ⟨#[c]⟩)
  | .dct kvs, .str s, k => ∃ d, gval kvs (.inr s) = some d ∧ k d
  | .dct kvs, .int i, k => ∃ d, gval kvs (.inl i) = some d ∧ k d
  | _, _, _ => False
theorem RpL.atI {K : PySem.W.Frag} {F : Hp} {as : List Addr} {ds : List D} {vs : List V} {i : Int} {d : D} (r : RpL K F as ds vs) (h : L2.atI ds i = some d) : ∃ v, L2.atI vs i = some v ∧ Rp K F as d v := by
  unfold L2.atI at h ⊢
  rw [← r.len]
  cases e : ixN ds.length i with
  | none => rw [e] at h; cases h
  | some j => rw [e] at h; exact r.get h
theorem we_ix (hu : X.A.units + 65 < cLine) (h : WE X a dl mu (fun x m => WE X b dl m (fun y m' => ixD (rdD m' x) (rdD m' y) fun z => Φ z m') ε) ε) (hp : PlainIx b := by intro _ _; rfl) : WE X (.Subscript a b pos) dl mu Φ ε :=
  .mk fun W R F as σ H Q tk hs ha k kx => SE.by (pe_ix SI.ix SE.pe SE.pe hp) (h.then tk hs ha kx fun v x m F' as' H' p e1 e2 hs' ha' r kx' => p.then tk hs' ha' kx' fun w y m2 F2 as2 H2 p2 f1 f2 hs2 ha2 r2 kx2 => by
    have r1 := hs2.view (Rp.mono f1 f2 _ _ r)
    have r2 := hs2.view r2
    have K : ∀ z d, Φ d m2 → Rp X.K F2 as2 d z → Q z H2 := fun z d q rz => k z d m2 F2 as2 H2 q (e1.trans f1) (e2.trans f2) hs2 rz
    generalize rdD m2 x = x' at *
    generalize rdD m2 y = y' at *
    unfold ixD at p2
    split at p2
    · obtain ⟨d, h1, h2⟩ := p2
      obtain ⟨q, vs, rfl, g1, g2⟩ := r1
      cases r2
      obtain ⟨z, j1, j2⟩ := g2.atI h1
      exact SI.by ix_list ⟨q, vs, _, z, rfl, rfl, .inl (.inl g1), j1, K _ _ h2 j2⟩
    · obtain ⟨d, h1, h2⟩ := p2
      obtain ⟨q, vs, rfl, g1, g2⟩ := r1
      cases r2
      obtain ⟨z, j1, j2⟩ := g2.atI h1
      exact SI.by ix_tup ⟨q, vs, _, z, rfl, rfl, (hs2.er.tup g1).sqT, j1, K _ _ h2 j2⟩
    · obtain ⟨h0, c, h1, h2⟩ := p2
      cases r1; cases r2
      exact SI.by ix_str ⟨_, _, c, rfl, rfl, h0, h1, K _ _ h2 rfl⟩
    · obtain ⟨d, h1, h2⟩ := p2
      obtain ⟨q, ws, rfl, g1, g2⟩ := r1
      cases r2
      obtain ⟨z, j1, j2⟩ := (g2.val _).1 d h1
      exact SI.by (ix_dict (by omega)) ⟨q, z, rfl, .inl ⟨ws, _, g1, rfl, j1.symm⟩, K _ _ h2 j2⟩
    · obtain ⟨d, h1, h2⟩ := p2
      obtain ⟨q, ws, rfl, g1, g2⟩ := r1
      cases r2
      obtain ⟨z, j1, j2⟩ := (g2.val _).1 d h1
      exact SI.by (ix_dict (by omega)) ⟨q, z, rfl, .inl ⟨ws, _, g1, rfl, j1.symm⟩, K _ _ h2 j2⟩
    · exact p2.elim)
def SPo (X : Cx) (o : Option Expr) : TO := fun σ H Q => ∀ pins s, Inv X pins σ H s → wpAny (model X.prog X.w) X.A (evalPart o X.env) (fun u s' => ∃ i H', Inv X pins σ H' s' ∧ IsPart u i ∧ Q i H') X.xe s
theorem SPo.po {o : Option Expr} : PO X o (SPo X o) := ⟨fun pins s _ _ _ I h => h pins s I⟩
theorem SPo.by {o : Option Expr} {t : TO} (h : PO X o t) {σ : L2.St} {H : Hp} {Q : Option Int → Hp → Prop} (q : t σ H Q) : SPo X o σ H Q := fun pins s I => h.run pins s σ H Q I q
structure WPo (X : Cx) (o : Option Expr) (dl : List Sl) (mu : List MO) (Φ : Option Int → List MO → Prop) (ε : XP)  : Prop where
  run : ∀ W R F as σ H Q, Takes X W → Hs X.K R F as mu H → At X.K F as dl σ → (∀ i m F' as' H', Φ i m → Er F F' → as <+: as' → Hs X.K R F' as' m H' → Q i H') → KontX X.K R F as ε (fun c d H => W c d σ H) → SPo X o σ H Q
instance {X : Cx} (o : Option Expr) (dl : List Sl) (mu : List MO) (Φ : Option Int → List MO → Prop) (ε : XP)  : CoeFun (WPo X o dl mu Φ ε) (fun _ => ∀ W R F as σ H Q, Takes X W → Hs X.K R F as mu H → At X.K F as dl σ → (∀ i m F' as' H', Φ i m → Er F F' → as <+: as' → Hs X.K R F' as' m H' → Q i H') → KontX X.K R F as ε (fun c d H => W c d σ H) → SPo X o σ H Q) := ⟨fun h => h.run⟩
theorem wp_none {Φ : Option Int → List MO → Prop} (h : Φ none mu) : WPo X none dl mu Φ ε := .mk fun W R F as σ H Q tk hs ha k kx => SPo.by po_none (k none mu F as H h (Er.refl F) (List.prefix_refl _) hs)
theorem wp_some {Φ : Option Int → List MO → Prop} (h : WE X e dl mu (fun x m => ∃ i, x = .int i ∧ Φ (some i) m) ε) : WPo X (some e) dl mu Φ ε := .mk fun W R F as σ H Q tk hs ha k kx =>
  SPo.by (po_some SE.pe) (h.then tk hs ha kx fun v x m F' as' H' ⟨i, ei, p⟩ e1 e2 hs' ha' r kx' => by subst ei; exact ⟨i, r, k _ m F' as' H' p e1 e2 hs'⟩)
def cutL {α : Type} (xs : List α) (lo hi : Option Int) : List α := (xs.drop (HT.sIx xs.length 0 lo)).take (HT.sIx xs.length xs.length hi - HT.sIx xs.length 0 lo)
def slD : D → Option Int → Option Int → (D → Prop) → Prop
  | .lst xs, lo, hi, k => k (.lst (cutL xs lo hi))
  | .tup xs, lo, hi, k => k (.tup (cutL xs lo hi))
  | .str s, lo, hi, k => s.length ≤ sizeLine ∧ k (.str (cutS s lo hi))
  | .scr ns, lo, hi, k => k (.lst ((cutL ns lo hi).map .int))
  | _, _, _, _ => False
def SSl (X : Cx) : V → Option Int → Option Int → Hp → VK → Prop := fun x lo hi H Q => ∀ pins s σ v vl vu sl, Inv X pins σ H s → RelV x v → s.heap.IsSliceOf sl vl vu .none → IsPart vl lo → IsPart vu hi →
  ∃ T id, typeLookup (.type T) "__getitem__" = pure (some (.builtin id)) ∧ s.TypeIs v T ∧ wpAny (model X.prog X.w) X.A (getItem v (.ref sl)) (EP X pins σ Q) X.xe s
theorem SSl.sl : SlR X (SSl X) := fun pins s σ H x v vl vu lo hi sl Q I rx h1 h2 h3 h => h pins s σ v vl vu sl I rx h1 h2 h3
theorem SSl.by {r : V → Option Int → Option Int → Hp → VK → Prop} (hr : SlR X r) {x : V} {lo hi : Option Int} {H : Hp} {Q : VK} (h : r x lo hi H Q) : SSl X x lo hi H Q := fun pins s σ v vl vu sl I rx h1 h2 h3 => hr pins s σ H x v vl vu lo hi sl Q I rx h1 h2 h3 h
def rSlF (K : PySem.W.Frag) : V → Option Int → Option Int → Hp → VK → Prop := fun x lo hi H Q => ∃ a xs, x = .ref a ∧ SqT K H a xs ∧
  (HT.sIx xs.length 0 lo = 0 ∧ HT.sIx xs.length xs.length hi = xs.length → Q (.ref a) H) ∧ (¬ (HT.sIx xs.length 0 lo = 0 ∧ HT.sIx xs.length xs.length hi = xs.length) → ∀ p its, H p = none → Q (.ref p) (upd H p (.frz (tob its) (.tup (cutV xs lo hi)))))
theorem sl_tupF : SlR X (rSlF X.K) := by
  intro pins s σ H x v vl vu lo hi sl Q I rx hs pl pu h
  obtain ⟨a, xs, rfl, hx, q1, q2⟩ := h
  cases rx
  obtain ⟨its, r, ht, hz⟩ := I.tuple hx
  have hlen : its.toArray.size = xs.length := by rw [List.size_toArray]; exact r.length.symm
  refine ⟨"tuple", _, PyProof.Rows.slot_tuple_getitem.lookup, ht.typeIs, ?_⟩
  by_cases hw : HT.sIx xs.length 0 lo = 0 ∧ HT.sIx xs.length xs.length hi = xs.length
  · exact getItem_tuple_whole ht hs pl pu (by rw [hlen]; exact hw) ⟨.ref a, H, I, rfl, q1 hw⟩
  · refine HT.getItem_tuple_cut ht hs pl pu (by rw [hlen]; exact hw) ?_ (by rw [hlen]; exact hz)
    rw [hlen]
    refine ⟨.ref s.heap.objs.size, _, I.laid (t' := s.toks) (o := .frz (tob ((its.drop (HT.sIx xs.length 0 lo)).take (HT.sIx xs.length xs.length hi - HT.sIx xs.length 0 lo)).toArray) (.tup (cutV xs lo hi))) (fun b ob q => Heap.get?_push_of_some _ q) (Nat.le_refl _) ?_, rfl, q2 hw _ _ (I.hok.fresh (Nat.le_refl _))⟩
    exact ⟨Heap.get?_push_size _ rfl, Nat.le_trans (cutV_length xs lo hi) hz, _, (r.drop (HT.sIx xs.length 0 lo)).take (HT.sIx xs.length xs.length hi - HT.sIx xs.length 0 lo), IsTup.new _ _⟩
theorem RpL.cut {K : PySem.W.Frag} {F : Hp} {as : List Addr} {ds : List D} {vs : List V} (r : RpL K F as ds vs) (lo hi : Option Int) : RpL K F as (cutL ds lo hi) (cutV vs lo hi) := by
  unfold cutL cutV
  rw [r.len]
  exact (r.drop _).take _
theorem cutL_all {α : Type} {xs : List α} {lo hi : Option Int} (h : HT.sIx xs.length 0 lo = 0 ∧ HT.sIx xs.length xs.length hi = xs.length) : cutL xs lo hi = xs := by
  unfold cutL
  rw [h.1, h.2]
  simp
theorem cutV_map {ns : List Int} {lo hi : Option Int} : cutV (ns.map V.int) lo hi = (cutL ns lo hi).map V.int := by
  unfold cutV cutL
  rw [List.length_map, List.map_take, List.map_drop]
theorem we_slice {lo hi : Option Expr} (h : WE X e dl mu (fun x m => WPo X lo dl m (fun i m' => WPo X hi dl m' (fun j m'' => slD (rdD m'' x) i j fun z => Φ z m'') ε) ε) ε) : WE X (.Subscript e (.Slice lo hi none pos') pos) dl mu Φ ε :=
  .mk fun W R F as σ H Q tk hs ha k kx => SE.by (pe_slice SSl.sl SE.pe SPo.po SPo.po) (h.then tk hs ha kx fun v x m F' as' H' p e1 e2 hs' ha' r kx' => p W R F' as' σ H' _ tk hs' ha' (fun i m2 F2 as2 H2 p2 f1 f2 hs2 =>
    p2 W R F2 as2 σ H2 _ tk hs2 (ha'.mono f1 f2) (fun j m3 F3 as3 H3 p3 g1 g2 hs3 => by
      have r1 := hs3.view (Rp.mono (f1.trans g1) (f2.trans g2) _ _ r)
      have K := k.go ((e1.trans f1).trans g1) ((e2.trans f2).trans g2)
      have p3 : slD (rdD m3 x) i j (fun z => Φ z m3) := p3
      clear p p2
      generalize rdD m3 x = x' at *
      cases x' with
      | lst xs =>
        have p3 : Φ (.lst (cutL xs i j)) m3 := p3
        obtain ⟨q, vs, rfl, h1, h2⟩ := r1
        refine SSl.by sl_list ⟨q, vs, rfl, .inl (.inl h1), fun w hw => ?_⟩
        obtain ⟨q1, q2⟩ := hs3.laid (o := .lst (cutV vs i j)) hw
        exact K _ _ _ _ _ _ p3 q2 (List.prefix_refl _) q1 ⟨w, _, rfl, upd_same, RpL.mono q2 (List.prefix_refl _) _ _ (h2.cut i j)⟩
      | tup xs =>
        have p3 : Φ (.tup (cutL xs i j)) m3 := p3
        obtain ⟨q, vs, rfl, h1, h2⟩ := r1
        refine SSl.by sl_tupF ⟨q, vs, rfl, (hs3.er.tup h1).sqT, fun hw => ?_, fun hw w its hn => ?_⟩
        · rw [cutL_all (by rw [h2.len]; exact hw)] at p3
          exact K.now hs3 p3 ⟨q, vs, rfl, h1, h2⟩
        · obtain ⟨q1, q2⟩ := hs3.laid (o := .frz (tob its) (.tup (cutV vs i j))) hn
          exact K _ _ _ _ _ _ p3 q2 (List.prefix_refl _) q1 ⟨w, _, rfl, .inl ⟨its, upd_same⟩, RpL.mono q2 (List.prefix_refl _) _ _ (h2.cut i j)⟩
      | str z =>
        have p3 : z.length ≤ sizeLine ∧ Φ (.str (cutS z i j)) m3 := p3
        cases r1
        exact SSl.by sl_str ⟨_, rfl, p3.1, K.now hs3 p3.2 rfl⟩
      | scr ns =>
        have p3 : Φ (.lst ((cutL ns i j).map .int)) m3 := p3
        obtain ⟨q, rfl, h1⟩ := r1
        refine SSl.by sl_list ⟨q, _, rfl, h1, fun w hw => ?_⟩
        rw [cutV_map]
        obtain ⟨q1, q2⟩ := hs3.laid (o := .lst ((cutL ns i j).map V.int)) hw
        exact K _ _ _ _ _ _ p3 q2 (List.prefix_refl _) q1 ⟨w, _, rfl, upd_same, RpL.mapInt⟩
      | _ => exact False.elim p3) (kx'.go f1 f2)) kx')
end
end DL
namespace DL
open PySem PySem.Spec PyProof.Rows L2
inductive Yd where
  | one (d : D)
  | many (ds : List D)
def YOk (K : PySem.W.Frag) (F : Hp) (as : List Addr) (H : Hp) : Yd → V → Prop
  | .one d, v => Rp K F as d v
  | .many ds, v => ∃ T vs, v = .ref T ∧ SqT K H T vs ∧ RpL K F as ds vs
def Stw (is : List Nat) (σ σ' : L2.St) : Prop := σ'.length = σ.length ∧ ∀ i, i ∉ is → σ'[i]? = σ[i]?
theorem Stw.refl (σ : L2.St) : Stw [] σ σ := ⟨rfl, fun _ _ => rfl⟩
theorem Stw.trans {is js : List Nat} {σ σ' σ2 : L2.St} (h : Stw is σ σ') (g : Stw js σ' σ2) : Stw (is ++ js) σ σ2 :=
  ⟨g.1.trans h.1, fun i hi => (g.2 i fun z => hi (List.mem_append_right _ z)).trans (h.2 i fun z => hi (List.mem_append_left _ z))⟩
theorem Stw.set (σ : L2.St) (i : Nat) (x : Option V) : Stw [i] σ (σ.set i x) := ⟨by simp, fun j hj => List.getElem?_set_ne (fun z => hj (by simp [z]))⟩
theorem wipe_get (σ : L2.St) (i : Nat) : ∀ vs : List Nat, (wipe σ vs)[i]? = if i ∈ vs ∧ i < σ.length then some none else σ[i]?
  | [] => by simp [wipe]
  | v :: vs => by
    unfold wipe
    by_cases e : v = i
    · subst e
      by_cases hl : v < σ.length
      · rw [List.getElem?_set_self (by rw [wipe_length]; exact hl), if_pos ⟨List.mem_cons_self, hl⟩]
      · rw [if_neg (fun z => hl z.2), List.getElem?_eq_none (by simp only [List.length_set, wipe_length]; omega), List.getElem?_eq_none (by omega)]
    · rw [List.getElem?_set_ne e, wipe_get σ i vs]
      have : (i ∈ v :: vs ∧ i < σ.length) ↔ (i ∈ vs ∧ i < σ.length) := by simp [Ne.symm e]
      simp only [this]
theorem Stw.wipe {is vs : List Nat} {σ σ' : L2.St} (h : Stw is σ σ') (hs : ∀ i ∈ is, i ∈ vs) : wipe σ' vs = wipe σ vs := by
  apply List.ext_getElem?
  intro i
  rw [wipe_get, wipe_get, h.1]
  by_cases e : i ∈ vs ∧ i < σ.length
  · rw [if_pos e, if_pos e]
  · rw [if_neg e, if_neg e]
    by_cases hi : i ∈ is
    · have hv := hs i hi
      have hl : ¬ i < σ.length := fun z => e ⟨hv, z⟩
      rw [List.getElem?_eq_none (l := σ') (by rw [h.1]; omega), List.getElem?_eq_none (l := σ) (by omega)]
    · exact h.2 i hi
section
variable {X : Cx} {e tg it : Expr} {es : List Expr} {dl : List Sl} {mu : List MO} {ε : XP} {pos : Pos} {x : Str}
def SG (X : Cx) (tg : Expr) : TG := fun v σ H Q => ∀ pins s u, Inv X pins σ H s → RelV v u → wpAny (model X.prog X.w) X.A (assign tg X.env u) (fun _ s' => ∃ σ' H', Inv X pins σ' H' s' ∧ Q σ' H') X.xe s
theorem SG.pg : PG X tg (SG X tg) := ⟨fun pins s σ H v u Q I r h => h pins s u I r⟩
theorem SG.by {g : TG} (h : PG X tg g) {v : V} {σ : L2.St} {H : Hp} {Q : L2.St → Hp → Prop} (q : g v σ H Q) : SG X tg v σ H Q := fun pins s u I r => h.run pins s σ H v u Q I r q
def SGs (X : Cx) (ts : List Expr) : TGs := fun vs σ H Q => ∀ pins s us, Inv X pins σ H s → Vals vs us → wpAny (model X.prog X.w) X.A (assignInOrder ((assignEach ts X.env).map (·.2)) us) (fun _ s' => ∃ σ' H', Inv X pins σ' H' s' ∧ Q σ' H') X.xe s
theorem SGs.pgs {ts : List Expr} : PGs X ts (SGs X ts) := ⟨fun pins s σ H v u Q I r h => h pins s u I r⟩
theorem SGs.by {ts : List Expr} {g : TGs} (h : PGs X ts g) {v : List V} {σ : L2.St} {H : Hp} {Q : L2.St → Hp → Prop} (q : g v σ H Q) : SGs X ts v σ H Q := fun pins s u I r => h.run pins s σ H v u Q I r q
structure WG (X : Cx) (tg : Expr) (is : List Nat) (y : Yd) (dl : List Sl) (mu : List MO) (Ψ : SK)  : Prop where
  run : ∀ R F as σ H v Q, Hs X.K R F as mu H → At X.K F as dl σ → YOk X.K F as H y v → (∀ dl' mu' F' as' σ' H', Ψ dl' mu' → Er F F' → as <+: as' → Hs X.K R F' as' mu' H' → At X.K F' as' dl' σ' → Stw is σ σ' → Q σ' H') → SG X tg v σ H Q
instance {X : Cx} (tg : Expr) (is : List Nat) (y : Yd) (dl : List Sl) (mu : List MO) (Ψ : SK)  : CoeFun (WG X tg is y dl mu Ψ) (fun _ => ∀ R F as σ H v Q, Hs X.K R F as mu H → At X.K F as dl σ → YOk X.K F as H y v → (∀ dl' mu' F' as' σ' H', Ψ dl' mu' → Er F F' → as <+: as' → Hs X.K R F' as' mu' H' → At X.K F' as' dl' σ' → Stw is σ σ' → Q σ' H') → SG X tg v σ H Q) := ⟨fun h => h.run⟩
structure WGs (X : Cx) (ts : List Expr) (is : List Nat) (ys : List D) (dl : List Sl) (mu : List MO) (Ψ : SK)  : Prop where
  run : ∀ R F as σ H vs Q, Hs X.K R F as mu H → At X.K F as dl σ → RpL X.K F as ys vs → (∀ dl' mu' F' as' σ' H', Ψ dl' mu' → Er F F' → as <+: as' → Hs X.K R F' as' mu' H' → At X.K F' as' dl' σ' → Stw is σ σ' → Q σ' H') → SGs X ts vs σ H Q
instance {X : Cx} (ts : List Expr) (is : List Nat) (ys : List D) (dl : List Sl) (mu : List MO) (Ψ : SK)  : CoeFun (WGs X ts is ys dl mu Ψ) (fun _ => ∀ R F as σ H vs Q, Hs X.K R F as mu H → At X.K F as dl σ → RpL X.K F as ys vs → (∀ dl' mu' F' as' σ' H', Ψ dl' mu' → Er F F' → as <+: as' → Hs X.K R F' as' mu' H' → At X.K F' as' dl' σ' → Stw is σ σ' → Q σ' H') → SGs X ts vs σ H Q) := ⟨fun h => h.run⟩
theorem wg_name {Ψ : SK} (i : Nat) {d : D} (h : Ψ (dl.set i (some d)) mu) (hN : X.N.Nodup := by assumption) (hi : X.N[i]? = some x := by rfl) (hx : Loc X.env.scope x := by first | exact Or.inl rfl | exact Or.inr rfl)
    (hf : X.fn x = true ∨ X.env.scope.names.lookup x = some .local := by first | exact .inl rfl | exact .inr rfl | assumption) : WG X (.Name x pos) [i] (.one d) dl mu Ψ :=
  .mk fun R F as σ H v Q hs ha r k => SG.by (pg_name hN hi hx hf) (k _ _ F as _ H h (Er.refl F) (List.prefix_refl _) hs (ha.set i r) (Stw.set σ i _))
theorem wgs_nil {Ψ : SK} (h : Ψ dl mu) : WGs X [] [] [] dl mu Ψ := .mk fun R F as σ H vs Q hs ha r k => by
  cases r
  exact SGs.by pgs_nil ⟨rfl, k _ _ F as _ H h (Er.refl F) (List.prefix_refl _) hs ha (Stw.refl σ)⟩
theorem wgs_cons {Ψ : SK} {is js : List Nat} {d : D} {ds : List D} (h : WG X e is (.one d) dl mu (fun dl' mu' => WGs X es js ds dl' mu' Ψ)) (hst : (assignEach (e :: es) X.env).map (·.2) = assign e X.env :: (assignEach es X.env).map (·.2) := by rfl) :
    WGs X (e :: es) (is ++ js) (d :: ds) dl mu Ψ := .mk fun R F as σ H vs Q hs ha ⟨v, r, ev, r1, r2⟩ k => by
  subst ev
  refine SGs.by (pgs_cons SG.pg SGs.pgs hst) ⟨v, r, rfl, h R F as σ H v _ hs ha r1 fun dl' mu' F' as' σ' H' p e1 e2 hs' ha' st => ?_⟩
  exact p R F' as' σ' H' r Q hs' ha' (RpL.mono e1 e2 _ _ r2) fun dl2 mu2 F2 as2 σ2 H2 p2 f1 f2 hs2 ha2 st2 => k dl2 mu2 F2 as2 σ2 H2 p2 (e1.trans f1) (e2.trans f2) hs2 ha2 (st.trans st2)
def ydL : Yd → Option (List D)
  | .many ds => some ds
  | .one (.tup ds) => some ds
  | _ => none
theorem wg_tup {Ψ : SK} {is : List Nat} {y : Yd} {ds : List D} {n k' : Nat} (hy : ydL y = some ds) (hl : ds.length = n) (h : WGs X es is ds dl mu Ψ) (hc : X.calm = true := by rfl)
    (hn : (assignEach es X.env).length = n := by rfl) (hst : (assignEach es X.env).findIdx? (·.1) = none := by rfl) : WG X (.Tuple es k' pos) is y dl mu Ψ := .mk fun R F as σ H v Q hs ha r k => by
  have : ∃ a vs, v = .ref a ∧ SqT X.K H a vs ∧ RpL X.K F as ds vs := by
    cases y with
    | many zs => cases hy; exact r
    | one d =>
      cases d with
      | tup zs => cases hy; obtain ⟨a, vs, h1, h2, h3⟩ := r; exact ⟨a, vs, h1, (hs.er.tup h2).sqT, h3⟩
      | _ => cases hy
  obtain ⟨a, vs, h1, h2, h3⟩ := this
  exact SG.by (pg_tup hc SGs.pgs hn hst) ⟨a, vs, h1, h2, by rw [← h3.len]; exact hl, h R F as σ H vs Q hs ha h3 k⟩
theorem wg_unl {Ψ : SK} {is : List Nat} {ds : List D} {n k' : Nat} (hl : ds.length = n) (h : WGs X es is ds dl mu Ψ) (hc : X.calm = true := by rfl)
    (hn : (assignEach es X.env).length = n := by rfl) (hst : (assignEach es X.env).findIdx? (·.1) = none := by rfl) : WG X (.Tuple es k' pos) is (.one (.lst ds)) dl mu Ψ := .mk fun R F as σ H v Q hs ha r k => by
  obtain ⟨a, vs, h1, h2, h3⟩ := r
  exact SG.by (pg_unl hc SGs.pgs hn hst) ⟨a, vs, h1, .inl (.inl (hs.er.ex _ _ trivial h2)), by rw [← h3.len]; exact hl, h R F as σ H vs Q hs ha h3 k⟩
def Walks (J : It) (ys : List Yd) (K : PySem.W.Frag) (F1 : Hp) (as1 : List Addr) : Prop := ∀ R (i : Nat) H F as mu, Er F1 F → as1 <+: as → Hs K R F as mu H →
  (∀ y, ys[i]? = some y → J.go i H ∧ ∀ x H', J.yld i H x H' → ∃ F', Er F F' ∧ Hs K R F' as mu H' ∧ YOk K F' as H' y x) ∧ (ys.length ≤ i → J.stop i H)
theorem Walks.mono {J : It} {ys : List Yd} {K : PySem.W.Frag} {F1 F2 : Hp} {as1 as2 : List Addr} (w : Walks J ys K F1 as1) (e : Er F1 F2) (p : as1 <+: as2) : Walks J ys K F2 as2 := fun R i H F as mu e1 p1 hs => w R i H F as mu (e.trans e1) (p.trans p1) hs
def SIt (X : Cx) (tg it : Expr) : TI := fun σ H R => ∀ pins s, Inv X pins σ H s → wpAny (model X.prog X.w) X.A (eval it X.env) (fun v s1 => wpAny (model X.prog X.w) X.A (pyIter v) (PIE X pins σ tg R) X.xe s1) X.xe s
theorem SIt.pi : PI X tg it (SIt X tg it) := ⟨fun pins s σ H R I h => h pins s I⟩
theorem SIt.by {w : TI} (h : PI X tg it w) {σ : L2.St} {H : Hp} {R : It → Hp → Prop} (q : w σ H R) : SIt X tg it σ H R := fun pins s I => h.run pins s σ H R I q
structure WIt (X : Cx) (tg it : Expr) (dl : List Sl) (mu : List MO) (Φ : List Yd → List MO → Prop) (ε : XP)  : Prop where
  run : ∀ W R F as σ H (Q : It → Hp → Prop), Takes X W → Hs X.K R F as mu H → At X.K F as dl σ → (∀ J ys m F' as' H', Φ ys m → Er F F' → as <+: as' → Hs X.K R F' as' m H' → Walks J ys X.K F' as' → Q J H') → KontX X.K R F as ε (fun c d H => W c d σ H) → SIt X tg it σ H Q
instance {X : Cx} (tg it : Expr) (dl : List Sl) (mu : List MO) (Φ : List Yd → List MO → Prop) (ε : XP)  : CoeFun (WIt X tg it dl mu Φ ε) (fun _ => ∀ W R F as σ H (Q : It → Hp → Prop), Takes X W → Hs X.K R F as mu H → At X.K F as dl σ → (∀ J ys m F' as' H', Φ ys m → Er F F' → as <+: as' → Hs X.K R F' as' m H' → Walks J ys X.K F' as' → Q J H') → KontX X.K R F as ε (fun c d H => W c d σ H) → SIt X tg it σ H Q) := ⟨fun h => h.run⟩
def SIv (X : Cx) (tg : Expr) (x : V) (H : Hp) (R : It → Hp → Prop) : Prop := ∀ pins s σ v, Inv X pins σ H s → RelV x v → wpAny (model X.prog X.w) X.A (pyIter v) (PIE X pins σ tg R) X.xe s
theorem siv_list {a : Addr} {xs : List V} {H : Hp} {R : It → Hp → Prop} (hq : SqL X.K H a xs) (q : R (Itl X.K a) H) : SIv X tg (.ref a) H R := fun pins s σ v I r1 => by
  cases r1
  obtain ⟨its, rv, p, hz⟩ := I.list hq
  refine wpAny_pyIter_list p.isList ?_
  refine ⟨s.heap.objs.size, [s.heap.objs.size], _, _, H, rfl, I.kept (t' := s.toks) fun b o e => Heap.get?_push_of_some _ e, turn_list a _, ⟨_, Heap.get?_push_size _ rfl, rfl, rfl⟩, fun b hb => ?_, q⟩
  have e : b = s.heap.objs.size := by simpa using hb
  subst e
  exact I.fpOk (Nat.le_refl _) (I.hok.fresh (Nat.le_refl _))
theorem siv_tup {a : Addr} {xs : List V} {H : Hp} {R : It → Hp → Prop} (hq : SqT X.K H a xs) (q : R (Itt X.K a) H) : SIv X tg (.ref a) H R := fun pins s σ v I r1 => by
  cases r1
  obtain ⟨its, rv, p, hz⟩ := I.tuple hq
  refine wpAny_pyIter_tuple (show s.heap.IsTuple a its.toArray from p) ?_
  refine ⟨s.heap.objs.size, [s.heap.objs.size], _, _, H, rfl, I.kept (t' := s.toks) fun b o e => Heap.get?_push_of_some _ e, turn_tuple a _, ⟨_, Heap.get?_push_size _ rfl, rfl, rfl⟩, fun b hb => ?_, q⟩
  have e : b = s.heap.objs.size := by simpa using hb
  subst e
  exact I.fpOk (Nat.le_refl _) (I.hok.fresh (Nat.le_refl _))
theorem siv_str {y : Str} {H : Hp} {R : It → Hp → Prop} (q : R (Its y) H) : SIv X tg (.str y) H R := fun pins s σ v I r1 => by
  obtain ⟨t, rfl⟩ := r1
  cases ha : y.cps.all (· < 128)
  · exact wpAny_pyIter_wide ha (pi_one (tk := s.toks) I _ (turn_str _ y t "str_iterator" (.inr rfl)) ⟨_, Heap.get?_push_size _ rfl, rfl, rfl⟩ q)
  · exact wpAny_pyIter_ascii ha (pi_one (tk := s.toks) I _ (turn_str _ y t "str_ascii_iterator" (.inl rfl)) ⟨_, Heap.get?_push_size _ rfl, rfl, rfl⟩ q)
theorem siv_keys {d : Addr} {o : Obj} {kvs : List (Key × V)} {H : Hp} {R : It → Hp → Prop} (hd : H d = some (.frz o (.dK kvs))) (q : R (Itk d o kvs) H) : SIv X tg (.ref d) H R := fun pins s σ v I r1 => by
  obtain rfl : v = Value.ref d := r1
  obtain ⟨hs, hgd, hx, es, ep, vs, hdt, hsz, kv, hm⟩ := I.frzK hd
  refine iter_keys hs hgd hx hdt (pi_one (tk := s.toks) I _ (turn_keys _ hdt) ⟨_, Heap.get?_push_size _ rfl, rfl, ?_⟩ q)
  rw [hsz] <;> rfl
def signs (s : Str) : List Str := s.cps.toList.map fun c => ⟨#[c]⟩
def kD : Key → D
  | .inl i => .int i
  | .inr x => .str x
def seqY : D → Option (List Yd)
  | .lst xs => some (xs.map .one)
  | .tup xs => some (xs.map .one)
  | .str s => some ((signs s).map fun c => .one (.str c))
  | .dct kvs => some (kvs.map fun p => .one (kD p.1))
  | _ => none
theorem get_map {α β : Type} {f : α → β} {l : List α} {i : Nat} {y : β} (h : (l.map f)[i]? = some y) : ∃ x, l[i]? = some x ∧ f x = y := by
  rw [List.getElem?_map] at h
  cases e : l[i]? with
  | none => rw [e] at h; cases h
  | some x => rw [e] at h; exact ⟨x, rfl, Option.some.inj h⟩
theorem seqY.siv {R F : Hp} {as : List Addr} {H : Hp} {x : D} {v : V} {ys : List Yd} {Q : It → Hp → Prop} (hs : Hs X.K R F as mu H) (hx : seqY x = some ys) (r : Rp X.K F as x v) (q : ∀ J, Walks J ys X.K F as → Q J H) : SIv X tg v H Q := by
  cases x with
  | lst xs =>
    cases hx
    obtain ⟨a, vs, rfl, h1, h2⟩ := r
    refine siv_list (xs := vs) (.inl (.inl (hs.er.ex _ _ trivial h1))) (q _ fun R i H' F' as' mu' e p hs' => ⟨fun y hy => ?_, fun hl => ?_⟩)
    · obtain ⟨d, e1, rfl⟩ := get_map hy
      obtain ⟨w, e2, r2⟩ := h2.get e1
      have hq : SqL X.K H' a vs := .inl (.inl (hs'.er.ex _ _ trivial (e.ex _ _ trivial h1)))
      refine ⟨⟨vs, w, hq, e2⟩, fun z H2 yl => ?_⟩
      obtain ⟨rfl, yl⟩ := yl
      have := yl vs hq
      rw [e2] at this; cases this
      exact ⟨F', Er.refl _, hs', Rp.mono e p _ _ r2⟩
    · exact ⟨vs, .inl (.inl (hs'.er.ex _ _ trivial (e.ex _ _ trivial h1))), by rw [← h2.len]; simpa using hl⟩
  | tup xs =>
    cases hx
    obtain ⟨a, vs, rfl, h1, h2⟩ := r
    refine siv_tup (xs := vs) (hs.er.tup h1).sqT (q _ fun R i H' F' as' mu' e p hs' => ⟨fun y hy => ?_, fun hl => ?_⟩)
    · obtain ⟨d, e1, rfl⟩ := get_map hy
      obtain ⟨w, e2, r2⟩ := h2.get e1
      have hq : SqT X.K H' a vs := (hs'.er.tup (e.tup h1)).sqT
      refine ⟨⟨vs, w, hq, e2⟩, fun z H2 yl => ?_⟩
      obtain ⟨rfl, yl⟩ := yl
      have := yl vs hq
      rw [e2] at this; cases this
      exact ⟨F', Er.refl _, hs', Rp.mono e p _ _ r2⟩
    · exact ⟨vs, (hs'.er.tup (e.tup h1)).sqT, by rw [← h2.len]; simpa using hl⟩
  | str z =>
    cases hx
    cases r
    refine siv_str (q _ fun R i H' F' as' mu' e p hs' => ⟨fun y hy => ?_, fun hl => ?_⟩)
    · obtain ⟨c, e1, rfl⟩ := get_map hy
      obtain ⟨c, e2, rfl⟩ := get_map e1
      have e2 : z.cps[i]? = some c := by rw [← Array.getElem?_toList]; exact e2
      refine ⟨(Array.getElem?_eq_some_iff.mp e2).1, fun w H2 yl => ?_⟩
      obtain ⟨rfl, c', e3, rfl⟩ := yl
      rw [e2] at e3; cases e3
      exact ⟨F', Er.refl _, hs', rfl⟩
    · show z.cps.size ≤ i
      simpa [signs] using hl
  | dct kvs =>
    cases hx
    obtain ⟨a, o, ws, rfl, h1, h2⟩ := r
    refine siv_keys (hs.er.ex _ _ trivial h1) (q _ fun R i H' F' as' mu' e p hs' => ⟨fun y hy => ?_, fun hl => ?_⟩)
    · obtain ⟨kv, e1, rfl⟩ := get_map hy
      have hq : H' a = some (.frz o (.dK ws)) := hs'.er.ex _ _ trivial (e.ex _ _ trivial h1)
      have e3 : (ws.map (·.1))[i]? = some kv.1 := by rw [h2.keys, List.getElem?_map, e1]; rfl
      obtain ⟨kw, e4, e5⟩ := get_map e3
      refine ⟨⟨hq, (List.getElem?_eq_some_iff.mp e4).1⟩, fun w H2 yl => ?_⟩
      obtain ⟨rfl, k, v, e6, rfl⟩ := yl
      rw [e4] at e6; cases e6
      refine ⟨F', Er.refl _, hs', ?_⟩
      have e5 : k = kv.1 := e5
      subst e5
      show Rp X.K F' as' (kD kv.1) (kV kv.1)
      cases kv.1 <;> rfl
    · have hq : H' a = some (.frz o (.dK ws)) := hs'.er.ex _ _ trivial (e.ex _ _ trivial h1)
      refine ⟨hq, ?_⟩
      rw [← h2.len]; simpa using hl
  | _ => cases hx
theorem wit_seq {Φ : List Yd → List MO → Prop} (h : WE X it dl mu (fun x m => ∃ ys, seqY x = some ys ∧ Φ ys m) ε) : WIt X tg it dl mu Φ ε := .mk fun W R F as σ H Q tk hs ha k kx pins s I =>
  thn ((h.then (t := fun v H' => SIv X tg v H' Q) tk hs ha kx fun v x m F' as' H' ⟨ys, hy, p⟩ e1 e2 hs' ha' r kx' => seqY.siv hs' hy r fun J w => k J ys m F' as' H' p e1 e2 hs' w) pins s I)
    fun u s1 ⟨v, H1, I1, r1, q1⟩ => q1 pins s1 σ u I1 r1
def rgY (lo : Int) (n : Nat) : List Yd := (List.range n).map fun i => .one (.int (lo + (i : Nat)))
theorem walks_rg {lo : Int} {n : Nat} {K : PySem.W.Frag} {F : Hp} {as : List Addr} : Walks (Itr lo n) (rgY lo n) K F as := fun R i H' F' as' mu' e p hs' => ⟨fun y hy => by
    obtain ⟨j, e1, rfl⟩ := get_map hy
    have hi : i < n := by have := (List.getElem?_eq_some_iff.mp e1).1; simpa using this
    have : j = i := by rw [List.getElem?_range hi] at e1; exact (Option.some.inj e1).symm
    subst this
    refine ⟨hi, fun z H2 yl => ?_⟩
    obtain ⟨rfl, rfl⟩ := yl
    exact ⟨F', Er.refl _, hs', rfl⟩, fun hl => by show n ≤ i; simpa [rgY] using hl⟩
theorem wit_range1 {a : Expr} {Φ : List Yd → List MO → Prop} {p : Pos} (hm : X.mg "range" = none) (h : WE X a dl mu (fun x m => ∃ j, x = .int j ∧ (-(2 ^ 62) ≤ j ∧ j < 2 ^ 62) ∧ Φ (rgY 0 j.toNat) m) ε) (hg : Gl X "range" := by rfl) (hst : starEach [a] X.env = [(false, eval a X.env)] := by rfl) :
    WIt X tg (.Call (.Name "range" p) [a] [] pos) dl mu Φ ε := .mk fun W R F as σ H Q tk hs ha k kx =>
  SIt.by (pi_range1 hg hm SA.pa hst) ((wa_cons (es := []) (Φ := fun xs m => ∃ j, xs = [.int j] ∧ (-(2 ^ 62) ≤ j ∧ j < 2 ^ 62) ∧ Φ (rgY 0 j.toNat) m) (h.imp fun x m ⟨j, e, b, q⟩ => wa_nil ⟨j, by rw [e], b, q⟩) hst).then tk hs ha kx fun vs xs m F' as' H' ⟨j, ex, b, q⟩ e1 e2 hs' ha' r kx' => by
    subst ex
    obtain ⟨v, r', rfl, r1, r2⟩ := r
    cases r1; cases r2
    exact ⟨j, rfl, b.1, b.2, k _ _ m F' as' H' q e1 e2 hs' walks_rg⟩)
end
end DL
namespace DL
open PySem PySem.Spec PyProof.Rows L2
section
variable {X : Cx} {e tg it c : Expr} {es : List Expr} {dl : List Sl} {mu : List MO} {ε : XP} {pos : Pos} {x : Str} {st : Stmt} {body rest : List Stmt} {Ψ : DEnds}
theorem wss_nil (h : Ψ.nx dl mu) : WSs X [] dl mu Ψ := .mk fun W R F as σ H E tk hs ha k => SSs.by pss_nil (k.nx _ _ F as σ H h (Er.refl F) (List.prefix_refl _) hs ha)
theorem wss_cons (h : WS X st dl mu { Ψ with nx := fun d m => WSs X rest d m Ψ }) : WSs X (st :: rest) dl mu Ψ := .mk fun W R F as σ H E tk hs ha k =>
  SSs.by (pss_cons SS.ps SSs.pss) (h W R F as σ H { E with nx := SSs X rest E } tk hs ha ⟨fun dl' mu' F' as' σ' H' p e1 e2 hs' ha' => p W R F' as' σ' H' E tk hs' ha' (k.go e1 e2), k.rt, k.bk, k.ct, k.ex⟩)
theorem wss_one (h : WS X st dl mu Ψ) : WSs X [st] dl mu Ψ := .mk fun W R F as σ H E tk hs ha k => SSs.by (pss_one SS.ps) (h W R F as σ H E tk hs ha k)
theorem ws_expr (h : WE X e dl mu (fun _ m => Ψ.nx dl m) (fun x m => Ψ.ex x dl m)) (hs : swapsWith e none pos.line X.env = pure false := by rfl) : WS X (.Expr e pos) dl mu Ψ := .mk fun W R F as σ H E tk hs1 ha k =>
  SS.by (ps_expr SE.pe hs) (h.then tk hs1 ha (k.toX ha) fun v x m F' as' H' p e1 e2 hs' ha' r kx' => k.nx _ _ F' as' σ H' p e1 e2 hs' ha')
theorem ws_ret (h : WE X e dl mu Ψ.rt (fun x m => Ψ.ex x dl m)) : WS X (.Return (some e) pos) dl mu Ψ := .mk fun W R F as σ H E tk hs ha k =>
  SS.by (ps_ret SE.pe) (h W R F as σ H _ tk hs ha k.rt (k.toX ha))
theorem ws_if {a b : List Stmt} (h : WT X c dl mu (fun t m => (t = true → WSs X a dl m Ψ) ∧ (t = false → WSs X b dl m Ψ)) (fun x m => Ψ.ex x dl m)) : WS X (.If c a b pos) dl mu Ψ := .mk fun W R F as σ H E tk hs ha k =>
  SS.by (ps_if ST.pt SSs.pss SSs.pss) (h.then tk hs ha (k.toX ha) fun t m F' as' H' p e1 e2 hs' ha' kx' => by
    cases t with
    | true => exact p.1 rfl W R F' as' σ H' E tk hs' ha' (k.go e1 e2)
    | false => exact p.2 rfl W R F' as' σ H' E tk hs' ha' (k.go e1 e2))
theorem ws_set (i : Nat) {p' : Pos} (h : WE X e dl mu (fun d m => Ψ.nx (dl.set i (some d)) m) (fun x m => Ψ.ex x dl m)) (hN : X.N.Nodup := by assumption) (hi : X.N[i]? = some x := by rfl) (hx : Loc X.env.scope x := by first | exact Or.inl rfl | exact Or.inr rfl)
    (hs : swapsWith e (some (.Name x p')) pos.line X.env = pure false := by rfl) (hf : X.fn x = true ∨ X.env.scope.names.lookup x = some .local := by first | exact .inl rfl | exact .inr rfl | assumption) : WS X (.Assign [.Name x p'] e pos) dl mu Ψ := .mk fun W R F as σ H E tk hs' ha k =>
  SS.by (ps_set (i := i) hN hi hx SE.pe hs hf) (h.then tk hs' ha (k.toX ha) fun v d m F' as' H' p e1 e2 hs2 ha' r kx' => k.nx _ _ F' as' _ H' p e1 e2 hs2 (ha'.set i r))
theorem WO.mut {Φ : DK} (h : WO X e dl mu (fun mo m => Φ (.own m.length) (m ++ [mo])) ε) : WE X e dl mu Φ ε := .mk fun W R F as σ H Q tk hs ha k kx =>
  h W R F as σ H Q tk hs ha (fun p m mu' F' as' H' hm e1 e2 hs' hR hF hA cc l => k _ _ _ F' (as' ++ [p]) H' hm e1 (e2.trans (List.prefix_append _ _)) (hs'.more hF hR hA cc) ⟨p, by rw [← hs'.ln]; simp, rfl⟩) kx
theorem ws_asg {is : List Nat} (h : WE X e dl mu (fun d m => WG X tg is (.one d) dl m Ψ.nx) (fun x m => Ψ.ex x dl m)) (hs : swapsWithSole [tg] e pos.line X.env = pure false := by rfl) (hw : swappedStores [tg] e X.env = pure none := by rfl)
    (h1 : (assignEach [tg] X.env).map (·.2) = [assign tg X.env] := by rfl) : WS X (.Assign [tg] e pos) dl mu Ψ := .mk fun W R F as σ H E tk hs' ha k =>
  SS.by (ps_asg SE.pe SG.pg hs hw h1) (h.then tk hs' ha (k.toX ha) fun v d m F' as' H' p e1 e2 hs2 ha' r kx' =>
    p R F' as' σ H' v _ hs2 ha' r fun dl2 m2 F2 as2 σ2 H2 q f1 f2 hs3 ha2 _ => k.nx _ _ F2 as2 σ2 H2 q (e1.trans f1) (e2.trans f2) hs3 ha2)
theorem ws_par {i j : Nat} {a b : Expr} {y : Str} {px py pt pt2 : Pos} {kt k2 : Nat} (h : WA X [a, b] dl mu (fun xs m => ∃ u v, xs = [u, v] ∧ Ψ.nx ((dl.set i (some u)).set j (some v)) m) (fun x m => Ψ.ex x dl m)) (hN : X.N.Nodup := by assumption) (hi : X.N[i]? = some x := by rfl) (hj : X.N[j]? = some y := by rfl)
    (hij : i ≠ j := by decide) (hx : X.env.scope.names.lookup x = some .local := by rfl) (hy : X.env.scope.names.lookup y = some .local := by rfl) (hc : X.calm = true := by rfl)
    (hw : swappedStores [.Tuple [.Name x px, .Name y py] kt pt] (.Tuple [a, b] k2 pt2) X.env = pure (some [x, y]) := by rfl) : WS X (.Assign [.Tuple [.Name x px, .Name y py] kt pt] (.Tuple [a, b] k2 pt2) pos) dl mu Ψ := .mk fun W R F as σ H E tk hs' ha k =>
  SS.by (ps_par (i := i) (j := j) hc hN hi hj hij hx hy SA.pa hw) (h.then tk hs' ha (k.toX ha) fun vs xs m F' as' H' ⟨u, w, ex, p⟩ e1 e2 hs2 ha' r kx' => by
    subst ex
    obtain ⟨v1, r1, rfl, q1, v2, r2, rfl, q2, q3⟩ := r
    cases q3
    exact ⟨v1, v2, rfl, k.nx _ _ F' as' _ H' p e1 e2 hs2 ((ha'.set i q1).set j q2)⟩)
theorem ws_for {is : List Nat} (h : WIt X tg it dl mu (fun ys m => ∃ J : List Yd → List Yd → SK, J [] ys dl m ∧
      (∀ pre y post dl' m', ys = pre ++ y :: post → J pre (y :: post) dl' m' → WG X tg is y dl' m' (fun dl2 m2 => WSs X body dl2 m2 { Ψ with nx := J (pre ++ [y]) post, ct := J (pre ++ [y]) post, bk := Ψ.nx })) ∧
      (∀ dl' m', J ys [] dl' m' → Ψ.nx dl' m')) (fun x m => Ψ.ex x dl m))
    (hp : PassesOwn (model X.prog X.w) X.A X.env X.xe) (hc : X.calm = true := by rfl) (hfs : ∀ x, foldedSetIterable it X.env x = pure x := by intro _; rfl) : WS X (.For tg it body [] pos) dl mu Ψ := .mk fun W R F as σ H E tk hs ha k =>
  SS.by (ps_for hp hc SIt.pi SG.pg SSs.pss hfs) (h W R F as σ H _ tk hs ha (fun I ys m F' as' H' ⟨J, j0, jt, jd⟩ e1 e2 hs' wk =>
    ⟨fun i n σ' H2 => ∃ pre post F2 as2 dl2 mu2, ys = pre ++ post ∧ pre.length = i ∧ post.length = n ∧ Er F' F2 ∧ as' <+: as2 ∧ Hs X.K R F2 as2 mu2 H2 ∧ At X.K F2 as2 dl2 σ' ∧ J pre post dl2 mu2,
      ⟨ys.length, [], ys, F', as', dl, m, rfl, rfl, rfl, Er.refl _, List.prefix_refl _, hs', ha.mono e1 e2, j0⟩, fun i n σ' H2 ⟨pre, post, F2, as2, dl2, mu2, ey, ei, en, f1, f2, hs2, ha2, jj⟩ => by
        obtain ⟨w1, w2⟩ := wk R i H2 F2 as2 mu2 f1 f2 hs2
        cases post with
        | nil =>
          rw [List.append_nil] at ey
          subst ey
          exact .inl ⟨w2 (by omega), k.nx _ _ F2 as2 σ' H2 (jd _ _ jj) (e1.trans f1) (e2.trans f2) hs2 ha2⟩
        | cons y post =>
          have gy : ys[i]? = some y := by rw [ey, ← ei]; simp
          obtain ⟨go, yl⟩ := w1 y gy
          refine .inr ⟨go, fun σ3 H3 => ∃ F3 as3 dl3 mu3, Er F' F3 ∧ as' <+: as3 ∧ Hs X.K R F3 as3 mu3 H3 ∧ At X.K F3 as3 dl3 σ3 ∧ J (pre ++ [y]) post dl3 mu3, fun σ3 H3 ⟨F3, as3, dl3, mu3, g1, g2, hs3, ha3, j3⟩ => ?_, fun z H3 yz => ?_⟩
          · exact ⟨post.length, by simp at en; omega, pre ++ [y], post, F3, as3, dl3, mu3, by simp [ey], by simp [ei], rfl, g1, g2, hs3, ha3, j3⟩
          · obtain ⟨F3, g1, hs3, yo⟩ := yl z H3 yz
            refine jt pre y post dl2 mu2 ey jj R F3 as2 σ' H3 z _ hs3 (ha2.mono g1 (List.prefix_refl _)) yo fun dl4 mu4 F4 as4 σ4 H4 p4 q1 q2 hs4 ha4 _ => ?_
            refine p4 W R F4 as4 σ4 H4 _ tk hs4 ha4 ⟨?_, k.rt.go (((e1.trans f1).trans g1).trans q1) ((e2.trans f2).trans q2), k.nx.go (((e1.trans f1).trans g1).trans q1) ((e2.trans f2).trans q2), ?_, (k.go (((e1.trans f1).trans g1).trans q1) ((e2.trans f2).trans q2)).ex⟩
            · exact fun dl5 mu5 F5 as5 σ5 H5 j5 r1 r2 hs5 ha5 => ⟨F5, as5, dl5, mu5, ((f1.trans g1).trans q1).trans r1, (f2.trans q2).trans r2, hs5, ha5, j5⟩
            · exact fun dl5 mu5 F5 as5 σ5 H5 j5 r1 r2 hs5 ha5 => ⟨F5, as5, dl5, mu5, ((f1.trans g1).trans q1).trans r1, (f2.trans q2).trans r2, hs5, ha5, j5⟩⟩) (k.toX ha))
end
end DL
namespace DL
open PySem PySem.Spec PyProof.Rows L2
mutual
def ownLt (n : Nat) : D → Bool
  | .lst xs => ownLts n xs
  | .tup xs => ownLts n xs
  | .dct kvs => ownLtK n kvs
  | .obj _ fs => ownLtF n fs
  | .exn _ fs => ownLtF n fs
  | .own k => decide (k < n)
  | _ => true
def ownLts (n : Nat) : List D → Bool
  | [] => true
  | x :: xs => ownLt n x && ownLts n xs
def ownLtK (n : Nat) : List (Key × D) → Bool
  | [] => true
  | (_, x) :: xs => ownLt n x && ownLtK n xs
def ownLtF (n : Nat) : List (Str × D) → Bool
  | [] => true
  | (_, x) :: xs => ownLt n x && ownLtF n xs
end
abbrev noOwn : D → Bool := ownLt 0
abbrev noOwns : List D → Bool := ownLts 0
abbrev noOwnK : List (Key × D) → Bool := ownLtK 0
abbrev noOwnF : List (Str × D) → Bool := ownLtF 0
section
variable {K : PySem.W.Frag} {F : Hp} {as bs : List Addr} {n : Nat}
mutual
theorem Rp.part (hn : ∀ k, k < n → as[k]? = bs[k]?) : ∀ (d : D) (v : V), ownLt n d = true → Rp K F as d v → Rp K F bs d v
  | .non, _, _, h => h
  | .bl _, _, _, h => h
  | .int _, _, _, h => h
  | .str _, _, _, h => h
  | .lst xs, _, g, ⟨a, vs, h1, h2, h3⟩ => ⟨a, vs, h1, h2, RpL.part hn xs vs (by simpa [ownLt] using g) h3⟩
  | .tup xs, _, g, ⟨a, vs, h1, h2, h3⟩ => ⟨a, vs, h1, h2, RpL.part hn xs vs (by simpa [ownLt] using g) h3⟩
  | .dct kvs, _, g, ⟨a, o, ws, h1, h2, h3⟩ => ⟨a, o, ws, h1, h2, RpK.part hn kvs ws (by simpa [ownLt] using g) h3⟩
  | .obj _ fs, _, g, ⟨a, dx, ws, h1, h2, h3⟩ => ⟨a, dx, ws, h1, h2, RpF.part hn fs ws (by simpa [ownLt] using g) h3⟩
  | .own k, _, g, ⟨a, h1, h2⟩ => ⟨a, by rw [← hn k (by simpa [ownLt] using g)]; exact h1, h2⟩
  | .val _, _, _, h => h
  | .scr _, _, _, h => h
  | .exn _ fs, _, g, ⟨a, d, ws, h1, h2, h3, h4, h5⟩ => ⟨a, d, ws, h1, h2, h3, h4, RpF.part hn fs ws (by simpa [ownLt] using g) h5⟩
theorem RpL.part (hn : ∀ k, k < n → as[k]? = bs[k]?) : ∀ (ds : List D) (vs : List V), ownLts n ds = true → RpL K F as ds vs → RpL K F bs ds vs
  | [], _, _, h => h
  | x :: xs, _, g, ⟨v, r, h1, h2, h3⟩ => by
    simp only [ownLts, Bool.and_eq_true] at g
    exact ⟨v, r, h1, Rp.part hn x v g.1 h2, RpL.part hn xs r g.2 h3⟩
theorem RpK.part (hn : ∀ k, k < n → as[k]? = bs[k]?) : ∀ (ds : List (Key × D)) (vs : List (Key × V)), ownLtK n ds = true → RpK K F as ds vs → RpK K F bs ds vs
  | [], _, _, h => h
  | (_, x) :: xs, _, g, ⟨v, r, h1, h2, h3⟩ => by
    simp only [ownLtK, Bool.and_eq_true] at g
    exact ⟨v, r, h1, Rp.part hn x v g.1 h2, RpK.part hn xs r g.2 h3⟩
theorem RpF.part (hn : ∀ k, k < n → as[k]? = bs[k]?) : ∀ (ds : List (Str × D)) (vs : List (Str × V)), ownLtF n ds = true → RpF K F as ds vs → RpF K F bs ds vs
  | [], _, _, h => h
  | (_, x) :: xs, _, g, ⟨v, r, h1, h2, h3⟩ => by
    simp only [ownLtF, Bool.and_eq_true] at g
    exact ⟨v, r, h1, Rp.part hn x v g.1 h2, RpF.part hn xs r g.2 h3⟩
end
theorem Rp.other (d : D) (v : V) (h : noOwn d = true) (r : Rp K F as d v) : Rp K F bs d v := Rp.part (fun _ z => absurd z (Nat.not_lt_zero _)) d v h r
theorem RpL.other (d : List D) (v : List V) (h : noOwns d = true) (r : RpL K F as d v) : RpL K F bs d v := RpL.part (fun _ z => absurd z (Nat.not_lt_zero _)) d v h r
theorem RpK.other (d : List (Key × D)) (v : List (Key × V)) (h : noOwnK d = true) (r : RpK K F as d v) : RpK K F bs d v := RpK.part (fun _ z => absurd z (Nat.not_lt_zero _)) d v h r
theorem RpF.other (d : List (Str × D)) (v : List (Str × V)) (h : noOwnF d = true) (r : RpF K F as d v) : RpF K F bs d v := RpF.part (fun _ z => absurd z (Nat.not_lt_zero _)) d v h r
end
theorem ownLts_append {n : Nat} : ∀ {xs ys : List D}, ownLts n (xs ++ ys) = (ownLts n xs && ownLts n ys)
  | [], ys => by simp [ownLts]
  | x :: xs, ys => by simp [ownLts, ownLts_append, Bool.and_assoc]
theorem ownLts_map {n : Nat} {α : Type} {f : α → D} (h : ∀ a, ownLt n (f a) = true) : ∀ {l : List α}, ownLts n (l.map f) = true
  | [] => rfl
  | a :: l => by simp [ownLts, h a, ownLts_map h]
def MO.pure : MO → Bool
  | .lst xs => noOwns xs
  | .dct kvs => noOwnK kvs
  | .ins _ fs => noOwnF fs
  | _ => true
theorem MOk.other {K : PySem.W.Frag} {F H : Hp} {as bs : List Addr} {a : Addr} : ∀ {m : MO}, m.pure = true → MOk K F as H a m → MOk K F bs H a m
  | .lst xs, n, ⟨vs, h1, h2⟩ => ⟨vs, h1, RpL.other _ _ n h2⟩
  | .dct xs, n, ⟨vs, h1, h2⟩ => ⟨vs, h1, RpK.other _ _ n h2⟩
  | .ins C fs, n, ⟨dx, ws, h1, h2⟩ => ⟨dx, ws, h1, RpF.other _ _ n h2⟩
  | .pen _, _, h => h
  | .gone, _, h => h
section
variable {K : PySem.W.Frag} {R F H : Hp} {as : List Addr} {mu : List MO}
noncomputable def aside (R H : Hp) (as : List Addr) (mu : List MO) (n : Nat) : Hp := fun a => open Classical in if ∃ k m, n ≤ k ∧ as[k]? = some a ∧ mu[k]? = some m ∧ m.live = true then H a else R a
theorem aside_in {n k : Nat} {a : Addr} {m : MO} (h1 : n ≤ k) (h2 : as[k]? = some a) (h3 : mu[k]? = some m) (h4 : m.live = true) : aside R H as mu n a = H a := by
  unfold aside
  rw [if_pos ⟨k, m, h1, h2, h3, h4⟩]
theorem aside_R {n : Nat} {a : Addr} {o : HO} (h : Hs K R F as mu H) (e : R a = some o) : aside R H as mu n a = some o := by
  unfold aside
  split
  · rename_i z
    obtain ⟨k, m, _, h2, _⟩ := z
    rw [h.frA a (List.mem_of_getElem? h2)] at e; cases e
  · exact e
theorem take_get {α : Type} {l : List α} {n i : Nat} {x : α} (h : (l.take n)[i]? = some x) : i < n ∧ l[i]? = some x := by
  rw [List.getElem?_take] at h
  by_cases e : i < n
  · rw [if_pos e] at h; exact ⟨e, h⟩
  · rw [if_neg e] at h; cases h
theorem Hs.part (h : Hs K R F as mu H) (n : Nat) (hl : ∀ (k : Nat) m, k < n → mu[k]? = some m → m.live = true ∧ m.pure = true) (hn : n ≤ mu.length) : Hs K (aside R H as mu n) F (as.take n) (mu.take n) H where
  er := h.er
  tb := h.tb
  nt a ps e := by
    refine ⟨(h.nt a ps e).1, ?_⟩
    unfold aside
    split
    · rename_i z
      obtain ⟨k, m, _, h2, h3, h4⟩ := z
      exact ((h.ct k a m h2 h3).pn h4 e).elim
    · exact (h.nt a ps e).2
  fr a o e := by
    unfold aside at e
    split at e
    · exact e
    · exact h.fr a o e
  frF a o e := by
    unfold aside at e
    split at e
    · rename_i z
      obtain ⟨k, m, h1, h2, h3, h4⟩ := z
      exact h.sep k a m h2 h3 h4
    · exact h.frF a o e
  frA a ha := by
    obtain ⟨j, hj⟩ := List.getElem?_of_mem ha
    obtain ⟨hjn, hj⟩ := take_get hj
    unfold aside
    rw [if_neg]
    · exact h.frA a (List.mem_of_getElem? hj)
    · rintro ⟨k, m, h1, h2, h3, h4⟩
      obtain ⟨m', e'⟩ : ∃ m', mu[j]? = some m' := ⟨_, List.getElem?_eq_getElem (by omega)⟩
      have := h.nd j k a m' m hj h2 e' h3 (hl j m' hjn e').1 h4
      omega
  ln := by rw [List.length_take, List.length_take, h.ln]
  nd i j a m1 m2 e1 e2 e3 e4 := h.nd i j a m1 m2 (take_get e1).2 (take_get e2).2 (take_get e3).2 (take_get e4).2
  sep k a m e1 e2 := h.sep k a m (take_get e1).2 (take_get e2).2
  ct k a m e1 e2 := (h.ct k a m (take_get e1).2 (take_get e2).2).other (hl k m (take_get e1).1 (take_get e2).2).2
theorem Hs.join {F' H' : Hp} {mc : List MO} {n : Nat} (h : Hs K R F as mu H) (hn : n ≤ mu.length) (e : Er F F') (g : Hs K (aside R H as mu n) F' (as.take n) mc H') : Hs K R F' as (mc ++ mu.drop n) H' := by
  have hl := h.ln
  have lc : mc.length = n := by rw [← g.ln, List.length_take]; omega
  have old : ∀ {k : Nat} {m : MO}, n ≤ k → (mc ++ mu.drop n)[k]? = some m → mu[k]? = some m := fun {k m} hk e => by
    rw [List.getElem?_append_right (by omega), List.getElem?_drop] at e
    rw [← e]; congr 1; omega
  have new : ∀ {k : Nat} {m : MO}, k < n → (mc ++ mu.drop n)[k]? = some m → mc[k]? = some m := fun {k m} hk e => by
    rw [List.getElem?_append_left (by omega)] at e; exact e
  have at' : ∀ {k : Nat} {a : Addr}, k < n → as[k]? = some a → (as.take n)[k]? = some a := fun {k a} hk e => by
    rw [List.getElem?_take, if_pos hk]; exact e
  have keep : ∀ {k : Nat} {a : Addr} {m : MO}, n ≤ k → as[k]? = some a → mu[k]? = some m → m.live = true → H' a = H a ∧ F' a = none := fun {k a m} hk e1 e2 l => by
    have ai := aside_in (R := R) (H := H) hk e1 e2 l
    obtain ⟨o, eo⟩ := (h.ct k a m e1 e2).some l
    rw [eo] at ai
    exact ⟨(g.fr a o ai).trans eo.symm, g.frF a o ai⟩
  refine ⟨g.er, fun a o q => g.fr a o (aside_R h q), fun a o q => g.frF a o (aside_R h q), h.frA, by simp [lc, hl]; omega, fun i j a m1 m2 e1 e2 e3 e4 l1 l2 => ?_, fun k a m e1 e2 l => ?_, fun k a m e1 e2 => ?_, g.tb, fun a ps e => ⟨(g.nt a ps e).1, ?_⟩⟩
  · by_cases hi : i < n
    · by_cases hj : j < n
      · exact g.nd i j a m1 m2 (at' hi e1) (at' hj e2) (new hi e3) (new hj e4) l1 l2
      · have ai := aside_in (R := R) (H := H) (n := n) (k := j) (by omega) e2 (old (by omega) e4) l2
        obtain ⟨o, eo⟩ := (h.ct j a m2 e2 (old (by omega) e4)).some l2
        rw [g.frA a (List.mem_of_getElem? (at' hi e1)), eo] at ai; cases ai
    · by_cases hj : j < n
      · have ai := aside_in (R := R) (H := H) (n := n) (k := i) (by omega) e1 (old (by omega) e3) l1
        obtain ⟨o, eo⟩ := (h.ct i a m1 e1 (old (by omega) e3)).some l1
        rw [g.frA a (List.mem_of_getElem? (at' hj e2)), eo] at ai; cases ai
      · exact h.nd i j a m1 m2 e1 e2 (old (by omega) e3) (old (by omega) e4) l1 l2
  · by_cases hk : k < n
    · exact g.sep k a m (at' hk e1) (new hk e2) l
    · exact (keep (by omega) e1 (old (by omega) e2) l).2
  · by_cases hk : k < n
    · exact (g.ct k a m (at' hk e1) (new hk e2)).mono (Er.refl _) (List.take_prefix _ _) rfl
    · cases q : m.live with
      | false => exact (h.ct k a m e1 (old (by omega) e2)).dead q e
      | true => exact (h.ct k a m e1 (old (by omega) e2)).mono e (List.prefix_refl _) (keep (by omega) e1 (old (by omega) e2) q).1
  · cases q : R a with
    | none => rfl
    | some o =>
      have := (g.nt a ps e).2
      rw [aside_R h q] at this; cases this
theorem Hs.cut {bs : List Addr} (h : Hs K R F as mu H) (p : bs <+: as) (hp : ∀ (k : Nat) m, k < bs.length → mu[k]? = some m → m.pure = true) : Hs K R F bs (mu.take bs.length) H := by
  obtain ⟨t, rfl⟩ := p
  have hl := h.ln
  rw [List.length_append] at hl
  have up : ∀ {k : Nat} {a : Addr}, bs[k]? = some a → (bs ++ t)[k]? = some a := fun {k a} e => by
    rw [List.getElem?_append_left (List.getElem?_eq_some_iff.mp e).1]; exact e
  exact ⟨h.er, h.fr, h.frF, fun a ha => h.frA a (List.mem_append_left _ ha), by rw [List.length_take]; omega,
    fun i j a m1 m2 e1 e2 e3 e4 => h.nd i j a m1 m2 (up e1) (up e2) (take_get e3).2 (take_get e4).2, fun k a m e1 e2 => h.sep k a m (up e1) (take_get e2).2,
    fun k a m e1 e2 => (h.ct k a m (up e1) (take_get e2).2).other (hp k m (take_get e2).1 (take_get e2).2), h.tb, h.nt⟩
end
abbrev SpD := List D → List MO → DK → XP → Prop
def xPure : Option (List (Str × D)) → Bool
  | none => true
  | some fs => noOwnF fs
def conc (K : PySem.W.Frag) (w : SpD) : Sp := fun vs H Q E => ∃ R F as mu args Φ ε, Hs K R F as mu H ∧ RpL K F as args vs ∧ w args mu Φ ε ∧
  (∀ v x mu' F' H', Φ x mu' → Er F F' → Hs K R F' as mu' H' → noOwn x = true → Rp K F' [] x v → Q v H') ∧
  (∀ (x : Xn) d mu' F' H', ε x mu' → Er F F' → Hs K R F' as mu' H' → xPure x.fs = true → XOk K H' F' [] d x.fs → E x.cls d H')
def concO (K : PySem.W.Frag) (w : List D → List MO → (MO → List MO → Prop) → XP → Prop) : Sp := fun vs H Q E => ∃ R F as mu args Φ ε, Hs K R F as mu H ∧ RpL K F as args vs ∧ w args mu Φ ε ∧
  (∀ p m mu' F' H', Φ m mu' → Er F F' → Hs K R F' as mu' H' → R p = none → F' p = none → (∀ (k : Nat) m', as[k]? = some p → mu'[k]? = some m' → m'.live = false) → MOk K F' [] H' p m → m.live = true → m.pure = true → Q (.ref p) H') ∧
  (∀ (x : Xn) d mu' F' H', ε x mu' → Er F F' → Hs K R F' as mu' H' → xPure x.fs = true → XOk K H' F' [] d x.fs → E x.cls d H')
structure RoomG (k : Nat) (A : Around) : Prop where
  rm : Room k A
  gd : A.guards = some []
theorem RoomG.mono {j k : Nat} {A : Around} (r : RoomG k A) (h : j ≤ k) : RoomG j A := ⟨r.rm.mono h, r.gd⟩
theorem RoomG.deeper {k : Nat} {A : Around} (r : RoomG (k + 1) A) (env : Env) : RoomG k (A.deeper env) := ⟨r.rm.deeper env, r.gd⟩
structure FnG (P : Program) (w : World) (K : PySem.W.Frag) (mg : Str → Option Value) (base : Heap) (k : Nat) (f : Addr) (fd : FuncData) (ps : List Str) (sp : Sp) : Prop where
  len : ∀ vs H Q E, sp vs H Q E → vs.length = ps.length
  run : ∀ (A : Around) (outer : List Env) (s : Shared) (H : Hp) (args : Args) (us : List Value) (vs : List V) (Q : VK) (E : XK), RoomG k A → Env0 P w K mg base A outer s H → BindsTo s fd args (ps.zip us) → Vals vs us → sp vs H Q E →
    codeAny (model P w) A (.call (.ref f) args) (CR (L2.CX P w) outer P w H s Q E) s
section
variable {P : Program} {w : World} {K : PySem.W.Frag} {mg : Str → Option Value} {base : Heap}
theorem FnG.of {k : Nat} {f : Addr} {fd : FuncData} {ps : List Str} {sp : Sp} (F : FnOk P w K mg base (L2.CX P w) k f fd ps sp) : FnG P w K mg base k f fd ps sp :=
  ⟨F.len, fun A outer s H args us vs Q E r e b v p => F.run A outer s H args us vs Q E r.rm e b v p⟩
theorem FnG.up {j k : Nat} {f : Addr} {fd : FuncData} {ps : List Str} {sp : Sp} (F : FnG P w K mg base j f fd ps sp) (h : j ≤ k) : FnG P w K mg base k f fd ps sp :=
  ⟨F.len, fun A outer s H args us vs Q E r e b v p => F.run A outer s H args us vs Q E (r.mono h) e b v p⟩
theorem fng_of {k : Nat} {f : Addr} {name qual : Str} {params : Arguments} {body : List Stmt} {scope : Scope} {dV kV doc pm cdv ct oc : Value} {an od : Option Addr} {osl : Array (Option Value)} {N ps : List Str} {sp : Sp}
    (lk : K.lookup f = some ⟨oc, od, .func (PySem.W.fnOf name qual params body scope dV kV doc pm an cdv ct), osl⟩) (hcd : PySem.W.codeIn K cdv qual = true) (S : FnScope N ps scope) (len : ∀ vs H Q E, sp vs H Q E → vs.length = ps.length)
    (hbody : ∀ (A : Around) (outer : List Env) (s : Shared) (H : Hp) (vs : List V) (Q : VK) (E : XK), RoomG k (A.deeper (envOfC qual scope s.heap.objs.size f cdv)) → sp vs H Q E → SSs (cxOf (L2.CX P w) P w K mg base N qual scope f cdv A outer s H E) body { nx := fun _ H' => Q .non H', rt := Q } (start N vs) H) :
    FnG P w K mg base (k + 1) f (PySem.W.fnOf name qual params body scope dV kV doc pm an cdv ct) ps sp where
  len := len
  run A outer s H args us vs Q E hr e0 hb r hsp := by
    have inn : K.In s.heap := e0.mod.kin.keeps fun b o e => (e0.bs b o e).1
    have lm : s.heap.NoLimit := e0.mod.nolimit.keeps fun b o e => (e0.bs b o e).1
    have knd : ∀ y ∈ ps.zip us, scope.names.lookup y.1 = some .local ∨ (scope.names.lookup y.1 = some .cell ∧ ((cellsFrom (s.heap.objs.size + 1) scope.names []).lookup y.1).isSome = true) := fun ⟨n, v⟩ hy =>
      (S.par n (List.of_mem_zip hy).1).elim .inl fun q => .inr ⟨q, PySem.W.cellsFrom_some _ _ _ (.inl q)⟩
    refine codeAny_call_function hr.rm.depth (inn _ _ lk) rfl S.co S.gen rfl (PySem.W.codeRec_of inn hcd) (hb _ _ _ _ (wpAny_newFunctionEnv_cells S.kind knd ?_))
    intro env he s1 x
    subst he
    refine ⟨lm.keeps x.toInCall.keep, codeAny_func ?_⟩
    have I0 : Inv (cxOf (L2.CX P w) P w K mg base N qual scope f cdv A outer s H E) [] (start N vs) H s1 := inv_start S hr.rm.hd e0 (len _ _ _ _ hsp) r x
    refine wpAny_mono (hbody A outer s H vs Q E (hr.deeper _) hsp [] s1 I0) (fun fl s' hs => ?_) fun e s' hs => hs
    cases fl with
    | ret u => obtain ⟨v, σ', H', J, rv, q⟩ := hs; exact ⟨v, H', J.os, J.bare, J.base, J.hok, rv, q⟩
    | next => obtain ⟨σ', H', J, q⟩ := hs; exact ⟨V.non, H', J.os, J.bare, J.base, J.hok, rfl, q⟩
    | brk => obtain ⟨_, _, _, q⟩ := hs; exact q.elim
    | cont => obtain ⟨_, _, _, q⟩ := hs; exact q.elim
end
def startD (N : List Str) (args : List D) : List Sl := args.map some ++ List.replicate (N.length - args.length) none
theorem RpL.start {K : PySem.W.Frag} {F : Hp} {as : List Addr} {N : List Str} {args : List D} {vs : List V} (r : RpL K F as args vs) : At K F as (startD N args) (L2.start N vs) := by
  refine ⟨by simp [startD, L2.start, r.len], fun i d e => ?_⟩
  unfold startD at e
  by_cases hi : i < args.length
  · rw [List.getElem?_append_left (by simpa using hi), List.getElem?_map] at e
    obtain ⟨d', e1, e2⟩ : ∃ d', args[i]? = some d' ∧ some d' = some d := by
      cases q : args[i]? with
      | none => rw [q] at e; cases e
      | some z => rw [q] at e; exact ⟨z, rfl, Option.some.inj e⟩
    cases e2
    obtain ⟨v, q1, q2⟩ := r.get e1
    refine ⟨v, ?_, q2⟩
    unfold L2.start
    rw [List.getElem?_append_left (by simp [← r.len, hi]), List.getElem?_map, q1]
    rfl
  · rw [List.getElem?_append_right (by simpa using hi), List.getElem?_replicate] at e
    split at e <;> simp at e
def RetOk (n : Nat) (Φ : DK) : DK := fun x m => noOwn x = true ∧ (m.take n).all MO.pure = true ∧ Φ x (m.take n)
def ExOk (n : Nat) (ε : XP) : Xn → SK := fun x _ m => xPure x.fs = true ∧ (m.take n).all MO.pure = true ∧ ε x (m.take n)
theorem all_pure {m : List MO} {n : Nat} (h : (m.take n).all MO.pure = true) : ∀ (k : Nat) z, k < n → m[k]? = some z → z.pure = true := fun k z hk e => by
  rw [List.all_eq_true] at h
  exact h z (List.mem_of_getElem? (i := k) (by rw [List.getElem?_take, if_pos hk]; exact e))
section
variable {P : Program} {w : World} {K : PySem.W.Frag} {mg : Str → Option Value} {base : Heap}
theorem XOk.other {Hx F : Hp} {as : List Addr} {d : Option Addr} : ∀ {fs : Option (List (Str × D))}, xPure fs = true → XOk K Hx F as d fs → XOk K Hx F [] d fs
  | none, _, h => h
  | some fs, p, ⟨b, ws, h1, h2, h3, h4⟩ => ⟨b, ws, h1, h2, h3, RpF.other _ _ p h4⟩
theorem fn_body {x qual : Str} {st : Stmt} {f : Addr} {fd : FuncData} {N ps : List Str} {k : Nat} {sp : SpD} (F : Fun K x qual st f fd) (S : FnScope N ps (defScope st)) (len : ∀ args mu Φ ε, sp args mu Φ ε → args.length = ps.length)
    (hbody : ∀ (cdv : Value) (A : Around) (outer : List Env) (s : Shared) (H : Hp) (E : XK), RoomG k (A.deeper (envOfC qual (defScope st) s.heap.objs.size f cdv)) → ∀ args mu Φ ε, sp args mu Φ ε →
      WSs (cxOf (L2.CX P w) P w K mg base N qual (defScope st) f cdv A outer s H E) (defBody st) (startD N args) mu { nx := fun _ m => RetOk mu.length Φ .non m, rt := RetOk mu.length Φ, ex := ExOk mu.length ε }) :
    FnG P w K mg base (k + 1) f fd ps (conc K sp) := by
  obtain ⟨oc, od, kV, doc, pm, an, cdv, ct, osl, rfl, lk, hcd⟩ := F.ex
  refine fng_of lk hcd S (fun vs H Q E h => ?_) (fun A outer s H vs Q E hr h => ?_)
  · obtain ⟨R, F0, as, mu, args, Φ, ε, hs, r, q, _⟩ := h
    rw [← r.len]; exact len _ _ _ _ q
  · obtain ⟨R, F0, as, mu, args, Φ, ε, hs, r, q, hq, he⟩ := h
    refine hbody cdv A outer s H E hr args mu Φ ε q (fun cls d _ H => E cls d H) R F0 as (start N vs) H _ (takes_of rfl rfl rfl rfl) hs r.start ⟨?_, ?_, fun _ _ _ _ _ _ z => z.elim, fun _ _ _ _ _ _ z => z.elim, ?_⟩
    · intro dl' mu' F' as' σ' H' ⟨p1, p2, p3⟩ e1 e2 hs' _
      rw [← hs.ln] at p2 p3
      exact hq .non .non _ F' H' p3 e1 (hs'.cut e2 (all_pure p2)) p1 rfl
    · intro v y mu' F' as' H' ⟨p1, p2, p3⟩ e1 e2 hs' r'
      rw [← hs.ln] at p2 p3
      exact hq v y _ F' H' p3 e1 (hs'.cut e2 (all_pure p2)) p1 (Rp.other _ _ p1 r')
    · intro y d dl' mu' F' as' σ' H' ⟨p1, p2, p3⟩ e1 e2 hs' _ xo
      rw [← hs.ln] at p2 p3
      exact he y d _ F' H' p3 e1 (hs'.cut e2 (all_pure p2)) p1 (xo.other p1)
end
structure Cal (P : Program) (w : World) (K : PySem.W.Frag) (mg : Str → Option Value) (base : Heap) (x : Str) (k : Nat) (dd : List D) (sp : SpD) : Prop where
  ex : ∃ (f : Addr) (fd : FuncData) (ps : List Str) (ds : List Value) (dvs : List V), mg x = some (.ref f) ∧ PySem.W.keepIn K (.ref f) = true ∧ FnG P w K mg base k f fd ps (conc K sp) ∧ Binds K fd ps ds ∧ Vals dvs ds ∧ ∀ F as, RpL K F as dd dvs
def CallOk (n : Nat) (dd : List D) (sp : SpD) (xs : List D) (m : List MO) (Φ : DK) (ε : XP) : Prop :=
  n ≤ m.length ∧ (m.take n).all (fun z => z.live && z.pure) = true ∧ ownLts n xs = true ∧ sp (xs ++ dd) (m.take n) (fun x mc => Φ x (mc ++ m.drop n)) (fun x mc => ε x (mc ++ m.drop n))
section
variable {X : Cx} {e : Expr} {es : List Expr} {dl : List Sl} {mu : List MO} {Φ : DK} {ε : XP} {pos p : Pos} {x : Str}
theorem conc_call {W : WX} {R F : Hp} {as : List Addr} {σ : L2.St} {H : Hp} {Q : VK} {m : List MO} {xs dd : List D} {vs dvs : List V} {sp : SpD} {n : Nat} (hs : Hs X.K R F as m H) (r : RpL X.K F as xs vs) (rd : ∀ F as, RpL X.K F as dd dvs)
    (c : CallOk n dd sp xs m Φ ε) (k : Kont X.K R F as Φ Q) (kx : KontX X.K R F as ε (fun c d H => W c d σ H)) : conc X.K sp (vs ++ dvs) H Q (L2.WE W σ) := by
  obtain ⟨h1, h2, h3, h4⟩ := c
  have hl : ∀ (k : Nat) z, k < n → m[k]? = some z → z.live = true ∧ z.pure = true := fun k z hk e => by
    rw [List.all_eq_true] at h2
    have := h2 z (List.mem_of_getElem? (i := k) (by rw [List.getElem?_take, if_pos hk]; exact e))
    simpa using this
  have hp := hs.part n hl h1
  refine ⟨_, F, _, _, xs ++ dd, _, _, hp, ?_, h4, ?_, ?_⟩
  · exact (RpL.part (fun k hk => by rw [List.getElem?_take, if_pos hk]) _ _ h3 r).append (rd _ _)
  · intro v y mc F' H' p1 e1 hs' p2 r'
    exact k v y _ F' as H' p1 e1 (List.prefix_refl _) (hs.join h1 e1 hs') (Rp.other _ _ p2 r')
  · intro y d mc F' H' p1 e1 hs' p2 xo
    refine kx y d _ F' as H' p1 e1 (List.prefix_refl _) (hs.join h1 e1 hs') ?_
    cases hf : y.fs with
    | none => rw [hf] at xo; exact xo
    | some fs =>
      rw [hf] at xo p2
      obtain ⟨b, ws, q1, q2, q3, q4⟩ := xo
      exact ⟨b, ws, q1, q2, q3, RpF.other _ _ p2 q4⟩
end
end DL
namespace DL
open PySem PySem.Spec PyProof.Rows L2
section
variable {X : Cx} {e tg it elt : Expr} {es : List Expr} {dl : List Sl} {mu : List MO} {Φ : DK} {ε : XP} {pos p : Pos} {x : Str}
theorem run_fng {CXE : L2.St → XK} {k : Nat} {f : Addr} {fd : FuncData} {ps : List Str} {sp : Sp} {dvs : List V} {ds : List Value} {pins : List (Addr × Obj)} {σ : L2.St} {H : Hp} {s : Shared} {Q : VK} {us : List Value} {vs : List V} (F : FnG X.prog X.w X.K X.mg X.base k f fd ps sp) (hr : RoomG k X.A) (hb : Binds X.K fd ps ds) (hd : Vals dvs ds) (hx : PassesAt (L2.CX X.prog X.w) X σ (CXE σ))
    (I : Inv X pins σ H s) (r : Vals vs us) (h : sp (vs ++ dvs) H Q (CXE σ)) : wpAny (model X.prog X.w) X.A (call (.ref f) us) (EP X pins σ Q) X.xe s := by
  have hl : (us ++ ds).length = ps.length := by rw [← (r.append hd).length]; exact F.len _ _ _ _ h
  refine wpAny_call (codeAny_mono (F.run X.A X.stack s H ⟨us, []⟩ (us ++ ds) (vs ++ dvs) Q (CXE σ) hr I.env0 (hb s us I.kIn hl) (r.append hd) h) fun o s' hq => ?_)
  cases o with
  | error e => exact hx pins H s e s' I hq
  | ok fl =>
    cases fl with
    | ret u => exact I.after hq
    | next => exact hq.elim
    | brk => exact hq.elim
    | cont => exact hq.elim
theorem we_call {k j : Nat} {dd : List D} {sp : SpD} (c : Cal X.prog X.w X.K X.mg X.base x k dd sp) (n : Nat) (hr : RoomG j X.A) (hk : k ≤ j) (h : WA X (e :: es) dl mu (fun xs m => CallOk n dd sp xs m Φ ε) ε) (hg : Gl X x := by rfl)
    (hdb : (x == ("__debug__" : Str)) = false := by decide) (he : starEach (e :: es) X.env = (false, eval e X.env) :: starEach es X.env := by rfl) (hpl : (backTo pos (starEach es X.env)).any (·.1) = false := by rfl) : WE X (.Call (.Name x p) (e :: es) [] pos) dl mu Φ ε :=
  .mk fun W R F as σ H Q tk hs ha k kx => by
    obtain ⟨f, fd, ps, ds, dvs, h1, h2, h3, h4, h5, h6⟩ := c.ex
    refine SE.by (t := tCallSD (conc X.K sp) dvs (L2.WE W) (SA X (e :: es))) ⟨fun pins s σ H Q I h => wpAny_Call_Name_kw (ld_glob I hg h1 ?_ hdb)⟩ (h.then tk hs ha kx fun vs xs m F' as' H' q e1 e2 hs' ha' r kx' => conc_call hs' r h6 q (k.go e1 e2) kx')
    exact PySem.W.callWith_K (h₀ := X.base) I.ok.mod.kin h2 (thn (SA.pa.run pos pins s σ H _ I h) fun us s1 ⟨vs, H1, I1, r, q⟩ => ⟨I1.kIn, run_fng (CXE := L2.WE W) h3 (hr.mono hk) h4 h5 (passAt tk σ) I1 r q⟩) he hpl
def wipeD (dl : List Sl) : List Nat → List Sl
  | [] => dl
  | v :: vs => (wipeD dl vs).set v none
theorem At.wipe {K : PySem.W.Frag} {F : Hp} {as : List Addr} {σ : L2.St} (h : At K F as dl σ) : ∀ vs : List Nat, At K F as (wipeD dl vs) (wipe σ vs)
  | [] => h
  | v :: vs => (At.wipe h vs).setN v
theorem wipe_wipe (σ : L2.St) (vs : List Nat) : L2.wipe (L2.wipe σ vs) vs = L2.wipe σ vs := by
  apply List.ext_getElem?
  intro i
  rw [wipe_get, wipe_get, wipe_length]
  by_cases e : i ∈ vs ∧ i < σ.length
  · rw [if_pos e, if_pos e]
  · rw [if_neg e, if_neg e]
def BE (X : Cx) (scope : Scope) (e : Expr) : TE := fun σ H Q => ∀ (s : Shared) (H0 : Hp) (C : Addr) (cl : List (Str × Addr)) (fp : List Addr), SE (X.blk s H0 scope (compEnvC scope cl C X.env) fp) e σ H Q
def BG (X : Cx) (scope : Scope) (e : Expr) : TG := fun v σ H Q => ∀ (s : Shared) (H0 : Hp) (C : Addr) (cl : List (Str × Addr)) (fp : List Addr), SG (X.blk s H0 scope (compEnvC scope cl C X.env) fp) e v σ H Q
def STs (X : Cx) (ifs : List Expr) : TT := fun σ H Q => ∀ pins s, Inv X pins σ H s →
    wpAny (model X.prog X.w) X.A (forIn ifs true fun c r => if r = true then do let ok ← isTrue c X.env (eval c X.env); pure (ForInStep.yield ok) else pure (ForInStep.yield r)) (TP X pins σ Q) X.xe s
def BT (X : Cx) (scope : Scope) (ifs : List Expr) : TT := fun σ H Q => ∀ (s : Shared) (H0 : Hp) (C : Addr) (cl : List (Str × Addr)) (fp : List Addr), STs (X.blk s H0 scope (compEnvC scope cl C X.env) fp) ifs σ H Q
structure WTs (X : Cx) (ifs : List Expr) (dl : List Sl) (mu : List MO) (Φ : Bool → List MO → Prop)  : Prop where
  run : ∀ R F as σ H Q, Hs X.K R F as mu H → At X.K F as dl σ → KontT X.K R F as Φ Q → STs X ifs σ H Q
instance {X : Cx} (ifs : List Expr) (dl : List Sl) (mu : List MO) (Φ : Bool → List MO → Prop)  : CoeFun (WTs X ifs dl mu Φ) (fun _ => ∀ R F as σ H Q, Hs X.K R F as mu H → At X.K F as dl σ → KontT X.K R F as Φ Q → STs X ifs σ H Q) := ⟨fun h => h.run⟩
theorem wts_nil {Φ : Bool → List MO → Prop} (h : Φ true mu) : WTs X [] dl mu Φ := .mk fun R F as σ H Q hs ha k pins s I => pts_nil.run pins s σ H Q I (k true mu F as H h (Er.refl F) (List.prefix_refl _) hs)
theorem wts_one {c : Expr} {Φ : Bool → List MO → Prop} (h : WT X c dl mu Φ X0) : WTs X [c] dl mu Φ := .mk fun R F as σ H Q hs ha k pins s I =>
  (pts_one (X := X) (ST.pt (e := c))).run pins s σ H Q I (h (fun _ _ _ _ => False) R F as σ H Q takes0 hs ha k fun _ _ _ _ _ _ z => z.elim)
theorem Hs.frame {K : PySem.W.Frag} {R F H : Hp} {as : List Addr} {q : Addr} {o : HO} (h : Hs K R F as mu H) (hq : H q = some o) (hF : F q = none) (hA : ∀ a, a ∈ as → a ≠ q) (ho : Pn o := by trivial) : Hs K (upd R q o) F as mu H where
  tb := h.tb
  nt a ps e := by
    have ne : a ≠ q := fun z => by subst z; rw [hq] at e; cases e; exact ho.elim
    rw [upd_ne ne]; exact h.nt a ps e
  er := h.er
  fr a u e := by
    by_cases z : a = q
    · subst z; rw [upd_same] at e; cases e; exact hq
    · rw [upd_ne z] at e; exact h.fr a u e
  frF a u e := by
    by_cases z : a = q
    · subst z; exact hF
    · rw [upd_ne z] at e; exact h.frF a u e
  frA a ha := by rw [upd_ne (hA a ha)]; exact h.frA a ha
  ln := h.ln
  nd := h.nd
  sep := h.sep
  ct := h.ct
theorem Hs.reframe {K : PySem.W.Frag} {R F H : Hp} {as : List Addr} {q : Addr} {o o' : HO} (h : Hs K (upd R q o) F as mu H) (ho : Pn o := by trivial) (ho' : Pn o' := by trivial) : Hs K (upd R q o') F as mu (upd H q o') := by
  have hF : F q = none := h.frF q o upd_same
  have hA : ∀ a, a ∈ as → a ≠ q := fun a ha z => by
    have := h.frA a ha
    rw [z, upd_same] at this; cases this
  refine ⟨h.er.trans' hF, fun a u e => ?_, fun a u e => ?_, fun a ha => ?_, h.ln, h.nd, h.sep, fun k a m e1 e2 => ?_, tabs_upd h.tb (fun u eu => by rw [h.fr q o upd_same] at eu; cases eu; exact ho), fun a ps e => ?_⟩
  · by_cases z : a = q
    · subst z; rw [upd_same] at e ⊢; exact e
    · rw [upd_ne z] at e ⊢; exact h.fr a u (by rw [upd_ne z]; exact e)
  · by_cases z : a = q
    · subst z; exact hF
    · rw [upd_ne z] at e; exact h.frF a u (by rw [upd_ne z]; exact e)
  · have := h.frA a ha
    rw [upd_ne (hA a ha)] at this ⊢; exact this
  · have ne := hA a (List.mem_of_getElem? e1)
    exact (h.ct k a m e1 e2).mono (Er.refl F) (List.prefix_refl _) (upd_ne ne)
  · by_cases z : a = q
    · subst z; rw [upd_same] at e; cases e; exact ho'.elim
    · rw [upd_ne z] at e ⊢
      have := h.nt a ps e
      rw [upd_ne z] at this; exact this
theorem Hs.unframe {K : PySem.W.Frag} {R F H : Hp} {as : List Addr} {q : Addr} {o : HO} (h : Hs K (upd R q o) F as mu H) (hR : R q = none) : Hs K R F as mu H := by
  have hA : ∀ a, a ∈ as → a ≠ q := fun a ha z => by
    have := h.frA a ha
    rw [z, upd_same] at this; cases this
  have ne : ∀ a u, R a = some u → a ≠ q := fun a u e z => by rw [z, hR] at e; cases e
  refine ⟨h.er, fun a u e => h.fr a u (by rw [upd_ne (ne a u e)]; exact e), fun a u e => h.frF a u (by rw [upd_ne (ne a u e)]; exact e), fun a ha => ?_, h.ln, h.nd, h.sep, h.ct, h.tb, fun a ps e => ⟨(h.nt a ps e).1, ?_⟩⟩
  · have := h.frA a ha
    rw [upd_ne (hA a ha)] at this; exact this
  · by_cases z : a = q
    · subst z; exact hR
    · have := (h.nt a ps e).2
      rw [upd_ne z] at this; exact this
abbrev LK := List Yd → List Yd → List D → List MO → Prop
def Blocks (X : Cx) (scope : Scope) (P : Cx → Prop) : Prop := ∀ (s : Shared) (H0 : Hp) (C : Addr) (cl : List (Str × Addr)) (fp : List Addr), P (X.blk s H0 scope (compEnvC scope cl C X.env) fp)
theorem WIt.imp {Φ Φ' : List Yd → List MO → Prop} (h : WIt X tg it dl mu Φ ε) (i : ∀ x m, Φ x m → Φ' x m) : WIt X tg it dl mu Φ' ε := .mk fun W R F as σ H Q tk hs ha k kx => h W R F as σ H Q tk hs ha (fun J ys m F' as' H' q => k J ys m F' as' H' (i ys m q)) kx
def LcOk (X : Cx) (elt tg it : Expr) (is : List Nat) (ifs : List Expr) (scope : Scope) (own : List (Str × Nat)) (dl : List Sl) (mu : List MO) (Φ : List D → List MO → Prop) (ε : XP) : Prop :=
  WIt X tg it dl mu (fun ys m => ys.length ≤ sizeLine ∧ ∃ J : LK, J [] ys [] m ∧
      (∀ pre y post acc m', ys = pre ++ y :: post → J pre (y :: post) acc m' → Blocks X scope fun B => WG B tg is y (wipeD dl (own.map (·.2))) m' (fun dl2 m2 =>
        Blocks X scope fun B => WTs B ifs dl2 m2 (fun b m3 => (b = true → Blocks X scope fun B => WE B elt dl2 m3 (fun z m4 => J (pre ++ [y]) post (acc ++ [z]) m4) X0) ∧ (b = false → J (pre ++ [y]) post acc m3)))) ∧
      (∀ acc m', J ys [] acc m' → Φ acc m')) ε
theorem lc_run {own : List (Str × Nat)} {is : List Nat} {ifs : List Expr} {scope : Scope} {Φ : MO → List MO → Prop} (h : LcOk X elt tg it is ifs scope own dl mu (fun acc m => Φ (.lst acc) m) ε) (his : ∀ i ∈ is, i ∈ own.map (·.2))
    {W : WX} {R F : Hp} {as : List Addr} {σ : L2.St} {H : Hp} {Q : VK} (tk : Takes X W) (hs : Hs X.K R F as mu H) (ha : At X.K F as dl σ) (k : KontO X.K R F as Φ Q) (kx : KontX X.K R F as ε (fun c d H => W c d σ H)) : tLc (SIt X tg it) (BG X scope tg) (BT X scope ifs) (BE X scope elt) (own.map (·.2)) σ H Q := by
  refine (WIt.run h W R F as σ H _ tk hs ha (fun I ys m F1 as1 H1 ⟨hsz, J, j0, jt, jd⟩ e1 e2 hs1 wk Dl hD => ?_) kx)
  obtain ⟨fF, fR, _⟩ := hs1.free hD
  have fA := hs1.ne_new hD
  have st0 : Hs X.K (upd R Dl (.lst [])) F1 as1 m (upd H1 Dl (.lst [])) := (hs1.up hD).frame upd_same fF fA
  refine ⟨fun i n H2 => ∃ pre post accD accV F2 as2 mu2, ys = pre ++ post ∧ pre.length = i ∧ post.length = n ∧ Er F1 F2 ∧ as1 <+: as2 ∧ Hs X.K (upd R Dl (.lst accV)) F2 as2 mu2 H2 ∧ RpL X.K F2 as2 accD accV ∧ accD.length ≤ pre.length ∧ J pre post accD mu2,
    ⟨ys.length, [], ys, [], [], F1, as1, m, rfl, rfl, rfl, Er.refl _, List.prefix_refl _, st0, rfl, Nat.le_refl _, j0⟩, fun i n H2 ⟨pre, post, accD, accV, F2, as2, mu2, ey, ei, en, f1, f2, hs2, ra, al, jj⟩ => ?_⟩
  obtain ⟨w1, w2⟩ := wk _ i H2 F2 as2 mu2 f1 f2 hs2
  cases post with
  | nil =>
    rw [List.append_nil] at ey
    subst ey
    refine .inl ⟨w2 (by omega), k Dl (.lst accD) mu2 F2 as2 H2 (jd _ _ jj) (e1.trans f1) (e2.trans f2) (hs2.unframe fR) fR (hs2.frF Dl _ upd_same) (fun k' m' q _ => ?_) ⟨accV, hs2.fr Dl _ upd_same, ra⟩ rfl⟩
    have := hs2.frA Dl (List.mem_of_getElem? q)
    rw [upd_same] at this; cases this
  | cons y post =>
    have gy : ys[i]? = some y := by rw [ey, ← ei]; simp
    obtain ⟨go, yl⟩ := w1 y gy
    have hlen : accD.length < sizeLine := by
      have : pre.length + (post.length + 1) = ys.length := by rw [ey]; simp
      omega
    refine .inr ⟨go, fun H3 => ∃ accD' accV' F3 as3 mu3, Er F1 F3 ∧ as1 <+: as3 ∧ Hs X.K (upd R Dl (.lst accV')) F3 as3 mu3 H3 ∧ RpL X.K F3 as3 accD' accV' ∧ accD'.length ≤ pre.length + 1 ∧ J (pre ++ [y]) post accD' mu3, fun H3 ⟨accD', accV', F3, as3, mu3, g1, g2, hs3, ra3, al3, j3⟩ => ?_, fun z H3 yz => ?_⟩
    · exact ⟨post.length, by simp at en; omega, pre ++ [y], post, accD', accV', F3, as3, mu3, by simp [ey], by simp [ei], rfl, g1, g2, hs3, ra3, by simpa using al3, j3⟩
    · obtain ⟨F3, g1, hs3, yo⟩ := yl z H3 yz
      have ha3 : At X.K F3 as2 (wipeD dl (own.map (·.2))) (L2.wipe σ (own.map (·.2))) := (ha.mono ((e1.trans f1).trans g1) (e2.trans f2)).wipe _
      intro s0 H0 C cl fp
      refine jt pre y post accD mu2 ey jj s0 H0 C cl fp (upd R Dl (.lst accV)) F3 as2 _ H3 z _ hs3 ha3 yo fun dl4 mu4 F4 as4 σ4 H4 p4 q1 q2 hs4 ha4 stw => ⟨(stw.wipe his).trans (wipe_wipe σ _), ?_⟩
      intro s0 H0 C cl fp
      refine p4 s0 H0 C cl fp (upd R Dl (.lst accV)) F4 as4 σ4 H4 _ hs4 ha4 fun b mu5 F5 as5 H5 p5 r1 r2 hs5 => ?_
      cases b with
      | false =>
        show ∃ accD' accV' F3 as3 mu3, _
        exact ⟨accD, accV, F5, as5, mu5, ((f1.trans g1).trans q1).trans r1, (f2.trans q2).trans r2, hs5, RpL.mono ((g1.trans q1).trans r1) (q2.trans r2) _ _ ra, by omega, p5.2 rfl⟩
      | true =>
        show BE X scope elt σ4 H5 _
        intro s0 H0 C cl fp
        refine p5.1 rfl s0 H0 C cl fp (fun _ _ _ _ => False) (upd R Dl (.lst accV)) F5 as5 σ4 H5 _ takes0 hs5 (ha4.mono r1 r2) (fun v d mu6 F6 as6 H6 p6 t1 t2 hs6 r6 => ?_) fun _ _ _ _ _ _ z => z.elim
        have raV := RpL.mono (((g1.trans q1).trans r1).trans t1) ((q2.trans r2).trans t2) _ _ ra
        refine ⟨accV, hs6.fr Dl _ upd_same, by rw [← ra.len]; exact hlen, accD ++ [d], accV ++ [v], F6, as6, mu6, (((f1.trans g1).trans q1).trans r1).trans t1, ((f2.trans q2).trans r2).trans t2, hs6.reframe, raV.append ⟨v, [], rfl, r6, rfl⟩, by simp; omega, p6⟩
theorem BG.pg {scope : Scope} (s : Shared) (H : Hp) (C : Addr) (cl : List (Str × Addr)) (fp : List Addr) : PG (X.blk s H scope (compEnvC scope cl C X.env) fp) tg (BG X scope tg) := ⟨fun pins s' σ _ v u Q I r h => h s H C cl fp pins s' u I r⟩
theorem BT.pt {ifs : List Expr} {scope : Scope} (s : Shared) (H : Hp) (C : Addr) (cl : List (Str × Addr)) (fp : List Addr) : PTs (X.blk s H scope (compEnvC scope cl C X.env) fp) ifs (BT X scope ifs) := ⟨fun pins s' σ _ Q I h => h s H C cl fp pins s' I⟩
theorem BE.pe {scope : Scope} (s : Shared) (H : Hp) (C : Addr) (cl : List (Str × Addr)) (fp : List Addr) : PE (X.blk s H scope (compEnvC scope cl C X.env) fp) elt (BE X scope elt) := ⟨fun pins s' σ _ Q I h => h s H C cl fp pins s' I⟩
theorem wo_lc {is : List Nat} {ifs : List Expr} {scope : Scope} {Φ : MO → List MO → Prop} (own : List (Str × Nat)) (h : LcOk X elt tg it is ifs scope own dl mu (fun acc m => Φ (.lst acc) m) ε)
    (hN : X.N.Nodup := by assumption) (ok : BlkOk X.N X.env.scope scope own := by exact blkOk_by rfl) (his : ∀ i ∈ is, i ∈ own.map (·.2) := by decide) (hc : X.calm = true := by rfl) (hfs : ∀ x, foldedSetIterable it X.env x = pure x := by intro _; rfl) : WO X (.ListComp elt [⟨tg, it, ifs, 0⟩] scope pos) dl mu Φ ε := .mk fun W R F as σ H Q tk hs ha k kx =>
  SE.by (pe_lc hc hN SIt.pi ok BG.pg BT.pt BE.pe hfs) (lc_run h his tk hs ha k kx)
theorem ws_setLc {y : Str} {py spos : Pos} {is : List Nat} {ifs : List Expr} {scope : Scope} {Ψ : DEnds} (i : Nat) (own : List (Str × Nat)) (h : LcOk X elt tg it is ifs scope own dl mu (fun acc m => Ψ.nx (dl.set i (some (.lst acc))) m) (fun x m => Ψ.ex x dl m))
    (hN : X.N.Nodup := by assumption) (ok : BlkOk X.N X.env.scope scope own := by exact blkOk_by rfl) (his : ∀ i ∈ is, i ∈ own.map (·.2) := by decide) (hi : X.N[i]? = some y := by rfl) (hyl : X.env.scope.names.lookup y = some .local := by rfl)
    (hsw : swapsWith (.ListComp elt [⟨tg, it, ifs, 0⟩] scope pos) (some (.Name y py)) spos.line X.env = pure true := by rfl) (hc : X.calm = true := by rfl) (hfs : ∀ x, foldedSetIterable it X.env x = pure x := by intro _; rfl) : WS X (.Assign [.Name y py] (.ListComp elt [⟨tg, it, ifs, 0⟩] scope pos) spos) dl mu Ψ := .mk fun W R F as σ H E tk hs ha k =>
  SS.by (ps_setLc (i := i) hc hN hi hyl hsw SIt.pi ok BG.pg BT.pt BE.pe hfs) (lc_run (Φ := fun mo m => ∃ acc, mo = .lst acc ∧ Ψ.nx (dl.set i (some (.lst acc))) m) (WIt.imp h fun ys m ⟨q1, J, q2, q3, q4⟩ => ⟨q1, J, q2, q3, fun acc m' q => ⟨acc, rfl, q4 acc m' q⟩⟩) his tk hs ha (fun p mo mu' F' as' H' ⟨acc, e, q⟩ e1 e2 hs' hR hF hA c l => by
    subst e
    obtain ⟨vs, c1, c2⟩ := c
    have t := hs'.tell c1 hF hR hA
    exact k.nx _ _ _ as' _ H' q (e1.trans (Er.new hF)) e2 t ((ha.mono (e1.trans (Er.new hF)) e2).set i ⟨p, vs, rfl, upd_same, RpL.mono (Er.new hF) (List.prefix_refl _) _ _ c2⟩)) (k.toX ha))
end
end DL
namespace DL
open PySem PySem.Spec PyProof.Rows L2
abbrev tabO : Obj := { cls := .none, data := .fields #[] }
abbrev tabA : List Addr := tabT.map (·.1)
structure TabHd (K : PySem.W.Frag) (mg : Str → Option Value) (h : Heap) (cs : List (Addr × Addr)) : Prop where
  tab : ∀ P, P ∈ tabA → h.get? P = some tabO ∧ K.lookup P = none
  has : ∀ P, P ∈ tabA → ∃ c, (c, P) ∈ cs
  cd : ∀ p, p ∈ cs → p.2 ∈ tabA ∧ PySem.W.CodeHd h p.1 p.2
  bm : ∃ (bm : Addr) (ob : Obj), mg "__builtins__" = some (.ref bm) ∧ bm ≠ builtinsNs ∧ h.get? bm = some ob ∧ ob.cls = .type "module" ∧ ob.dict = some builtinsNs ∧ ob.data = .plain
theorem lawH {P : Program} {w : World} {K : PySem.W.Frag} {mg mb : Str → Option Value} {k : Nat} {fa a : Addr} {fd : FuncData} {x : Str} {sp : Sp} {t : Shared} {H : Hp} {ob : Obj} {arr : Array Value} {tk : Nat} {cs : List (Addr × Addr)}
    (inn : K.In t.heap) (nsG : t.heap.Ns mainGlobals mg) (nsB : t.heap.Ns builtinsNs mb) (bl : ∀ x : Str, x ≠ "__name__" → mb x = bootBuiltins x) (nl : t.heap.NoLimit) (ng : t.gens = #[]) (ga : t.heap.get? a = some ob) (od : ob.data = .seq arr tk) (hr : RoomG k callerA) (T : TabHd K mg t.heap cs)
    (F : ∀ base : Heap, K.In base → base.Ns mainGlobals mg → (∀ p ∈ cs, LamX.TabB base mg p.1 p.2) → FnG P w K mg base k fa fd [x] sp) (hbind : ∀ (s : Shared) (u : Value), BindsTo s fd ⟨[u], []⟩ [(x, u)])
    (hO : ∀ b, H b = none ∨ (b ∈ tabA ∧ H b = some (.tbl #[])) ∨ ∃ o xs, H b = some (.frz o (.lst xs))) (hok : HOk P w H t.heap) (hA : ∀ b, H b ≠ none → (b = a ∨ b ∈ tabA) ∧ K.lookup b = none) (hH : ∀ b, b ∈ tabA → H b = some (.tbl #[])) (hsp : sp [.ref a] H (fun v _ => v = .bl true) fun _ _ _ => False) (hCX : ∀ e s', L2.CX P w [] H t (fun _ _ _ => False) e s' → False) :
    codeAny (model P w) callerA (.call (.ref fa) ⟨[.ref a], []⟩) (fun r s' => r = .ok (.ret (.bool true)) ∧ OldK t.heap s'.heap ∧ s'.os = t.os ∧ AllBare s'.gens) t := by
  have plain : ∀ (b : Addr) (o : Obj), t.heap.get? b = some o → (∀ vs n, o.data ≠ .seq vs n) → o.data ≠ .fields #[] → H b = none := fun b o e d1 d2 => Classical.byContradiction fun z => by
    rcases (hA b z).1 with z1 | z1
    · rw [z1, ga] at e; cases e; exact d1 _ _ od
    · rw [(T.tab b z1).1] at e; cases e; exact d2 rfl
  have ns : ∀ {b : Addr} {m : Str → Option Value}, t.heap.Ns b m → (hidT t.heap H).Ns b m := fun ⟨o, es, ep, e, d, r⟩ => ⟨o, es, ep, hidT_get e (plain _ _ e (by rw [d]; intro _ _ z; cases z) (by rw [d]; intro z; cases z)), d, r⟩
  have kin : K.In (hidT t.heap H) := fun b o e => hidT_get (inn b o e) (Classical.byContradiction fun z => by rw [(hA b z).2] at e; cases e)
  have tabB : ∀ p ∈ cs, LamX.TabB (hidT t.heap H) mg p.1 p.2 := fun p hp => by
    obtain ⟨m1, o, us, file, tf, flags, tg, inF, text, tt, e1, r1, r2, r3, r⟩ := T.cd p hp
    obtain ⟨bm, ob', b1, b2, b3, b4, b5, b6⟩ := T.bm
    have tp := (T.tab _ m1).1
    have gP : mainGlobals ≠ p.2 := fun z => by
      obtain ⟨o', es, ep, e, hd, _⟩ := nsG
      rw [z, tp] at e; cases e; cases hd
    refine ⟨⟨o, us, file, tf, flags, tg, inF, text, tt, hidT_get e1 (plain _ _ e1 (by rw [r2]; intro _ _ z; cases z) (by rw [r2]; intro z; cases z; simp at r3)), r1, r2, r3, r⟩,
      ⟨bm, ob', b1, b2, fun z => ?_, fun z => ?_, hidT_get b3 (plain _ _ b3 (by rw [b6]; intro _ _ z; cases z) (by rw [b6]; intro z; cases z)), b4, b5, b6⟩, gP⟩
    · obtain ⟨o', es, ep, e, hd, _⟩ := nsG
      rw [z, e] at b3; cases b3; rw [hd] at b6; cases b6
    · rw [z, tp] at b3; cases b3; cases b6
  obtain ⟨mc, l1, l2⟩ := nl
  have go := (F _ kin (ns nsG) tabB).run callerA [] t H ⟨[.ref a], []⟩ [.ref a] [.ref a] (fun v _ => v = .bl true) (fun _ _ _ => False) hr
    ⟨rfl, ⟨kin, ns nsG, ⟨mb, ns nsB, bl⟩, ⟨mc, ns l1, l2⟩⟩, fun b o => of_hidT, by rw [hidT_size]; exact Nat.le_refl _, trivial, (by intro b hb; cases hb), hok, .of_eq ng⟩ (hbind t (.ref a)) (.cons rfl .nil) hsp
  refine codeAny_mono go fun r s' h => ?_
  match r, h with
  | .error e, h => exact (hCX e s' h).elim
  | .ok .next, h => exact h.elim
  | .ok .brk, h => exact h.elim
  | .ok .cont, h => exact h.elim
  | .ok (.ret u), ⟨v, H', os, bare, un, hok', r', q⟩ =>
    have q' : v = .bl true := q
    subst q'
    obtain rfl : u = Value.bool true := r'
    have same : ∀ b o, b ∉ tabA → t.heap.get? b = some o → s'.heap.get? b = some o := fun b o nb e => by
      rcases hO b with z | ⟨z, _⟩ | ⟨oz, xs, z⟩
      · exact un.keep b o e z (by intro i; cases i) (by intro i; cases i)
      · exact (nb z).elim
      · have k1 := (hok b _ z).1
        rw [e] at k1; cases k1
        exact (hok' b _ (un.frzs b o _ z)).1
    have grown : ∀ b, b ∈ tabA → ∃ more : Array Value, s'.heap.get? b = some { cls := .none, data := .fields more } := fun b hb => by
      obtain ⟨more, z⟩ := un.tbls b #[] (hH b hb)
      exact ⟨_, hok' b _ z⟩
    refine ⟨rfl, ⟨fun b o e => ?_, fun b o e => ?_⟩, os, bare⟩
    · by_cases hb : b ∈ tabA
      · obtain ⟨more, hm⟩ := grown b hb
        obtain ⟨c, hc⟩ := T.has b hb
        rw [(T.tab b hb).1] at e; cases e
        exact .inr (.inl ⟨((T.cd _ hc).2.tab (T.tab b hb).1).isCodeTable, rfl, #[], more, rfl, by rw [Array.empty_append]; exact hm⟩)
      · exact .inl (same b o hb e)
    · by_cases hb : b ∈ tabA
      · obtain ⟨more, hm⟩ := grown b hb
        exact ⟨_, hm⟩
      · exact ⟨o, same b o hb e⟩
theorem lawG {P : Program} {w : World} {K : PySem.W.Frag} {mg mb : Str → Option Value} {k : Nat} {fa a : Addr} {fd : FuncData} {x : Str} {sp : Sp} {t : Shared} {vs : List Value} {ns : List Int} {cs : List (Addr × Addr)}
    (inn : K.In t.heap) (nsG : t.heap.Ns mainGlobals mg) (nsB : t.heap.Ns builtinsNs mb) (bl : ∀ x : Str, x ≠ "__name__" → mb x = bootBuiltins x) (nl : t.heap.NoLimit) (ng : t.gens = #[])
    (ga : t.heap.get? a = some { cls := .type "list", data := .seq vs.toArray }) (hi : IntsAre vs ns) (hl : ns.length ≤ sizeLine) (hr : RoomG k callerA) (T : TabHd K mg t.heap cs)
    (F : ∀ base : Heap, K.In base → base.Ns mainGlobals mg → (∀ p ∈ cs, LamX.TabB base mg p.1 p.2) → FnG P w K mg base k fa fd [x] sp) (hbind : ∀ (s : Shared) (u : Value), BindsTo s fd ⟨[u], []⟩ [(x, u)])
    (hsp : ∀ H : Hp, (∀ b, H b = none ∨ (b ∈ tabA ∧ H b = some (.tbl #[])) ∨ ∃ o xs, H b = some (.frz o (.lst xs))) → (∀ b, b ∈ tabA → H b = some (.tbl #[])) → SqL K H a (ns.map V.int) → sp [.ref a] H (fun v _ => v = .bl true) fun _ _ _ => False) (hCX : ∀ H e s', L2.CX P w [] H t (fun _ _ _ => False) e s' → False) :
    codeAny (model P w) callerA (.call (.ref fa) ⟨[.ref a], []⟩) (fun r s' => r = .ok (.ret (.bool true)) ∧ OldK t.heap s'.heap ∧ s'.os = t.os ∧ AllBare s'.gens) t := by
  have lv : vs.toArray.size = ns.length := by rw [List.size_toArray]; exact hi.length
  have aT : a ∉ tabA := fun z => by
    have e := (T.tab a z).1
    rw [ga] at e
    have e' : Data.seq vs.toArray _ = Data.fields #[] := congrArg Obj.data (Option.some.inj e)
    cases e'
  let H0 : Hp := fun b => if b ∈ tabA then some (.tbl #[]) else none
  have at0 : ∀ {b : Addr} {u : HO}, H0 b = some u → b ∈ tabA ∧ u = .tbl #[] := fun {b u} z => by
    by_cases e : b ∈ tabA
    · exact ⟨e, (Option.some.inj ((if_pos e).symm.trans z)).symm⟩
    · cases (if_neg e).symm.trans z
  have ok0 : ∀ {b : Addr} {u : HO}, H0 b = some u → ObjOk P w H0 t.heap b u := fun {b u} z => by
    obtain ⟨h1, rfl⟩ := at0 z
    exact (T.tab b h1).1
  cases hk : K.lookup a with
  | some o =>
    have ga' := inn a o hk
    rw [ga] at ga'; cases ga'
    have S : SqL K H0 a (ns.map V.int) := .inr ⟨_, vs.toArray, _, hk, rfl, rfl, rfl, lv ▸ hl, by simpa using vals_ints hi⟩
    have O : ∀ b, H0 b = none ∨ (b ∈ tabA ∧ H0 b = some (.tbl #[])) ∨ ∃ o xs, H0 b = some (.frz o (.lst xs)) := fun b => by
      cases z : H0 b with
      | none => exact .inl rfl
      | some u => obtain ⟨h1, rfl⟩ := at0 z; exact .inr (.inl ⟨h1, rfl⟩)
    have O2 : ∀ b, b ∈ tabA → H0 b = some (.tbl #[]) := fun b hb => if_pos hb
    refine lawH inn nsG nsB bl nl ng ga rfl hr T F hbind (H := H0) O (fun b u z => ok0 z) (fun b z => ?_) O2 (hsp _ O O2 S) fun e s' => hCX _ e s'
    cases q : H0 b with
    | none => exact (z q).elim
    | some u => obtain ⟨h1, _⟩ := at0 q; exact ⟨.inr h1, (T.tab b h1).2⟩
  | none =>
    let H : Hp := upd H0 a (.frz { cls := .type "list", data := .seq vs.toArray } (.lst (ns.map V.int)))
    have atA : ∀ {b : Addr} {u : HO}, H b = some u → (b = a ∧ u = .frz { cls := .type "list", data := .seq vs.toArray } (.lst (ns.map V.int))) ∨ (b ∈ tabA ∧ u = .tbl #[]) := fun {b u} z => by
      by_cases e : b = a
      · subst e
        have z' : upd _ b _ b = some u := z
        rw [upd_same] at z'; cases z'
        exact .inl ⟨rfl, rfl⟩
      · have z' : upd _ a _ b = some u := z
        rw [upd_ne e] at z'
        exact .inr (at0 z')
    have O2 : ∀ b, b ∈ tabA → H b = some (.tbl #[]) := fun b hb => by
      show upd H0 a _ b = _
      rw [upd_ne (fun z => aT (by rw [← z]; exact hb))]
      exact if_pos hb
    have O : ∀ b, H b = none ∨ (b ∈ tabA ∧ H b = some (.tbl #[])) ∨ ∃ o xs, H b = some (.frz o (.lst xs)) := fun b => by
      cases z : H b with
      | none => exact .inl rfl
      | some u =>
        rcases atA z with ⟨_, e⟩ | ⟨e1, e2⟩
        · exact .inr (.inr ⟨_, _, congrArg some e⟩)
        · exact .inr (.inl ⟨e1, congrArg some e2⟩)
    refine lawH inn nsG nsB bl nl ng ga rfl hr T F hbind (H := H) O (fun b u z => ?_) (fun b z => ?_) O2 (hsp H O O2 (.inl (.inr ⟨_, upd_same⟩))) fun e s' => hCX _ e s'
    · rcases atA z with ⟨rfl, rfl⟩ | ⟨h1, rfl⟩
      · exact ⟨ga, by rw [List.length_map]; exact hl, vs, _, vals_ints hi, ga⟩
      · exact (T.tab b h1).1
    · cases q : H b with
      | none => exact (z q).elim
      | some u =>
        rcases atA q with ⟨rfl, _⟩ | ⟨h1, _⟩
        · exact ⟨.inl rfl, hk⟩
        · exact ⟨.inr h1, (T.tab b h1).2⟩
theorem walkG {l : PySem.W.OpenLaw} {n k : Nat} {q : Program} {loose : List Str} {XP : (Str → Option Value) → Heap → Prop} {YP : World → Heap → Prop} {d : DefRec} {K : Params → PySem.W.Frag} {sp : World → Sp} {x : Str} (hn : l.most = some n) (hn2 : n ≤ sizeLine) (hdf : d.params.defaults = []) (hr : RoomG k callerA)
    (hY : ∀ (w : World) (h : Heap), YP w h → (K w.params).In h)
    (F : ∀ (w : World) (mg : Str → Option Value) (fa : Addr) (h : Heap), YP w h → (K w.params).In h → h.Ns mainGlobals mg → mg d.name = some (.ref fa) → (∃ (bm : Addr) (ob : Obj), mg "__builtins__" = some (.ref bm) ∧ bm ≠ builtinsNs ∧ h.get? bm = some ob ∧ ob.cls = .type "module" ∧ ob.dict = some builtinsNs ∧ ob.data = .plain) →
      ∃ (fd : FuncData) (cs : List (Addr × Addr)), TabHd (K w.params) mg h cs ∧ (∀ (s : Shared) (u : Value), BindsTo s fd ⟨[u], []⟩ [(x, u)]) ∧ ∀ base : Heap, (K w.params).In base → base.Ns mainGlobals mg → (∀ p ∈ cs, LamX.TabB base mg p.1 p.2) → FnG l.prog w (K w.params) mg base k fa fd [x] (sp w))
    (hsp : ∀ (w : World) (H : Hp) (a : Addr) (ns : List Int), ns.length ≤ n → (∀ b, H b = none ∨ (b ∈ tabA ∧ H b = some (.tbl #[])) ∨ ∃ o xs, H b = some (.frz o (.lst xs))) → (∀ b, b ∈ tabA → H b = some (.tbl #[])) → SqL (K w.params) H a (ns.map V.int) → sp w [.ref a] H (fun v _ => v = .bl true) fun _ _ _ => False)
    (hCX : ∀ (w : World) (H : Hp) (s : Shared) (e : Value) (s' : Shared), L2.CX l.prog w [] H s (fun _ _ _ => False) e s' → False) : PySem.W.WalkO q loose XP YP l.row.toRowW d [] (fun f vs => PySem.call f vs) :=
  Att.attach_call hn hdf fun w s₀ s₁ mg mb fa o pm cd doc a vs ns G Y ho hd hcd hmg hobj hints hlen hg => by
    obtain ⟨fd, cs, T, hb, hF⟩ := F w mg fa _ Y (hY w _ Y) G.T.g hmg G.T.bmain
    exact lawG (hY w _ Y) G.T.g G.T.b G.T.builtins G.T.nolimit hg hobj hints (Nat.le_trans hlen hn2) hr T hF hb (fun H hO hH hS => hsp w H a ns hlen hO hH hS) fun H e s' => hCX w H s₁ e s'
def lawSp (n : Nat) : SpD := fun args mu Φ _ => ∃ ns : List Int, ns.length ≤ n ∧ args = [.scr ns] ∧ mu = [] ∧ Φ (.bl true) []
theorem lawSp_of {K : PySem.W.Frag} {H : Hp} {a : Addr} {ns : List Int} {n : Nat} (h : ns.length ≤ n) (hO : ∀ b, H b = none ∨ (b ∈ tabA ∧ H b = some (.tbl #[])) ∨ ∃ o xs, H b = some (.frz o (.lst xs))) (hH : ∀ b, b ∈ tabA → H b = some (.tbl #[])) (hS : SqL K H a (ns.map V.int)) : conc K (lawSp n) [.ref a] H (fun v _ => v = .bl true) fun _ _ _ => False := by
  let F : Hp := fun b => match H b with
    | some (.tbl _) => none
    | u => u
  have FH : ∀ b u, F b = some u → H b = some u ∧ Pn u := fun b u e => by
    have e' : (match H b with | some (.tbl _) => none | u => u) = some u := e
    rcases hO b with z | ⟨_, z⟩ | ⟨o, xs, z⟩
    · rw [z] at e'; cases e'
    · rw [z] at e'; cases e'
    · rw [z] at e'; cases e'; exact ⟨z, trivial⟩
  have HF : ∀ b u, H b = some u → Pn u → F b = some u := fun b u e p => by
    show (match H b with | some (.tbl _) => none | u => u) = some u
    rw [e]
    cases u <;> first | rfl | exact p.elim
  have er : Er F H := ⟨fun b o p q => by
      rcases q with q | ⟨ob, q⟩
      · exact .inl (FH b _ q).1
      · exact .inr ⟨ob, (FH b _ q).1⟩, fun b o p q => (FH b _ q).1, fun b q => by
      cases z : F b with
      | none => rfl
      | some u => rw [(FH b u z).1] at q; cases q⟩
  have S : SqL K F a (ns.map V.int) := by
    rcases hS with (z | ⟨ob, z⟩) | z
    · exact .inl (.inl (HF _ _ z trivial))
    · exact .inl (.inr ⟨ob, HF _ _ z trivial⟩)
    · exact .inr z
  refine ⟨fun _ => none, F, [], [], [.scr ns], fun x _ => x = .bl true, fun _ _ => False, ⟨er, fun a o e => (by cases e), fun a o e => (by cases e), fun _ _ => rfl, rfl, by intro i j a m n e; simp at e, by intro i a m e; simp at e, by intro i a m e; simp at e, fun p hp => ?_, fun b ps e => ⟨?_, rfl⟩⟩, ⟨.ref a, [], rfl, ⟨a, rfl, S⟩, rfl⟩, ⟨ns, h, rfl, rfl, rfl⟩, ?_, fun _ _ _ _ _ z => z.elim⟩
  · exact LamX.TabS.nil (hH p.1 (List.mem_map.mpr ⟨p, hp, rfl⟩))
  · show (match H b with | some (.tbl _) => none | u => u) = none
    rw [e]
  intro v x mu' F' H' e _ _ _ r
  subst e
  exact r
end DL
namespace DL
open PySem PySem.Spec PyProof.Rows L2
theorem nocx {P : Program} {w : World} {H : Hp} {s : Shared} {e : Value} {s' : Shared} (h : L2.CX P w [] H s (fun _ _ _ => False) e s') : False := by
  obtain ⟨_, _, _, _, _, _, _, _, _, _, _, _, z⟩ := h
  exact z.elim
end DL
namespace DL
open PySem PySem.Spec PyProof.Rows L2
def SCf (X : Cx) (f : Value) : List V → Hp → VK → Prop := fun xs H Q => ∀ pins s σ us, Inv X pins σ H s → Vals xs us → wpAny (model X.prog X.w) X.A (call f us) (EP X pins σ Q) X.xe s
structure WCf (X : Cx) (f : Value) (xs : List D) (mu : List MO) (Φ : DK)  : Prop where
  run : ∀ R F as H vs Q, Hs X.K R F as mu H → RpL X.K F as xs vs → Kont X.K R F as Φ Q → SCf X f vs H Q
instance {X : Cx} (f : Value) (xs : List D) (mu : List MO) (Φ : DK)  : CoeFun (WCf X f xs mu Φ) (fun _ => ∀ R F as H vs Q, Hs X.K R F as mu H → RpL X.K F as xs vs → Kont X.K R F as Φ Q → SCf X f vs H Q) := ⟨fun h => h.run⟩
structure WCfO (X : Cx) (f : Value) (xs : List D) (mu : List MO) (Φ : MO → List MO → Prop)  : Prop where
  run : ∀ R F as H vs Q, Hs X.K R F as mu H → RpL X.K F as xs vs → KontO X.K R F as Φ Q → SCf X f vs H Q
instance {X : Cx} (f : Value) (xs : List D) (mu : List MO) (Φ : MO → List MO → Prop)  : CoeFun (WCfO X f xs mu Φ) (fun _ => ∀ R F as H vs Q, Hs X.K R F as mu H → RpL X.K F as xs vs → KontO X.K R F as Φ Q → SCf X f vs H Q) := ⟨fun h => h.run⟩
section
variable {X : Cx} {e o : Expr} {es : List Expr} {dl : List Sl} {mu : List MO} {Φ : DK} {ε : XP} {pos p : Pos} {x : Str} {id T : String} {xs : List D}
theorem SCf.cr {f : Value} : CallR X f (SCf X f) := fun pins s σ H xs us Q I r h => h pins s σ us I r
theorem SCf.by {f : Value} {r : List V → Hp → VK → Prop} (hc : CallR X f r) {vs : List V} {H : Hp} {Q : VK} (q : r vs H Q) : SCf X f vs H Q := fun pins s σ us I rv => hc pins s σ H vs us Q I rv q
theorem we_bf (hm : X.mg x = none) (h : WA X (e :: es) dl mu (fun xs m => WCf X (.builtin id) xs m Φ) ε) (hg : Gl X x := by rfl) (hv : bootBuiltins x = some (.builtin id) := by rfl) (hn : x ≠ "__name__" := by decide) (hdb : (x == ("__debug__" : Str)) = false := by decide)
    (he : starEach (e :: es) X.env = (false, eval e X.env) :: starEach es X.env := by rfl) (hpl : (backTo pos (starEach es X.env)).any (·.1) = false := by rfl) : WE X (.Call (.Name x p) (e :: es) [] pos) dl mu Φ ε := .mk fun W R F as σ H Q tk hs ha k kx =>
  SE.by (pe_callB SCf.cr hg hm hv SA.pa hn hdb he hpl) (h.then tk hs ha kx fun vs xs m F' as' H' q e1 e2 hs' ha' r kx' => q R F' as' H' vs Q hs' r (k.go e1 e2))
theorem we_ty (hm : X.mg x = none) (h : WA X (e :: es) dl mu (fun xs m => WCf X (.type T) xs m Φ) ε) (hg : Gl X x := by rfl) (hv : bootBuiltins x = some (.type T) := by rfl) (hn : x ≠ "__name__" := by decide) (hdb : (x == ("__debug__" : Str)) = false := by decide)
    (he : starEach (e :: es) X.env = (false, eval e X.env) :: starEach es X.env := by rfl) (hpl : (backTo pos (starEach es X.env)).any (·.1) = false := by rfl) : WE X (.Call (.Name x p) (e :: es) [] pos) dl mu Φ ε := .mk fun W R F as σ H Q tk hs ha k kx =>
  SE.by (pe_callTy SCf.cr hg hm hv SA.pa hn hdb he hpl) (h.then tk hs ha kx fun vs xs m F' as' H' q e1 e2 hs' ha' r kx' => q R F' as' H' vs Q hs' r (k.go e1 e2))
theorem wo_bf {Φ : MO → List MO → Prop} (hm : X.mg x = none) (h : WA X (e :: es) dl mu (fun xs m => WCfO X (.builtin id) xs m Φ) ε) (hg : Gl X x := by rfl) (hv : bootBuiltins x = some (.builtin id) := by rfl) (hn : x ≠ "__name__" := by decide) (hdb : (x == ("__debug__" : Str)) = false := by decide)
    (he : starEach (e :: es) X.env = (false, eval e X.env) :: starEach es X.env := by rfl) (hpl : (backTo pos (starEach es X.env)).any (·.1) = false := by rfl) : WO X (.Call (.Name x p) (e :: es) [] pos) dl mu Φ ε := .mk fun W R F as σ H Q tk hs ha k kx =>
  SE.by (pe_callB SCf.cr hg hm hv SA.pa hn hdb he hpl) (h.then tk hs ha kx fun vs xs m F' as' H' q e1 e2 hs' ha' r kx' => q R F' as' H' vs Q hs' r (k.go e1 e2))
theorem wo_ty {Φ : MO → List MO → Prop} (hm : X.mg x = none) (h : WA X (e :: es) dl mu (fun xs m => WCfO X (.type T) xs m Φ) ε) (hg : Gl X x := by rfl) (hv : bootBuiltins x = some (.type T) := by rfl) (hn : x ≠ "__name__" := by decide) (hdb : (x == ("__debug__" : Str)) = false := by decide)
    (he : starEach (e :: es) X.env = (false, eval e X.env) :: starEach es X.env := by rfl) (hpl : (backTo pos (starEach es X.env)).any (·.1) = false := by rfl) : WO X (.Call (.Name x p) (e :: es) [] pos) dl mu Φ ε := .mk fun W R F as σ H Q tk hs ha k kx =>
  SE.by (pe_callTy SCf.cr hg hm hv SA.pa hn hdb he hpl) (h.then tk hs ha kx fun vs xs m F' as' H' q e1 e2 hs' ha' r kx' => q R F' as' H' vs Q hs' r (k.go e1 e2))
def sqD : D → Option (List D)
  | .lst xs => some xs
  | .tup xs => some xs
  | .scr ns => some (ns.map .int)
  | _ => none
theorem Vw.seq {K : PySem.W.Frag} {F H : Hp} {as : List Addr} (e : Er F H) : ∀ {x : D} {ys : List D} {v : V}, sqD x = some ys → Vw K F as H x v → ∃ a vs, v = .ref a ∧ (SqL K H a vs ∨ SqT K H a vs) ∧ RpL K F as ys vs
  | .lst xs, _, _, h, ⟨a, vs, h1, h2, h3⟩ => by cases h; exact ⟨a, vs, h1, .inl (.inl (.inl h2)), h3⟩
  | .tup xs, _, _, h, ⟨a, vs, h1, h2, h3⟩ => by cases h; exact ⟨a, vs, h1, .inr (e.tup h2).sqT, h3⟩
  | .scr ns, _, _, h, ⟨a, h1, h2⟩ => by cases h; exact ⟨a, _, h1, .inl h2, RpL.mapInt⟩
theorem RpL.one {K : PySem.W.Frag} {F : Hp} {as : List Addr} {x : D} {vs : List V} (h : RpL K F as [x] vs) : ∃ v, vs = [v] ∧ Rp K F as x v := by
  obtain ⟨v, r, rfl, h1, h2⟩ := h
  cases h2
  exact ⟨v, rfl, h1⟩
theorem RpL.two {K : PySem.W.Frag} {F : Hp} {as : List Addr} {x y : D} {vs : List V} (h : RpL K F as [x, y] vs) : ∃ v w, vs = [v, w] ∧ Rp K F as x v ∧ Rp K F as y w := by
  obtain ⟨v, r, rfl, h1, h2⟩ := h
  obtain ⟨w, rfl, h3⟩ := h2.one
  exact ⟨v, w, rfl, h1, h3⟩
def lenD : D → Option Nat
  | .str s => if s.length ≤ sizeLine then some s.length else none
  | x => (sqD x).map (·.length)
theorem cf_len {x : D} {n : Nat} (hn : lenD (rdD mu x) = some n) (h : Φ (.int n) mu) : WCf X (.builtin "len") [x] mu Φ := .mk fun R F as H vs Q hs r k => by
  obtain ⟨v, rfl, r1⟩ := r.one
  have w := hs.view r1
  generalize rdD mu x = y at *
  by_cases hy : ∃ s, y = .str s
  · obtain ⟨s, rfl⟩ := hy
    cases w
    by_cases hl : s.length ≤ sizeLine
    · have hn' : (if s.length ≤ sizeLine then some s.length else none) = some n := hn
      rw [if_pos hl] at hn'
      cases hn'
      exact SCf.by call_len_str ⟨s, rfl, hl, k.now hs h rfl⟩
    · have hn' : (if s.length ≤ sizeLine then some s.length else none) = some n := hn
      rw [if_neg hl] at hn'
      cases hn'
  · have hn' : (sqD y).map (·.length) = some n := by
      cases y with
      | str s => exact (hy ⟨s, rfl⟩).elim
      | _ => exact hn
    cases e : sqD y with
    | none => rw [e] at hn'; cases hn'
    | some ys =>
      rw [e] at hn'; cases hn'
      obtain ⟨a, us, rfl, h1, h2⟩ := w.seq hs.er e
      exact SCf.by call_len_seq ⟨a, us, rfl, h1, by rw [← h2.len]; exact k.now hs h rfl⟩
theorem KontO.lst {K : PySem.W.Frag} {R F : Hp} {as : List Addr} {H : Hp} {Φ : MO → List MO → Prop} {Q : VK} (k : KontO K R F as Φ Q) (hs : Hs K R F as mu H) {ys : List D} {us : List V} (h : Φ (.lst ys) mu) (r : RpL K F as ys us) {q : Addr} (hq : H q = none) : Q (.ref q) (upd H q (.lst us)) := by
  obtain ⟨g1, g2, g3⟩ := hs.free hq
  exact k q (.lst ys) mu F as _ h (Er.refl F) (List.prefix_refl _) (hs.up hq) g2 g1 g3 ⟨us, upd_same, r⟩ rfl
theorem cf_list {x : D} {ys : List D} {Φ : MO → List MO → Prop} (hn : sqD (rdD mu x) = some ys) (h : Φ (.lst ys) mu) : WCfO X (.type "list") [x] mu Φ := .mk fun R F as H vs Q hs r k => by
  obtain ⟨v, rfl, r1⟩ := r.one
  obtain ⟨a, us, rfl, h1, h2⟩ := (hs.view r1).seq hs.er hn
  exact SCf.by call_list_of ⟨a, us, rfl, h1, fun q hq => k.lst hs h h2 hq⟩
theorem cf_tupleF : CallR X (.type "tuple") (fun xs H Q => ∃ p ys, xs = [.ref p] ∧ SqL X.K H p ys ∧ ∀ l its, H l = none → Q (.ref l) (upd H l (.frz (tob its) (.tup ys)))) := by
  intro pins s σ H xs us Q I r ⟨p, ys, e, hq, q⟩
  subst e
  obtain ⟨u, rfl, rx⟩ := vals1 r
  cases rx
  obtain ⟨its, r', pl, hz⟩ := I.list hq
  have hlen := r'.length
  refine call_tuple_list pl.isList (fun h' kp => ?_) (by simp only [List.size_toArray] <;> omega)
  have I1 : Inv X pins σ H { s with heap := h' } := I.kept (t' := s.toks) kp
  refine ⟨.ref h'.objs.size, _, I1.laid (t' := s.toks) (fun b o e => Heap.get?_push_of_some _ e) (Nat.le_refl _) ?_, rfl, q _ its.toArray (I1.hok.fresh (Nat.le_refl _))⟩
  exact ⟨Heap.get?_push_size _ rfl, hz, its, r', ⟨_, Heap.get?_push_size _ rfl, rfl, _, rfl⟩⟩
theorem cf_tuple {x : D} {ys : List D} (hn : sqD (rdD mu x) = some ys) (h : Φ (.tup ys) mu) : WCf X (.type "tuple") [x] mu Φ := .mk fun R F as H vs Q hs r k => by
  obtain ⟨v, rfl, r1⟩ := r.one
  have w := hs.view r1
  generalize rdD mu x = y at *
  have go : ∀ a us, v = .ref a → SqL X.K H a us → RpL X.K F as ys us → SCf X (.type "tuple") [v] H Q := fun a us e h1 h2 => by
    subst e
    refine SCf.by cf_tupleF ⟨a, us, rfl, h1, fun l its hl => ?_⟩
    obtain ⟨g1, g2⟩ := hs.laid (o := .frz (tob its) (.tup us)) hl
    exact k _ _ mu _ as _ h g2 (List.prefix_refl _) g1 ⟨l, us, rfl, .inl ⟨its, upd_same⟩, RpL.mono g2 (List.prefix_refl _) _ _ h2⟩
  cases y with
  | lst xs => cases hn; obtain ⟨a, us, e, h1, h2⟩ := w; exact go a us e (.inl (.inl h1)) h2
  | scr ns => cases hn; obtain ⟨a, e, h1⟩ := w; exact go a _ e h1 RpL.mapInt
  | tup xs =>
    cases hn
    obtain ⟨a, us, rfl, h1, h2⟩ := w
    exact SCf.by call_tuple_of ⟨a, us, rfl, .inr ⟨(hs.er.tup h1).sqT, k.now hs h ⟨a, us, rfl, h1, h2⟩⟩⟩
  | _ => cases hn
theorem RpL.toInt {K : PySem.W.Frag} {F : Hp} {as : List Addr} : ∀ {ds : List D} {vs : List V}, RpL K F as ds vs → ∀ {ns : List Int}, ds = ns.map .int → vs = ns.map .int := fun r _ e => RpL.ofInt (by rw [← e]; exact r)
theorem cf_sortedS {x : D} {ns : List Str} {Φ : MO → List MO → Prop} (hn : rdD mu x = .lst (ns.map .str)) (hl : ns.length < 64) (h : ∀ ns' : List Str, ns'.Perm ns → sortedS ns' = true → Φ (.lst (ns'.map .str)) mu) : WCfO X (.builtin "sorted") [x] mu Φ := .mk fun R F as H vs Q hs r k => by
  obtain ⟨v, rfl, r1⟩ := r.one
  have w := hs.view r1
  rw [hn] at w
  obtain ⟨a, us, rfl, h1, h2⟩ := w
  cases h2.ofStr
  exact SCf.by cr_sortedS ⟨a, ns, rfl, .inl (.inl h1), hl, fun ns' q g1 g2 hq => k.lst hs (h ns' g1 g2) RpL.mapStr hq⟩
theorem cf_all {x : D} {bs : List Bool} (hc : X.calm = true) (hn : rdD mu x = .lst (bs.map .bl)) (h : Φ (.bl (bs.all fun b => b)) mu) : WCf X (.builtin "all") [x] mu Φ := .mk fun R F as H vs Q hs r k => by
  obtain ⟨v, rfl, r1⟩ := r.one
  have w := hs.view r1
  rw [hn] at w
  obtain ⟨a, us, rfl, h1, h2⟩ := w
  cases h2.ofBl
  exact SCf.by (cr_all hc) ⟨a, bs, rfl, .inl (.inl h1), k.now hs h rfl⟩
theorem cf_sum {x : D} {bs : List Int} (hc : X.calm = true) (hn : rdD mu x = .lst (bs.map .int)) (h : Φ (.int bs.sum) mu) : WCf X (.builtin "sum") [x] mu Φ := .mk fun R F as H vs Q hs r k => by
  obtain ⟨v, rfl, r1⟩ := r.one
  have w := hs.view r1
  rw [hn] at w
  obtain ⟨a, us, rfl, h1, h2⟩ := w
  cases h2.ofInt
  exact SCf.by (cr_sum hc) ⟨a, bs, rfl, .inl (.inl h1), k.now hs h rfl⟩
def SMt (X : Cx) (id : String) : V → List V → Hp → VK → Prop := fun x xs H Q => ∀ pins s σ v us, Inv X pins σ H s → RelV x v → Vals xs us → wpAny (model X.prog X.w) X.A (call (.builtin id) (v :: us)) (EP X pins σ Q) X.xe s
structure WMt (X : Cx) (id : String) (x : D) (xs : List D) (mu : List MO) (Φ : DK)  : Prop where
  run : ∀ R F as H v vs Q, Hs X.K R F as mu H → Rp X.K F as x v → RpL X.K F as xs vs → Kont X.K R F as Φ Q → SMt X id v vs H Q
instance {X : Cx} (id : String) (x : D) (xs : List D) (mu : List MO) (Φ : DK)  : CoeFun (WMt X id x xs mu Φ) (fun _ => ∀ R F as H v vs Q, Hs X.K R F as mu H → Rp X.K F as x v → RpL X.K F as xs vs → Kont X.K R F as Φ Q → SMt X id v vs H Q) := ⟨fun h => h.run⟩
structure WMtO (X : Cx) (id : String) (x : D) (xs : List D) (mu : List MO) (Φ : MO → List MO → Prop)  : Prop where
  run : ∀ R F as H v vs Q, Hs X.K R F as mu H → Rp X.K F as x v → RpL X.K F as xs vs → KontO X.K R F as Φ Q → SMt X id v vs H Q
instance {X : Cx} (id : String) (x : D) (xs : List D) (mu : List MO) (Φ : MO → List MO → Prop)  : CoeFun (WMtO X id x xs mu Φ) (fun _ => ∀ R F as H v vs Q, Hs X.K R F as mu H → Rp X.K F as x v → RpL X.K F as xs vs → KontO X.K R F as Φ Q → SMt X id v vs H Q) := ⟨fun h => h.run⟩
theorem SMt.by {r : V → List V → Hp → VK → Prop} (hm : MtR X id r) {v : V} {vs : List V} {H : Hp} {Q : VK} (q : r v vs H Q) : SMt X id v vs H Q := fun pins s σ u us I ru rv => hm pins s σ H v vs u us Q I ru rv q
def tyN : D → String
  | .str _ => "str"
  | .int _ => "int"
  | .lst _ => "list"
  | .scr _ => "list"
  | .tup _ => "tuple"
  | .dct _ => "dict"
  | _ => ""
theorem Vw.ty {R F H : Hp} {as : List Addr} {pins : List (Addr × Obj)} {σ : L2.St} {s : Shared} {x : D} {v : V} {u : Value} (hs : Hs X.K R F as mu H) (I : Inv X pins σ H s) (w : Vw X.K F as H x v) (r : RelV v u) (hT : tyN x = T) (h0 : T ≠ "") :
    s.TypeIs u T ∧ ∀ a, u = .ref a → ∃ ob, s.heap.get? a = some ob ∧ ob.dict = none := by
  subst hT
  cases x with
  | str z => cases w; exact tyV_is I r rfl
  | int z => cases w; exact tyV_is I r rfl
  | lst xs => obtain ⟨a, vs, rfl, h1, _⟩ := w; exact tyV_is I r (.inl ⟨rfl, vs, .inl (.inl h1)⟩)
  | scr ns => obtain ⟨a, rfl, h1⟩ := w; exact tyV_is I r (.inl ⟨rfl, _, h1⟩)
  | tup xs =>
    obtain ⟨a, vs, rfl, h1, _⟩ := w
    cases r
    rcases hs.er.tup h1 with ⟨its, h2⟩ | ⟨o, its, n, k1, k2, k3, _⟩
    · have g := (I.hok a _ h2).1
      exact ⟨⟨_, g, rfl⟩, fun b e => by cases e; exact ⟨_, g, rfl⟩⟩
    · exact ⟨⟨o, I.kIn a o k1, k2⟩, fun b e => by cases e; exact ⟨o, I.kIn _ o k1, k3⟩⟩
  | dct kvs =>
    obtain ⟨a, ws, rfl, h1, _⟩ := w
    cases r
    rcases h1 with h1 | ⟨o, h1⟩
    · exact tyV_is (x := .ref a) I rfl (.inr (.inr (.inl ⟨rfl, .inl ⟨ws, h1⟩⟩)))
    · obtain ⟨_, g, hx, _⟩ := I.frzK h1
      exact ⟨⟨o, g, hx.1⟩, fun b e => by cases e; exact ⟨o, g, hx.2.1⟩⟩
  | _ => exact (h0 rfl).elim
variable {apos cpos : Pos} {name : Str}
theorem we_bm (pa : PlainAttrs T) (slot : Slot T name id) (hty : typeOf (.builtin id) = pure (.type "method_descriptor")) (h : WE X o dl mu (fun x m => tyN (rdD m x) = T ∧ WA X (e :: es) dl m (fun xs m' => WMt X id x xs m' Φ) ε) ε) (h0 : T ≠ "" := by decide)
    (hbase : attributeBase o name X.env (eval o X.env) = eval o X.env := by rfl)
    (hfew : ((backTo cpos (starEach (e :: es) X.env)).all (fun x => !x.1) && (backToKw cpos (keywordEach [] X.env)).all (fun x => x.1.isSome) && decide ((e :: es).length + ([] : List Keyword).length + (if ([] : List Keyword).isEmpty then 0 else 1) < 30)) = true := by rfl)
    (hline : (apos.endLine == cpos.line) = true := by rfl) (hst : starEach (e :: es) X.env = (false, eval e X.env) :: starEach es X.env := by rfl) (hplain : (backTo cpos (starEach es X.env)).any (·.1) = false := by rfl) : WE X (.Call (.Attribute o name apos) (e :: es) [] cpos) dl mu Φ ε := .mk fun W R F as σ H Q tk hs ha k kx => by
  refine SE.by (t := fun σ H Q => SE X o σ H fun x H1 => (∀ pins s u, Inv X pins σ H1 s → RelV x u → s.TypeIs u T ∧ ∀ a, u = .ref a → ∃ ob, s.heap.get? a = some ob ∧ ob.dict = none) ∧ SA X (e :: es) σ H1 fun xs H2 => SMt X id x xs H2 Q) ⟨fun pins s σ H Q I h => wpAny_Call_method_late hbase hfew hline rfl (thn (SE.pe.run pins s σ H _ I h) fun v s1 ⟨x, H1, I1, r1, ty, q1⟩ => ?_)⟩
    (h.then tk hs ha kx fun v x m F' as' H' p e1 e2 hs' ha' r kx' => ⟨fun pins s u I ru => (hs'.view r).ty hs' I ru p.1 h0, p.2.then tk hs' ha' kx' fun vs xs m2 F2 as2 H2 q f1 f2 hs2 ha2 r2 kx2 => q R F2 as2 H2 v vs Q hs2 (Rp.mono f1 f2 _ _ r) r2 (k.go (e1.trans f1) (e2.trans f2))⟩)
  obtain ⟨h1, h2⟩ := ty pins s1 v I1 r1
  refine ⟨T, id, pa, slot, hty, h1, h2, ?_⟩
  have hA := SA.pa.run cpos pins s1 σ H1 _ I1 q1
  rw [hst] at hA ⊢
  refine Calls.callWith_builtin (by show (false || (backTo cpos (starEach es X.env)).any (·.1)) = false; rw [hplain] <;> rfl) (Calls.evalArgs_plain (thn hA fun us s2 ⟨vs, H2, I2, r2, q2⟩ => q2 pins s2 σ v us I2 r1 r2))
theorem Hs.lset {K : PySem.W.Frag} {R F H : Hp} {as : List Addr} {k : Nat} {xs : List D} {v : V} (hs : Hs K R F as mu H) (e : mu[k]? = some (.lst xs)) (r : Rp K F as (.own k) v) : ∃ a vs, v = .ref a ∧ H a = some (.lst vs) ∧ RpL K F as xs vs ∧ ∀ ys ws, RpL K F as ys ws → Hs K R F as (mu.set k (.lst ys)) (upd H a (.lst ws)) := by
  obtain ⟨a, e1, e2⟩ := r
  obtain ⟨vs, q1, q2⟩ := hs.ct k a _ e1 e
  exact ⟨a, vs, e2, q1, q2, fun ys ws rr => hs.put e1 e rfl ⟨ws, upd_same, rr⟩⟩
theorem Kont.at {K : PySem.W.Frag} {R F : Hp} {as : List Addr} {H : Hp} {Q : VK} {x : D} {v : V} {m : List MO} (k : Kont K R F as Φ Q) (hs : Hs K R F as m H) (h : Φ x m) (r : Rp K F as x v) : Q v H := k v x m F as H h (Er.refl F) (List.prefix_refl _) hs r
theorem mt_app {k : Nat} {y : D} {xs : List D} (e : mu[k]? = some (.lst xs)) (hl : xs.length < sizeLine) (h : Φ .non (mu.set k (.lst (xs ++ [y])))) : WMt X "list.append" (.own k) [y] mu Φ := .mk fun R F as H v vs Q hs r rs kk => by
  obtain ⟨u, rfl, r1⟩ := rs.one
  obtain ⟨a, us, rfl, q1, q2, q3⟩ := hs.lset e r
  exact SMt.by mt_append ⟨a, us, u, rfl, rfl, q1, by rw [← q2.len]; exact hl, kk.at (q3 _ _ (q2.append (show RpL X.K F as [y] [u] from ⟨u, [], rfl, r1, rfl⟩))) h rfl⟩
end
end DL
namespace DL
open PySem PySem.Spec PyProof.Rows L2
mutual
def shI : D → Bool
  | .int i => decide (i.natAbs < 10 ^ 12)
  | .lst xs => shIs xs
  | .tup xs => shIs xs
  | _ => true
def shIs : List D → Bool
  | [] => true
  | x :: xs => shI x && shIs xs
end
mutual
def shB : D → Nat
  | .str x => 10 * x.length + 2
  | .lst xs => shBs xs + 3
  | .tup xs => shBs xs + 3
  | _ => 13
def shBs : List D → Nat
  | [] => 0
  | x :: xs => shB x + 2 + shBs xs
end
theorem int_showable {i : Int} (h : i.natAbs < 10 ^ 12) : (PyData.int i).showable = true := by
  simp only [PyData.showable, decide_eq_true_eq]
  by_cases z : i.natAbs = 0
  · rw [z]; decide
  · have := Nat.log2_lt z |>.mpr (show i.natAbs < 2 ^ 40 from Nat.lt_of_lt_of_le h (by decide))
    omega
theorem strOk_lt {x : Str} (h : PyData.strOk x = true) : ∀ c ∈ x.cps.toList, c < 16 ^ 8 := fun c hc => by
  have h0 : x.cps.all (· < 0x110000) = true := h
  have := (Array.all_eq_true_iff_forall_mem.mp h0) c (Array.mem_toList_iff.mp hc)
  have : c < 0x110000 := by simpa using this
  omega
mutual
theorem shown_ok : ∀ (n : Nat) (d : D), okD n d = true → shI d = true → (pyD d).showable = true ∧ (pyD d).shown.length ≤ shB d
  | _, .non, _, _ => ⟨rfl, by decide⟩
  | _, .bl b, _, _ => ⟨rfl, by cases b <;> decide⟩
  | _, .int i, _, h => by
    have h : i.natAbs < 10 ^ 12 := by simpa [shI] using h
    exact ⟨int_showable h, PyData.shown_int_le h⟩
  | _, .str x, h, _ => by
    have h : PyData.strOk x = true := by simpa [okD] using h
    exact ⟨rfl, StrLaws.reprText_len x (strOk_lt h)⟩
  | 0, .lst _, h, _ => by simp [okD] at h
  | 0, .tup _, h, _ => by simp [okD] at h
  | n + 1, .lst xs, h, g => by
    obtain ⟨q1, q2⟩ := shownAll_ok n xs (by simpa [okD] using h) (by simpa [shI] using g)
    have h2 := listText_len_le (PyData.shownAll (pyDs xs))
    refine ⟨q1, ?_⟩
    show (listText (PyData.shownAll (pyDs xs))).length ≤ shBs xs + 3
    omega
  | n + 1, .tup xs, h, g => by
    obtain ⟨q1, q2⟩ := shownAll_ok n xs (by simpa [okD] using h) (by simpa [shI] using g)
    have h2 := tupleText_len_le (PyData.shownAll (pyDs xs))
    refine ⟨q1, ?_⟩
    show (tupleText (PyData.shownAll (pyDs xs))).length ≤ shBs xs + 3
    omega
  | _, .dct _, h, _ => by simp [okD] at h
  | _, .obj _ _, h, _ => by simp [okD] at h
  | _, .exn _ _, h, _ => by simp [okD] at h
  | _, .own _, h, _ => by simp [okD] at h
  | _, .val _, h, _ => by simp [okD] at h
  | _, .scr _, h, _ => by simp [okD] at h
theorem shownAll_ok : ∀ (n : Nat) (d : List D), okDs n d = true → shIs d = true → PyData.showableAll (pyDs d) = true ∧ ((PyData.shownAll (pyDs d)).map (·.length)).sum + 2 * (PyData.shownAll (pyDs d)).length ≤ shBs d
  | _, [], _, _ => ⟨rfl, by decide⟩
  | n, x :: xs, h, g => by
    simp only [okDs, Bool.and_eq_true] at h
    simp only [shIs, Bool.and_eq_true] at g
    obtain ⟨p1, p2⟩ := shown_ok n x h.1 g.1
    obtain ⟨q1, q2⟩ := shownAll_ok n xs h.2 g.2
    refine ⟨?_, ?_⟩
    · show ((pyD x).showable && PyData.showableAll (pyDs xs)) = true
      rw [p1, q1]; rfl
    · show (((pyD x).shown :: PyData.shownAll (pyDs xs)).map (·.length)).sum + 2 * ((pyD x).shown :: PyData.shownAll (pyDs xs)).length ≤ shB x + 2 + shBs xs
      simp only [List.map_cons, List.sum_cons, List.length_cons]
      omega
end
structure Shw (n b : Nat) (d : D) : Prop where
  ok : okD n d = true
  sh : shI d = true
  le : shB d ≤ b
theorem okDs_of {n : Nat} : ∀ {xs : List D}, (∀ x, x ∈ xs → okD n x = true) → okDs n xs = true
  | [], _ => rfl
  | x :: xs, h => by simp only [okDs, Bool.and_eq_true]; exact ⟨h x (by simp), okDs_of fun y hy => h y (by simp [hy])⟩
theorem shIs_of : ∀ {xs : List D}, (∀ x, x ∈ xs → shI x = true) → shIs xs = true
  | [], _ => rfl
  | x :: xs, h => by simp only [shIs, Bool.and_eq_true]; exact ⟨h x (by simp), shIs_of fun y hy => h y (by simp [hy])⟩
theorem shBs_le {b : Nat} : ∀ {xs : List D}, (∀ x, x ∈ xs → shB x ≤ b) → shBs xs ≤ xs.length * (b + 2)
  | [], _ => by simp [shBs]
  | x :: xs, h => by
    have h1 := h x (by simp)
    have h2 := shBs_le (xs := xs) fun y hy => h y (by simp [hy])
    simp only [shBs, List.length_cons, Nat.succ_mul]
    omega
theorem Shw.lst {n b m : Nat} {xs : List D} (h : ∀ x, x ∈ xs → Shw n b x) (hm : xs.length ≤ m) : Shw (n + 1) (m * (b + 2) + 3) (.lst xs) :=
  ⟨okDs_of fun x hx => (h x hx).ok, shIs_of fun x hx => (h x hx).sh, by
    have := shBs_le (xs := xs) fun x hx => (h x hx).le
    have := Nat.mul_le_mul_right (b + 2) hm
    show shBs xs + 3 ≤ _
    omega⟩
theorem Shw.tup {n b m : Nat} {xs : List D} (h : ∀ x, x ∈ xs → Shw n b x) (hm : xs.length ≤ m) : Shw (n + 1) (m * (b + 2) + 3) (.tup xs) :=
  ⟨okDs_of fun x hx => (h x hx).ok, shIs_of fun x hx => (h x hx).sh, by
    have := shBs_le (xs := xs) fun x hx => (h x hx).le
    have := Nat.mul_le_mul_right (b + 2) hm
    show shBs xs + 3 ≤ _
    omega⟩
theorem Shw.mono {n b m c : Nat} {x : D} (h : Shw n b x) (hn : n ≤ m) (hb : b ≤ c) (up : ∀ k x, okD k x = true → okD (k + 1) x = true) : Shw m c x := by
  refine ⟨?_, h.sh, Nat.le_trans h.le hb⟩
  obtain ⟨j, rfl⟩ := Nat.le.dest hn
  induction j with
  | zero => exact h.ok
  | succ j ih => exact up _ _ (ih (by omega))
mutual
theorem okD_up : ∀ (k : Nat) (x : D), okD k x = true → okD (k + 1) x = true
  | _, .non, _ => rfl
  | _, .bl _, _ => rfl
  | _, .int _, _ => rfl
  | _, .str _, h => by simpa [okD] using h
  | 0, .lst _, h => by simp [okD] at h
  | 0, .tup _, h => by simp [okD] at h
  | n + 1, .lst xs, h => by
    have := okDs_up n xs (by simpa [okD] using h)
    simpa [okD] using this
  | n + 1, .tup xs, h => by
    have := okDs_up n xs (by simpa [okD] using h)
    simpa [okD] using this
  | _, .dct _, h => by simp [okD] at h
  | _, .obj _ _, h => by simp [okD] at h
  | _, .exn _ _, h => by simp [okD] at h
  | _, .own _, h => by simp [okD] at h
  | _, .val _, h => by simp [okD] at h
  | _, .scr _, h => by simp [okD] at h
theorem okDs_up : ∀ (k : Nat) (x : List D), okDs k x = true → okDs (k + 1) x = true
  | _, [], _ => rfl
  | k, x :: xs, h => by
    simp only [okDs, Bool.and_eq_true] at h ⊢
    exact ⟨okD_up k x h.1, okDs_up k xs h.2⟩
end
theorem Shw.up {n b m c : Nat} {x : D} (h : Shw n b x) (hn : n ≤ m) (hb : b ≤ c) : Shw m c x := h.mono hn hb okD_up
def shD (d : D) : Str := (pyD d).shown
section
variable {X : Cx} {e o : Expr} {es : List Expr} {dl : List Sl} {mu : List MO} {Φ : DK} {ε : XP} {pos p : Pos} {x : Str} {xs : List D}
theorem we_blt {T : String} (hm : X.mg x = none) (h : Φ (.val (.ty T)) mu) (hg : Gl X x := by rfl) (hv : bootBuiltins x = some (.type T) := by rfl) (hn : x ≠ "__name__" := by decide) (hd : (x == ("__debug__" : Str)) = false := by decide) : WE X (.Name x pos) dl mu Φ ε :=
  we_of (pe_bltn (v := .ty T) hg hm hv rfl hn hd) fun R F as σ H Q hs ha k => k.now hs h rfl
def tyX : D → String
  | .non => "NoneType"
  | .bl _ => "bool"
  | .int _ => "int"
  | .str _ => "str"
  | .lst _ => "list"
  | .tup _ => "tuple"
  | .dct _ => "dict"
  | _ => ""
theorem Vw.tyX {R F H : Hp} {as : List Addr} {x : D} {v : V} (hs : Hs X.K R F as mu H) (w : Vw X.K F as H x v) (h0 : tyX x ≠ "") : TyX X.K H v (.type (DL.tyX x)) := by
  cases x with
  | non => cases w; exact .base .non
  | bl b => cases w; exact .base (.bl b)
  | int b => cases w; exact .base (.int b)
  | str b => cases w; exact .base (.str b)
  | lst xs => obtain ⟨a, vs, rfl, h1, _⟩ := w; exact .base (.lst h1)
  | tup xs =>
    obtain ⟨a, vs, rfl, h1, _⟩ := w
    rcases hs.er.tup h1 with ⟨its, h2⟩ | ⟨o, its, n, k1, k2, k3, _⟩
    · exact .fTuple h2
    · exact .kTuple k1 k2
  | dct kvs =>
    obtain ⟨a, ws, rfl, h1, _⟩ := w
    rcases h1 with h1 | ⟨o, h1⟩
    · exact .base (.dK h1)
    · exact .fDict h1
  | _ => exact (h0 rfl).elim
theorem cf_isi {x : D} {T : String} {b : Bool} (h0 : tyX (rdD mu x) ≠ "") (hk : kitB (tyX (rdD mu x)) T = some b) (h : Φ (.bl b) mu) : WCf X (.builtin "isinstance") [x, .val (.ty T)] mu Φ := .mk fun R F as H vs Q hs r k => by
  obtain ⟨v, c, rfl, r1, r2⟩ := r.two
  cases r2
  exact SCf.by call_isi ⟨v, .ty T, _, _, b, rfl, .ty T, (hs.view r1).tyX hs h0, kit_ty hk, k.now hs h rfl⟩
theorem cf_max2 {i j : Int} (hc : X.calm = true) (h : Φ (.int (max i j)) mu) : WCf X (.builtin "max") [.int i, .int j] mu Φ := .mk fun R F as H vs Q hs r k => by
  obtain ⟨v, w, rfl, r1, r2⟩ := r.two
  cases r1; cases r2
  refine SCf.by (call_max2 hc) ⟨i, j, rfl, ?_⟩
  have e : (if j > i then j else i) = max i j := by split <;> omega
  rw [e]; exact k.now hs h rfl
theorem cf_min2 {i j : Int} (hc : X.calm = true) (h : Φ (.int (min i j)) mu) : WCf X (.builtin "min") [.int i, .int j] mu Φ := .mk fun R F as H vs Q hs r k => by
  obtain ⟨v, w, rfl, r1, r2⟩ := r.two
  cases r1; cases r2
  refine SCf.by (call_min2 hc) ⟨i, j, rfl, ?_⟩
  have e : (if j < i then j else i) = min i j := by split <;> omega
  rw [e]; exact k.now hs h rfl
theorem cf_abs {i : Int} (h : Φ (.int i.natAbs) mu) : WCf X (.builtin "abs") [.int i] mu Φ := .mk fun R F as H vs Q hs r k => by
  obtain ⟨v, rfl, r1⟩ := r.one
  cases r1
  refine SCf.by call_abs ⟨i, rfl, ?_⟩
  have e : (if i < 0 then -i else i) = (i.natAbs : Int) := by split <;> omega
  rw [e]; exact k.now hs h rfl
theorem cf_intB {b : Bool} (h : Φ (.int (if b then 1 else 0)) mu) : WCf X (.type "int") [.bl b] mu Φ := .mk fun R F as H vs Q hs r k => by
  obtain ⟨v, rfl, r1⟩ := r.one
  cases r1
  exact SCf.by call_int1 (.inr ⟨b, rfl, k.now hs h rfl⟩)
theorem mt_jn {a : Str} {x : D} {ys : List Str} (hx : sqD (rdD mu x) = some (ys.map .str)) (hl : (ys.map (·.length)).sum + ys.length * a.length ≤ 16777216) (h : Φ (.str (Txt.join a ys)) mu) : WMt X "str.join" (.str a) [x] mu Φ := .mk fun R F as H v vs Q hs r rs k => by
  cases r
  obtain ⟨w, rfl, r1⟩ := rs.one
  obtain ⟨p, us, rfl, h1, h2⟩ := (hs.view r1).seq hs.er hx
  cases h2.ofStr
  exact SMt.by mt_join ⟨a, p, ys, rfl, rfl, h1, hl, k.now hs h rfl⟩
end
end DL
namespace DL
open PySem PySem.Spec PyProof.Rows L2
theorem Hs.freezeAs {K : PySem.W.Frag} {R F H : Hp} {as : List Addr} {mu : List MO} {p : Addr} {o : HO} {m : MO} {k : Nat} (h : Hs K R F as mu H) (e1 : as[k]? = some p) (e2 : mu[k]? = some m) (hl : m.live = true) (ho : Pn o := by trivial) : Hs K R (upd F p o) as (mu.set k .gone) (upd H p o) ∧ Er F (upd F p o) := by
  have hF := h.sep k p m e1 e2 hl
  have hR := h.frA p (List.mem_of_getElem? e1)
  have hk : k < mu.length := (List.getElem?_eq_some_iff.mp e2).1
  refine ⟨⟨?_, fun a u e => ?_, fun a u e => ?_, h.frA, by simp [h.ln], fun i j a m1 m2 f1 f2 f3 f4 l1 l2 => ?_, fun i a m1 f1 f2 l => ?_, fun i a m1 f1 f2 => ?_, tabs_upd h.tb (fun u eu => (h.ct k p m e1 e2).pn hl eu), fun a ps e => ?_⟩, Er.new hF⟩
  · exact ⟨fun a u q r => by
      by_cases e : a = p
      · subst e
        rcases r with r | ⟨ob, r⟩
        · rw [upd_same] at r; cases r; exact .inl upd_same
        · rw [upd_same] at r; cases r; exact .inr ⟨ob, upd_same⟩
      · have r' : Rd F a u := by
          rcases r with r | ⟨ob, r⟩
          · rw [upd_ne e] at r; exact .inl r
          · rw [upd_ne e] at r; exact .inr ⟨ob, r⟩
        rcases h.er.rd a u q r' with r | ⟨ob, r⟩
        · exact .inl (by rw [upd_ne e]; exact r)
        · exact .inr ⟨ob, by rw [upd_ne e]; exact r⟩,
      fun a u q r => by
      by_cases e : a = p
      · subst e; rw [upd_same] at r; cases r; exact upd_same
      · rw [upd_ne e] at r ⊢; exact h.er.ex a u q r,
      fun a q => by
      by_cases e : a = p
      · subst e; rw [upd_same] at q; cases q
      · rw [upd_ne e] at q ⊢; exact h.er.dm a q⟩
  · have ne : a ≠ p := fun z => by subst z; rw [hR] at e; cases e
    rw [upd_ne ne]; exact h.fr a u e
  · have ne : a ≠ p := fun z => by subst z; rw [hR] at e; cases e
    rw [upd_ne ne]; exact h.frF a u e
  · by_cases hi : k = i
    · subst hi; rw [List.getElem?_set_self hk] at f3; cases f3; cases l1
    · by_cases hj : k = j
      · subst hj; rw [List.getElem?_set_self hk] at f4; cases f4; cases l2
      · rw [List.getElem?_set_ne hi] at f3
        rw [List.getElem?_set_ne hj] at f4
        exact h.nd i j a m1 m2 f1 f2 f3 f4 l1 l2
  · by_cases hi : k = i
    · subst hi; rw [List.getElem?_set_self hk] at f2; cases f2; cases l
    · rw [List.getElem?_set_ne hi] at f2
      have ne : a ≠ p := fun z => by subst z; exact hi (h.nd k i a m m1 e1 f1 e2 f2 hl l)
      rw [upd_ne ne]; exact h.sep i a m1 f1 f2 l
  · by_cases hi : k = i
    · subst hi
      rw [List.getElem?_set_self hk] at f2; cases f2
      rw [e1] at f1; cases f1
      show upd F p o p ≠ none
      rw [upd_same]; intro z; cases z
    · rw [List.getElem?_set_ne hi] at f2
      have c := (h.ct i a m1 f1 f2).mono (Er.new (o := o) hF) (List.prefix_refl _) rfl
      cases q : m1.live with
      | false => exact c.dead q (Er.refl _)
      | true =>
        have ne : a ≠ p := fun z => by subst z; exact hi (h.nd k i a m m1 e1 f1 e2 f2 hl q)
        exact c.mono (Er.refl _) (List.prefix_refl _) (upd_ne ne)
  · by_cases z : a = p
    · subst z; rw [upd_same] at e; cases e; exact ho.elim
    · rw [upd_ne z] at e ⊢; exact h.nt a ps e
section
variable {X : Cx} {e o i : Expr} {es : List Expr} {dl : List Sl} {mu : List MO} {Φ : DK} {ε : XP} {pos p : Pos} {x : Str} {xs : List D} {Ψ : DEnds}
theorem WE.cool (h : WE X e dl mu (fun x m => Φ x m ∨ ∃ k mo, x = .own k ∧ m[k]? = some mo ∧ mo.cold ∧ Φ mo.fz (m.set k .gone)) ε) : WE X e dl mu Φ ε := .mk fun W R F as σ H Q tk hs ha k kx => by
  refine SE.lock (h W R F as σ H (fun v H' => Q v H' ∨ ∃ a u, H' a = some u ∧ Mut (some u) ∧ ∀ od, Q v (upd H' a (.frz od u))) tk hs ha (fun v y m F' as' H' q e1 e2 hs' r => ?_) kx) fun v H' q => q
  rcases q with q | ⟨j, mo, rfl, em, hc, q⟩
  · exact .inl (k v y m F' as' H' q e1 e2 hs' r)
  · obtain ⟨a, ea, rfl⟩ := r
    cases mo with
    | lst xs =>
      obtain ⟨vs, q1, q2⟩ := hs'.ct j a _ ea em
      obtain ⟨g1, g2⟩ := hs'.freeze ea em rfl q1
      exact .inl (k _ _ _ _ as' H' q (e1.trans g2) e2 g1 ⟨a, vs, rfl, upd_same, RpL.mono g2 (List.prefix_refl _) _ _ q2⟩)
    | ins C fs =>
      obtain ⟨dx, vs, q1, q2⟩ := hs'.ct j a _ ea em
      obtain ⟨g1, g2⟩ := hs'.freeze ea em rfl q1
      exact .inl (k _ _ _ _ as' H' q (e1.trans g2) e2 g1 ⟨a, dx, vs, rfl, upd_same, RpF.mono g2 (List.prefix_refl _) _ _ q2⟩)
    | dct kvs =>
      obtain ⟨ws, q1, q2⟩ := hs'.ct j a _ ea em
      refine .inr ⟨a, _, q1, trivial, fun od => ?_⟩
      obtain ⟨g1, g2⟩ := hs'.freezeAs (o := .frz od (.dK ws)) ea em rfl
      exact k _ _ _ _ as' _ q (e1.trans g2) e2 g1 ⟨a, od, ws, rfl, upd_same, RpK.mono g2 (List.prefix_refl _) _ _ q2⟩
    | pen n => exact hc.elim
    | gone => exact hc.elim
def Hsub (m m' : List MO) : Prop := ∀ K R F as H, Hs K R F as m H → Hs K R F as m' H
theorem Hsub.refl (m : List MO) : Hsub m m := fun _ _ _ _ _ h => h
theorem WSs.post {st : List Stmt} {dl : List Sl} {mu : List MO} {Ψ Ψ' : DEnds} (h : WSs X st dl mu Ψ') (nx : ∀ d m, Ψ'.nx d m → ∃ m', Hsub m m' ∧ Ψ.nx d m') (rt : ∀ d m, Ψ'.rt d m → ∃ m', Hsub m m' ∧ Ψ.rt d m') (bk : ∀ d m, Ψ'.bk d m → ∃ m', Hsub m m' ∧ Ψ.bk d m') (ct : ∀ d m, Ψ'.ct d m → ∃ m', Hsub m m' ∧ Ψ.ct d m')
    (ex : ∀ x d m, Ψ'.ex x d m → ∃ m', Hsub m m' ∧ Ψ.ex x d m') : WSs X st dl mu Ψ := .mk fun W R F as σ H E tk hs ha k => h W R F as σ H E tk hs ha
  ⟨fun dl' mu' F' as' σ' H' q e1 e2 hs' ha' => let ⟨m', s, q'⟩ := nx _ _ q; k.nx _ m' F' as' σ' H' q' e1 e2 (s _ _ _ _ _ hs') ha', fun v d mu' F' as' H' q e1 e2 hs' r => let ⟨m', s, q'⟩ := rt _ _ q; k.rt v d m' F' as' H' q' e1 e2 (s _ _ _ _ _ hs') r,
    fun dl' mu' F' as' σ' H' q e1 e2 hs' ha' => let ⟨m', s, q'⟩ := bk _ _ q; k.bk _ m' F' as' σ' H' q' e1 e2 (s _ _ _ _ _ hs') ha', fun dl' mu' F' as' σ' H' q e1 e2 hs' ha' => let ⟨m', s, q'⟩ := ct _ _ q; k.ct _ m' F' as' σ' H' q' e1 e2 (s _ _ _ _ _ hs') ha',
    fun x d dl' mu' F' as' σ' H' q e1 e2 hs' ha' xo => let ⟨m', s, q'⟩ := ex _ _ _ q; k.ex x d _ m' F' as' σ' H' q' e1 e2 (s _ _ _ _ _ hs') ha' xo⟩
def penK (ns : List Int) (t r : Int) : List (Key × D) := [(.inr "cells", .lst (ns.map .int)), (.inr "turn", .int t), (.inr "rest", .int r)]
structure PenD (ns : List Int) (t r : Int) (n : Nat) : Prop where
  len : ns.length ≤ 63
  t0 : 0 ≤ t
  tn : t ≤ n
  r0 : 0 ≤ r
theorem WSs.pen {st : List Stmt} {n : Nat} (e : mu[0]? = some (.pen n)) (h : ∀ ns t r, PenD ns t r n → WSs X st dl (mu.set 0 (.dct (penK ns t r))) Ψ) : WSs X st dl mu Ψ := .mk fun W R F as σ H E tk hs ha k => by
  have h0 : 0 < mu.length := (List.getElem?_eq_some_iff.mp e).1
  obtain ⟨a, ea⟩ : ∃ a, as[0]? = some a := ⟨_, List.getElem?_eq_getElem (by rw [hs.ln]; exact h0)⟩
  obtain ⟨c, ns, t, r, h1, h2, h3, h4, h5, h6⟩ := hs.ct 0 a _ ea e
  refine h ns t r ⟨h3, h4, h5, h6⟩ W R F as σ H E tk ⟨hs.er, hs.fr, hs.frF, hs.frA, by simp [hs.ln], fun i j b m1 m2 f1 f2 f3 f4 l1 l2 => ?_, fun i b m1 f1 f2 l => ?_, fun i b m1 f1 f2 => ?_, hs.tb, hs.nt⟩ ha k
  · have old : ∀ {i : Nat} {m : MO}, (mu.set 0 (.dct (penK ns t r)))[i]? = some m → m.live = true → ∃ m', mu[i]? = some m' ∧ m'.live = true := fun {i m} q l => by
      by_cases hi : 0 = i
      · subst hi; exact ⟨_, e, rfl⟩
      · rw [List.getElem?_set_ne hi] at q; exact ⟨m, q, l⟩
    obtain ⟨x1, g1, g2⟩ := old f3 l1
    obtain ⟨x2, g3, g4⟩ := old f4 l2
    exact hs.nd i j b x1 x2 f1 f2 g1 g3 g2 g4
  · by_cases hi : 0 = i
    · subst hi; exact hs.sep 0 b _ f1 e rfl
    · rw [List.getElem?_set_ne hi] at f2; exact hs.sep i b m1 f1 f2 l
  · by_cases hi : 0 = i
    · subst hi
      rw [List.getElem?_set_self h0] at f2; cases f2
      rw [ea] at f1; cases f1
      exact ⟨_, h1, _, _, rfl, ⟨c, _, rfl, h2, RpL.mapInt⟩, _, _, rfl, rfl, _, _, rfl, rfl, rfl⟩
    · rw [List.getElem?_set_ne hi] at f2; exact hs.ct i b m1 f1 f2
theorem Hsub.pen {mu : List MO} {ns : List Int} {t r : Int} {n : Nat} (e : mu[0]? = some (.dct (penK ns t r))) (p : PenD ns t r n) : Hsub mu (mu.set 0 (.pen n)) := fun K R F as H hs => by
  have h0 : 0 < mu.length := (List.getElem?_eq_some_iff.mp e).1
  have old : ∀ {i : Nat} {m : MO}, (mu.set 0 (.pen n))[i]? = some m → m.live = true → ∃ m', mu[i]? = some m' ∧ m'.live = true := fun {i m} q l => by
    by_cases hi : 0 = i
    · subst hi; exact ⟨_, e, rfl⟩
    · rw [List.getElem?_set_ne hi] at q; exact ⟨m, q, l⟩
  refine ⟨hs.er, hs.fr, hs.frF, hs.frA, by simp [hs.ln], fun i j b m1 m2 f1 f2 f3 f4 l1 l2 => ?_, fun i b m1 f1 f2 l => ?_, fun i b m1 f1 f2 => ?_, hs.tb, hs.nt⟩
  · obtain ⟨x1, g1, g2⟩ := old f3 l1
    obtain ⟨x2, g3, g4⟩ := old f4 l2
    exact hs.nd i j b x1 x2 f1 f2 g1 g3 g2 g4
  · obtain ⟨x1, g1, g2⟩ := old f2 l
    exact hs.sep i b x1 f1 g1 g2
  · by_cases hi : 0 = i
    · subst hi
      rw [List.getElem?_set_self h0] at f2; cases f2
      obtain ⟨ws, h1, v1, r1, rfl, ⟨c, us, rfl, hc, hl⟩, v2, r2, rfl, q2, v3, r3, rfl, q3, q4⟩ := hs.ct 0 b _ f1 e
      cases q2; cases q3; cases q4; cases hl.ofInt
      exact ⟨c, ns, t, r, h1, hc, p.len, p.t0, p.tn, p.r0⟩
    · rw [List.getElem?_set_ne hi] at f2; exact hs.ct i b m1 f1 f2
def SSt (X : Cx) : TSet := fun o i v H Q => ∀ pins s σ ov iv u, Inv X pins σ H s → RelV o ov → RelV i iv → RelV v u → wpAny (model X.prog X.w) X.A (setItem ov iv u) (fun _ s' => ∃ H', Inv X pins σ H' s' ∧ Q H') X.xe s
theorem SSt.by {t : TSet} (hp : PSet X t) {o i v : V} {H : Hp} {Q : Hp → Prop} (q : t o i v H Q) : SSt X o i v H Q := fun pins s σ ov iv u I r1 r2 r3 => hp pins s σ H o i v ov iv u Q I r1 r2 r3 q
def keyD : D → Option Key
  | .int i => some (.inl i)
  | .str s => some (.inr s)
  | _ => none
theorem keyD.v {K : PySem.W.Frag} {F : Hp} {as : List Addr} {x : D} {v : V} {k : Key} (h : keyD x = some k) (r : Rp K F as x v) : v = kV k := by
  cases x with
  | int i => cases h; exact r
  | str s => cases h; exact r
  | _ => cases h
def stD (mu : List MO) : D → D → D → (List MO → Prop) → Prop
  | .own k, i, v, Φ => (∃ xs n j, mu[k]? = some (.lst xs) ∧ i = .int n ∧ ixN xs.length n = some j ∧ Φ (mu.set k (.lst (xs.set j v)))) ∨ ∃ kvs q, mu[k]? = some (.dct kvs) ∧ keyD i = some q ∧ kvs.length < sizeLine ∧ Φ (mu.set k (.dct (gput kvs q v)))
  | _, _, _, _ => False
theorem wg_sub {d : D} {Ψ : SK} (hu : X.A.units + 1 < cLine) (h : WE X o dl mu (fun x m => WE X i dl m (fun y m' => stD m' x y d (fun m'' => Ψ dl m'')) X0) X0)
    (ha : ∀ v, assign (.Subscript o i pos) X.env v = (do
      let ov ← holding [v] (eval o X.env)
      let iv ← holding [v, ov] (eval i X.env)
      standAt pos
      holding [v, ov, iv] (setItem ov iv v)
      release [v, ov, iv] []) := by intro _; rfl) : WG X (.Subscript o i pos) [] (.one d) dl mu Ψ := .mk fun R F as σ H v Q hs hat yo k => by
  have nx : KontX X.K R F as X0 (fun c d H => (fun _ _ _ _ => False : WX) c d σ H) := fun _ _ _ _ _ _ z => z.elim
  refine SG.by (pg_sub SE.pe SE.pe (fun pins s σ H o i v ov iv u Q I r1 r2 r3 h => h pins s σ ov iv u I r1 r2 r3 : PSet X (SSt X)) ha) (h.then takes0 hs hat nx fun v1 x m F1 as1 H1 q e1 e2 hs1 ha1 r1 kx1 => q.then takes0 hs1 ha1 kx1 fun v2 y m2 F2 as2 H2 q2 f1 f2 hs2 ha2 r2 kx2 => ?_)
  have rx := Rp.mono f1 f2 _ _ r1
  have rv : Rp X.K F2 as2 d v := Rp.mono (e1.trans f1) (e2.trans f2) _ _ yo
  cases x with
  | own k' =>
    rcases q2 with ⟨xs, n, j, g1, rfl, g2, g3⟩ | ⟨kvs, qk, g1, g2, g3, g4⟩
    · obtain ⟨a, vs, rfl, c1, c2, c3⟩ := hs2.lset g1 rx
      cases r2
      refine SSt.by set_list ⟨a, vs, n, j, rfl, rfl, c1, by rw [← c2.len]; exact g2, ?_⟩
      exact k _ _ F2 as2 σ _ g3 (e1.trans f1) (e2.trans f2) (c3 _ _ (c2.set rv j)) ha2 (Stw.refl σ)
    · obtain ⟨a, ea, rfl⟩ := rx
      obtain ⟨ws, c1, c2⟩ := hs2.ct k' a _ ea g1
      obtain rfl := keyD.v g2 r2
      refine SSt.by (set_dict hu) ⟨a, _, rfl, DPut.k c1 (by rw [← c2.len]; exact g3), ?_⟩
      exact k _ _ F2 as2 σ _ g4 (e1.trans f1) (e2.trans f2) (hs2.put ea g1 rfl ⟨_, upd_same, RpK.put rv c2⟩) ha2 (Stw.refl σ)
  | _ => exact q2.elim
end
end DL
namespace DL
open PySem PySem.Spec PyProof.Rows L2
def trsOf (X : Cx) : List (Option Expr) → List Expr → List (TE × TE)
  | some k :: ks, v :: vs => (SE X k, SE X v) :: trsOf X ks vs
  | _, _ => []
theorem pps_all {X : Cx} {pos : Pos} : ∀ (ks : List (Option Expr)) (vs : List Expr), ks.all (·.isSome) = true → ks.length = vs.length → PPs X pos ks vs (trsOf X ks vs)
  | [], [], _, _ => pps_nil
  | [], _ :: _, _, h => by cases h
  | _ :: _, [], _, h => by cases h
  | none :: _, _ :: _, h, _ => by simp at h
  | some k :: ks, v :: vs, h, g => pps_cons SE.pe SE.pe (pps_all ks vs (by simpa using h) (by simpa using g))
def RpP (K : PySem.W.Frag) (F : Hp) (as : List Addr) (ps : List (D × D)) (pv : List (V × V)) : Prop := RpL K F as (ps.map (·.1)) (pv.map (·.1)) ∧ RpL K F as (ps.map (·.2)) (pv.map (·.2))
structure WPr (X : Cx) (ks : List (Option Expr)) (vs : List Expr) (dl : List Sl) (mu : List MO) (Φ : List (D × D) → List MO → Prop) (ε : XP)  : Prop where
  run : ∀ W R F as σ H Q, Takes X W → Hs X.K R F as mu H → At X.K F as dl σ → (∀ pv ps m F' as' H', Φ ps m → Er F F' → as <+: as' → Hs X.K R F' as' m H' → RpP X.K F' as' ps pv → Q pv H') → KontX X.K R F as ε (fun c d H => W c d σ H) → tPairs (trsOf X ks vs) σ H Q
instance {X : Cx} (ks : List (Option Expr)) (vs : List Expr) (dl : List Sl) (mu : List MO) (Φ : List (D × D) → List MO → Prop) (ε : XP)  : CoeFun (WPr X ks vs dl mu Φ ε) (fun _ => ∀ W R F as σ H Q, Takes X W → Hs X.K R F as mu H → At X.K F as dl σ → (∀ pv ps m F' as' H', Φ ps m → Er F F' → as <+: as' → Hs X.K R F' as' m H' → RpP X.K F' as' ps pv → Q pv H') → KontX X.K R F as ε (fun c d H => W c d σ H) → tPairs (trsOf X ks vs) σ H Q) := ⟨fun h => h.run⟩
section
variable {X : Cx} {e o i k v : Expr} {es vs : List Expr} {ks : List (Option Expr)} {dl : List Sl} {mu : List MO} {ε : XP} {pos p : Pos} {x : Str}
theorem wpr_nil {Φ : List (D × D) → List MO → Prop} (h : Φ [] mu) : WPr X [] [] dl mu Φ ε := .mk fun W R F as σ H Q tk hs ha k kx => k [] [] mu F as H h (Er.refl F) (List.prefix_refl _) hs ⟨rfl, rfl⟩
theorem wpr_cons {Φ : List (D × D) → List MO → Prop} (h : WE X k dl mu (fun x m => WE X v dl m (fun y m' => WPr X ks vs dl m' (fun ps m'' => Φ ((x, y) :: ps) m'') ε) ε) ε) : WPr X (some k :: ks) (v :: vs) dl mu Φ ε := .mk fun W R F as σ H Q tk hs ha kk kx =>
  h.then tk hs ha kx fun u x m F1 as1 H1 p e1 e2 hs1 ha1 r1 kx1 => p.then tk hs1 ha1 kx1 fun w y m2 F2 as2 H2 p2 f1 f2 hs2 ha2 r2 kx2 => p2 W R F2 as2 σ H2 _ tk hs2 ha2 (fun pv ps m3 F3 as3 H3 q g1 g2 hs3 rp =>
    kk _ _ m3 F3 as3 H3 q ((e1.trans f1).trans g1) ((e2.trans f2).trans g2) hs3 ⟨⟨u, _, rfl, Rp.mono (f1.trans g1) (f2.trans g2) _ _ r1, rp.1⟩, ⟨w, _, rfl, Rp.mono g1 g2 _ _ r2, rp.2⟩⟩) kx2
theorem RpP.ofK {K : PySem.W.Frag} {F : Hp} {as : List Addr} : ∀ {kvs : List (Key × D)} {pv : List (V × V)}, RpP K F as (kvs.map fun kv => (kD kv.1, kv.2)) pv → ∃ ws, pv = ws.map (fun kv => (kV kv.1, kv.2)) ∧ RpK K F as kvs ws
  | [], [], _ => ⟨[], rfl, rfl⟩
  | [], _ :: _, ⟨h, _⟩ => by cases h
  | (kk, d) :: kvs, pv, ⟨h1, h2⟩ => by
    obtain ⟨a, r, e1, q1, q2⟩ := h1
    obtain ⟨b, r', e2, q3, q4⟩ := h2
    cases pv with
    | nil => cases e1
    | cons p pv =>
      cases e1; cases e2
      obtain ⟨ws, rfl, q⟩ := RpP.ofK (kvs := kvs) (pv := pv) ⟨q2, q4⟩
      refine ⟨(kk, p.2) :: ws, ?_, p.2, ws, rfl, q3, q⟩
      have e : p.1 = kV kk := by cases kk <;> exact q1
      show p :: _ = (kV kk, p.2) :: _
      rw [← e]
theorem wo_disp {Φ : MO → List MO → Prop} (h : WPr X ks vs dl mu (fun ps m => ∃ kvs : List (Key × D), ps = kvs.map (fun kv => (kD kv.1, kv.2)) ∧ kvs.length ≤ 15 ∧ Φ (.dct (gmerge [] kvs)) m) ε) (hall : ks.all (·.isSome) = true := by rfl) (hl : ks.length = vs.length := by rfl) (h0 : ks ≠ [] := by intro h; cases h) (h15 : ks.length ≤ 15 := by decide) :
    WO X (.Dict ks vs pos) dl mu Φ ε := .mk fun W R F as σ H Q tk hs ha k kx => by
  refine SE.by (pe_disp (pps_all ks vs hall hl) hall hl h0 h15) fun q hq => ?_
  obtain ⟨fF, fR, _⟩ := hs.free hq
  have fA := hs.ne_new hq
  have s0 : Hs X.K (upd R q (.dK [])) F as mu (upd H q (.dK [])) := (hs.up hq).frame upd_same fF fA
  refine h W (upd R q (.dK [])) F as σ _ _ tk s0 ha (fun pv ps m F' as' H' ⟨kvs, e, l, φ⟩ e1 e2 hs' rp => ?_) fun x d mu' F' as' H' z e1 e2 hs' xo => kx x d mu' F' as' H' z e1 e2 (hs'.unframe fR) xo
  subst e
  obtain ⟨ws, rfl, rk⟩ := rp.ofK
  refine ⟨hs'.fr q _ upd_same, ws, rfl, by rw [← rk.len]; exact l, ?_⟩
  have h2 := (hs'.reframe (o' := .dK (mergeK [] ws))).unframe fR
  refine k q (.dct (gmerge [] kvs)) m F' as' _ φ e1 e2 h2 fR (hs'.frF q _ upd_same) (fun j m' z _ => ?_) ⟨_, upd_same, RpK.merge rk rfl⟩ rfl
  have := hs'.frA q (List.mem_of_getElem? z)
  rw [upd_same] at this; cases this
theorem wo_dict0 {Φ : MO → List MO → Prop} (h : Φ (.dct []) mu) : WO X (.Dict [] [] pos) dl mu Φ ε := .mk fun W R F as σ H Q tk hs ha k kx => SE.by pe_dnewK fun q hq => by
  obtain ⟨g1, g2, g3⟩ := hs.free hq
  exact k q (.dct []) mu F as _ h (Er.refl F) (List.prefix_refl _) (hs.up hq) g2 g1 g3 ⟨[], upd_same, rfl⟩ rfl
end
abbrev SpO := List D → List MO → (MO → List MO → Prop) → XP → Prop
def RetO (n : Nat) (Φ : MO → List MO → Prop) : DK := fun x m => ∃ k mo, x = .own k ∧ n ≤ k ∧ m[k]? = some mo ∧ mo.live = true ∧ mo.pure = true ∧ (m.take n).all MO.pure = true ∧ Φ mo (m.take n)
section
variable {P : Program} {w : World} {K : PySem.W.Frag} {mg : Str → Option Value} {base : Heap}
theorem fn_bodyO {x qual : Str} {st : Stmt} {f : Addr} {fd : FuncData} {N ps : List Str} {k : Nat} {sp : SpO} (F : Fun K x qual st f fd) (S : FnScope N ps (defScope st)) (len : ∀ args mu Φ ε, sp args mu Φ ε → args.length = ps.length)
    (hbody : ∀ (cdv : Value) (A : Around) (outer : List Env) (s : Shared) (H : Hp) (E : XK), RoomG k (A.deeper (envOfC qual (defScope st) s.heap.objs.size f cdv)) → ∀ args mu Φ ε, sp args mu Φ ε →
      WSs (cxOf (L2.CX P w) P w K mg base N qual (defScope st) f cdv A outer s H E) (defBody st) (startD N args) mu { nx := fun _ _ => False, rt := RetO mu.length Φ, ex := ExOk mu.length ε }) :
    FnG P w K mg base (k + 1) f fd ps (concO K sp) := by
  obtain ⟨oc, od, kV, doc, pm, an, cdv, ct, osl, rfl, lk, hcd⟩ := F.ex
  refine fng_of lk hcd S (fun vs H Q E h => ?_) (fun A outer s H vs Q E hr h => ?_)
  · obtain ⟨R, F0, as, mu, args, Φ, ε, hs, r, q, _⟩ := h
    rw [← r.len]; exact len _ _ _ _ q
  · obtain ⟨R, F0, as, mu, args, Φ, ε, hs, r, q, hq, he⟩ := h
    refine hbody cdv A outer s H E hr args mu Φ ε q (fun cls d _ H => E cls d H) R F0 as (start N vs) H _ (takes_of rfl rfl rfl rfl) hs r.start ⟨fun _ _ _ _ _ _ z => z.elim, ?_, fun _ _ _ _ _ _ z => z.elim, fun _ _ _ _ _ _ z => z.elim, ?_⟩
    · intro v y mu' F' as' H' ⟨j, mo, ey, hj, em, l, pu, p2, p3⟩ e1 e2 hs' r'
      subst ey
      rw [← hs.ln] at p2 p3 hj
      obtain ⟨a, ea, rfl⟩ := r'
      refine hq a mo _ F' H' p3 e1 (hs'.cut e2 (all_pure p2)) (hs'.frA a (List.mem_of_getElem? ea)) (hs'.sep j a mo ea em l) (fun i m' g1 g2 => ?_) ((hs'.ct j a mo ea em).other pu) l pu
      cases hl : m'.live with
      | false => rfl
      | true =>
        have g3 := pre_get e2 g1
        have hi := (List.getElem?_eq_some_iff.mp g1).1
        have := hs'.nd i j a m' mo g3 ea (take_get g2).2 em hl l
        omega
    · intro y d dl' mu' F' as' σ' H' ⟨p1, p2, p3⟩ e1 e2 hs' _ xo
      rw [← hs.ln] at p2 p3
      exact he y d _ F' H' p3 e1 (hs'.cut e2 (all_pure p2)) p1 (xo.other p1)
end
structure CalO (P : Program) (w : World) (K : PySem.W.Frag) (mg : Str → Option Value) (base : Heap) (x : Str) (k : Nat) (dd : List D) (sp : SpO) : Prop where
  ex : ∃ (f : Addr) (fd : FuncData) (ps : List Str) (ds : List Value) (dvs : List V), mg x = some (.ref f) ∧ PySem.W.keepIn K (.ref f) = true ∧ FnG P w K mg base k f fd ps (concO K sp) ∧ Binds K fd ps ds ∧ Vals dvs ds ∧ ∀ F as, RpL K F as dd dvs
def CallOkO (n : Nat) (dd : List D) (sp : SpO) (xs : List D) (m : List MO) (Φ : MO → List MO → Prop) (ε : XP) : Prop :=
  n ≤ m.length ∧ (m.take n).all (fun z => z.live && z.pure) = true ∧ ownLts n xs = true ∧ sp (xs ++ dd) (m.take n) (fun x mc => Φ x (mc ++ m.drop n)) (fun x mc => ε x (mc ++ m.drop n))
section
variable {X : Cx} {e : Expr} {es : List Expr} {dl : List Sl} {mu : List MO} {Φ : MO → List MO → Prop} {ε : XP} {pos p : Pos} {x : Str}
theorem conc_callO {W : WX} {R F : Hp} {as : List Addr} {σ : L2.St} {H : Hp} {Q : VK} {m : List MO} {xs dd : List D} {vs dvs : List V} {sp : SpO} {n : Nat} (hs : Hs X.K R F as m H) (r : RpL X.K F as xs vs) (rd : ∀ F as, RpL X.K F as dd dvs)
    (c : CallOkO n dd sp xs m Φ ε) (k : KontO X.K R F as Φ Q) (kx : KontX X.K R F as ε (fun c d H => W c d σ H)) : concO X.K sp (vs ++ dvs) H Q (L2.WE W σ) := by
  obtain ⟨h1, h2, h3, h4⟩ := c
  have hl : ∀ (k : Nat) z, k < n → m[k]? = some z → z.live = true ∧ z.pure = true := fun k z hk e => by
    rw [List.all_eq_true] at h2
    have := h2 z (List.mem_of_getElem? (i := k) (by rw [List.getElem?_take, if_pos hk]; exact e))
    simpa using this
  have hp := hs.part n hl h1
  refine ⟨_, F, _, _, xs ++ dd, _, _, hp, ?_, h4, ?_, ?_⟩
  · exact (RpL.part (fun k hk => by rw [List.getElem?_take, if_pos hk]) _ _ h3 r).append (rd _ _)
  · intro a mo mc F' H' p1 e1 hs' pR pF pA pc pl pp
    have lc : mc.length = n := by rw [← hs'.ln, List.length_take, hs.ln]; omega
    refine k a mo _ F' as H' p1 e1 (List.prefix_refl _) (hs.join h1 e1 hs') ?_ pF (fun i m' g1 g2 => ?_) (pc.other pp) pl
    · cases q : R a with
      | none => rfl
      | some u => rw [aside_R hs q] at pR; cases pR
    · by_cases hi : i < n
      · refine pA i m' (by rw [List.getElem?_take, if_pos hi]; exact g1) ?_
        rw [List.getElem?_append_left (by omega)] at g2; exact g2
      · rw [List.getElem?_append_right (by omega), List.getElem?_drop] at g2
        have g2 : m[i]? = some m' := by rw [← g2]; congr 1; omega
        cases hl' : m'.live with
        | false => rfl
        | true =>
          obtain ⟨u, eu⟩ := (hs.ct i a m' g1 g2).some hl'
          rw [aside_in (R := R) (H := H) (by omega) g1 g2 hl', eu] at pR; cases pR
  · intro y d mc F' H' p1 e1 hs' p2 xo
    refine kx y d _ F' as H' p1 e1 (List.prefix_refl _) (hs.join h1 e1 hs') ?_
    cases hf : y.fs with
    | none => rw [hf] at xo; exact xo
    | some fs =>
      rw [hf] at xo p2
      obtain ⟨b, ws, q1, q2, q3, q4⟩ := xo
      exact ⟨b, ws, q1, q2, q3, RpF.other _ _ p2 q4⟩
theorem wo_call {k j : Nat} {dd : List D} {sp : SpO} (c : CalO X.prog X.w X.K X.mg X.base x k dd sp) (n : Nat) (hr : RoomG j X.A) (hk : k ≤ j) (h : WA X (e :: es) dl mu (fun xs m => CallOkO n dd sp xs m Φ ε) ε) (hg : Gl X x := by rfl)
    (hdb : (x == ("__debug__" : Str)) = false := by decide) (he : starEach (e :: es) X.env = (false, eval e X.env) :: starEach es X.env := by rfl) (hpl : (backTo pos (starEach es X.env)).any (·.1) = false := by rfl) : WO X (.Call (.Name x p) (e :: es) [] pos) dl mu Φ ε :=
  .mk fun W R F as σ H Q tk hs ha k kx => by
    obtain ⟨f, fd, ps, ds, dvs, h1, h2, h3, h4, h5, h6⟩ := c.ex
    refine SE.by (t := tCallSD (concO X.K sp) dvs (L2.WE W) (SA X (e :: es))) ⟨fun pins s σ H Q I h => wpAny_Call_Name_kw (ld_glob I hg h1 ?_ hdb)⟩ (h.then tk hs ha kx fun vs xs m F' as' H' q e1 e2 hs' ha' r kx' => conc_callO hs' r h6 q (k.go e1 e2) kx')
    exact PySem.W.callWith_K (h₀ := X.base) I.ok.mod.kin h2 (thn (SA.pa.run pos pins s σ H _ I h) fun us s1 ⟨vs, H1, I1, r, q⟩ => ⟨I1.kIn, run_fng (CXE := L2.WE W) h3 (hr.mono hk) h4 h5 (passAt tk σ) I1 r q⟩) he hpl
end
end DL
namespace DL
open PySem PySem.Spec PyProof.Rows L2
structure Dn (K : PySem.W.Frag) (mg : Str → Option Value) (x : Str) (st : Stmt) : Prop where
  ex : ∃ (f : Addr) (fd : FuncData), mg x = some (.ref f) ∧ Fun K x x st f fd
section
variable {P : Program} {w : World} {K : PySem.W.Frag} {mg : Str → Option Value} {base : Heap} {x : Str} {st : Stmt} {ps : List Str} {k : Nat}
abbrev BindA (x : Str) (st : Stmt) (ps : List Str) : Prop := ∀ (kV doc pm : Value) (an : Option Addr) (cdv ct : Value) (us : List Value), us.length = ps.length → bindArgs (PySem.W.fnOf x x (defArgs st) (defBody st) (defScope st) .none kV doc pm an cdv ct) ⟨us, []⟩ = pure (ps.zip us)
theorem Dn.cal {sp : SpD} (d : Dn K mg x st) (h : ∀ f fd, Fun K x x st f fd → FnG P w K mg base k f fd ps (conc K sp)) (hb : BindA x st ps) : Cal P w K mg base x k [] sp := by
  obtain ⟨f, fd, h1, h2⟩ := d.ex
  exact ⟨f, fd, ps, [], [], h1, h2.kp, h f fd h2, h2.binds hb, .nil, fun _ _ => rfl⟩
theorem Dn.calO {sp : SpO} (d : Dn K mg x st) (h : ∀ f fd, Fun K x x st f fd → FnG P w K mg base k f fd ps (concO K sp)) (hb : BindA x st ps) : CalO P w K mg base x k [] sp := by
  obtain ⟨f, fd, h1, h2⟩ := d.ex
  exact ⟨f, fd, ps, [], [], h1, h2.kp, h f fd h2, h2.binds hb, .nil, fun _ _ => rfl⟩
end
theorem Cal.up {P : Program} {w : World} {K : PySem.W.Frag} {mg : Str → Option Value} {base : Heap} {x : Str} {j k : Nat} {dd : List D} {sp : SpD} (c : Cal P w K mg base x j dd sp) (h : j ≤ k) : Cal P w K mg base x k dd sp := by
  obtain ⟨f, fd, ps, ds, dvs, h1, h2, h3, h4⟩ := c.ex
  exact ⟨f, fd, ps, ds, dvs, h1, h2, h3.up h, h4⟩
theorem RoomG.u {k : Nat} {A : Around} (r : RoomG k A) : A.units + 65 < cLine := by have := r.rm.un; omega
theorem RoomG.u1 {k : Nat} {A : Around} (r : RoomG k A) : A.units + 1 < cLine := by have := r.rm.un; omega
theorem RoomG.u64 {k : Nat} {A : Around} (r : RoomG k A) : A.units + 64 < cLine := by have := r.rm.un; omega
end DL
namespace DL
open PySem PySem.Spec PyProof.Rows L2
section
variable {X : Cx} {x y : D} {mu : List MO} {Φ : DK} {i j : Int} {s t : Str} {xs ys : List D}
theorem addI (k : Φ (.int (i + j)) mu) : WOp X (binaryOp .Add) (.int i) (.int j) mu Φ := wop_add k
theorem addS (h : s.length + t.length ≤ sizeLine) (k : Φ (.str (s ++ t)) mu) : WOp X (binaryOp .Add) (.str s) (.str t) mu Φ := wop_add (And.intro h k)
theorem addL (hx : rdD mu x = .lst xs) (hy : rdD mu y = .lst ys) (h : xs.length + ys.length ≤ sizeLine) (k : Φ (.lst (xs ++ ys)) mu) : WOp X (binaryOp .Add) x y mu Φ := wop_add (by rw [hx, hy]; exact ⟨h, k⟩)
theorem addT (h : xs.length + ys.length ≤ sizeLine) (k : Φ (.tup (xs ++ ys)) mu) : WOp X (binaryOp .Add) (.tup xs) (.tup ys) mu Φ := wop_add (And.intro h k)
theorem subI (k : Φ (.int (i - j)) mu) : WOp X (binaryOp .Sub) (.int i) (.int j) mu Φ := wop_sub k
theorem mulI (h : CMul i j) (k : Φ (.int (i * j)) mu) : WOp X (binaryOp .Mult) (.int i) (.int j) mu Φ := wop_mul (And.intro h k)
theorem mulL (hx : rdD mu x = .lst xs) (h : -(2 ^ 63) ≤ j ∧ j < 2 ^ 63 ∧ xs.length * j.toNat ≤ sizeLine) (k : Φ (.lst (List.replicate j.toNat xs).flatten) mu) : WOp X (binaryOp .Mult) x (.int j) mu Φ := wop_mul (by rw [hx]; exact ⟨h, k⟩)
theorem modI (h : 0 < j) (k : Φ (.int (i % j)) mu) : WOp X (binaryOp .Mod) (.int i) (.int j) mu Φ := wop_mod (And.intro h k)
theorem fdivI (h : 0 < j ∧ j < 1073741824) (k : Φ (.int (i / j)) mu) : WOp X (binaryOp .FloorDiv) (.int i) (.int j) mu Φ := wop_fdiv (And.intro h k)
theorem powI (h : CPow i j) (k : Φ (.int (i ^ j.toNat)) mu) : WOp X (binaryOp .Pow) (.int i) (.int j) mu Φ := wop_pow (And.intro h k)
theorem ltI (k : Φ (.bl (decide (i < j))) mu) : WOp X (compareOp .Lt) (.int i) (.int j) mu Φ := wop_lt k
theorem gtI (k : Φ (.bl (decide (j < i))) mu) : WOp X (compareOp .Gt) (.int i) (.int j) mu Φ := wop_gt k
theorem leI (k : Φ (.bl (decide (i ≤ j))) mu) : WOp X (compareOp .LtE) (.int i) (.int j) mu Φ := wop_le k
theorem geI (k : Φ (.bl (decide (j ≤ i))) mu) : WOp X (compareOp .GtE) (.int i) (.int j) mu Φ := wop_ge k
theorem eqI (hu : X.A.units + 64 < cLine) (k : Φ (.bl (i == j)) mu) : WOp X (compareOp .Eq) (.int i) (.int j) mu Φ := wop_eq hu ⟨.inl rfl, k⟩
theorem neI (hu : X.A.units + 64 < cLine) (k : Φ (.bl (!(i == j))) mu) : WOp X (compareOp .NotEq) (.int i) (.int j) mu Φ := wop_ne hu ⟨.inl rfl, k⟩
theorem eqS (hu : X.A.units + 64 < cLine) (k : Φ (.bl (s == t)) mu) : WOp X (compareOp .Eq) (.str s) (.str t) mu Φ := wop_eq hu ⟨.inl rfl, k⟩
theorem neS (hu : X.A.units + 64 < cLine) (k : Φ (.bl (!(s == t))) mu) : WOp X (compareOp .NotEq) (.str s) (.str t) mu Φ := wop_ne hu ⟨.inl rfl, k⟩
theorem eqB {a b : Bool} (hu : X.A.units + 64 < cLine) (k : Φ (.bl (a == b)) mu) : WOp X (compareOp .Eq) (.bl a) (.bl b) mu Φ := wop_eq hu ⟨.inl rfl, k⟩
theorem neB {a b : Bool} (hu : X.A.units + 64 < cLine) (k : Φ (.bl (!(a == b))) mu) : WOp X (compareOp .NotEq) (.bl a) (.bl b) mu Φ := wop_ne hu ⟨.inl rfl, k⟩
theorem neL0 (hu : X.A.units + 64 < cLine) (hx : rdD mu x = .lst xs) (ok : okD 60 (.lst xs) = true) (k : Φ (.bl (!xs.isEmpty)) mu) : WOp X (compareOp .NotEq) x (.lst []) mu Φ := wop_ne hu (by
  rw [hx]
  refine ⟨.inr ⟨ok, rfl⟩, ?_⟩
  have e : eqD (.lst xs) (rdD mu (.lst [])) = xs.isEmpty := by cases xs <;> rfl
  rw [e]; exact k)
theorem ixL {d : D} {k : D → Prop} (hx : rdD mu x = .lst xs) (h : L2.atI xs i = some d) (q : k d) : ixD (rdD mu x) (rdD mu (.int i)) k := by rw [hx]; exact ⟨d, h, q⟩
theorem ixT {d : D} {k : D → Prop} (hx : rdD mu x = .tup xs) (h : L2.atI xs i = some d) (q : k d) : ixD (rdD mu x) (rdD mu (.int i)) k := by rw [hx]; exact ⟨d, h, q⟩
theorem ixS {c : Nat} {k : D → Prop} (hl : s.length ≤ sizeLine) (h : L2.atI s.cps.toList i = some c) (q : k (.str ⟨#[c]⟩)) : ixD (rdD mu (.str s)) (rdD mu (.int i)) k := ⟨hl, c, h, q⟩
theorem ixK {d : D} {kvs : List (Key × D)} {k : D → Prop} (hx : rdD mu x = .dct kvs) (h : gval kvs (.inr s) = some d) (q : k d) : ixD (rdD mu x) (rdD mu (.str s)) k := by rw [hx]; exact ⟨d, h, q⟩
theorem atI_pos {α : Type} {l : List α} {i : Int} {d : α} (h0 : 0 ≤ i) (h : l[i.toNat]? = some d) : L2.atI l i = some d := by
  unfold L2.atI
  have hl := (List.getElem?_eq_some_iff.mp h).1
  have e : ixN l.length i = some i.toNat := by
    unfold ixN
    rw [if_pos (by omega)]
    rw [if_pos (by omega)]
  rw [e]
  exact h
theorem slL {lo hi : Option Int} {k : D → Prop} (hx : rdD mu x = .lst xs) (q : k (.lst (cutL xs lo hi))) : slD (rdD mu x) lo hi k := by rw [hx]; exact q
theorem slT {d : D} {lo hi : Option Int} {k : D → Prop} (hx : rdD mu x = .tup xs) (q : k (.tup (cutL xs lo hi))) : slD (rdD mu x) lo hi k := by rw [hx]; exact q
theorem slS {lo hi : Option Int} {k : D → Prop} (hl : s.length ≤ sizeLine) (q : k (.str (cutS s lo hi))) : slD (rdD mu (.str s)) lo hi k := ⟨hl, q⟩
theorem truB {b : Bool} {k : Bool → Prop} (q : k b) : truD (rdD mu (.bl b)) k := q
theorem truI {k : Bool → Prop} (q : k (i != 0)) : truD (rdD mu (.int i)) k := q
theorem truL {k : Bool → Prop} (hx : rdD mu x = .lst xs) (q : k (!xs.isEmpty)) : truD (rdD mu x) k := by rw [hx]; exact q
theorem truT {k : Bool → Prop} (hx : rdD mu x = .tup xs) (q : k (!xs.isEmpty)) : truD (rdD mu x) k := by rw [hx]; exact q
theorem pk1 : ¬ ((.inr "cells" : Key) = .inr "turn") := by decide +kernel
theorem pk2 : ¬ ((.inr "cells" : Key) = .inr "rest") := by decide +kernel
theorem pk3 : ¬ ((.inr "turn" : Key) = .inr "rest") := by decide +kernel
variable {ns : List Int} {t r : Int}
theorem pen_cells : gval (penK ns t r) (.inr "cells") = some (.lst (ns.map .int)) := gval_pos rfl
theorem pen_turn : gval (penK ns t r) (.inr "turn") = some (.int t) := (gval_neg pk1).trans (gval_pos rfl)
theorem pen_rest : gval (penK ns t r) (.inr "rest") = some (.int r) := (gval_neg pk2).trans ((gval_neg pk3).trans (gval_pos rfl))
theorem gput_turn {v : Int} : gput (penK ns t r) (.inr "turn") (.int v) = penK ns v r := by
  unfold gput penK
  rw [if_pos (by simp)]
  have h2 : ¬ ((.inr "rest" : Key) = .inr "turn") := fun h => pk3 h.symm
  simp only [List.map_cons, List.map_nil, if_neg pk1, if_neg h2, if_true]
theorem gput_rest {v : Int} : gput (penK ns t r) (.inr "rest") (.int v) = penK ns t v := by
  unfold gput penK
  rw [if_pos (by simp)]
  simp only [List.map_cons, List.map_nil, if_neg pk2, if_neg pk3, if_true]
theorem gmerge_pen : gmerge [] (penK ns t r) = penK ns t r := by
  have h1 : ¬ ((.inr "turn" : Key) = .inr "cells") := fun h => pk1 h.symm
  simp only [gmerge, penK, List.foldl_cons, List.foldl_nil, gput, List.any_nil, List.any_cons, List.nil_append, List.cons_append, decide_eq_false pk1, decide_eq_false pk2, decide_eq_false pk3, Bool.or_false, Bool.false_or, Bool.false_eq_true, if_false]
theorem okD_ints {n : Nat} {ns : List Int} : okDs n (ns.map .int) = true := okDs_of fun x hx => by
  obtain ⟨i, _, rfl⟩ := List.mem_map.mp hx
  cases n <;> rfl
end
end DL
namespace DL
open PySem PySem.Spec PyProof.Rows L2
section
variable {X : Cx} {st : Stmt} {rest : List Stmt} {dl : List Sl} {mu : List MO} {Ψ : DEnds} {e : Expr} {ε : XP}
theorem wss_mid (M : SK) (h : WS X st dl mu { Ψ with nx := M }) (r : ∀ d m, M d m → WSs X rest d m Ψ) : WSs X (st :: rest) dl mu Ψ := wss_cons (.mk fun W R F as σ H E tk hs ha k => h W R F as σ H E tk hs ha ⟨fun dl' mu' F' as' σ' H' q e1 e2 hs' ha' => k.nx _ _ F' as' σ' H' (r _ _ q) e1 e2 hs' ha', k.rt, k.bk, k.ct, k.ex⟩)
theorem WT.val (b : Bool) {Φ : Bool → List MO → Prop} (h : WT X e dl mu (fun t m => m = mu ∧ t = b) ε) (k : Φ b mu) : WT X e dl mu Φ ε := h.imp fun t m ⟨e1, e2⟩ => by subst e1 e2; exact k
structure Bn (mg : Str → Option Value) : Prop where
  len : mg "len" = none
  sorted : mg "sorted" = none
  any : mg "any" = none
  all : mg "all" = none
  sum : mg "sum" = none
  repr : mg "repr" = none
  isinstance : mg "isinstance" = none
  abs : mg "abs" = none
  max : mg "max" = none
  min : mg "min" = none
  list : mg "list" = none
  tuple : mg "tuple" = none
  int : mg "int" = none
  bool : mg "bool" = none
  str : mg "str" = none
  dict : mg "dict" = none
  set : mg "set" = none
  range : mg "range" = none
  enumerate : mg "enumerate" = none
  zip : mg "zip" = none
def sp_law_draw : SpD := fun args mu Φ _ => ∃ (m : Int) (n : Nat), args = [.own 0, .int m] ∧ mu = [.pen n] ∧ 1 ≤ m ∧ m < 1073741824 ∧ n ≤ 2 ^ 40 ∧ ∀ r : Int, 0 ≤ r → r < m → Φ (.int r) [.pen (n + 1)]
theorem cmul_r {i j : Int} (h : -(2 ^ 64) < j ∧ j < 2 ^ 64) : CMul i j := .inr h
theorem cmul_l {i j : Int} (h : -(2 ^ 64) < i ∧ i < 2 ^ 64) : CMul i j := .inl h
end
end DL
namespace DL
open PySem PySem.Spec PyProof.Rows L2
def sp_law_pen : SpO := fun args mu Φ _ => ∃ ns : List Int, ns.length ≤ sizeLine ∧ args = [.scr ns] ∧ mu = [] ∧ Φ (.pen 0) []
def pickD : D → Nat → Option D
  | .lst xs, i => xs[i]?
  | .tup xs, i => xs[i]?
  | .str s, i => (s.cps.toList[i]?).map fun c => .str ⟨#[c]⟩
  | _, _ => none
def pkL : D → Option Nat
  | .lst xs => some xs.length
  | .tup xs => some xs.length
  | .str s => if s.length ≤ sizeLine then some s.length else none
  | _ => none
theorem pkL.len {x : D} {L : Nat} (h : pkL x = some L) (mu : List MO) : lenD (rdD mu x) = some L := by
  cases x with
  | lst xs => exact h
  | tup xs => exact h
  | str s => exact h
  | _ => cases h
theorem pick_ix {mu : List MO} {x d : D} {i L : Nat} {k : D → Prop} (hL : pkL x = some L) (h : pickD x i = some d) (q : k d) : ixD (rdD mu x) (rdD mu (.int i)) k := by
  cases x with
  | lst xs => exact ixL rfl (atI_pos (by omega) h) q
  | tup xs => exact ixT rfl (atI_pos (by omega) h) q
  | str s =>
    have hs : s.length ≤ sizeLine := by
      by_cases z : s.length ≤ sizeLine
      · exact z
      · have h' : (if s.length ≤ sizeLine then some s.length else none) = some L := hL
        rw [if_neg z] at h'; cases h'
    have h' : (s.cps.toList[i]?).map (fun c => D.str ⟨#[c]⟩) = some d := h
    cases e : s.cps.toList[i]? with
    | none => rw [e] at h'; cases h'
    | some c => rw [e] at h'; cases h'; exact ixS hs (atI_pos (by omega) (by simpa using e)) q
  | _ => cases h
theorem pick_some {x : D} {L i : Nat} (hL : pkL x = some L) (hi : i < L) : ∃ d, pickD x i = some d := by
  cases x with
  | lst xs => cases hL; exact ⟨_, List.getElem?_eq_getElem hi⟩
  | tup xs => cases hL; exact ⟨_, List.getElem?_eq_getElem hi⟩
  | str s =>
    have h' : (if s.length ≤ sizeLine then some s.length else none) = some L := hL
    split at h'
    · cases h'
      have hi' : i < s.cps.toList.length := by simpa [Str.length] using hi
      refine ⟨.str ⟨#[s.cps.toList[i]'hi']⟩, ?_⟩
      show (s.cps.toList[i]?).map _ = _
      rw [List.getElem?_eq_getElem hi']
      rfl
    · cases h'
  | _ => cases hL
def sp_law_pick : SpD := fun args mu Φ _ => ∃ (x : D) (L n : Nat), args = [.own 0, x] ∧ mu = [.pen n] ∧ pkL x = some L ∧ 1 ≤ L ∧ L < 1073741824 ∧ n ≤ 2 ^ 40 ∧ ∀ i d, i < L → pickD x i = some d → noOwn d = true ∧ Φ d [.pen (n + 1)]
theorem cutL_len {α : Type} (xs : List α) (n : Int) (h : 0 ≤ n) : (cutL xs none (some n)).length ≤ n.toNat := by
  unfold cutL
  rw [List.length_take]
  have : HT.sIx xs.length 0 none = 0 := rfl
  have e : HT.sIx xs.length xs.length (some n) ≤ n.toNat := by
    simp only [HT.sIx]
    split <;> omega
  omega
end DL
namespace DL
open PySem PySem.Spec PyProof.Rows L2
mutual
theorem ownLt_up {n : Nat} : ∀ {d : D}, ownLt 0 d = true → ownLt n d = true
  | .non, _ => rfl
  | .bl _, _ => rfl
  | .int _, _ => rfl
  | .str _, _ => rfl
  | .lst xs, h => ownLts_up (xs := xs) (by simpa [ownLt] using h)
  | .tup xs, h => ownLts_up (xs := xs) (by simpa [ownLt] using h)
  | .dct kvs, h => ownLtK_up (xs := kvs) (by simpa [ownLt] using h)
  | .obj _ fs, h => ownLtF_up (xs := fs) (by simpa [ownLt] using h)
  | .exn _ fs, h => ownLtF_up (xs := fs) (by simpa [ownLt] using h)
  | .own k, h => by simp [ownLt] at h
  | .val _, _ => rfl
  | .scr _, _ => rfl
theorem ownLts_up {n : Nat} : ∀ {xs : List D}, ownLts 0 xs = true → ownLts n xs = true
  | [], _ => rfl
  | x :: xs, h => by
    simp only [ownLts, Bool.and_eq_true] at h ⊢
    exact ⟨ownLt_up h.1, ownLts_up h.2⟩
theorem ownLtK_up {n : Nat} : ∀ {xs : List (Key × D)}, ownLtK 0 xs = true → ownLtK n xs = true
  | [], _ => rfl
  | (_, x) :: xs, h => by
    simp only [ownLtK, Bool.and_eq_true] at h ⊢
    exact ⟨ownLt_up h.1, ownLtK_up h.2⟩
theorem ownLtF_up {n : Nat} : ∀ {xs : List (Str × D)}, ownLtF 0 xs = true → ownLtF n xs = true
  | [], _ => rfl
  | (_, x) :: xs, h => by
    simp only [ownLtF, Bool.and_eq_true] at h ⊢
    exact ⟨ownLt_up h.1, ownLtF_up h.2⟩
end
theorem ownLts_mem {n : Nat} {d : D} : ∀ {xs : List D}, ownLts n xs = true → d ∈ xs → ownLt n d = true
  | x :: xs, h, hd => by
    simp only [ownLts, Bool.and_eq_true] at h
    rcases List.mem_cons.mp hd with e | e
    · rw [e]; exact h.1
    · exact ownLts_mem h.2 e
theorem pick_own {x d : D} {i : Nat} (no : noOwn x = true) (h : pickD x i = some d) : noOwn d = true := by
  cases x with
  | lst xs => exact ownLts_mem (xs := xs) (by simpa [noOwn, ownLt] using no) (List.mem_of_getElem? h)
  | tup xs => exact ownLts_mem (xs := xs) (by simpa [noOwn, ownLt] using no) (List.mem_of_getElem? h)
  | str s =>
    have h' : (s.cps.toList[i]?).map (fun c => D.str ⟨#[c]⟩) = some d := h
    obtain ⟨c, _, rfl⟩ := Option.map_eq_some_iff.mp h'
    rfl
  | _ => cases h
section
variable {X : Cx} {st : Stmt} {dl : List Sl} {mu : List MO} {Ψ : DEnds} {pos : Pos} {x y z : Str}
theorem ws_par3 {i j l : Nat} {a b c : Expr} {px py pz pt pt2 : Pos} {kt k2 : Nat} (h : WA X [a, b, c] dl mu (fun xs m => ∃ u v w, xs = [u, v, w] ∧ Ψ.nx (((dl.set i (some u)).set j (some v)).set l (some w)) m) (fun x m => Ψ.ex x dl m)) (hN : X.N.Nodup := by assumption) (hi : X.N[i]? = some x := by rfl) (hj : X.N[j]? = some y := by rfl) (hl : X.N[l]? = some z := by rfl)
    (hij : i ≠ j := by decide) (hil : i ≠ l := by decide) (hjl : j ≠ l := by decide) (hx : X.env.scope.names.lookup x = some .local := by rfl) (hy : X.env.scope.names.lookup y = some .local := by rfl) (hz : X.env.scope.names.lookup z = some .local := by rfl) (hc : X.calm = true := by rfl)
    (hw : swappedStores [.Tuple [.Name x px, .Name y py, .Name z pz] kt pt] (.Tuple [a, b, c] k2 pt2) X.env = pure (some [x, y, z]) := by rfl) : WS X (.Assign [.Tuple [.Name x px, .Name y py, .Name z pz] kt pt] (.Tuple [a, b, c] k2 pt2) pos) dl mu Ψ := .mk fun W R F as σ H E tk hs' ha k =>
  SS.by (ps_par3 (i := i) (j := j) (l := l) hc hN hi hj hl hij hil hjl hx hy hz SA.pa hw) (h.then tk hs' ha (k.toX ha) fun vs xs m F' as' H' ⟨u, w, w3, ex, p⟩ e1 e2 hs2 ha' r kx' => by
    subst ex
    obtain ⟨v1, r1, rfl, q1, v2, r2, rfl, q2, v3, r3, rfl, q3, q4⟩ := r
    cases q4
    exact ⟨v1, v2, v3, rfl, k.nx _ _ F' as' _ H' p e1 e2 hs2 (((ha'.set i q1).set j q2).set l q3)⟩)
def cstD : List Expr → Option (List D)
  | [] => some []
  | .Constant (.int i) _ _ :: r => match cstD r with | some l => some (.int i :: l) | none => none
  | .Constant (.str i) _ _ :: r => match cstD r with | some l => some (.str i :: l) | none => none
  | .Constant (.bool i) _ _ :: r => match cstD r with | some l => some (.bl i :: l) | none => none
  | .Constant .none _ _ :: r => match cstD r with | some l => some (.non :: l) | none => none
  | _ => none
theorem wa_csts {ε : XP} : ∀ {es : List Expr} {ds : List D} {Φ : List D → List MO → Prop}, cstD es = some ds → Φ ds mu → WA X es dl mu Φ ε
  | [], _, _, h, k => by cases h; exact wa_nil k
  | .Constant (.int i) _ _ :: r, _, _, h, k => by
    have h : (match cstD r with | some l => some (_ :: l) | none => none) = some _ := h
    cases h1 : cstD r with
    | none => rw [h1] at h; cases h
    | some l =>
    rw [h1] at h; cases h
    exact wa_cons (we_int (wa_csts h1 k)) rfl
  | .Constant (.str i) _ _ :: r, _, _, h, k => by
    have h : (match cstD r with | some l => some (_ :: l) | none => none) = some _ := h
    cases h1 : cstD r with
    | none => rw [h1] at h; cases h
    | some l =>
    rw [h1] at h; cases h
    exact wa_cons (we_str (wa_csts h1 k)) rfl
  | .Constant (.bool i) _ _ :: r, _, _, h, k => by
    have h : (match cstD r with | some l => some (_ :: l) | none => none) = some _ := h
    cases h1 : cstD r with
    | none => rw [h1] at h; cases h
    | some l =>
    rw [h1] at h; cases h
    exact wa_cons (we_bl (wa_csts h1 k)) rfl
  | .Constant .none _ _ :: r, _, _, h, k => by
    have h : (match cstD r with | some l => some (_ :: l) | none => none) = some _ := h
    cases h1 : cstD r with
    | none => rw [h1] at h; cases h
    | some l =>
    rw [h1] at h; cases h
    exact wa_cons (we_non (wa_csts h1 k)) rfl
theorem Hsub.penUp {n n' : Nat} {ms : List MO} (h : n ≤ n') : Hsub (.pen n :: ms) (.pen n' :: ms) := fun K R F as H hs => by
  have old : ∀ {i : Nat} {m : MO}, (MO.pen n' :: ms)[i]? = some m → m.live = true → ∃ m', (MO.pen n :: ms)[i]? = some m' ∧ m'.live = true := fun {i m} q l => by
    cases i with
    | zero => exact ⟨_, rfl, rfl⟩
    | succ i => exact ⟨m, q, l⟩
  refine ⟨hs.er, hs.fr, hs.frF, hs.frA, by simpa using hs.ln, fun i j b m1 m2 f1 f2 f3 f4 l1 l2 => ?_, fun i b m1 f1 f2 l => ?_, fun i b m1 f1 f2 => ?_, hs.tb, hs.nt⟩
  · obtain ⟨x1, g1, g2⟩ := old f3 l1
    obtain ⟨x2, g3, g4⟩ := old f4 l2
    exact hs.nd i j b x1 x2 f1 f2 g1 g3 g2 g4
  · obtain ⟨x1, g1, g2⟩ := old f2 l
    exact hs.sep i b x1 f1 g1 g2
  · cases i with
    | zero =>
      cases f2
      obtain ⟨c, ns, t, r, h1, h2, h3, h4, h5, h6⟩ := hs.ct 0 b _ f1 rfl
      exact ⟨c, ns, t, r, h1, h2, h3, h4, by omega, h6⟩
    | succ i => exact hs.ct (i + 1) b m1 f1 f2
theorem WSs.penUp {sts : List Stmt} (n' : Nat) (h : WSs X sts dl mu { Ψ with rt := fun x m => ∃ n1 ms, m = .pen n1 :: ms ∧ n1 ≤ n' ∧ Ψ.rt x (.pen n' :: ms) }) : WSs X sts dl mu Ψ :=
  WSs.post h (fun d m q => ⟨m, Hsub.refl m, q⟩) (fun d m ⟨n1, ms, e, hn, q⟩ => ⟨_, by rw [e]; exact Hsub.penUp hn, q⟩) (fun d m q => ⟨m, Hsub.refl m, q⟩) (fun d m q => ⟨m, Hsub.refl m, q⟩) (fun x d m q => ⟨m, Hsub.refl m, q⟩)
end
theorem rgY_split {lo : Int} {n : Nat} {pre post : List Yd} {y : Yd} (h : rgY lo n = pre ++ y :: post) : y = .one (.int (lo + pre.length)) ∧ pre.length < n ∧ post.length + pre.length + 1 = n := by
  have e : (rgY lo n)[pre.length]? = some y := by rw [h]; simp
  have l : (rgY lo n).length = n := by simp [rgY]
  have l2 : (pre ++ y :: post).length = n := by rw [← h]; exact l
  simp at l2
  have hp : pre.length < n := by omega
  unfold rgY at e
  rw [List.getElem?_map, List.getElem?_range hp] at e
  cases e
  exact ⟨rfl, hp, by omega⟩
theorem rgY_len {lo : Int} {n : Nat} : (rgY lo n).length = n := by simp [rgY]
abbrev tx (l : List Nat) : Str := ⟨l.toArray⟩
theorem tx_len (l : List Nat) : (tx l).length = l.length := by simp [Str.length]
theorem tx_list (l : List Nat) : (tx l).cps.toList = l := by simp
theorem tx_of (s : Str) : s = tx s.cps.toList := by cases s; simp [tx]
theorem tx_app (a b : List Nat) : tx a ++ tx b = tx (a ++ b) := by
  show (⟨a.toArray ++ b.toArray⟩ : Str) = _
  simp [tx]
theorem tx_inj {a b : List Nat} (h : tx a = tx b) : a = b := by
  have := congrArg (fun s : Str => s.cps.toList) h
  simpa using this
theorem cutS_take (l : List Nat) (n : Int) (h : 0 ≤ n) : cutS (tx l) none (some n) = tx (l.take n.toNat) := by
  obtain ⟨k, rfl⟩ := Int.eq_ofNat_of_zero_le h
  unfold cutS
  rw [tx_list, tx_len, HT.sIx_none, HT.sIx_nat]
  simp only [Nat.sub_zero, List.drop_zero, Int.toNat_natCast]
  congr 2
  rw [List.take_eq_take_iff]; omega
theorem cutS_drop (l : List Nat) (n : Int) (h : 0 ≤ n) : cutS (tx l) (some n) none = tx (l.drop n.toNat) := by
  obtain ⟨k, rfl⟩ := Int.eq_ofNat_of_zero_le h
  unfold cutS
  rw [tx_list, tx_len, HT.sIx_none, HT.sIx_nat]
  simp only [Int.toNat_natCast]
  congr 2
  by_cases z : k ≤ l.length
  · rw [Nat.min_eq_left z, List.take_of_length_le (by simp)]
  · rw [Nat.min_eq_right (by omega), Nat.sub_self, List.take_zero, List.drop_eq_nil_of_le (by omega)]
theorem cutL_take {α : Type} (l : List α) (n : Int) (h : 0 ≤ n) : cutL l none (some n) = l.take n.toNat := by
  obtain ⟨k, rfl⟩ := Int.eq_ofNat_of_zero_le h
  unfold cutL
  rw [HT.sIx_none, HT.sIx_nat]
  simp only [Nat.sub_zero, List.drop_zero, Int.toNat_natCast]
  rw [List.take_eq_take_iff]; omega
theorem cutL_drop {α : Type} (l : List α) (n : Int) (h : 0 ≤ n) : cutL l (some n) none = l.drop n.toNat := by
  obtain ⟨k, rfl⟩ := Int.eq_ofNat_of_zero_le h
  unfold cutL
  rw [HT.sIx_none, HT.sIx_nat]
  simp only [Int.toNat_natCast]
  by_cases z : k ≤ l.length
  · rw [Nat.min_eq_left z, List.take_of_length_le (by simp)]
  · rw [Nat.min_eq_right (by omega), Nat.sub_self, List.take_zero, List.drop_eq_nil_of_le (by omega)]
theorem join_signs (cs : List Nat) : Txt.join (tx []) (cs.map fun c => (⟨#[c]⟩ : Str)) = tx cs := by
  have key : ∀ cs : List Nat, TL.joinL [] (cs.map fun c => [c]) = cs := by
    intro cs
    induction cs with
    | nil => rfl
    | cons c r ih =>
      cases r with
      | nil => rfl
      | cons d r => show [c] ++ ([] ++ TL.joinL [] (([d] : List Nat) :: r.map fun c => [c])) = _; rw [show TL.joinL [] (([d] : List Nat) :: r.map fun c => [c]) = d :: r from ih]; rfl
  have e := TL.tl_join (tx []) (cs.map fun c => (⟨#[c]⟩ : Str))
  have e2 : (cs.map fun c => (⟨#[c]⟩ : Str)).map TL.tl = cs.map fun c => [c] := by rw [List.map_map]; apply List.map_congr_left; intro c _; rfl
  rw [e2, show TL.tl (tx []) = [] from rfl, key] at e
  have j : Txt.join (tx []) (cs.map fun c => (⟨#[c]⟩ : Str)) = Str.join (tx []) (cs.map fun c => (⟨#[c]⟩ : Str)) := TL.join_eq _ _
  rw [j, tx_of (Str.join (tx []) (cs.map fun c => (⟨#[c]⟩ : Str)))]
  exact congrArg tx e
def nameOk (x : Str) : Bool := decide (1 ≤ x.length) && decide (x.length ≤ 8) && x.cps.toList.all fun c => decide (97 ≤ c) && decide (c ≤ 122)
structure NamesOk (many : Nat) (ns : List Str) : Prop where
  len : ns.length = many
  nd : ns.Nodup
  ok : ∀ x, x ∈ ns → nameOk x = true
def sp_law_names : SpD := fun args mu Φ _ => ∃ many n : Nat, args = [.own 0, .int many] ∧ mu = [.pen n] ∧ 1 ≤ many ∧ many ≤ 18 ∧ n + 20 ≤ 2 ^ 40 ∧ ∀ ns : List Str, NamesOk many ns → Φ (.lst (ns.map .str)) [.pen (n + 20)]
def lawWords : List Str := ["room", "door", "stone", "walker", "go", "lift", "lay", "wait", "both", "on", "turn", "at", "lies", "do", "heft", "rows", "wall", "open"]
theorem lawWords_ok : lawWords.all nameOk = true := by decide +kernel
theorem lawWords_nd : lawWords.Nodup := by decide +kernel
theorem names_words {t m : Nat} (ht : t ≤ 18) (hm : m ≤ 18) : NamesOk m (((lawWords ++ lawWords).drop t).take m) := by
  have hl : lawWords.length = 18 := rfl
  have e1 : (lawWords ++ lawWords).drop t = lawWords.drop t ++ lawWords := by rw [List.drop_append_of_le_length (by omega)]
  have e2 : ((lawWords ++ lawWords).drop t).take m = (lawWords.drop t ++ lawWords.take t).take m := by
    rw [e1]
    have e : lawWords.drop t ++ lawWords = (lawWords.drop t ++ lawWords.take t) ++ lawWords.drop t := by rw [List.append_assoc, List.take_append_drop]
    rw [e, List.take_append_of_le_length (by simp; omega)]
  have pm : (lawWords.drop t ++ lawWords.take t).Perm lawWords := List.perm_append_comm.trans (by rw [List.take_append_drop])
  rw [e2]
  refine ⟨by simp; omega, ((List.take_sublist _ _).nodup (pm.nodup_iff.mpr lawWords_nd)), fun x hx => ?_⟩
  have := pm.subset (List.mem_of_mem_take hx)
  exact List.all_eq_true.mp lawWords_ok x this
def nameAt (bl : List Nat) (a first step : Nat) (cut : Int) (k : Nat) : List Nat := bl.take a ++ ((97 + (first + step * k) % 26) :: (bl.drop (a + 1)).take (if cut = 0 then 8 else k % 3))
def stepOk (s : Nat) : Prop := s ∈ [1, 3, 5, 7, 9, 11, 15, 17, 19, 21, 23, 25]
theorem step_inj {f s i j : Nat} (hs : stepOk s) (hi : i < 26) (hj : j < 26) (h : (f + s * i) % 26 = (f + s * j) % 26) : i = j := by
  unfold stepOk at hs
  simp only [List.mem_cons, List.not_mem_nil, or_false] at hs
  rcases hs with rfl | rfl | rfl | rfl | rfl | rfl | rfl | rfl | rfl | rfl | rfl | rfl <;> omega
theorem nameAt_len {bl : List Nat} {a f s k : Nat} {c : Int} (ha : a < bl.length) (hb : bl.length ≤ 8) : 1 ≤ (nameAt bl a f s c k).length ∧ (nameAt bl a f s c k).length ≤ 8 := by
  unfold nameAt
  simp only [List.length_append, List.length_cons, List.length_take, List.length_drop]
  omega
theorem nameAt_get {bl : List Nat} {a f s k : Nat} {c : Int} (ha : a < bl.length) : (nameAt bl a f s c k)[a]? = some (97 + (f + s * k) % 26) := by
  unfold nameAt
  rw [List.getElem?_append_right (by simp; omega)]
  simp
  have : a - min a bl.length = 0 := by omega
  rw [this]; rfl
theorem nameAt_ok {bl : List Nat} {a f s k : Nat} {c : Int} (ha : a < bl.length) (hb : bl.length ≤ 8) (hc : ∀ x, x ∈ bl → 97 ≤ x ∧ x ≤ 122) : nameOk (tx (nameAt bl a f s c k)) = true := by
  obtain ⟨l1, l2⟩ := nameAt_len (f := f) (s := s) (k := k) (c := c) ha hb
  unfold nameOk
  rw [tx_len, tx_list]
  simp only [Bool.and_eq_true, decide_eq_true_eq, List.all_eq_true]
  refine ⟨⟨l1, l2⟩, fun x hx => ?_⟩
  unfold nameAt at hx
  rcases List.mem_append.mp hx with h | h
  · exact hc x (List.mem_of_mem_take h)
  · rcases List.mem_cons.mp h with h | h
    · subst h; omega
    · exact hc x (List.mem_of_mem_drop (List.mem_of_mem_take h))
theorem names_drawn {bl : List Nat} {a f s m : Nat} {c : Int} (ha : a < bl.length) (hb : bl.length ≤ 8) (hc : ∀ x, x ∈ bl → 97 ≤ x ∧ x ≤ 122) (hs : stepOk s) (hm : m ≤ 18) : NamesOk m ((List.range m).map fun k => tx (nameAt bl a f s c k)) := by
  refine ⟨by simp, ?_, fun x hx => ?_⟩
  · rw [List.nodup_iff_pairwise_ne, List.pairwise_map]
    refine List.Pairwise.imp_of_mem (R := fun i j : Nat => i ≠ j) ?_ List.nodup_range
    intro i j hi hj ne e
    have hi := List.mem_range.mp hi
    have hj := List.mem_range.mp hj
    have e := congrArg (fun l => l[a]?) (tx_inj e)
    simp only [nameAt_get ha] at e
    have e : 97 + (f + s * i) % 26 = 97 + (f + s * j) % 26 := Option.some.inj e
    exact ne (step_inj (f := f) hs (by omega) (by omega) (by omega))
  · obtain ⟨k, _, rfl⟩ := List.mem_map.mp hx
    exact nameAt_ok ha hb hc
theorem names_cut {bl : List Nat} {a f s m j : Nat} {c : Int} (ha : a < bl.length) (hb : bl.length ≤ 8) (hc : ∀ x, x ∈ bl → 97 ≤ x ∧ x ≤ 122) (hs : stepOk s) (hm : m ≤ 18) (h0 : 0 < a) : NamesOk m (((List.range m).map fun k => tx (nameAt bl a f s c k)).set j (tx (bl.take a))) := by
  have N := names_drawn (f := f) (c := c) ha hb hc hs hm
  have new : tx (bl.take a) ∉ (List.range m).map fun k => tx (nameAt bl a f s c k) := fun hx => by
    obtain ⟨k, _, e⟩ := List.mem_map.mp hx
    have e := congrArg (fun l => l[a]?) (tx_inj e)
    simp only [nameAt_get ha] at e
    rw [List.getElem?_eq_none (by simp; omega)] at e
    cases e
  refine ⟨by simp, ?_, fun x hx => ?_⟩
  · have nd := N.nd
    rw [List.nodup_iff_pairwise_ne, List.pairwise_iff_getElem] at nd ⊢
    intro i i' hi hi' lt
    rw [List.length_set] at hi hi'
    rw [List.getElem_set, List.getElem_set]
    split
    · split
      · omega
      · exact fun e => new (e ▸ List.getElem_mem hi')
    · split
      · exact fun e => new (e ▸ List.getElem_mem hi)
      · exact nd i i' hi hi' lt
  · rcases List.mem_or_eq_of_mem_set hx with h | h
    · exact N.ok x h
    · subst h
      unfold nameOk
      rw [tx_len, tx_list]
      simp only [Bool.and_eq_true, decide_eq_true_eq, List.all_eq_true]
      refine ⟨⟨by simp; omega, by simp; omega⟩, fun x hx => hc x (List.mem_of_mem_take hx)⟩
theorem abc_get (i : Nat) (h : i < 26) : ("abcdefghijklmnopqrstuvwxyz" : Str).cps.toList[i]? = some (97 + i) := by
  have : ∀ i : Fin 26, ("abcdefghijklmnopqrstuvwxyz" : Str).cps.toList[i.1]? = some (97 + i.1) := by decide +kernel
  exact this ⟨i, h⟩
end DL
namespace DL
open PySem PySem.Spec PyProof.Rows L2
section
variable {X : Cx} {e : Expr} {dl : List Sl} {mu : List MO} {Φ : DK} {ε : XP} {pos p q : Pos} {x y : Str} {j k : Nat}
theorem we_draw (c : Cal X.prog X.w X.K X.mg X.base x k [] sp_law_draw) (hr : RoomG j X.A) (hk : k ≤ j) (i : Nat) (hd : dl[i]? = some (some (.own 0))) (h : WE X e dl mu (fun d m => ∃ (b : Int) (n : Nat) (ms : List MO), d = .int b ∧ m = .pen n :: ms ∧ 1 ≤ b ∧ b < 1073741824 ∧ n ≤ 2 ^ 40 ∧ ∀ r : Int, 0 ≤ r → r < b → Φ (.int r) (.pen (n + 1) :: ms)) ε)
    (hN : X.N[i]? = some y := by rfl) (hv : Vis X.env.scope y := by first | exact Or.inl rfl | exact Or.inr (Or.inl rfl) | exact Or.inr (Or.inr rfl)) (h1 : (y == ("__debug__" : Str)) = false := by decide) (h2 : (y == ("__classdict__" : Str)) = false := by decide) (hg : Gl X x := by rfl) (hdb : (x == ("__debug__" : Str)) = false := by decide)
    (he : starEach [.Name y q, e] X.env = (false, eval (.Name y q) X.env) :: starEach [e] X.env := by rfl) (he2 : starEach [e] X.env = (false, eval e X.env) :: starEach [] X.env := by rfl) (hpl : (backTo pos (starEach [e] X.env)).any (·.1) = false := by rfl) : WE X (.Call (.Name x p) [.Name y q, e] [] pos) dl mu Φ ε :=
  we_call c 1 hr hk (wa_cons (we_name i hd (wa_cons (h.imp fun d m ⟨b, n, ms, e1, e2, b1, b2, n1, kk⟩ => by
    subst e1 e2
    exact wa_nil ⟨by simp, rfl, rfl, b, n, rfl, rfl, b1, b2, n1, fun r r0 r1 => kk r r0 r1⟩) he2) hN hv h1 h2) he) hg hdb he hpl
theorem we_pick (c : Cal X.prog X.w X.K X.mg X.base x k [] sp_law_pick) (hr : RoomG j X.A) (hk : k ≤ j) (i : Nat) (hd : dl[i]? = some (some (.own 0))) (h : WE X e dl mu (fun d m => ∃ (L n : Nat) (ms : List MO), pkL d = some L ∧ noOwn d = true ∧ m = .pen n :: ms ∧ 1 ≤ L ∧ L < 1073741824 ∧ n ≤ 2 ^ 40 ∧ ∀ r z, r < L → pickD d r = some z → Φ z (.pen (n + 1) :: ms)) ε)
    (hN : X.N[i]? = some y := by rfl) (hv : Vis X.env.scope y := by first | exact Or.inl rfl | exact Or.inr (Or.inl rfl) | exact Or.inr (Or.inr rfl)) (h1 : (y == ("__debug__" : Str)) = false := by decide) (h2 : (y == ("__classdict__" : Str)) = false := by decide) (hg : Gl X x := by rfl) (hdb : (x == ("__debug__" : Str)) = false := by decide)
    (he : starEach [.Name y q, e] X.env = (false, eval (.Name y q) X.env) :: starEach [e] X.env := by rfl) (he2 : starEach [e] X.env = (false, eval e X.env) :: starEach [] X.env := by rfl) (hpl : (backTo pos (starEach [e] X.env)).any (·.1) = false := by rfl) : WE X (.Call (.Name x p) [.Name y q, e] [] pos) dl mu Φ ε :=
  we_call c 1 hr hk (wa_cons (we_name i hd (wa_cons (h.imp fun d m ⟨L, n, ms, e1, no, e2, b1, b2, n1, kk⟩ => by
    subst e2
    have o1 : ownLt 1 d = true := ownLt_up no
    exact wa_nil ⟨by simp, rfl, (by show (true && (ownLt 1 d && true)) = true; rw [o1]; rfl), d, L, n, rfl, rfl, e1, b1, b2, n1, fun r z r1 hz => ⟨pick_own no hz, kk r z r1 hz⟩⟩) he2) hN hv h1 h2) he) hg hdb he hpl
end
end DL
namespace DL
open PySem PySem.Spec PyProof.Rows L2
theorem noOwns_strs {n : Nat} : ∀ {ns : List Str}, ownLts n (ns.map D.str) = true
  | [] => rfl
  | _ :: r => by simp only [List.map_cons, ownLts, noOwns_strs (ns := r)]; rfl
theorem noOwns_ints {n : Nat} : ∀ {ns : List Int}, ownLts n (ns.map D.int) = true
  | [] => rfl
  | _ :: r => by simp only [List.map_cons, ownLts, noOwns_ints (ns := r)]; rfl
theorem sum_ones : ∀ cs : List Nat, ((cs.map fun c => (⟨#[c]⟩ : Str)).map (·.length)).sum = cs.length
  | [] => rfl
  | c :: r => by
    simp only [List.map_cons, List.sum_cons, List.length_cons, sum_ones r]
    show 1 + r.length = _
    omega
end DL
namespace DL
open PySem PySem.Spec PyProof.Rows L2
mutual
def meltD (k : Nat) (c : D) : D → D
  | .lst xs => .lst (meltDs k c xs)
  | .tup xs => .tup (meltDs k c xs)
  | .dct kvs => .dct (meltDk k c kvs)
  | .obj C fs => .obj C (meltDf k c fs)
  | .exn C fs => .exn C (meltDf k c fs)
  | .own j => if j = k then c else .own j
  | d => d
def meltDs (k : Nat) (c : D) : List D → List D
  | [] => []
  | x :: xs => meltD k c x :: meltDs k c xs
def meltDk (k : Nat) (c : D) : List (Key × D) → List (Key × D)
  | [] => []
  | (j, x) :: xs => (j, meltD k c x) :: meltDk k c xs
def meltDf (k : Nat) (c : D) : List (Str × D) → List (Str × D)
  | [] => []
  | (j, x) :: xs => (j, meltD k c x) :: meltDf k c xs
end
def meltM (k : Nat) (c : D) : MO → MO
  | .lst xs => .lst (meltDs k c xs)
  | .dct kvs => .dct (meltDk k c kvs)
  | .ins C fs => .ins C (meltDf k c fs)
  | m => m
section
variable {K : PySem.W.Frag} {F : Hp} {as : List Addr} {k : Nat} {c : D}
mutual
theorem Rp.sub (hc : ∀ v, Rp K F as (.own k) v → Rp K F as c v) : ∀ (d : D) (v : V), Rp K F as d v → Rp K F as (meltD k c d) v
  | .non, _, h => h
  | .bl _, _, h => h
  | .int _, _, h => h
  | .str _, _, h => h
  | .lst xs, _, ⟨a, vs, h1, h2, h3⟩ => ⟨a, vs, h1, h2, RpL.sub hc xs vs h3⟩
  | .tup xs, _, ⟨a, vs, h1, h2, h3⟩ => ⟨a, vs, h1, h2, RpL.sub hc xs vs h3⟩
  | .dct kvs, _, ⟨a, o, ws, h1, h2, h3⟩ => ⟨a, o, ws, h1, h2, RpK.sub hc kvs ws h3⟩
  | .obj _ fs, _, ⟨a, dx, ws, h1, h2, h3⟩ => ⟨a, dx, ws, h1, h2, RpF.sub hc fs ws h3⟩
  | .own j, v, h => by
    show Rp K F as (if j = k then c else .own j) v
    by_cases e : j = k
    · rw [if_pos e]; subst e; exact hc v h
    · rw [if_neg e]; exact h
  | .val _, _, h => h
  | .scr _, _, h => h
  | .exn _ fs, _, ⟨a, d, ws, h1, h2, h3, h4, h5⟩ => ⟨a, d, ws, h1, h2, h3, fun e => by have := h4 e; exact this, RpF.sub hc fs ws h5⟩
theorem RpL.sub (hc : ∀ v, Rp K F as (.own k) v → Rp K F as c v) : ∀ (ds : List D) (vs : List V), RpL K F as ds vs → RpL K F as (meltDs k c ds) vs
  | [], _, h => h
  | x :: xs, _, ⟨v, r, h1, h2, h3⟩ => ⟨v, r, h1, Rp.sub hc x v h2, RpL.sub hc xs r h3⟩
theorem RpK.sub (hc : ∀ v, Rp K F as (.own k) v → Rp K F as c v) : ∀ (ds : List (Key × D)) (vs : List (Key × V)), RpK K F as ds vs → RpK K F as (meltDk k c ds) vs
  | [], _, h => h
  | (_, x) :: xs, _, ⟨v, r, h1, h2, h3⟩ => ⟨v, r, h1, Rp.sub hc x v h2, RpK.sub hc xs r h3⟩
theorem RpF.sub (hc : ∀ v, Rp K F as (.own k) v → Rp K F as c v) : ∀ (ds : List (Str × D)) (vs : List (Str × V)), RpF K F as ds vs → RpF K F as (meltDf k c ds) vs
  | [], _, h => h
  | (_, x) :: xs, _, ⟨v, r, h1, h2, h3⟩ => ⟨v, r, h1, Rp.sub hc x v h2, RpF.sub hc xs r h3⟩
end
theorem MOk.sub {H : Hp} {a : Addr} (hc : ∀ v, Rp K F as (.own k) v → Rp K F as c v) : ∀ {m : MO}, MOk K F as H a m → MOk K F as H a (meltM k c m)
  | .lst xs, ⟨vs, h1, h2⟩ => ⟨vs, h1, RpL.sub hc _ _ h2⟩
  | .dct kvs, ⟨ws, h1, h2⟩ => ⟨ws, h1, RpK.sub hc _ _ h2⟩
  | .ins C fs, ⟨dx, ws, h1, h2⟩ => ⟨dx, ws, h1, RpF.sub hc _ _ h2⟩
  | .pen _, h => h
  | .gone, h => h
end
theorem meltM_live (k : Nat) (c : D) : ∀ m : MO, (meltM k c m).live = m.live
  | .lst _ => rfl
  | .dct _ => rfl
  | .ins _ _ => rfl
  | .pen _ => rfl
  | .gone => rfl
theorem Hs.sub {K : PySem.W.Frag} {R F H : Hp} {as : List Addr} {mu : List MO} {k : Nat} {c : D} (h : Hs K R F as mu H) (hc : ∀ v, Rp K F as (.own k) v → Rp K F as c v) : Hs K R F as (mu.map (meltM k c)) H where
  er := h.er
  fr := h.fr
  frF := h.frF
  frA := h.frA
  ln := by rw [List.length_map]; exact h.ln
  nd i j a m n e1 e2 e3 e4 l1 l2 := by
    rw [List.getElem?_map] at e3 e4
    obtain ⟨m', q1, rfl⟩ := Option.map_eq_some_iff.mp e3
    obtain ⟨n', q2, rfl⟩ := Option.map_eq_some_iff.mp e4
    rw [meltM_live] at l1 l2
    exact h.nd i j a m' n' e1 e2 q1 q2 l1 l2
  sep i a m e1 e2 l := by
    rw [List.getElem?_map] at e2
    obtain ⟨m', q1, rfl⟩ := Option.map_eq_some_iff.mp e2
    rw [meltM_live] at l
    exact h.sep i a m' e1 q1 l
  ct i a m e1 e2 := by
    rw [List.getElem?_map] at e2
    obtain ⟨m', q1, rfl⟩ := Option.map_eq_some_iff.mp e2
    exact (h.ct i a m' e1 q1).sub hc
  tb := h.tb
  nt := h.nt
section
variable {X : Cx} {e elt tg it : Expr} {es : List Expr} {dl : List Sl} {mu : List MO} {Φ : DK} {ε : XP}
theorem WE.melt (k : Nat) (h : WE X e dl mu (fun x m => ∃ mo, m[k]? = some mo ∧ mo.cold ∧ Φ (meltD k mo.fz x) ((m.map (meltM k mo.fz)).set k .gone)) ε) : WE X e dl mu Φ ε := .mk fun W R F as σ H Q tk hs ha kk kx => by
  refine SE.lock (h W R F as σ H (fun v H' => Q v H' ∨ ∃ a u, H' a = some u ∧ Mut (some u) ∧ ∀ od, Q v (upd H' a (.frz od u))) tk hs ha (fun v y m F' as' H' q e1 e2 hs' r => ?_) kx) fun v H' q => q
  obtain ⟨mo, em, hc, q⟩ := q
  have hk : k < m.length := (List.getElem?_eq_some_iff.mp em).1
  obtain ⟨a, ea⟩ : ∃ a, as'[k]? = some a := ⟨_, List.getElem?_eq_getElem (by rw [hs'.ln]; exact hk)⟩
  have fin : ∀ {F2 H2 : Hp} (g2 : Er F' F2) (hs2 : Hs X.K R F2 as' (m.set k .gone) H2) (hv : ∀ v, Rp X.K F2 as' (.own k) v → Rp X.K F2 as' mo.fz v), Q v H2 := fun {F2 H2} g2 hs2 hv => by
    have h3 := hs2.sub hv
    rw [List.map_set] at h3
    exact kk v _ _ F2 as' H2 q (e1.trans g2) e2 h3 (Rp.sub hv _ _ (Rp.mono g2 (List.prefix_refl _) _ _ r))
  cases mo with
  | lst xs =>
    obtain ⟨vs, q1, q2⟩ := hs'.ct k a _ ea em
    obtain ⟨g1, g2⟩ := hs'.freeze ea em rfl q1
    exact .inl (fin g2 g1 fun v ⟨b, eb, e⟩ => by rw [ea] at eb; cases eb; exact ⟨a, vs, e, upd_same, RpL.mono g2 (List.prefix_refl _) _ _ q2⟩)
  | ins C fs =>
    obtain ⟨dx, vs, q1, q2⟩ := hs'.ct k a _ ea em
    obtain ⟨g1, g2⟩ := hs'.freeze ea em rfl q1
    exact .inl (fin g2 g1 fun v ⟨b, eb, e⟩ => by rw [ea] at eb; cases eb; exact ⟨a, dx, vs, e, upd_same, RpF.mono g2 (List.prefix_refl _) _ _ q2⟩)
  | dct kvs =>
    obtain ⟨ws, q1, q2⟩ := hs'.ct k a _ ea em
    refine .inr ⟨a, _, q1, trivial, fun od => ?_⟩
    obtain ⟨g1, g2⟩ := hs'.freezeAs (o := .frz od (.dK ws)) ea em rfl
    exact fin g2 g1 fun v ⟨b, eb, e⟩ => by rw [ea] at eb; cases eb; exact ⟨a, od, ws, e, upd_same, RpK.mono g2 (List.prefix_refl _) _ _ q2⟩
  | pen n => exact hc.elim
  | gone => exact hc.elim
theorem lcM {α : Type} {is : List Nat} {ifs : List Expr} {scope : Scope} {own : List (Str × Nat)} {Φ : List D → List MO → Prop} (h : WIt X tg it dl mu (fun ys m => ∃ (l : List α) (g : α → Yd) (t : α → Bool) (f : α → D), ys = l.map g ∧ l.length ≤ sizeLine ∧
      (∀ a, a ∈ l → Blocks X scope fun B => WG B tg is (g a) (wipeD dl (own.map (·.2))) m (fun dl2 m2 => m2 = m ∧ Blocks X scope fun B => WTs B ifs dl2 m (fun b m3 => m3 = m ∧ b = t a ∧ (b = true → Blocks X scope fun B => WE B elt dl2 m (fun z m4 => m4 = m ∧ z = f a) X0)))) ∧
      Φ ((l.filter t).map f) m) ε) : LcOk X elt tg it is ifs scope own dl mu Φ ε := WIt.imp h fun ys m ⟨l, g, t, f, ey, hl, ht, q⟩ => by
  subst ey
  refine ⟨by rw [List.length_map]; exact hl, fun pre post acc m' => m' = m ∧ ∃ l1 l2, l = l1 ++ l2 ∧ pre = l1.map g ∧ post = l2.map g ∧ acc = (l1.filter t).map f, ⟨rfl, [], l, rfl, rfl, rfl, rfl⟩, ?_, ?_⟩
  · rintro pre y post acc m' he ⟨rfl, l1, l2, rfl, rfl, hp, rfl⟩
    cases l2 with
    | nil => cases hp
    | cons a l2 =>
      cases hp
      have step : ∀ b : Bool, b = t a → (l1 ++ a :: l2) = (l1 ++ [a]) ++ l2 := fun _ _ => by simp
      intro s0 H0 C cl fp
      refine .mk fun R F as σ H v Q hs hat yo k => ht a (by simp) s0 H0 C cl fp R F as σ H v Q hs hat yo fun dl' mu' F' as' σ' H' ⟨hm, hb⟩ e1 e2 hs' ha' st => ?_
      subst hm
      refine k dl' _ F' as' σ' H' ?_ e1 e2 hs' ha' st
      intro s1 H1 C1 cl1 fp1
      refine .mk fun R3 F3 as3 σ3 H3 Q3 hs3 hat3 k3 => hb s1 H1 C1 cl1 fp1 R3 F3 as3 σ3 H3 Q3 hs3 hat3 fun b m3 F4 as4 H4 pq e3 e4 hs4 => ?_
      obtain ⟨em, eb, hz⟩ := pq
      rw [em] at hs4
      refine k3 b _ F4 as4 H4 ⟨fun hbt => ?_, fun hbf => ?_⟩ e3 e4 hs4
      · intro s2 H2 C2 cl2 fp2
        refine WE.imp (hz hbt s2 H2 C2 cl2 fp2) fun z m4 ⟨e4, ez⟩ => ?_
        subst e4 ez
        refine ⟨rfl, l1 ++ [a], l2, by simp, by simp, rfl, ?_⟩
        rw [List.filter_append, List.filter_cons, if_pos (by rw [← eb]; exact hbt)]
        simp
      · refine ⟨rfl, l1 ++ [a], l2, by simp, by simp, rfl, ?_⟩
        rw [List.filter_append, List.filter_cons, if_neg (by rw [← eb, hbf]; exact Bool.false_ne_true)]
        simp
  · rintro acc m' ⟨rfl, l1, l2, rfl, h1, h2, rfl⟩
    have : l2 = [] := by
      have := congrArg List.length h1
      simp at this
      exact this
    subst this
    rw [List.append_nil] at q
    exact q
end
end DL
namespace DL
open PySem PySem.Spec PyProof.Rows L2
theorem one_int {ns : List Int} {i : Int} {p : Int → Bool} (h0 : 0 ≤ i) (h1 : i < ns.length) (hp : ns.all p = true) : ∃ v : Int, L2.atI (ns.map D.int) i = some (.int v) ∧ p v = true := by
  have hi : i.toNat < ns.length := by omega
  refine ⟨ns[i.toNat], atI_pos h0 (by rw [List.getElem?_map, List.getElem?_eq_getElem hi]; rfl), List.all_eq_true.mp hp _ (List.getElem_mem hi)⟩
structure Row where
  room : Str
  least : Int
  most : Option Int
def optD : Option Int → D
  | none => .non
  | some i => .int i
def Row.d (r : Row) : D := .tup [.str r.room, .int r.least, optD r.most]
structure Row.Ok (r : Row) : Prop where
  l0 : 0 ≤ r.least
  l1 : r.least ≤ 9999999
  m0 : ∀ t, r.most = some t → r.least ≤ t ∧ t ≤ 9999999
def sp_law_heft : SpD := fun args mu Φ _ => ∃ n : Nat, args = [.own 0] ∧ mu = [.pen n] ∧ n ≤ 2 ^ 40 ∧ ∀ h : Int, 0 ≤ h → h ≤ 9999999 → Φ (.int h) [.pen (n + 1)]
def sp_law_rows : SpD := fun args mu Φ _ => ∃ (rooms : List Str) (hefts : List Int) (n : Nat), args = [.own 0, .lst (rooms.map .str), .lst (hefts.map .int)] ∧ mu = [.pen n] ∧ (∀ h, h ∈ hefts → 0 ≤ h) ∧ hefts.length ≤ 1000 ∧ rooms.length ≤ 1000 ∧ n + 4 * rooms.length ≤ 2 ^ 40 ∧
  ∀ rows : List Row, (rows.map (·.room)).Sublist rooms → rows.length ≤ 4 → (∀ r, r ∈ rows → r.Ok) → Φ (.tup (rows.map Row.d)) [.pen (n + 4 * rooms.length)]
theorem sum_nn : ∀ {ns : List Int}, (∀ h, h ∈ ns → 0 ≤ h) → 0 ≤ ns.sum
  | [], _ => by simp
  | n :: ns, h => by
    have h1 := h n (by simp)
    have h2 := sum_nn (ns := ns) fun x hx => h x (by simp [hx])
    simp only [List.sum_cons]
    omega
theorem noOwns_rows {n : Nat} (rows : List Row) : ownLts n (rows.map Row.d) = true := ownLts_map fun r => by
  show (ownLt n (.str r.room) && (ownLt n (.int r.least) && (ownLt n (optD r.most) && true))) = true
  cases r.most <;> rfl
end DL
namespace DL
open PySem PySem.Spec PyProof.Rows L2
section
variable {X : Cx} {e o k f : Expr} {es : List Expr} {st : List Stmt} {dl : List Sl} {mu : List MO} {Φ : DK} {ε : XP} {Ψ : DEnds} {pos p apos cpos : Pos} {x : Str}
def meltS (k : Nat) (c : D) (dl : List Sl) : List Sl := dl.map (·.map (meltD k c))
theorem At.melt {K : PySem.W.Frag} {F : Hp} {as : List Addr} {σ : L2.St} {k : Nat} {c : D} (h : At K F as dl σ) (hc : ∀ v, Rp K F as (.own k) v → Rp K F as c v) : At K F as (meltS k c dl) σ := by
  refine ⟨by unfold meltS; rw [List.length_map]; exact h.1, fun i d q => ?_⟩
  unfold meltS at q
  rw [List.getElem?_map] at q
  obtain ⟨s, q1, q2⟩ := Option.map_eq_some_iff.mp q
  obtain ⟨d', rfl, rfl⟩ := Option.map_eq_some_iff.mp q2
  obtain ⟨v, v1, v2⟩ := h.2 i d' q1
  exact ⟨v, v1, Rp.sub hc _ _ v2⟩
theorem SSs.lock {E : Ends} {σ : L2.St} {H : Hp} {a : Addr} {u : HO} (h1 : H a = some u) (h2 : Mut (some u)) (h : ∀ od, SSs X st E σ (upd H a (.frz od u))) : SSs X st E σ H := fun pins s I => by
  obtain ⟨od, I2⟩ := I.lock h1 h2
  exact h od pins s I2
theorem WSs.melt (k : Nat) {mo : MO} (em : mu[k]? = some mo) (hc : mo.cold) (h : WSs X st (meltS k mo.fz dl) ((mu.map (meltM k mo.fz)).set k .gone) Ψ) : WSs X st dl mu Ψ := .mk fun W R F as σ H E tk hs ha kk => by
  have hk : k < mu.length := (List.getElem?_eq_some_iff.mp em).1
  obtain ⟨a, ea⟩ : ∃ a, as[k]? = some a := ⟨_, List.getElem?_eq_getElem (by rw [hs.ln]; exact hk)⟩
  have fin : ∀ {F2 H2 : Hp} (g2 : Er F F2) (hs2 : Hs X.K R F2 as (mu.set k .gone) H2) (hv : ∀ v, Rp X.K F2 as (.own k) v → Rp X.K F2 as mo.fz v), SSs X st E σ H2 := fun {F2 H2} g2 hs2 hv => by
    have h3 := hs2.sub hv
    rw [List.map_set] at h3
    exact h W R F2 as σ H2 E tk h3 ((ha.mono g2 (List.prefix_refl _)).melt hv) (kk.go g2 (List.prefix_refl _))
  cases mo with
  | lst xs =>
    obtain ⟨vs, q1, q2⟩ := hs.ct k a _ ea em
    obtain ⟨g1, g2⟩ := hs.freeze ea em rfl q1
    exact fin g2 g1 fun v ⟨b, eb, e⟩ => by rw [ea] at eb; cases eb; exact ⟨a, vs, e, upd_same, RpL.mono g2 (List.prefix_refl _) _ _ q2⟩
  | ins C fs =>
    obtain ⟨dx, vs, q1, q2⟩ := hs.ct k a _ ea em
    obtain ⟨g1, g2⟩ := hs.freeze ea em rfl q1
    exact fin g2 g1 fun v ⟨b, eb, e⟩ => by rw [ea] at eb; cases eb; exact ⟨a, dx, vs, e, upd_same, RpF.mono g2 (List.prefix_refl _) _ _ q2⟩
  | dct kvs =>
    obtain ⟨ws, q1, q2⟩ := hs.ct k a _ ea em
    refine SSs.lock q1 trivial fun od => ?_
    obtain ⟨g1, g2⟩ := hs.freezeAs (o := .frz od (.dK ws)) ea em rfl
    exact fin g2 g1 fun v ⟨b, eb, e⟩ => by rw [ea] at eb; cases eb; exact ⟨a, od, ws, e, upd_same, RpK.mono g2 (List.prefix_refl _) _ _ q2⟩
  | pen n => exact hc.elim
  | gone => exact hc.elim
theorem we_get2 (hu : X.A.units + 1 < cLine) (h : WE X o dl mu (fun d m => (∃ kvs, rdD m d = .dct kvs) ∧ WE X e dl m (fun y m1 => WE X f dl m1 (fun z m2 => ∃ kvs q, rdD m2 d = .dct kvs ∧ keyD y = some q ∧ Φ ((gval kvs q).getD z) m2) ε) ε) ε) (m : M2 X o "get" apos e f cpos := by exact ⟨rfl, rfl, rfl, rfl⟩) :
    WE X (.Call (.Attribute o "get" apos) [e, f] [] cpos) dl mu Φ ε := .mk fun W R F as σ H Q tk hs ha k kx => by
  refine SE.by (pe_dget2 hu SE.pe SE.pe SE.pe m) (h.then tk hs ha kx fun v d m F1 as1 H1 q e1 e2 hs1 ha1 r1 kx1 => ?_)
  have isD : ∃ a, v = .ref a ∧ IsD H1 a := by
    obtain ⟨⟨kvs, hd⟩, _⟩ := q
    have w := hs1.view r1
    rw [hd] at w
    obtain ⟨a, ws, rfl, h1, _⟩ := w
    exact ⟨a, rfl, .inl ⟨ws, h1⟩⟩
  obtain ⟨a, rfl, hd⟩ := isD
  refine ⟨a, rfl, hd, q.2.then tk hs1 ha1 kx1 fun w y m2 F2 as2 H2 q2 f1 f2 hs2 ha2 r2 kx2 => q2.then tk hs2 ha2 kx2 fun u z m3 F3 as3 H3 ⟨kvs, qk, d2, ky, φ⟩ g1 g2 hs3 ha3 r3 kx3 => ?_⟩
  have w3 := hs3.view (Rp.mono (f1.trans g1) (f2.trans g2) _ _ r1)
  rw [d2] at w3
  obtain ⟨b, ws, eb, h1, h2⟩ := w3
  cases eb
  obtain rfl := keyD.v ky r2
  refine ⟨valV ws qk, ?_, ?_⟩
  · exact .inl ⟨ws, qk, h1, rfl, rfl⟩
  obtain ⟨v1, v2⟩ := h2.val qk
  cases eg : gval kvs qk with
  | none => rw [eg] at φ; rw [v2 eg]; exact k _ _ m3 F3 as3 H3 φ ((e1.trans f1).trans g1) ((e2.trans f2).trans g2) hs3 r3
  | some dd =>
    rw [eg] at φ
    obtain ⟨vv, z1, z2⟩ := v1 dd eg
    rw [z1]; exact k _ _ m3 F3 as3 H3 φ ((e1.trans f1).trans g1) ((e2.trans f2).trans g2) hs3 z2
end
end DL
namespace DL
open PySem PySem.Spec PyProof.Rows L2 PySem.Calls
theorem strs_of {ks : List Str} : ∀ {vs : List Value}, vs.length = ks.length → (∀ (j : Nat) (v : Value), vs[j]? = some v → ∃ k t, ks[j]? = some k ∧ v = Value.str k t) → StrsAre vs ks := by
  induction ks with
  | nil => intro vs hl _; cases vs with
    | nil => exact StrsAre.nil
    | cons => simp at hl
  | cons k ks ih =>
    intro vs hl hv
    cases vs with
    | nil => simp at hl
    | cons v vs =>
      obtain ⟨k', t, e1, rfl⟩ := hv 0 v rfl
      cases e1
      exact StrsAre.cons k t (ih (by simpa using hl) fun j u hu => by simpa using hv (j + 1) u (by simpa using hu))
section
variable {X : Cx} {pins : List (Addr × Obj)} {σ : L2.St} {H : Hp} {s : Shared} {Q : VK}
theorem src_sortedS {T : String} {r d n : Nat} {P : Nat → Value → Prop} {OK : Heap → Prop} (K : PySem.W.KdlSrc X.prog X.w T r d n P OK) (hc : X.calm = true) (I : Inv X pins σ H s) (hok : OK s.heap) {ks : List Str} (hn : n = ks.length) (hl : ks.length ≤ sizeLine) (hP : ∀ (i : Nat) (v : Value), P i v → ∃ k t, ks[i]? = some k ∧ v = Value.str k t)
    (q : ∀ (ys : List Str) (p : Addr), ys.Perm ks → sortedS ys = true → H p = none → Q (.ref p) (upd H p (.lst (ys.map V.str)))) : wpAny (model X.prog X.w) X.A (call (.builtin "sorted") [.ref r]) (EP X pins σ Q) X.xe s := by
  refine call_function_entry kind_sorted plain_sorted entry_sorted (args_sorted1 _) ?_
  unfold Builtin.«sorted»
  refine wpAny_bind (m := checkCount "sorted" 1 1 _) (wpAny_pure ?_)
  refine wpAny_bind (PySem.W.kdu_collect (A := X.A.in1) K (I.ok.hd hc) hok (by rw [hn]; exact hl) fun h' tk acc hk hacc => ?_)
  have hla : acc.toList.length = ks.length := by rw [Array.length_toList, ← hn]; exact hacc.1
  have hS : StrsAre acc.toList ks := strs_of hla fun j v e => hP j v (hacc.2 j v (by rw [← Array.getElem?_toList]; exact e))
  refine wpAny_bind (wpAny_newList ?_ (by rw [hla]; exact hl))
  have ho : (h'.push (seqObj "list" acc.toList.toArray 0)).get? h'.objs.size = some (seqObj "list" acc.toList.toArray 0) := Heap.get?_push_size _ rfl
  have I1 : Inv X pins σ H { s with heap := h', toks := tk } := I.kept hk
  refine wpAny_bind (wpAny_holding (wpAny_call_entry PyProof.Rows.slot_list_sort ⟨_, ho, rfl⟩ PyProof.Rows.entry_list_sort
    (list_sort_treeKAny strKind_oneLt ho hS.keysOf (fun v₁ v₂ rest e => keyKind_strs (by rw [← e]; exact hS)) (by rw [hla]; exact hl) fun st' hp hs => ?_) (PyProof.Rows.args_list_sort _)))
  obtain ⟨ys, g1, g2, g3⟩ := sorted_out_str hS hp hs
  obtain ⟨ep, he'⟩ := PyProof.Rows.sortedHeap_at (vs := acc.toList) (out := (arrOf st').map (·.2)) ho
  have hlen : (ys.map V.str).length ≤ sizeLine := by rw [List.length_map, g2.length_eq]; exact hl
  refine ⟨.none, rfl, wpAny_pure ⟨_, rfl, .ref h'.objs.size, upd H h'.objs.size (.lst (ys.map V.str)), ?_, rfl, q ys _ g2 g3 (I1.hok.fresh (Nat.le_refl _))⟩⟩
  refine I1.laid (t' := tk) (fun b o e => ?_) (Nat.le_refl _) ⟨hlen, ((arrOf st').map (·.2)).toList, ep, vals_of_strs g1, by rw [Array.toArray_toList]; exact he'⟩
  rw [PyProof.Rows.sortedHeap_old (Nat.ne_of_lt (Heap.lt_size e)) (Heap.lt_size (Heap.get?_push_of_some _ e))]
  exact Heap.get?_push_of_some _ e
end
theorem pair_get {α β : Type} {G : α → β → Prop} {l₁ : List α} {l₂ : List β} (h : Paired G l₁ l₂) : ∀ {i : Nat} {a : α}, l₁[i]? = some a → ∃ b, l₂[i]? = some b ∧ G a b := by
  induction h with
  | nil => intro i a e; simp at e
  | cons r _ ih =>
    intro i a e
    cases i with
    | zero => simp at e; subst e; exact ⟨_, rfl, r⟩
    | succ i => obtain ⟨b, e1, e2⟩ := ih (i := i) (by simpa using e); exact ⟨b, by simpa using e1, e2⟩
section
variable {X : Cx} {e o : Expr} {dl : List Sl} {mu : List MO} {Φ : MO → List MO → Prop} {ε : XP} {pos p p2 apos cpos : Pos} {x : Str}
theorem cf_sortedD {x : D} {kvs : List (Key × D)} {ks : List Str} (hc : X.calm = true) (hn : rdD mu x = .dct kvs) (hk : kvs.map (·.1) = ks.map .inr) (h : ∀ ys : List Str, ys.Perm ks → sortedS ys = true → Φ (.lst (ys.map .str)) mu) : WCfO X (.builtin "sorted") [x] mu Φ := .mk fun R F as H vs Q hs r k => by
  obtain ⟨v, rfl, r1⟩ := r.one
  have w := hs.view r1
  rw [hn] at w
  obtain ⟨a, ws, rfl, h1, h2⟩ := w
  intro pins s σ us I ru
  obtain ⟨u, rfl, ru1⟩ := vals1 ru
  cases ru1
  obtain ⟨z, lo, vs', kv, dd⟩ := dk_rd I.hok h1
  obtain ⟨ep, hat⟩ := dd.dictAt
  have hkeys : ws.map (·.1) = ks.map .inr := by rw [h2.keys]; exact hk
  have hlen : ks.length = vs'.length := by
    have e1 := congrArg List.length hkeys
    have e2 : ws.length = vs'.length := Paired.length kv
    simp at e1; omega
  refine src_sortedS (PySem.W.kdl_dict lo) hc I hat (ks := ks) hlen.symm (by have := congrArg List.length hkeys; simp at this; omega) (fun i v ⟨kk, xx, hx, hi⟩ => ?_) fun ys q g1 g2 hq => k.lst hs (h ys g1 g2) RpL.mapStr hq
  have hi2 : i < vs'.length := (List.getElem?_eq_some_iff.mp hx).1
  obtain ⟨kw, hw⟩ : ∃ kw, ws[i]? = some kw := ⟨_, List.getElem?_eq_getElem (by have : ws.length = vs'.length := Paired.length kv; omega)⟩
  have hkk : kw.1 = kk := by
    obtain ⟨b, e1, e2⟩ := pair_get kv hw
    rw [hx] at e1; cases e1; exact e2.1
  have e3 : (ws.map (·.1))[i]? = some kk := by rw [List.getElem?_map, hw]; exact congrArg some hkk
  rw [hkeys, List.getElem?_map] at e3
  obtain ⟨k0, e4, e5⟩ := Option.map_eq_some_iff.mp e3
  subst e5
  have hi' : keyIs (.inr k0) v = true := hi
  rcases keyIs_shape hi' with ⟨j, t, e, _⟩ | ⟨y, t, e, ev⟩
  · cases e
  · cases e; exact ⟨_, t, e4, ev⟩
end
end DL
namespace DL
open PySem PySem.Spec PyProof.Rows L2 PySem.Calls
section
variable {X : Cx} {e o : Expr} {dl : List Sl} {mu : List MO} {Φ : MO → List MO → Prop} {ε : XP} {pos p p2 apos cpos : Pos} {x : Str}
theorem vals_by {vs : List V} {us : List Value} (hl : us.length = vs.length) (h : ∀ (j : Nat) (v : Value), us[j]? = some v → ∃ w, vs[j]? = some w ∧ RelV w v) : Vals vs us := by
  induction vs generalizing us with
  | nil => cases us with
    | nil => exact .nil
    | cons => simp at hl
  | cons w vs ih =>
    cases us with
    | nil => simp at hl
    | cons u us =>
      obtain ⟨w', e1, r⟩ := h 0 u rfl
      cases e1
      exact .cons r (ih (by simpa using hl) fun j v hv => by simpa using h (j + 1) v (by simpa using hv))
theorem pe_listVals (hc : X.calm = true) (hg : Gl X x) (hm : X.mg x = none) (hv : bootBuiltins x = some (.type "list")) (hn : x ≠ "__name__") (hdb : (x == ("__debug__" : Str)) = false) (hbase : attributeBase o "values" X.env (eval o X.env) = eval o X.env) (hline : (apos.endLine == cpos.line) = true)
    (he : starEach [.Call (.Attribute o "values" apos) [] [] cpos] X.env = (false, eval (.Call (.Attribute o "values" apos) [] [] cpos) X.env) :: starEach [] X.env) (hpl : (backTo pos (starEach [] X.env)).any (·.1) = false) :
    PE X (.Call (.Name x p) [.Call (.Attribute o "values" apos) [] [] cpos] [] pos) (fun σ H Q => SE X o σ H fun y H1 => ∃ d kvs, y = .ref d ∧ Rd H1 d (.dK kvs) ∧ ∀ q, H1 q = none → Q (.ref q) (upd H1 q (.lst (kvs.map (·.2))))) := by
  refine ⟨fun pins s σ H Q I h => ?_⟩
  refine wpAny_Call_Name_kw (ld_blt I hg hm hv ?_ hn hdb)
  refine PyProof.Rows.callWith_type1 ?_ he hpl
  rw [he]
  refine spliced_cons (wpAny_Call_method (T := "dict") (id := "dict.values") hbase rfl hline F.plainAttrs_dict F.slot_dict_values F.type_dict_values (thn (SE.pe.run pins s σ H _ I h) fun u s1 ⟨y, H1, I1, ry, d, kvs, ey, hd, q⟩ => ?_))
  subst ey
  obtain rfl : u = Value.ref d := ry
  obtain ⟨z, lo, vs', kv, dd⟩ := dk_rd I1.hok hd
  obtain ⟨ep, hat⟩ := dd.dictAt
  have hlen : kvs.length = vs'.length := Paired.length kv
  refine ⟨dd.typeIs, dd.mapOf.noDict, ?_⟩
  have I2 : Inv X pins σ H1 { s1 with heap := s1.heap.push { cls := .type "dict_values", data := .fields #[.ref d] } } := I1.kept (t' := s1.toks) fun b ob q => Heap.get?_push_of_some _ q
  have fin : wpAny (model X.prog X.w) X.A (spliced (backTo pos (starEach [] X.env))) (fun vs s2 => wpAny (model X.prog X.w) X.A (call (.type "list") (.ref s1.heap.objs.size :: vs)) (EP X pins σ Q) X.xe s2) X.xe { s1 with heap := s1.heap.push { cls := .type "dict_values", data := .fields #[.ref d] } } := by
    refine spliced_nil ?_
    refine PySem.W.kdl_call (PySem.W.kdl_values (r := s1.heap.objs.size) (d := d) (knd := mixKind X.prog X.w) (kvs := vs') (ep := ep)) (I.ok.hd hc) ⟨⟨_, Heap.get?_push_size _ rfl, rfl, rfl⟩, hat.push _⟩ (by rw [← hlen]; exact z) fun h' tk acc c hk hD hacc => ?_
    have I3 : Inv X pins σ H1 { s1 with heap := h', toks := tk } := I2.kept hk
    refine ⟨.ref _, upd H1 _ (.lst (kvs.map (·.2))), I2.laid (t' := tk) hk (Nat.le_refl _) ⟨by rw [List.length_map]; exact z, acc.toList, c, vals_by (by rw [List.length_map, Array.length_toList, hlen]; exact hacc.1) fun j v hj => ?_, by simpa using hD⟩, rfl, q _ (I2.hok.fresh (Nat.le_refl _))⟩
    obtain ⟨kk, hx⟩ := hacc.2 j v (by rw [← Array.getElem?_toList]; exact hj)
    have hj2 : j < vs'.length := (List.getElem?_eq_some_iff.mp hx).1
    obtain ⟨kw, hw⟩ : ∃ kw, kvs[j]? = some kw := ⟨_, List.getElem?_eq_getElem (by omega)⟩
    obtain ⟨b, e1, e2⟩ := pair_get kv hw
    rw [hx] at e1; cases e1
    exact ⟨kw.2, by rw [List.getElem?_map, hw]; rfl, e2.2⟩
  show wpAny _ _ (callWith cpos (.builtin "dict.values") [.ref d] [] []) _ X.xe s1
  exact method_meetsIn F.slot_dict_values F.entry_dict_values rfl (PySem.evalArgs_none ⟨rfl, dd.typeIs, F.args_dict_values_1 _, _, meets_dict_values (mixKind X.prog X.w) d lo, ⟨vs', dd⟩, fin⟩)
theorem wo_listVals (hm : X.mg x = none) (h : WE X o dl mu (fun d m => ∃ kvs, rdD m d = .dct kvs ∧ Φ (.lst (kvs.map (·.2))) m) ε) (hc : X.calm = true := by rfl) (hg : Gl X x := by rfl) (hv : bootBuiltins x = some (.type "list") := by rfl) (hn : x ≠ "__name__" := by decide) (hdb : (x == ("__debug__" : Str)) = false := by decide)
    (hbase : attributeBase o "values" X.env (eval o X.env) = eval o X.env := by rfl) (hline : (apos.endLine == cpos.line) = true := by rfl)
    (he : starEach [.Call (.Attribute o "values" apos) [] [] cpos] X.env = (false, eval (.Call (.Attribute o "values" apos) [] [] cpos) X.env) :: starEach [] X.env := by rfl) (hpl : (backTo pos (starEach [] X.env)).any (·.1) = false := by rfl) : WO X (.Call (.Name x p) [.Call (.Attribute o "values" apos) [] [] cpos] [] pos) dl mu Φ ε := .mk fun W R F as σ H Q tk hs ha k kx =>
  SE.by (pe_listVals hc hg hm hv hn hdb hbase hline he hpl) (h.then tk hs ha kx fun v d m F' as' H' ⟨kvs, hd, φ⟩ e1 e2 hs' ha' r kx' => by
    have w := hs'.view r
    rw [hd] at w
    obtain ⟨a, ws, rfl, h1, h2⟩ := w
    exact ⟨a, ws, rfl, h1, fun q hq => (k.go e1 e2).lst hs' φ h2.vals hq⟩)
end
end DL
namespace DL
open PySem PySem.Spec PyProof.Rows L2
structure Wlk where
  name : Str
  heft : Int
  hands : Int
structure Door where
  name : Str
  one : Str
  other : Str
  way : Str
  rows : List Row
structure Hall where
  rooms : List Str
  doors : List Door
  stones : List (Str × Int)
  walkers : List Wlk
def Wlk.d (x : Wlk) : D := .tup [.str x.name, .int x.heft, .int x.hands]
def Door.d (x : Door) : D := .tup [.str x.one, .str x.other, .str x.way, .tup (x.rows.map Row.d)]
def doorsK (l : List Door) : List (Key × D) := l.map fun x => (.inr x.name, x.d)
def stonesK (l : List (Str × Int)) : List (Key × D) := l.map fun x => (.inr x.1, .int x.2)
def hallK (doors stones walkers : D) : List (Key × D) := [(.inr "doors", doors), (.inr "stones", stones), (.inr "walkers", walkers)]
def hallR (doors stones walkers rooms : D) : List (Key × D) := [(.inr "doors", doors), (.inr "stones", stones), (.inr "walkers", walkers), (.inr "rooms", rooms)]
def Hall.d (h : Hall) : D := .dct (hallR (.dct (doorsK h.doors)) (.dct (stonesK h.stones)) (.lst (h.walkers.map Wlk.d)) (.lst (h.rooms.map .str)))
structure Door.Ok (rooms : List Str) (x : Door) : Prop where
  one : x.one ∈ rooms
  other : x.other ∈ rooms
  ne : x.one ≠ x.other
  way : x.way = "both" ∨ x.way = "on"
  both : x.way = "both" → sortedS [x.one, x.other] = true
  rows : (x.rows.map (·.room)).Sublist rooms
  rows4 : x.rows.length ≤ 4
  rowsOk : ∀ r, r ∈ x.rows → r.Ok
structure Hall.Ok (s0 s1 s2 s3 : Nat) (h : Hall) : Prop where
  rooms : sortedS h.rooms = true
  rooms1 : 1 ≤ h.rooms.length
  rooms2 : h.rooms.length ≤ s0
  walkers1 : 1 ≤ h.walkers.length
  walkers2 : h.walkers.length ≤ s3
  stones : sortedS (h.stones.map (·.1)) = true
  stones2 : h.stones.length ≤ s2
  doors : sortedS (h.doors.map (·.name)) = true
  doors2 : h.doors.length ≤ s1
  doors0 : h.rooms.length ≤ 1 → h.doors = []
  nd : (h.rooms ++ h.walkers.map (·.name) ++ h.stones.map (·.1) ++ h.doors.map (·.name)).Nodup
  nm : ∀ x, x ∈ h.rooms ++ h.walkers.map (·.name) ++ h.stones.map (·.1) ++ h.doors.map (·.name) → nameOk x = true
  heft : ∀ x, x ∈ h.walkers → 0 ≤ x.heft ∧ x.heft ≤ 9999999
  hands : ∀ x, x ∈ h.walkers → x.hands ∈ [(0 : Int), 1, 2, 3, 9]
  heftS : ∀ x, x ∈ h.stones → 0 ≤ x.2 ∧ x.2 ≤ 9999999
  door : ∀ x, x ∈ h.doors → x.Ok h.rooms
def hallN (s0 s1 s2 s3 : Nat) : Nat := 4 + 2 * s3 + s2 + s1 * (3 + 4 * s0)
def sizeD (s0 s1 s2 s3 : Nat) : D := .tup [.int s0, .int s1, .int s2, .int s3]
def sp_law_hall_of : SpD := fun args mu Φ _ => ∃ (s0 s1 s2 s3 n : Nat) (names : List Str), args = [.own 0, .lst (names.map .str), sizeD s0 s1 s2 s3] ∧ mu = [.pen n] ∧ NamesOk (s0 + s1 + s2 + s3) names ∧ 1 ≤ s0 ∧ 1 ≤ s3 ∧ s0 + s1 + s2 + s3 ≤ 60 ∧ n + hallN s0 s1 s2 s3 ≤ 2 ^ 40 ∧ ∀ h : Hall, h.Ok s0 s1 s2 s3 → Φ h.d [.pen (n + hallN s0 s1 s2 s3)]
theorem hk1 : ¬ ((.inr "doors" : Key) = .inr "stones") := by decide +kernel
theorem hk2 : ¬ ((.inr "doors" : Key) = .inr "walkers") := by decide +kernel
theorem hk3 : ¬ ((.inr "doors" : Key) = .inr "rooms") := by decide +kernel
theorem hk4 : ¬ ((.inr "stones" : Key) = .inr "walkers") := by decide +kernel
theorem hk5 : ¬ ((.inr "stones" : Key) = .inr "rooms") := by decide +kernel
theorem hk6 : ¬ ((.inr "walkers" : Key) = .inr "rooms") := by decide +kernel
section
variable {d s w r : D}
theorem gmerge_hall : gmerge [] (hallK d s w) = hallK d s w := by
  simp only [gmerge, hallK, List.foldl_cons, List.foldl_nil, gput, List.any_nil, List.any_cons, List.nil_append, List.cons_append, decide_eq_false hk1, decide_eq_false hk2, decide_eq_false hk4, Bool.or_false, Bool.false_or, Bool.false_eq_true, if_false]
theorem gput_rooms : gput (hallK d s w) (.inr "rooms") r = hallR d s w r := by
  simp only [hallK, hallR, gput, List.any_nil, List.any_cons, List.nil_append, List.cons_append, decide_eq_false hk3, decide_eq_false hk5, decide_eq_false hk6, Bool.or_false, Bool.false_or, Bool.false_eq_true, if_false]
theorem hall_doors : gval (hallR d s w r) (.inr "doors") = some d := gval_pos rfl
theorem hall_stones : gval (hallR d s w r) (.inr "stones") = some s := (gval_neg hk1).trans (gval_pos rfl)
theorem hall_walkers : gval (hallR d s w r) (.inr "walkers") = some w := (gval_neg hk2).trans ((gval_neg hk4).trans (gval_pos rfl))
theorem hall_rooms : gval (hallR d s w r) (.inr "rooms") = some r := (gval_neg hk3).trans ((gval_neg hk5).trans ((gval_neg hk6).trans (gval_pos rfl)))
end
theorem gput_new {α : Type} {kvs : List (Key × α)} {k : Key} {v : α} (h : ∀ p, p ∈ kvs → p.1 ≠ k) : gput kvs k v = kvs ++ [(k, v)] := by
  unfold gput
  rw [if_neg]
  intro z
  obtain ⟨p, hp, e⟩ := List.any_eq_true.mp z
  exact h p hp (of_decide_eq_true e)
section
variable {k : Nat} {c : D}
mutual
theorem melt_id : ∀ {d : D}, ownLt 0 d = true → meltD k c d = d
  | .non, _ => rfl
  | .bl _, _ => rfl
  | .int _, _ => rfl
  | .str _, _ => rfl
  | .lst xs, h => by
    show D.lst (meltDs k c xs) = _
    rw [melts_id (by simpa [ownLt] using h)]
  | .tup xs, h => by
    show D.tup (meltDs k c xs) = _
    rw [melts_id (by simpa [ownLt] using h)]
  | .dct kvs, h => by
    show D.dct (meltDk k c kvs) = _
    rw [meltk_id (by simpa [ownLt] using h)]
  | .obj C fs, h => by
    show D.obj C (meltDf k c fs) = _
    rw [meltf_id (by simpa [ownLt] using h)]
  | .exn C fs, h => by
    show D.exn C (meltDf k c fs) = _
    rw [meltf_id (by simpa [ownLt] using h)]
  | .own j, h => by simp [ownLt] at h
  | .val _, _ => rfl
  | .scr _, _ => rfl
theorem melts_id : ∀ {xs : List D}, ownLts 0 xs = true → meltDs k c xs = xs
  | [], _ => rfl
  | x :: xs, h => by
    simp only [ownLts, Bool.and_eq_true] at h
    show meltD k c x :: meltDs k c xs = _
    rw [melt_id h.1, melts_id h.2]
theorem meltk_id : ∀ {xs : List (Key × D)}, ownLtK 0 xs = true → meltDk k c xs = xs
  | [], _ => rfl
  | (j, x) :: xs, h => by
    simp only [ownLtK, Bool.and_eq_true] at h
    show (j, meltD k c x) :: meltDk k c xs = _
    rw [melt_id h.1, meltk_id h.2]
theorem meltf_id : ∀ {xs : List (Str × D)}, ownLtF 0 xs = true → meltDf k c xs = xs
  | [], _ => rfl
  | (j, x) :: xs, h => by
    simp only [ownLtF, Bool.and_eq_true] at h
    show (j, meltD k c x) :: meltDf k c xs = _
    rw [melt_id h.1, meltf_id h.2]
end
end
theorem WSs.meltTo {X : Cx} {st : List Stmt} {dl dl' : List Sl} {mu mu' : List MO} {Ψ : DEnds} (k : Nat) {mo : MO} (em : mu[k]? = some mo) (hc : mo.cold) (h1 : meltS k mo.fz dl = dl') (h2 : (mu.map (meltM k mo.fz)).set k .gone = mu') (h : WSs X st dl' mu' Ψ) : WSs X st dl mu Ψ := by
  subst h1 h2
  exact WSs.melt k em hc h
theorem noOwnK_map {α : Type} {f : α → Key × D} {n : Nat} (h : ∀ a, ownLt n (f a).2 = true) : ∀ {l : List α}, ownLtK n (l.map f) = true
  | [] => rfl
  | a :: l => by
    show (ownLt n (f a).2 && ownLtK n (l.map f)) = true
    rw [h a, noOwnK_map h]; rfl
theorem noOwn_door (x : Door) {n : Nat} : ownLt n x.d = true := by
  show (ownLt n (.str x.one) && (ownLt n (.str x.other) && (ownLt n (.str x.way) && (ownLt n (.tup (x.rows.map Row.d)) && true)))) = true
  have : ownLt n (.tup (x.rows.map Row.d)) = true := noOwns_rows x.rows
  rw [this]; rfl
theorem noOwn_doors {l : List Door} {n : Nat} : ownLtK n (doorsK l) = true := noOwnK_map fun x => noOwn_door x
theorem noOwn_stones {l : List (Str × Int)} {n : Nat} : ownLtK n (stonesK l) = true := noOwnK_map fun _ => rfl
theorem noOwn_walkers {l : List Wlk} {n : Nat} : ownLts n (l.map Wlk.d) = true := ownLts_map fun _ => rfl
theorem noOwn_hall (h : Hall) : noOwn h.d = true := by
  show ownLtK 0 (hallR _ _ _ _) = true
  show (ownLtK 0 (doorsK h.doors) && (ownLtK 0 (stonesK h.stones) && (ownLts 0 (h.walkers.map Wlk.d) && (ownLts 0 (h.rooms.map .str) && true)))) = true
  rw [noOwn_doors, noOwn_stones, noOwn_walkers, noOwns_strs]; rfl
end DL
namespace DL
open PySem PySem.Spec PyProof.Rows L2
section
variable {X : Cx} {tg : Expr} {is : List Nat} {y : Yd} {st : List Stmt} {dl : List Sl} {mu : List MO} {Ψ Ψ' : DEnds}
theorem WG.imp {S S' : SK} (h : WG X tg is y dl mu S) (i : ∀ d m, S d m → S' d m) : WG X tg is y dl mu S' := .mk fun R F as σ H v Q hs ha yo k => h R F as σ H v Q hs ha yo fun dl' mu' F' as' σ' H' q => k dl' mu' F' as' σ' H' (i _ _ q)
theorem WSs.imp (h : WSs X st dl mu Ψ') (nx : ∀ d m, Ψ'.nx d m → Ψ.nx d m) (rt : ∀ d m, Ψ'.rt d m → Ψ.rt d m) (bk : ∀ d m, Ψ'.bk d m → Ψ.bk d m) (ct : ∀ d m, Ψ'.ct d m → Ψ.ct d m) (ex : ∀ x d m, Ψ'.ex x d m → Ψ.ex x d m) : WSs X st dl mu Ψ :=
  WSs.post h (fun d m q => ⟨m, Hsub.refl m, nx d m q⟩) (fun d m q => ⟨m, Hsub.refl m, rt d m q⟩) (fun d m q => ⟨m, Hsub.refl m, bk d m q⟩) (fun d m q => ⟨m, Hsub.refl m, ct d m q⟩) (fun x d m q => ⟨m, Hsub.refl m, ex x d m q⟩)
theorem loopL {α : Type} {l : List α} {g : α → Yd} (I : List α → List α → SK) (h0 : I [] l dl mu)
    (h1 : ∀ l1 a l2 d m, l = l1 ++ a :: l2 → I l1 (a :: l2) d m → WG X tg is (g a) d m (fun d2 m2 => WSs X st d2 m2 { Ψ with nx := I (l1 ++ [a]) l2, ct := I (l1 ++ [a]) l2, bk := Ψ.nx }))
    (h2 : ∀ d m, I l [] d m → Ψ.nx d m) : ∃ J : List Yd → List Yd → SK, J [] (l.map g) dl mu ∧
      (∀ pre y post dl' m', l.map g = pre ++ y :: post → J pre (y :: post) dl' m' → WG X tg is y dl' m' (fun dl2 m2 => WSs X st dl2 m2 { Ψ with nx := J (pre ++ [y]) post, ct := J (pre ++ [y]) post, bk := Ψ.nx })) ∧
      (∀ dl' m', J (l.map g) [] dl' m' → Ψ.nx dl' m') := by
  refine ⟨fun pre post d m => ∃ l1 l2, l = l1 ++ l2 ∧ pre = l1.map g ∧ post = l2.map g ∧ I l1 l2 d m, ⟨[], l, rfl, rfl, rfl, h0⟩, ?_, ?_⟩
  · rintro pre y post d m _ ⟨l1, l2, e, rfl, e2, q⟩
    cases l2 with
    | nil => cases e2
    | cons a l2 =>
      cases e2
      have fin : ∀ d m, I (l1 ++ [a]) l2 d m → ∃ l1' l2', l = l1' ++ l2' ∧ l1.map g ++ [g a] = l1'.map g ∧ l2.map g = l2'.map g ∧ I l1' l2' d m := fun d m q => ⟨l1 ++ [a], l2, by rw [e]; simp, by simp, rfl, q⟩
      exact (h1 l1 a l2 d m e q).imp fun d2 m2 w => w.imp fin (fun _ _ q => q) (fun _ _ q => q) fin fun _ _ _ q => q
  · rintro d m ⟨l1, l2, e, e1, e2, q⟩
    have hl2 : l2 = [] := by
      cases l2 with
      | nil => rfl
      | cons => cases e2
    subst hl2
    rw [List.append_nil] at e
    subst e
    exact h2 d m q
theorem loopN {lo : Int} {n : Nat} (I : Nat → SK) (h0 : I 0 dl mu)
    (h1 : ∀ i d m, i < n → I i d m → WG X tg is (.one (.int (lo + (i : Int)))) d m (fun d2 m2 => WSs X st d2 m2 { Ψ with nx := I (i + 1), ct := I (i + 1), bk := Ψ.nx }))
    (h2 : ∀ d m, I n d m → Ψ.nx d m) : ∃ J : List Yd → List Yd → SK, J [] (rgY lo n) dl mu ∧
      (∀ pre y post dl' m', rgY lo n = pre ++ y :: post → J pre (y :: post) dl' m' → WG X tg is y dl' m' (fun dl2 m2 => WSs X st dl2 m2 { Ψ with nx := J (pre ++ [y]) post, ct := J (pre ++ [y]) post, bk := Ψ.nx })) ∧
      (∀ dl' m', J (rgY lo n) [] dl' m' → Ψ.nx dl' m') := by
  refine ⟨fun pre _ d m => I pre.length d m, h0, ?_, fun d m q => h2 d m (by
    have q : I (rgY lo n).length d m := q
    rw [rgY_len] at q; exact q)⟩
  intro pre y post d m he q
  obtain ⟨rfl, he1, he2⟩ := rgY_split he
  have fin : ∀ {d m}, I (pre.length + 1) d m → I (pre ++ [Yd.one (.int (lo + (pre.length : Int)))]).length d m := fun q => by rw [List.length_append]; exact q
  exact (h1 pre.length d m he1 q).imp fun d2 m2 w => w.imp (fun _ _ q => fin q) (fun _ _ q => q) (fun _ _ q => q) (fun _ _ q => fin q) fun _ _ _ q => q
end
section
variable {X : Cx} {x : D} {mu : List MO} {Φ : DK}
theorem cf_lenM {α : Type} {l : List α} {f : α → D} (hx : rdD mu x = .lst (l.map f)) (h : Φ (.int (l.length : Nat)) mu) : WCf X (.builtin "len") [x] mu Φ := cf_len (n := l.length) (by rw [hx]; show some (l.map f).length = _; rw [List.length_map]) h
theorem cf_lenMT {α : Type} {l : List α} {f : α → D} (hx : rdD mu x = .tup (l.map f)) (h : Φ (.int (l.length : Nat)) mu) : WCf X (.builtin "len") [x] mu Φ := cf_len (n := l.length) (by rw [hx]; show some (l.map f).length = _; rw [List.length_map]) h
end
section
variable {k : Nat} {c : D}
theorem melts_strs {l : List Str} : meltDs k c (l.map .str) = l.map .str := melts_id noOwns_strs
theorem melts_walkers {l : List Wlk} : meltDs k c (l.map Wlk.d) = l.map Wlk.d := melts_id noOwn_walkers
theorem meltk_stones {l : List (Str × Int)} : meltDk k c (stonesK l) = stonesK l := meltk_id noOwn_stones
theorem meltk_doors {l : List Door} : meltDk k c (doorsK l) = doorsK l := meltk_id noOwn_doors
theorem hall_melt {ds : List Door} {st : List (Str × Int)} {wl : List Wlk} {rooms : List Str} : meltD 4 (meltM 2 (meltM 1 (MO.dct (doorsK ds)).fz (MO.dct (stonesK st))).fz (meltM 1 (MO.dct (doorsK ds)).fz (MO.dct (hallR (.own 1) (.own 2) (.lst (wl.map Wlk.d)) (.lst (rooms.map .str)))))).fz (meltD 2 (meltM 1 (MO.dct (doorsK ds)).fz (MO.dct (stonesK st))).fz (meltD 1 (MO.dct (doorsK ds)).fz (D.own 4))) = Hall.d ⟨rooms, ds, st, wl⟩ := by
  simp only [MO.fz, meltM, meltk_stones, hallR, meltDk, meltD, melts_strs, melts_walkers, meltk_doors, if_true, show ¬ (2 : Nat) = 1 by decide, show ¬ (4 : Nat) = 1 by decide, show ¬ (4 : Nat) = 2 by decide, if_false]
  rfl
end
theorem hall_parts {s0 s1 s2 s3 : Nat} {names rooms W S Dr : List Str} {a b c d : Nat} (N : NamesOk (s0 + s1 + s2 + s3) names) (pr : rooms.Perm (names.take a)) (pw : W = (names.drop s0).take b) (ps : S.Perm (((names.drop s0).drop s3).take c)) (pd : Dr.Perm ((((names.drop s0).drop s3).drop s2).take d))
    (ha : a ≤ s0) (hb : b ≤ s3) (hc : c ≤ s2) : (rooms ++ W ++ S ++ Dr).Nodup ∧ ∀ x, x ∈ rooms ++ W ++ S ++ Dr → nameOk x = true := by
  subst pw
  have tk : ∀ {l : List Str} {i j : Nat}, i ≤ j → (l.take i).Sublist (l.take j) := fun {l i j} h => by
    have : l.take i = (l.take j).take i := by rw [List.take_take, Nat.min_eq_left h]
    rw [this]; exact List.take_sublist _ _
  have sub : (names.take a ++ (names.drop s0).take b ++ ((names.drop s0).drop s3).take c ++ (((names.drop s0).drop s3).drop s2).take d).Sublist names := by
    have e : names = names.take s0 ++ (names.drop s0).take s3 ++ ((names.drop s0).drop s3).take s2 ++ ((names.drop s0).drop s3).drop s2 := by
      rw [List.append_assoc, List.take_append_drop, List.append_assoc, List.take_append_drop, List.take_append_drop]
    have g := List.Sublist.append (List.Sublist.append (List.Sublist.append (tk (l := names) ha) (tk (l := names.drop s0) hb)) (tk (l := (names.drop s0).drop s3) hc)) (List.take_sublist d (((names.drop s0).drop s3).drop s2))
    rw [← e] at g
    exact g
  have pm : (rooms ++ (names.drop s0).take b ++ S ++ Dr).Perm (names.take a ++ (names.drop s0).take b ++ ((names.drop s0).drop s3).take c ++ (((names.drop s0).drop s3).drop s2).take d) :=
    ((pr.append (List.Perm.refl _)).append ps).append pd
  exact ⟨pm.nodup_iff.mpr (N.nd.sublist sub), fun x hx => N.ok x (sub.subset (pm.subset hx))⟩
end DL
namespace DL
open PySem PySem.Spec PyProof.Rows L2 RZ
def leS (a b : Str) : Prop := ¬ b.cps.toList < a.cps.toList
theorem leS_trans {a b c : Str} (h : leS a b) (g : leS b c) : leS a c := by
  have h' : a.cps.toList ≤ b.cps.toList := h
  have g' : b.cps.toList ≤ c.cps.toList := g
  exact (List.le_trans h' g' : a.cps.toList ≤ c.cps.toList)
theorem leS_anti {a b : Str} (h : leS a b) (g : leS b a) : a = b := by
  have h' : a.cps.toList ≤ b.cps.toList := h
  have g' : b.cps.toList ≤ a.cps.toList := g
  rw [tx_of a, tx_of b, List.le_antisymm h' g']
theorem rising_pw : ∀ (l : List Str) (p : Str), risingS p l = true → (p :: l).Pairwise leS
  | [], p, _ => by simp
  | x :: r, p, h => by
    simp only [risingS, Bool.and_eq_true, Bool.not_eq_true'] at h
    have h1 : leS p x := by
      unfold leS
      have := h.1
      rw [ltCps_eq] at this
      exact of_decide_eq_false this
    have ih := rising_pw r x h.2
    refine List.pairwise_cons.mpr ⟨fun y hy => ?_, ih⟩
    rcases List.mem_cons.mp hy with rfl | hy
    · exact h1
    · exact leS_trans h1 (List.rel_of_pairwise_cons ih hy)
theorem sortedS_pw : ∀ {l : List Str}, sortedS l = true → l.Pairwise leS
  | [], _ => List.Pairwise.nil
  | x :: r, h => rising_pw r x h
theorem pw_sortedS {l : List Str} (h : l.Pairwise leS) : sortedS l = true := sortedS_of_pairwise l (h.imp fun {a b} g => by rw [ltCps_eq]; exact decide_eq_false g)
theorem sortedS_uniq {l m : List Str} (p : l.Perm m) (h : sortedS l = true) (g : sortedS m = true) : l = m :=
  List.Perm.eq_of_pairwise (fun a b _ _ => leS_anti) (sortedS_pw h) (sortedS_pw g) p
theorem sortedS_sub {l m : List Str} (s : l.Sublist m) (h : sortedS m = true) : sortedS l = true := pw_sortedS ((sortedS_pw h).sublist s)
section
variable {X : Cx} {e o : Expr} {es : List Expr} {dl : List Sl} {mu : List MO} {Φ : DK} {ε : XP} {pos p : Pos} {x : Str}
theorem cf_sortedDE {x : D} {kvs : List (Key × D)} {ks : List Str} {Φ : MO → List MO → Prop} (hc : X.calm = true) (hn : rdD mu x = .dct kvs) (hk : kvs.map (·.1) = ks.map .inr) (hs : sortedS ks = true) (h : Φ (.lst (ks.map .str)) mu) : WCfO X (.builtin "sorted") [x] mu Φ :=
  cf_sortedD hc hn hk fun ys q s => by rw [sortedS_uniq q s hs]; exact h
theorem cf_sortedSE {x : D} {ns ks : List Str} {Φ : MO → List MO → Prop} (hn : rdD mu x = .lst (ns.map .str)) (hl : ns.length < 64) (hp : ns.Perm ks) (hs : sortedS ks = true) (h : Φ (.lst (ks.map .str)) mu) : WCfO X (.builtin "sorted") [x] mu Φ :=
  cf_sortedS hn hl fun ys q s => by rw [sortedS_uniq (q.trans hp) s hs]; exact h
theorem cr_sumT (hc : X.calm = true) : CallR X (.builtin "sum") (fun xs H Q => ∃ (a : Addr) (ns : List Int), xs = [.ref a] ∧ SqT X.K H a (ns.map V.int) ∧ Q (.int ns.sum) H) := by
  intro pins s σ H vs us Q I r h
  obtain ⟨a, ns, rfl, hs, q⟩ := h
  obtain ⟨its, rv, hl, _⟩ := I.tuple hs
  rw [Vals.ref1 r]
  have hi := rv.ints
  obtain ⟨xs, e⟩ := hi.allInts.items
  have hn : numsOf (PySem.intItems xs).toList = ns := by rw [← e]; exact hi.numsOf
  rw [nums_intItems] at hn
  rw [e] at hl
  refine PySem.W.ktm_sumG (I.ok.hd hc) hl fun h' tk t' hk => ?_
  refine ⟨.int _, H, I.kept hk, ⟨_, rfl⟩, ?_⟩
  rw [preSum_eq, List.take_of_length_le (by simp), hn]
  exact q
theorem cf_sumT {x : D} {bs : List Int} (hc : X.calm = true) (hn : rdD mu x = .tup (bs.map .int)) (h : Φ (.int bs.sum) mu) : WCf X (.builtin "sum") [x] mu Φ := .mk fun R F as H vs Q hs r k => by
  obtain ⟨v, rfl, r1⟩ := r.one
  have w := hs.view r1
  rw [hn] at w
  obtain ⟨a, us, rfl, h1, h2⟩ := w
  cases h2.ofInt
  exact SCf.by (cr_sumT hc) ⟨a, bs, rfl, (hs.er.tup h1).sqT, k.now hs h rfl⟩
theorem mt_ext {k : Nat} {y : D} {xs ys : List D} (em : mu[k]? = some (.lst xs)) (hy : y = .lst ys) (hl : xs.length + ys.length ≤ sizeLine) (h : Φ .non (mu.set k (.lst (xs ++ ys)))) : WMt X "list.extend" (.own k) [y] mu Φ := .mk fun R F as H v vs Q hs r rs kk => by
  subst hy
  obtain ⟨a, us, rfl, h1, h2, h3⟩ := hs.lset em r
  obtain ⟨w, rfl, r1⟩ := rs.one
  obtain ⟨b, ws, rfl, g1, g2⟩ := r1
  refine SMt.by mt_extend ⟨a, b, us, ws, rfl, rfl, h1, hs.er.ex _ _ trivial g1, by rw [← h2.len, ← g2.len]; exact hl, ?_⟩
  exact kk.at (h3 _ _ (h2.append g2)) h rfl
end
theorem zipW_get {α β γ : Type} {f : α → β → γ} : ∀ {l : List α} {m : List β} {i : Nat} {y : γ}, (List.zipWith f l m)[i]? = some y → ∃ a b, l[i]? = some a ∧ m[i]? = some b ∧ f a b = y
  | [], _, i, _, h => by simp at h
  | _ :: _, [], i, _, h => by simp at h
  | a :: l, b :: m, 0, y, h => ⟨a, b, rfl, rfl, by simpa using h⟩
  | a :: l, b :: m, i + 1, y, h => by
    obtain ⟨c, d, h1, h2, h3⟩ := zipW_get (l := l) (m := m) (i := i) (by simpa using h)
    exact ⟨c, d, by simpa using h1, by simpa using h2, h3⟩
def zipY (xs ys : List D) : List Yd := List.zipWith (fun x y => Yd.many [x, y]) xs ys
section
variable {K : PySem.W.Frag} {F : Hp} {as : List Addr} {a b : Addr} {xs ys : List D} {vs ws : List V}
end
section
variable {X : Cx} {a b : Expr} {elts : List Expr} {kk : Nat} {tpos p pos : Pos} {dl : List Sl} {mu : List MO} {ε : XP}
end
end DL
namespace DL
open PySem PySem.Spec PyProof.Rows L2 RZ PySem.Calls
theorem and_swap {a b : Prop} (h : b ∧ a) : a ∧ b := ⟨h.2, h.1⟩
section
variable {K : PySem.W.Frag} {F : Hp} {as : List Addr}
theorem RpK.zip : ∀ {ks : List Key} {ys : List D} {vs ws : List V}, RpL K F as (ks.map kD) vs → RpL K F as ys ws → ∃ ps : List (Key × V), ps.length = min vs.length ws.length ∧ RpK K F as (ks.zip ys) ps ∧ ∀ (i : Nat) (v w : V), vs[i]? = some v → ws[i]? = some w → ∃ k, v = kV k ∧ ps[i]? = some (k, w)
  | [], _, _, _, h, _ => by cases h; exact ⟨[], by simp, rfl, fun i v w e => by simp at e⟩
  | _ :: _, [], _, _, h, g => by cases g; exact ⟨[], by simp, rfl, fun i v w _ e => by simp at e⟩
  | k :: ks, y :: ys, _, _, ⟨v, r, h1, h2, h3⟩, ⟨w, r', g1, g2, g3⟩ => by
    subst h1; subst g1
    obtain ⟨ps, e1, e2, e3⟩ := RpK.zip h3 g3
    have hv : v = kV k := by cases k <;> exact h2
    refine ⟨(k, w) :: ps, by simp [e1], ⟨w, ps, rfl, g2, e2⟩, fun i v' w' a b => ?_⟩
    cases i with
    | zero => simp at a b; subst a; subst b; exact ⟨k, hv, rfl⟩
    | succ i =>
      obtain ⟨k', q1, q2⟩ := e3 i v' w' (by simpa using a) (by simpa using b)
      exact ⟨k', q1, by simpa using q2⟩
theorem KV.of_len {α : Type} : ∀ {ps : List (α × V)} {us : List Value}, Vals (ps.map (·.2)) us → KV ps (List.zipWith (fun (p : α × V) u => (p.1, u)) ps us)
  | [], us, h => by cases us <;> exact .nil
  | p :: ps, _, h => by
    cases h with
    | cons h t => exact .cons ⟨rfl, h⟩ (KV.of_len t)
end
section
variable {X : Cx} {a b : Expr} {p p2 pos pos2 : Pos} {dl : List Sl} {mu : List MO} {ε : XP}
end
end DL
namespace DL
open PySem PySem.Spec PyProof.Rows L2 RZ PySem.Calls
section
variable {X : Cx} {a b : Expr} {p p2 pos pos2 : Pos} {dl : List Sl} {mu : List MO} {ε : XP}
end
section
variable {X : Cx} {x y : D} {mu : List MO} {xs : List D}
def pairD (p : Key × D) : D := .tup [kD p.1, p.2]
theorem RpL.pairs {K : PySem.W.Frag} {F : Hp} {as : List Addr} (e : ∀ a vs, TupA K F a vs → SqT K F a vs) : ∀ {kvs : List (Key × D)} {vs : List V}, RpL K F as (kvs.map pairD) vs → ∃ (ps : List Addr) (ws : List (Key × V)), vs = ps.map V.ref ∧ RpK K F as kvs ws ∧ Paired (fun p kv => TupA K F p [kV kv.1, kv.2]) ps ws
  | [], _, h => by cases h; exact ⟨[], [], rfl, rfl, .nil⟩
  | (k, d) :: kvs, _, ⟨v, r, h1, h2, h3⟩ => by
    subst h1
    obtain ⟨ps, ws, g1, g2, g3⟩ := RpL.pairs e h3
    obtain ⟨a, us, rfl, q1, q2⟩ := h2
    obtain ⟨u, w, rfl, r1, r2⟩ := q2.two
    have hu : u = kV k := by cases k <;> exact r1
    subst hu
    exact ⟨a :: ps, (k, w) :: ws, by rw [g1]; rfl, ⟨w, ws, rfl, r2, g2⟩, .cons q1 g3⟩
theorem Paired.imp {α β : Type} {G G' : α → β → Prop} (i : ∀ a b, G a b → G' a b) : ∀ {l : List α} {m : List β}, Paired G l m → Paired G' l m
  | _, _, .nil => .nil
  | _, _, .cons h t => .cons (i _ _ h) (Paired.imp i t)
theorem Vw.okD {K : PySem.W.Frag} {F H : Hp} {as : List Addr} {x : D} {v : V} {n : Nat} (e : Er F H) (h : DL.okD n x = true) (r : Rp K F as x v) : Dp K H v (pyD x) := DL.okD.dp e n x v h r
end
mutual
theorem eqD_refl : ∀ (n : Nat) (d : D), okD n d = true → eqD d d = true
  | _, .non, _ => rfl
  | _, .bl b, _ => by simp [eqD]
  | _, .int i, _ => by simp [eqD]
  | _, .str x, _ => by simp [eqD]
  | 0, .lst _, h => by simp [okD] at h
  | 0, .tup _, h => by simp [okD] at h
  | n + 1, .lst xs, h => by simp only [eqD]; exact eqDs_refl n xs (by simpa [okD] using h)
  | n + 1, .tup xs, h => by simp only [eqD]; exact eqDs_refl n xs (by simpa [okD] using h)
  | _, .dct _, h => by simp [okD] at h
  | _, .obj _ _, h => by simp [okD] at h
  | _, .exn _ _, h => by simp [okD] at h
  | _, .own _, h => by simp [okD] at h
  | _, .val _, h => by simp [okD] at h
  | _, .scr _, h => by simp [okD] at h
theorem eqDs_refl : ∀ (n : Nat) (ds : List D), okDs n ds = true → eqDs ds ds = true
  | _, [], _ => rfl
  | n, x :: xs, h => by
    simp only [okDs, Bool.and_eq_true] at h
    simp only [eqDs, eqD_refl n x h.1, eqDs_refl n xs h.2, Bool.and_self]
end
theorem pick_map {α : Type} {l : List α} {f : α → D} {r : Nat} {z : D} (h : pickD (.lst (l.map f)) r = some z) : ∃ a, a ∈ l ∧ z = f a := by
  have h : (l.map f)[r]? = some z := h
  rw [List.getElem?_map] at h
  obtain ⟨a, e, rfl⟩ := Option.map_eq_some_iff.mp h
  exact ⟨a, List.mem_of_getElem? e, rfl⟩
end DL
namespace DL
open PySem PySem.Spec PyProof.Rows L2 RZ PySem.Calls
section
variable {X : Cx} {e elt tg it : Expr} {es : List Expr} {dl : List Sl} {mu : List MO} {ε : XP}
theorem lcA {α : Type} {is : List Nat} {scope : Scope} {own : List (Str × Nat)} {Φ : List D → List MO → Prop} (h : WIt X tg it dl mu (fun ys m => ∃ (l : List α) (g : α → Yd) (f : α → D), ys = l.map g ∧ l.length ≤ sizeLine ∧
      (∀ a, a ∈ l → Blocks X scope fun B => WG B tg is (g a) (wipeD dl (own.map (·.2))) m (fun dl2 m2 => m2 = m ∧ Blocks X scope fun B => WE B elt dl2 m (fun z m4 => m4 = m ∧ z = f a) X0)) ∧
      Φ (l.map f) m) ε) : LcOk X elt tg it is [] scope own dl mu Φ ε := lcM (α := α) (WIt.imp h fun ys m ⟨l, g, f, ey, hl, ht, q⟩ => ⟨l, g, fun _ => true, f, ey, hl, fun a ha s H C cl fp => (ht a ha s H C cl fp).imp fun d m2 ⟨e1, e2⟩ => ⟨e1, fun s2 H2 C2 cl2 fp2 => wts_nil ⟨rfl, rfl, fun _ => e2⟩⟩, by rw [List.filter_eq_self.mpr fun _ _ => rfl]; exact q⟩)
theorem lcP {α : Type} {is : List Nat} {scope : Scope} {own : List (Str × Nat)} {Φ : List D → List MO → Prop} (c : Nat) (Pv : α → D → Prop) (h : WIt X tg it dl mu (fun ys m => ∃ (l : List α) (g : α → Yd) (n : Nat) (ms : List MO), ys = l.map g ∧ l.length ≤ sizeLine ∧ m = .pen n :: ms ∧
      (∀ a n', a ∈ l → n' ≤ n + l.length * c → Blocks X scope fun B => WG B tg is (g a) (wipeD dl (own.map (·.2))) (.pen n' :: ms) (fun dl2 m2 => m2 = .pen n' :: ms ∧ Blocks X scope fun B => WE B elt dl2 (.pen n' :: ms) (fun z m4 => ∃ n'', n'' ≤ n' + c ∧ m4 = .pen n'' :: ms ∧ Pv a z) X0)) ∧
      ∀ zs n', n' ≤ n + l.length * c → Paired Pv l zs → Φ zs (.pen n' :: ms)) ε) : LcOk X elt tg it is [] scope own dl mu Φ ε := WIt.imp h fun ys m ⟨l, g, n, ms, ey, hl, em, ht, q⟩ => by
  subst ey em
  refine ⟨by rw [List.length_map]; exact hl, fun pre post acc m' => ∃ l1 l2 n', l = l1 ++ l2 ∧ pre = l1.map g ∧ post = l2.map g ∧ Paired Pv l1 acc ∧ m' = .pen n' :: ms ∧ n' ≤ n + l1.length * c, ⟨[], l, n, rfl, rfl, rfl, .nil, rfl, by simp⟩, ?_, ?_⟩
  · rintro pre y post acc m' he ⟨l1, l2, n', rfl, rfl, hp, pr, rfl, hn⟩
    cases l2 with
    | nil => cases hp
    | cons a l2 =>
      cases hp
      intro s0 H0 C cl fp
      have hlc : l1.length * c + c ≤ (l1 ++ a :: l2).length * c := by
        rw [← Nat.succ_mul]; exact Nat.mul_le_mul_right _ (by simp)
      refine (ht a n' (by simp) (by omega) s0 H0 C cl fp).imp fun d m2 ⟨e1, e2⟩ => ?_
      subst e1
      intro s1 H1 C1 cl1 fp1
      refine wts_nil ⟨fun _ => ?_, fun h => by cases h⟩
      intro s2 H2 C2 cl2 fp2
      refine WE.imp (e2 s2 H2 C2 cl2 fp2) fun z m4 ⟨n'', hn'', e4, pv⟩ => ?_
      subst e4
      refine ⟨l1 ++ [a], l2, n'', by simp, by simp, rfl, ?_, rfl, by rw [List.length_append, List.length_singleton, Nat.add_mul, Nat.one_mul]; omega⟩
      have : ∀ {l : List α} {zs : List D}, Paired Pv l zs → Paired Pv (l ++ [a]) (zs ++ [z]) := fun h => by
        induction h with
        | nil => exact .cons pv .nil
        | cons r t ih => exact .cons r ih
      exact this pr
  · rintro acc m' ⟨l1, l2, n', rfl, h1, h2, pr, rfl, hn⟩
    have h2 : l2 = [] := by
      cases l2 with
      | nil => rfl
      | cons => cases h2
    subst h2
    rw [List.append_nil] at q
    exact q _ _ hn pr
end
theorem doorsK_keys (l : List Door) : (doorsK l).map (·.1) = (l.map (·.name)).map .inr := by simp [doorsK]
theorem stonesK_keys (l : List (Str × Int)) : (stonesK l).map (·.1) = (l.map (·.1)).map .inr := by simp [stonesK]
def Hall.folk (h : Hall) : List Str := h.walkers.map (·.name)
def Hall.names (h : Hall) : List Str := h.rooms ++ h.doors.map (·.name) ++ h.stones.map (·.1) ++ h.folk
structure Hall.Few (h : Hall) : Prop where
  ok : ∃ s0 s1 s2 s3, h.Ok s0 s1 s2 s3 ∧ s0 + s1 + s2 + s3 ≤ 60
  rooms : h.rooms.length ≤ 60
  doors : h.doors.length ≤ 60
  stones : h.stones.length ≤ 60
  walkers : h.walkers.length ≤ 60
  rooms1 : 1 ≤ h.rooms.length
  walkers1 : 1 ≤ h.walkers.length
  sr : sortedS h.rooms = true
  sd : sortedS (h.doors.map (·.name)) = true
  ss : sortedS (h.stones.map (·.1)) = true
theorem Hall.Ok.few {h : Hall} {s0 s1 s2 s3 : Nat} (o : h.Ok s0 s1 s2 s3) (b : s0 + s1 + s2 + s3 ≤ 60) : h.Few := by
  have := o.rooms2; have := o.doors2; have := o.stones2; have := o.walkers2
  exact ⟨⟨_, _, _, _, o, b⟩, by omega, by omega, by omega, by omega, o.rooms1, o.walkers1, o.rooms, o.doors, o.stones⟩
theorem Hall.Few.names {h : Hall} (f : h.Few) : h.names.Nodup ∧ (∀ x, x ∈ h.names → nameOk x = true) ∧ h.names.length ≤ 240 := by
  obtain ⟨s0, s1, s2, s3, o, b⟩ := f.ok
  have p : h.names.Perm (h.rooms ++ h.walkers.map (·.name) ++ h.stones.map (·.1) ++ h.doors.map (·.name)) := by
    have e1 : h.names = h.rooms ++ (h.doors.map (·.name) ++ (h.stones.map (·.1) ++ h.walkers.map (·.name))) := by simp [Hall.names, Hall.folk]
    have e2 : h.rooms ++ h.walkers.map (·.name) ++ h.stones.map (·.1) ++ h.doors.map (·.name) = h.rooms ++ ((h.walkers.map (·.name) ++ h.stones.map (·.1)) ++ h.doors.map (·.name)) := by simp
    rw [e1, e2]
    exact List.Perm.append_left _ (List.perm_append_comm.trans (List.Perm.append_right _ List.perm_append_comm))
  refine ⟨p.nodup_iff.mpr o.nd, fun x hx => o.nm x (p.subset hx), ?_⟩
  have := f.rooms; have := f.doors; have := f.stones; have := f.walkers
  simp [Hall.names, Hall.folk]; omega
inductive Wish where
  | at (w r : Str)
  | bears (r : Str) (n : Int)
  | open (d : Str)
  | lies (s r : Str)
  | held (s w : Str)
def Wish.d : Wish → D
  | .at w r => .tup [.str "at", .str w, .str r]
  | .bears r n => .tup [.str "bears", .str r, .int n]
  | .open x => .tup [.str "open", .str x]
  | .lies s r => .tup [.str "lies", .str s, .str r]
  | .held s w => .tup [.str "held", .str s, .str w]
def Wish.Ok (h : Hall) : Wish → Prop
  | .at w r => w ∈ h.folk ∧ r ∈ h.rooms
  | .bears r n => r ∈ h.rooms ∧ n ∈ [(0 : Int), 1, 2, 5, 9999999]
  | .open x => x ∈ h.doors.map (·.name) ∨ x = "nodoor"
  | .lies s r => s ∈ h.stones.map (·.1) ∧ r ∈ h.rooms
  | .held s w => s ∈ h.stones.map (·.1) ∧ w ∈ h.folk
theorem noOwn_wish (x : Wish) {n : Nat} : ownLt n x.d = true := by cases x <;> rfl
theorem noOwns_wishes {n : Nat} {l : List Wish} : ownLts n (l.map Wish.d) = true := ownLts_map fun a => noOwn_wish a
end DL
namespace DL
open PySem PySem.Spec PyProof.Rows L2 RZ PySem.Calls
theorem nameOk_strOk {x : Str} (h : nameOk x = true) : PyData.strOk x = true := by
  unfold nameOk at h
  simp only [Bool.and_eq_true, decide_eq_true_eq, List.all_eq_true] at h
  show x.cps.all (· < 0x110000) = true
  rw [← Array.all_toList, List.all_eq_true]
  intro c hc
  have := (h.2 c hc).2
  exact decide_eq_true (by omega)
theorem okD_name {n : Nat} {x : Str} (h : nameOk x = true) : okD n (.str x) = true := by cases n <;> exact nameOk_strOk h
theorem keyD_kD (k : Key) : keyD (kD k) = some k := by cases k <;> rfl
def strK (kvs : List (Str × Str)) : List (Key × D) := kvs.map fun p => (.inr p.1, .str p.2)
def rowD (r : Str × List Key) : D := .tup (.str r.1 :: r.2.map kD)
def partOk : Key → Bool
  | .inl _ => true
  | .inr s => nameOk s
structure RowsOk (rows : List (Str × List Key)) : Prop where
  hd : ∀ r, r ∈ rows → nameOk r.1 = true
  tl : ∀ r, r ∈ rows → ∀ k, k ∈ r.2 → partOk k = true
def Wish.row : Wish → Str × List Key
  | .at w r => ("at", [.inr w, .inr r])
  | .bears r n => ("bears", [.inr r, .inl n])
  | .open x => ("open", [.inr x])
  | .lies s r => ("lies", [.inr s, .inr r])
  | .held s w => ("held", [.inr s, .inr w])
theorem Wish.row_d (x : Wish) : rowD x.row = x.d := by cases x <;> rfl
theorem Wish.rows {h : Hall} (f : h.Few) {ws : List Wish} (o : ∀ x, x ∈ ws → x.Ok h) : RowsOk (ws.map Wish.row) ∧ ∀ r, r ∈ ws.map Wish.row → r.2.length ≤ 10 := by
  obtain ⟨_, nm, _⟩ := f.names
  have hr : ∀ x, x ∈ h.rooms → nameOk x = true := fun x hx => nm x (by simp [Hall.names, hx])
  have hf : ∀ x, x ∈ h.folk → nameOk x = true := fun x hx => nm x (by simp [Hall.names, hx])
  have hd : ∀ x, x ∈ h.doors.map (·.name) → nameOk x = true := fun x hx => nm x (by simp only [Hall.names, List.mem_append]; exact .inl (.inl (.inr hx)))
  have hs : ∀ x, x ∈ h.stones.map (·.1) → nameOk x = true := fun x hx => nm x (by simp only [Hall.names, List.mem_append]; exact .inl (.inr hx))
  refine ⟨⟨fun r hr' => ?_, fun r hr' k hk => ?_⟩, fun r hr' => ?_⟩ <;> obtain ⟨x, hx, rfl⟩ := List.mem_map.mp hr'
  · cases x with
    | «at» w r => exact (by decide : nameOk "at" = true)
    | bears r n => exact (by decide : nameOk "bears" = true)
    | «open» x => exact (by decide : nameOk "open" = true)
    | lies s r => exact (by decide : nameOk "lies" = true)
    | held s w => exact (by decide : nameOk "held" = true)
  · have ox := o x hx
    cases x with
    | «at» w r => simp [Wish.row] at hk; rcases hk with rfl | rfl; exact hf _ ox.1; exact hr _ ox.2
    | bears r n => simp [Wish.row] at hk; rcases hk with rfl | rfl; exact hr _ ox.1; rfl
    | «open» x => simp [Wish.row] at hk; subst hk; rcases ox with e | e; exact hd _ e; rw [e]; decide
    | lies s r => simp [Wish.row] at hk; rcases hk with rfl | rfl; exact hs _ ox.1; exact hr _ ox.2
    | held s w => simp [Wish.row] at hk; rcases hk with rfl | rfl; exact hs _ ox.1; exact hf _ ox.2
  · cases x <;> simp [Wish.row]
end DL
namespace DL
open PySem PySem.Spec PyProof.Rows L2 RZ PySem.Calls
theorem gmerge_app {α : Type} : ∀ {l acc : List (Key × α)}, ((acc ++ l).map (·.1)).Nodup → gmerge acc l = acc ++ l
  | [], acc, _ => by simp [gmerge]
  | p :: l, acc, nd => by
    show gmerge (gput acc p.1 p.2) l = _
    rw [gput_new fun q hq e => ?_]
    · rw [gmerge_app (by simpa using nd)]
      simp
    · rw [List.map_append, List.map_cons] at nd
      exact (List.nodup_append.mp nd).2.2 _ (List.mem_map.mpr ⟨q, hq, rfl⟩) _ (by simp) e
theorem gmerge_nodup {α : Type} {l : List (Key × α)} (nd : (l.map (·.1)).Nodup) : gmerge [] l = l := by rw [gmerge_app (by simpa using nd)]; rfl
theorem strK_keys (kvs : List (Str × Str)) : (strK kvs).map (·.1) = (kvs.map (·.1)).map .inr := by simp [strK]
theorem nodup_inr {l : List Str} (h : l.Nodup) : (l.map Sum.inr : List Key).Nodup := List.Pairwise.map _ (fun a b (q : a ≠ b) (e : (Sum.inr a : Key) = .inr b) => q (by cases e; rfl)) h
theorem zip_fst_sub {α β : Type} : ∀ (a : List α) (b : List β), ((a.zip b).map (·.1)).Sublist a
  | [], _ => by simp
  | _ :: _, [] => by simp
  | x :: a, y :: b => by simp only [List.zip_cons_cons, List.map_cons]; exact (zip_fst_sub a b).cons_cons x
theorem zip_snd_sub {α β : Type} : ∀ (a : List α) (b : List β), ((a.zip b).map (·.2)).Sublist b
  | [], _ => by simp
  | _ :: _, [] => by simp
  | x :: a, y :: b => by simp only [List.zip_cons_cons, List.map_cons]; exact (zip_snd_sub a b).cons_cons y
theorem ownLt_hall (h : Hall) {n : Nat} : ownLt n h.d = true := ownLt_up (noOwn_hall h)
inductive RenBy (known : List Str) : List (Str × Str) → Prop
  | swap (some : List Str) (h : some.Perm known) : RenBy known ((known.zip some).filter fun p => !(p.1 == p.2))
  | all (some : List Str) (h : some.Perm known) : RenBy known (known.zip some)
  | fresh (some : List Str) (nd : some.Nodup) (l : some.length = 18) (nm : ∀ x, x ∈ some → nameOk x = true) : RenBy known (known.zip some)
  | part (some fresh : List Str) (j : Nat) (h : some.Perm known) (nd : fresh.Nodup) (nm : ∀ x, x ∈ fresh → nameOk x = true ∧ x ∉ known) : RenBy known ((some.take j).zip fresh)
  | round (some : List Str) (j : Nat) (h : some.Perm known) (hj : j ≤ some.length) : RenBy known ((some.take j).zip ((some.drop 1).take (j - 1) ++ some.take 1))
structure RenOk (known : List Str) (kvs : List (Str × Str)) : Prop where
  nd : (kvs.map (·.1)).Nodup
  sub : ∀ p, p ∈ kvs → p.1 ∈ known
  nm : ∀ p, p ∈ kvs → nameOk p.2 = true
theorem mem_zip_l {α β : Type} {a : List α} {b : List β} {p : α × β} (h : p ∈ a.zip b) : p.1 ∈ a := (zip_fst_sub a b).subset (List.mem_map.mpr ⟨p, h, rfl⟩)
theorem mem_zip_r {α β : Type} {a : List α} {b : List β} {p : α × β} (h : p ∈ a.zip b) : p.2 ∈ b := (zip_snd_sub a b).subset (List.mem_map.mpr ⟨p, h, rfl⟩)
theorem RenBy.ok {known : List Str} (nd : known.Nodup) (nm : ∀ x, x ∈ known → nameOk x = true) {kvs : List (Str × Str)} (h : RenBy known kvs) : RenOk known kvs := by
  cases h with
  | swap some h =>
    refine ⟨nd.sublist (((List.filter_sublist).map _).trans (zip_fst_sub _ _)), fun p hp => mem_zip_l (List.mem_filter.mp hp).1, fun p hp => nm _ (h.subset (mem_zip_r (List.mem_filter.mp hp).1))⟩
  | all some h => exact ⟨nd.sublist (zip_fst_sub _ _), fun p hp => mem_zip_l hp, fun p hp => nm _ (h.subset (mem_zip_r hp))⟩
  | fresh some nd' l nm' => exact ⟨nd.sublist (zip_fst_sub _ _), fun p hp => mem_zip_l hp, fun p hp => nm' _ (mem_zip_r hp)⟩
  | part some fresh j h nd' nm' =>
    have ns : some.Nodup := h.nodup_iff.mpr nd
    exact ⟨ns.sublist ((zip_fst_sub _ _).trans (List.take_sublist _ _)), fun p hp => h.subset (List.mem_of_mem_take (mem_zip_l hp)), fun p hp => (nm' _ (mem_zip_r hp)).1⟩
  | round some j h hj =>
    have ns : some.Nodup := h.nodup_iff.mpr nd
    refine ⟨ns.sublist ((zip_fst_sub _ _).trans (List.take_sublist _ _)), fun p hp => h.subset (List.mem_of_mem_take (mem_zip_l hp)), fun p hp => nm _ (h.subset ?_)⟩
    rcases List.mem_append.mp (mem_zip_r hp) with e | e
    · exact List.mem_of_mem_drop (List.mem_of_mem_take e)
    · exact List.mem_of_mem_take e
theorem RenOk.okK {known : List Str} {kvs : List (Str × Str)} (h : RenOk known kvs) : (∀ p, p ∈ strK kvs → okD 60 p.2 = true) ∧ ((strK kvs).map (·.1)).Nodup := by
  refine ⟨fun p hp => ?_, by rw [strK_keys]; exact nodup_inr h.nd⟩
  obtain ⟨q, hq, rfl⟩ := List.mem_map.mp hp
  exact okD_name (h.nm q hq)
end DL
namespace DL
open PySem PySem.Spec PyProof.Rows L2 RZ PySem.Calls
theorem paired_ex {α β : Type} {P : β → Prop} {f : β → D} : ∀ {l : List α} {zs : List D}, Paired (fun _ z => ∃ r, P r ∧ z = f r) l zs → ∃ rs : List β, zs = rs.map f ∧ (∀ r, r ∈ rs → P r) ∧ rs.length = l.length
  | _, _, .nil => ⟨[], rfl, by simp, rfl⟩
  | _, _, .cons ⟨r, h1, h2⟩ t => by
    obtain ⟨rs, e1, e2, e3⟩ := paired_ex t
    subst h2 e1
    refine ⟨r :: rs, rfl, fun x hx => ?_, by simp [e3]⟩
    rcases List.mem_cons.mp hx with rfl | hx
    · exact h1
    · exact e2 x hx
end DL
namespace DL
open PySem PySem.Spec PyProof.Rows L2 RZ PySem.Calls LamX
abbrev lamE (qual : Str) (scope : Scope) (L f c' : Addr) : Env := { scope := scope, locals := L, globals := mainGlobals, cells := [], qual := qual ++ ".<locals>.", func := some f, code := .ref c', frame := some L, builtins := builtinsNs }
section
variable {P : Program} {w : World} {A : Around} {s : Shared}
theorem lam_enter {f c' : Addr} {qual x : Str} {params : Arguments} {body : Expr} {scope : Scope} {pm ctv u : Value} {Q : Value → Shared → Prop} {E : Value → Shared → Prop}
    (hroom : A.depth < recursionLimit) (ho : s.heap.get? f = some (PySem.W.kla_obj "<lambda>" qual params body scope [] pm c' ctv)) (hcd : s.heap.CodeRec (.ref c') qual) (hnl : s.heap.NoLimit)
    (hsk : scope.kind = .function) (hco : scope.isCoroutine = false) (hge : scope.isGenerator = false) (hcell : ∀ y ∈ scope.names, y.2 ≠ .cell) (hloc : scope.names.lookup x = some .local)
    (hbind : bindArgs (PySem.W.kla_fn "<lambda>" qual params body scope [] pm (.ref c') ctv) ⟨[u], []⟩ = pure [(x, u)])
    (h : ∀ (h₁ : Heap) (tk : Nat) (L : Addr), (∀ b o, s.heap.get? b = some o → h₁.get? b = some o) → h₁.Ns L (fun y => [(x, u)].reverse.lookup y) →
      wpAny (model P w) (A.deeper (lamE qual scope L f c')) (eval body (lamE qual scope L f c')) Q (fun _ _ => False) { s with heap := h₁, toks := tk }) : wpAny (model P w) A (call (.ref f) [u]) Q E s := by
  refine wpAny_call (PySem.W.kla_callFunE hroom ho rfl hco hge rfl hcd ?_)
  rw [hbind]
  refine wpAny_pure (wpAny_newFunctionEnv hcell (fun y hy => by simp at hy; subst hy; exact hloc) (fun h₁ hns hsb => ⟨hnl.fresh _ hsb, ?_⟩) hsk)
  have kp : ∀ b o, s.heap.get? b = some o → h₁.get? b = some o := fun b o e => hsb.extBut b o (Nat.ne_of_lt (Heap.lt_size e)) (Heap.get?_push_of_some _ e)
  exact PySem.W.kla_codeExpr (wpAny_mono (h h₁ _ _ kp hns) (fun v s' q => q) fun _ _ q => q.elim)
end
theorem Hs.lam {K : PySem.W.Frag} {R F H H1 : Hp} {as : List Addr} {mu : List MO} (h : Hs K R F as mu H) (e : ExtN H H1) (t : Tabs tabT H1) : Hs K R F as mu H1 := by
  have nt1 : ∀ a o, F a = some o → H a ≠ none ∧ ∀ ps, H a ≠ some (.tbl ps) := fun a o q => ⟨fun z => (by rw [h.er.dm a z] at q; cases q), fun ps z => (by rw [(h.nt a ps z).1] at q; cases q)⟩
  have up : ∀ a o, F a ≠ none → H a = some o → H1 a = some o := fun a o q z => e a o z fun ps y => by
    subst y
    exact q (h.nt a ps z).1
  refine ⟨⟨fun a o p q => ?_, fun a o p q => up a o (by rw [q]; simp) (h.er.ex a o p q), fun a z => ?_⟩, fun a o q => e a o (h.fr a o q) fun ps y => ?_, h.frF, h.frA, h.ln, h.nd, h.sep, fun k a m e1 e2 => ?_, t, fun a ps z => ?_⟩
  · have hF : F a ≠ none := by rcases q with q | ⟨ob, q⟩ <;> rw [q] <;> simp
    rcases h.er.rd a o p q with z | ⟨ob, z⟩
    · exact .inl (up a _ hF z)
    · exact .inr ⟨ob, up a _ hF z⟩
  · cases q : F a with
    | none => rfl
    | some o =>
      obtain ⟨n1, _⟩ := nt1 a o q
      cases y : H a with
      | none => exact absurd y n1
      | some u => rw [up a u (by rw [q]; simp) y] at z; cases z
  · subst y
    have := (h.nt a ps (h.fr a _ q)).2
    rw [q] at this; cases this
  · have c := h.ct k a m e1 e2
    cases l : m.live with
    | false => exact c.dead l (Er.refl F)
    | true =>
      obtain ⟨o, ho⟩ := c.some l
      refine c.mono (Er.refl F) (List.prefix_refl _) ?_
      rw [ho]
      exact e a o ho fun ps y => by subst y; exact (c.pn l ho)
  · cases y : H a with
    | none =>
      refine ⟨h.er.dm a y, ?_⟩
      cases q : R a with
      | none => rfl
      | some o => rw [h.fr a o q] at y; cases y
    | some u =>
      by_cases c : ∃ ps', u = .tbl ps'
      · obtain ⟨ps', rfl⟩ := c
        exact h.nt a ps' y
      · have := e a u y fun ps' q => c ⟨ps', q⟩
        rw [z] at this
        cases this
        exact absurd ⟨ps, rfl⟩ c
def Turn (P : Program) (w : World) (K : PySem.W.Frag) (mg : Str → Option Value) (base : Heap) (qual : Str) (params : Arguments) (body : Expr) (scope : Scope) (S : D → Prop) (kd : D → PyData) : Prop :=
  ∀ (A : Around) (s : Shared) (f c' : Addr) (pm ctv u : Value) (d : D) (as : List Addr), A.depth < recursionLimit → A.units + 60 < cLine → A.handled = none →
    s.heap.get? f = some (PySem.W.kla_obj "<lambda>" qual params body scope [] pm c' ctv) → s.heap.CodeRec (.ref c') qual → s.heap.NoLimit → S d → Reads s.heap u (pyD d) as → Mod K mg base → (∀ b o, base.get? b = some o → s.heap.get? b = some o) →
    wpAny (model P w) A (call (.ref f) [u]) (PySem.W.KeyPure (kd d) s) (fun _ _ => False) s
section
variable {X : Cx} {e : Expr} {dl : List Sl} {mu : List MO} {ε : XP} {pos p kp lpos : Pos}
theorem wo_sortLam {Φ : MO → List MO → Prop} {params : Arguments} {body : Expr} {scope : Scope} {c P : Addr} {j : Nat} (kd : D → PyData) (S : D → Prop) (hm : X.mg "sorted" = none) (TB : TabB X.base X.mg c P) (hr : RoomG (j + 1) X.A)
    (turn : Turn X.prog X.w X.K X.mg X.base (X.env.qual ++ "<lambda>") params body scope S kd)
    (h : WE X e dl mu (fun y m => ∃ ds, rdD m y = .lst ds ∧ (∀ d, d ∈ ds → okD 50 d = true ∧ S d) ∧ PySem.W.AllAlike (ds.map kd) ∧ PySem.W.Sortable (ds.map kd) ∧ (∀ d, d ∈ ds → (kd d).depth ≤ 50) ∧ Φ (.lst (ds.mergeSort (PySem.W.dataLe false kd))) m) ε)
    (hcode : X.env.code = .ref c) (hm2 : (P, X.env.qual ++ "<lambda>") ∈ tabT) (hu : ∀ q ∈ tabT, q.1 = P → q.2 = X.env.qual ++ "<lambda>") (hc : X.calm = true := by rfl) (hg : Gl X "sorted" := by rfl)
    (hdef : defaultsOf params X.env = ([], []) := by rfl) (hnf : ∀ y ∈ scope.names, y.2 ≠ .free := by decide) (hclo : cloFrom X.env.cells scope.names [] = [] := by rfl)
    (he : starEach [e] X.env = (false, eval e X.env) :: starEach [] X.env := by rfl) (hpl : (backTo pos (starEach [e] X.env)).any (·.1) = false := by rfl)
    (hall : (backToKw pos (keywordEach [⟨some "key", .Lambda params body scope lpos, kp⟩] X.env)).all (·.1.isSome) = true := by rfl) (hkw : (backToKw pos (keywordEach [⟨some "key", .Lambda params body scope lpos, kp⟩] X.env)).any (·.1.isNone) = false := by rfl) :
    WO X (.Call (.Name "sorted" p) [e] [⟨some "key", .Lambda params body scope lpos, kp⟩] pos) dl mu Φ ε := .mk fun W R F as σ H Q tk hs ha k kx => by
  intro pins s I
  refine wpAny_Call_Name_kw (ld_blt I hg hm PyProof.Rows.boot_sorted ?_ (by decide) (by decide))
  refine PyProof.Rows.callWith_kw ?_ (by rw [he]; rfl) hpl hall hkw
  rw [he]
  refine spliced_cons (thn ((h.then (t := fun v H' => ∃ m F' as' ds, Er F F' ∧ as <+: as' ∧ Hs X.K R F' as' m H' ∧ (∃ a vs, v = .ref a ∧ H' a = some (.lst vs) ∧ RpL X.K F' as' ds vs) ∧ (∀ d, d ∈ ds → okD 50 d = true ∧ S d) ∧ PySem.W.AllAlike (ds.map kd) ∧ PySem.W.Sortable (ds.map kd) ∧ (∀ d, d ∈ ds → (kd d).depth ≤ 50) ∧ Φ (.lst (ds.mergeSort (PySem.W.dataLe false kd))) m)
    tk hs ha kx fun v y m F' as' H' ⟨ds, hd, o1, o2, o3, o4, φ⟩ e1 e2 hs' ha' r kx' => by
      have w := hs'.view r
      rw [hd] at w
      exact ⟨m, F', as', ds, e1, e2, hs', w, o1, o2, o3, o4, φ⟩) pins s I) fun u s1 ⟨v, H1, I1, rv, m, F', as', ds, e1, e2, hs', w, o1, o2, o3, o4, φ⟩ => ?_)
  obtain ⟨a, vs, rfl, hv, rl⟩ := w
  cases rv
  refine spliced_nil ?_
  refine PyProof.Rows.kws_cons ?_
  refine lam_make2 I1 TB hcode hm2 hu hs'.tb hdef (fun y hy z => absurd z (hnf y hy)) fun f c' pm ctv H2 s2 I2 eN T2 hf hfn hfr hco => ?_
  refine PyProof.Rows.kws_nil ?_
  rw [hclo] at hf
  have hs2 := hs'.lam eN T2
  have hv2 : H2 a = some (.lst vs) := eN a _ hv fun ps q => by cases q
  obtain ⟨its, rvs, pl, hz⟩ := I2.list (.inl (.inl hv2))
  have hl1 := rl.len
  have hl2 := rvs.length
  have each : ∀ {ds : List D} {vs : List V} {its : List Value}, RpL X.K F' as' ds vs → Vals vs its → (∀ d, d ∈ ds → okD 50 d = true ∧ S d) → PySem.W.EachIs (fun u (b : D × V) => RelV b.2 u ∧ Rp X.K F' as' b.1 b.2 ∧ S b.1 ∧ ∃ as, Reads s2.heap u (pyD b.1) as) its (ds.zip vs) := by
    intro ds
    induction ds with
    | nil => intro vs its r v _; cases r; cases v; exact .nil
    | cons d ds ih =>
      intro vs its ⟨v0, r0, q1, q2, q3⟩ v o
      subst q1
      cases v with
      | cons g t =>
        refine .cons ⟨g, q2, (o d (by simp)).2, ?_⟩ (ih q3 t fun x hx => o x (by simp [hx]))
        exact Dp.reads I2 _ v0 _ (okD.dp hs2.er 50 d v0 (o d (by simp)).1 q2) g
  have mapfst : (ds.zip vs).map (fun b => kd b.1) = ds.map kd := by
    have : (ds.zip vs).map (·.1) = ds := by rw [List.map_fst_zip (by omega)]
    rw [show (ds.zip vs).map (fun b => kd b.1) = ((ds.zip vs).map (·.1)).map kd by rw [List.map_map]; rfl, this]
  show wpAny _ _ (call (.builtin "sorted") [.ref a] [(Str.ofString "key", .ref f)]) _ _ _
  refine PySem.W.sorted_key_data (b := false) (k := fun b : D × V => kd b.1) pl.isList (each rl rvs o1) (by rw [mapfst]; exact o2) (by rw [mapfst]; exact o3) (by rw [List.length_zip]; omega)
    (fun x hx => by
      have := o4 x.1 (by have := (List.of_mem_zip hx).1; exact this)
      have := hr.u64
      omega) (PyProof.Rows.ksk_s1 _ _) (fun _ => PyProof.Rows.ksk_l1 _ _) (fun x => PyProof.Rows.ksk_t1 _ _) ?_ ?_
  · intro v x ⟨g1, g2, g3, as3, g4⟩ hx h3 tk3 kp3
    obtain ⟨⟨oc, vc, tc, hoc, hdc, hvc⟩, _, _⟩ := I2.hok c' _ hco
    exact turn X.A.in1.in1 { s2 with heap := h3, toks := tk3 } f c' pm ctv v x.1 as3 (by have := hr.rm.dp; show X.A.depth < _; omega) (by have := hr.rm.un; show X.A.units + 1 + 1 + 60 < _; omega) (I.ok.hd hc) (kp3 _ _ hf) ⟨c', oc, vc, tc, rfl, kp3 _ _ hoc, hdc, hvc⟩ (I2.nolimit.keeps kp3) g3 (PyProof.Rows.Reads.keeps kp3 g4) I2.mod (fun b o e => kp3 b o (I2.bk b o e))
  · intro out cc h' tk' kp' fresh hD hlen ho
    have hfr2 := I2.hok.fresh (Nat.le_succ s2.heap.objs.size)
    have back : ∀ {bs : List (D × V)} {out : List Value}, PySem.W.EachIs (fun u (b : D × V) => RelV b.2 u ∧ Rp X.K F' as' b.1 b.2 ∧ S b.1 ∧ ∃ as, Reads s2.heap u (pyD b.1) as) out bs → Vals (bs.map (·.2)) out ∧ RpL X.K F' as' (bs.map (·.1)) (bs.map (·.2)) := by
      intro bs
      induction bs with
      | nil => intro out h; cases h; exact ⟨.nil, rfl⟩
      | cons b bs ih =>
        intro out h
        cases h with
        | cons g t =>
          obtain ⟨i1, i2⟩ := ih t
          exact ⟨.cons g.1 i1, ⟨_, _, rfl, g.2.1, i2⟩⟩
    obtain ⟨v1, v2⟩ := back ho
    have hms : ((ds.zip vs).mergeSort (PySem.W.dataLe false fun b : D × V => kd b.1)).map (·.1) = ds.mergeSort (PySem.W.dataLe false kd) := by
      rw [List.map_mergeSort (r := PySem.W.dataLe false fun b : D × V => kd b.1) (s := PySem.W.dataLe false kd) (f := fun b : D × V => b.1) (fun a _ b _ => rfl), List.map_fst_zip (by omega)]
    rw [hms] at v2
    have hln : (((ds.zip vs).mergeSort (PySem.W.dataLe false fun b : D × V => kd b.1)).map (·.2)).length = vs.length := by
      rw [List.length_map, List.length_mergeSort, List.length_zip]; omega
    have I3 : Inv X pins σ (upd H2 (s2.heap.objs.size + 1) (.lst (((ds.zip vs).mergeSort (PySem.W.dataLe false fun b : D × V => kd b.1)).map (·.2)))) { s2 with heap := h', toks := tk' } :=
      I2.laid (t' := tk') kp' (Nat.le_succ _) (show ObjOk X.prog X.w _ _ _ (.lst _) from ⟨by omega, out, cc, v1, hD⟩)
    obtain ⟨f1, f2, f3⟩ := hs2.free hfr2
    exact ⟨.ref _, _, I3, rfl, (k.go e1 e2) _ (.lst (ds.mergeSort (PySem.W.dataLe false kd))) m F' as' _ φ (Er.refl F') (List.prefix_refl _) (hs2.up hfr2) f2 f1 f3 ⟨_, upd_same, v2⟩ rfl⟩
end
end DL
namespace DL
open PySem PySem.Spec PyProof.Rows L2 RZ PySem.Calls LamX
theorem readsAll_len {h : Heap} : ∀ {vs : List Value} {ds : List PyData} {as : List Addr}, ReadsAll h vs ds as → vs.length = ds.length
  | _, _, _, .nil => rfl
  | _, _, _, .cons _ t => by simp [readsAll_len t]
theorem reads_tup {h : Heap} {u : Value} {ds : List PyData} {as : List Addr} (r : Reads h u (.tuple ds) as) : ∃ t its, u = .ref t ∧ IsTup h t its ∧ ReadsAll h its.toList ds as ∧ its.size = ds.length := by
  cases r with
  | tuple h1 h2 h3 h4 =>
    rename_i a o vs n
    exact ⟨a, vs, rfl, ⟨o, h1, h2, n, h3⟩, h4, by rw [← readsAll_len h4]; simp⟩
structure LamScope (params : Arguments) (body : Expr) (scope : Scope) (x : Str) : Prop where
  sk : scope.kind = .function
  co : scope.isCoroutine = false
  ge : scope.isGenerator = false
  cell : ∀ y ∈ scope.names, y.2 ≠ .cell
  loc : scope.names.lookup x = some .local
  bind : ∀ (qual : Str) (pm cv ct u : Value), bindArgs (PySem.W.kla_fn "<lambda>" qual params body scope [] pm cv ct) ⟨[u], []⟩ = pure [(x, u)]
  dbg : (x == ("__debug__" : Str)) = false
def key0 : D → PyData
  | .tup (x :: _) => pyD x
  | _ => .none
section
variable {P : Program} {w : World} {K : PySem.W.Frag} {mg : Str → Option Value} {base : Heap} {qual x : Str} {params : Arguments} {scope : Scope} {p1 p2 p3 p4 : Pos} {k j : Nat}
theorem turn_sub0 (L : LamScope params (.Subscript (.Name x p1) (.Constant (.int 0) k p2) p3) scope x) : Turn P w K mg base qual params (.Subscript (.Name x p1) (.Constant (.int 0) k p2) p3) scope (fun d => ∃ a r, d = .tup (.str a :: r)) key0 := by
  intro A s f c' pm ctv u d as h1 h2 h3 ho hcd hnl ⟨a, r, e⟩ hr _ _
  subst e
  obtain ⟨t, its, rfl, ht, hra, hsz⟩ := reads_tup (by simpa [pyD, pyDs] using hr)
  obtain ⟨v0, hv0, tk0, e0⟩ : ∃ v0, its[0]? = some v0 ∧ ∃ tk0, v0 = .str a tk0 := by
    have : ∀ {vs : List Value} {as : List Addr}, ReadsAll s.heap vs (.str a :: pyDs r) as → ∃ v0, vs[0]? = some v0 ∧ ∃ tk0, v0 = .str a tk0 := fun q => by
      cases q with
      | cons q1 q2 => cases q1; exact ⟨_, rfl, _, rfl⟩
    obtain ⟨v0, q1, q2⟩ := this hra
    exact ⟨v0, by simpa using q1, q2⟩
  subst e0
  refine lam_enter h1 ho hcd hnl L.sk L.co L.ge L.cell L.loc (L.bind _ _ _ _ _) fun h₁ tk LL kp hns => ?_
  refine Subscript_ ?_
  refine wpAny_Name (wpAny_loadName_local L.sk L.loc hns (show _ = some (Value.ref t) by simp) ?_) L.dbg
  refine wpAny_Constant_int ?_
  have ht' : IsTup h₁ t its := by obtain ⟨o, a1, a2⟩ := ht; exact ⟨o, kp _ _ a1, a2⟩
  have hs0 : 0 < its.size := (Array.getElem?_eq_some_iff.mp hv0).1
  refine subscriptTail_builtinR (T := "tuple") (x := .str a tk0) ⟨_, ht'.choose_spec.1, ht'.choose_spec.2.1⟩ slot_tuple_getitem.lookup
    (getItem_tuple (j := 0) (Q := fun r s' => r = .str a tk0 ∧ PySem.W.KeyPure _ _ _ _) ht' (by decide) (by decide) (by rw [seqIndex_of (by decide) (by omega)]; rfl) hv0 ⟨rfl, ?_⟩) rfl
  exact ⟨h₁, _, rfl, kp, .str _ _⟩
end
structure FunC (K : PySem.W.Frag) (x qual : Str) (st : Stmt) (f : Addr) (fd : FuncData) (c : Addr) : Prop where
  ex : ∃ (oc : Value) (od : Option Addr) (kV doc pm : Value) (an : Option Addr) (ct : Value) (osl : Array (Option Value)),
    fd = PySem.W.fnOf x qual (defArgs st) (defBody st) (defScope st) .none kV doc pm an (.ref c) ct ∧ K.lookup f = some ⟨oc, od, .func fd, osl⟩ ∧ PySem.W.codeIn K (.ref c) qual = true
  keep : PySem.W.keepIn K (.ref f) = true
theorem fun_mkC {K : PySem.W.Frag} {x qual : Str} {st : Stmt} {f c : Addr} {oc : Value} {od an : Option Addr} {osl : Array (Option Value)} {kV doc pm ct : Value} (l : K.lookup f = some ⟨oc, od, .func (PySem.W.fnOf x qual (defArgs st) (defBody st) (defScope st) .none kV doc pm an (.ref c) ct), osl⟩)
    (cc : PySem.W.codeIn K (.ref c) qual = true) (k : PySem.W.keepIn K (.ref f) = true) : FunC K x qual st f (PySem.W.fnOf x qual (defArgs st) (defBody st) (defScope st) .none kV doc pm an (.ref c) ct) c := ⟨⟨oc, od, kV, doc, pm, an, ct, osl, rfl, l, cc⟩, k⟩
section
variable {P : Program} {w : World} {K : PySem.W.Frag} {mg : Str → Option Value} {base : Heap}
theorem fn_bodyC {x qual : Str} {st : Stmt} {f c : Addr} {fd : FuncData} {N ps : List Str} {k : Nat} {sp : SpD} (F : FunC K x qual st f fd c) (S : FnScope N ps (defScope st)) (len : ∀ args mu Φ ε, sp args mu Φ ε → args.length = ps.length)
    (hbody : ∀ (A : Around) (outer : List Env) (s : Shared) (H : Hp) (E : XK), RoomG k (A.deeper (envOfC qual (defScope st) s.heap.objs.size f (.ref c))) → ∀ args mu Φ ε, sp args mu Φ ε →
      WSs (cxOf (L2.CX P w) P w K mg base N qual (defScope st) f (.ref c) A outer s H E) (defBody st) (startD N args) mu { nx := fun _ m => RetOk mu.length Φ .non m, rt := RetOk mu.length Φ, ex := ExOk mu.length ε }) :
    FnG P w K mg base (k + 1) f fd ps (conc K sp) := by
  obtain ⟨oc, od, kV, doc, pm, an, ct, osl, rfl, lk, hcd⟩ := F.ex
  refine fng_of lk hcd S (fun vs H Q E h => ?_) (fun A outer s H vs Q E hr h => ?_)
  · obtain ⟨R, F0, as, mu, args, Φ, ε, hs, r, q, _⟩ := h
    rw [← r.len]; exact len _ _ _ _ q
  · obtain ⟨R, F0, as, mu, args, Φ, ε, hs, r, q, hq, he⟩ := h
    refine hbody A outer s H E hr args mu Φ ε q (fun cls d _ H => E cls d H) R F0 as (start N vs) H _ (takes_of rfl rfl rfl rfl) hs r.start ⟨?_, ?_, fun _ _ _ _ _ _ z => z.elim, fun _ _ _ _ _ _ z => z.elim, ?_⟩
    · intro dl' mu' F' as' σ' H' ⟨p1, p2, p3⟩ e1 e2 hs' _
      rw [← hs.ln] at p2 p3
      exact hq .non .non _ F' H' p3 e1 (hs'.cut e2 (all_pure p2)) p1 rfl
    · intro v y mu' F' as' H' ⟨p1, p2, p3⟩ e1 e2 hs' r'
      rw [← hs.ln] at p2 p3
      exact hq v y _ F' H' p3 e1 (hs'.cut e2 (all_pure p2)) p1 (Rp.other _ _ p1 r')
    · intro y d dl' mu' F' as' σ' H' ⟨p1, p2, p3⟩ e1 e2 hs' _ xo
      rw [← hs.ln] at p2 p3
      exact he y d _ F' H' p3 e1 (hs'.cut e2 (all_pure p2)) p1 (xo.other p1)
structure DnC (K : PySem.W.Frag) (mg : Str → Option Value) (x : Str) (st : Stmt) (c : Addr) : Prop where
  ex : ∃ (f : Addr) (fd : FuncData), mg x = some (.ref f) ∧ FunC K x x st f fd c
variable {x : Str} {st : Stmt} {ps : List Str} {k : Nat} {c : Addr}
theorem DnC.cal {sp : SpD} (d : DnC K mg x st c) (h : ∀ f fd, FunC K x x st f fd c → FnG P w K mg base k f fd ps (conc K sp)) (hb : BindA x st ps) : Cal P w K mg base x k [] sp := by
  obtain ⟨f, fd, hm, F⟩ := d.ex
  have F' : Fun K x x st f fd := ⟨let ⟨oc, od, kV, doc, pm, an, ct, osl, e⟩ := F.ex; ⟨oc, od, kV, doc, pm, an, .ref c, ct, osl, e⟩, F.keep⟩
  exact ⟨f, fd, ps, [], [], hm, F.keep, h f fd F, F'.binds hb, .nil, fun _ _ => rfl⟩
end
end DL
namespace DL
open PySem PySem.Spec PyProof.Rows L2 RZ PySem.Calls LamX
section
variable {X : Cx} {e o : Expr} {es : List Expr} {dl : List Sl} {mu : List MO} {Φ : DK} {ε : XP} {pos p : Pos} {x : Str}
theorem cf_sortedTu {x : D} {ns : List Str} {Φ : MO → List MO → Prop} (hc : X.calm = true) (hn : rdD mu x = .tup (ns.map .str)) (h : ∀ ys : List Str, ys.Perm ns → sortedS ys = true → Φ (.lst (ys.map .str)) mu) : WCfO X (.builtin "sorted") [x] mu Φ := .mk fun R F as H vs Q hs r k => by
  obtain ⟨v, rfl, r1⟩ := r.one
  have w := hs.view r1
  rw [hn] at w
  obtain ⟨a, ws, rfl, h1, h2⟩ := w
  cases h2.ofStr
  intro pins s σ us I ru
  obtain ⟨u, rfl, ru1⟩ := vals1 ru
  cases ru1
  obtain ⟨its, rv, pl, hz⟩ := I.tuple (hs.er.tup h1).sqT
  obtain ⟨o, ho, hcl, nn, hd⟩ := id pl
  have hS : StrsAre its ns := rv.strs
  have hla : its.length = ns.length := by rw [← rv.length, List.length_map]
  rw [List.length_map] at hz
  refine call_function_entry kind_sorted plain_sorted entry_sorted (args_sorted1 _) ?_
  unfold Builtin.«sorted»
  refine wpAny_bind (m := checkCount "sorted" 1 1 _) (wpAny_pure ?_)
  refine wpAny_bind (wpAny_collect_seq (T := "tuple") a (.inr rfl) ho hcl hd (fun h' hk => ?_) (by rw [List.size_toArray]; omega))
  rw [List.toList_toArray]
  refine wpAny_bind (wpAny_newList ?_ (by rw [hla]; exact hz))
  have ho2 : (h'.push (seqObj "list" its.toArray 0)).get? h'.objs.size = some (seqObj "list" its.toArray 0) := Heap.get?_push_size _ rfl
  have I1 : Inv X pins σ H { s with heap := h' } := I.kept (t' := s.toks) hk
  refine wpAny_bind (wpAny_holding (wpAny_call_entry PyProof.Rows.slot_list_sort ⟨_, ho2, rfl⟩ PyProof.Rows.entry_list_sort
    (list_sort_treeKAny strKind_oneLt ho2 hS.keysOf (fun v₁ v₂ rest e => keyKind_strs (by rw [← e]; exact hS)) (by rw [hla]; exact hz) fun st' hp hso => ?_) (PyProof.Rows.args_list_sort _)))
  obtain ⟨ys, g1, g2, g3⟩ := sorted_out_str hS hp hso
  obtain ⟨ep, he'⟩ := PyProof.Rows.sortedHeap_at (vs := its) (out := (arrOf st').map (·.2)) ho2
  have hlen : (ys.map V.str).length ≤ sizeLine := by rw [List.length_map, g2.length_eq]; exact hz
  refine ⟨.none, rfl, wpAny_pure ⟨_, rfl, .ref h'.objs.size, upd H h'.objs.size (.lst (ys.map V.str)), ?_, rfl, k.lst hs (h ys g2 g3) RpL.mapStr (I1.hok.fresh (Nat.le_refl _))⟩⟩
  refine I1.laid (t' := s.toks) (fun b o e => ?_) (Nat.le_refl _) ⟨hlen, ((arrOf st').map (·.2)).toList, ep, vals_of_strs g1, by rw [Array.toArray_toList]; exact he'⟩
  rw [PyProof.Rows.sortedHeap_old (Nat.ne_of_lt (Heap.lt_size e)) (Heap.lt_size (Heap.get?_push_of_some _ e))]
  exact Heap.get?_push_of_some _ e
end
def lotD (l : List Str) : D := .tup (l.map .str)
end DL
namespace DL
open PySem PySem.Spec PyProof.Rows L2 RZ PySem.Calls LamX
section
variable {X : Cx} {a rest : List Stmt} {dl : List Sl} {mu : List MO} {Ψ : DEnds} {p p2 p3 pos : Pos} {x : Str} {i c : Int} {k : Nat}
end
end DL
namespace DL
open PySem PySem.Spec PyProof.Rows L2 RZ PySem.Calls LamX
end DL
namespace DL
open PySem PySem.Spec PyProof.Rows L2 RZ PySem.Calls
def putD (f : Str) (v : D) : List (Str × D) → List (Str × D)
  | [] => [(f, v)]
  | (g, x) :: r => if g = f then (g, v) :: r else (g, x) :: putD f v r
section
variable {K : PySem.W.Frag} {F : Hp} {as : List Addr}
theorem RpF.put {f : Str} {y : D} {u : V} (ry : Rp K F as y u) : ∀ {fs : List (Str × D)} {ws : List (Str × V)}, RpF K F as fs ws → RpF K F as (putD f y fs) (L2.putF f u ws)
  | [], _, h => by cases h; exact ⟨u, [], rfl, ry, rfl⟩
  | (g, x) :: r, _, ⟨v, r', h1, h2, h3⟩ => by
    subst h1
    unfold putD L2.putF
    by_cases e : g = f
    · rw [if_pos e, if_pos e]; exact ⟨u, r', rfl, ry, h3⟩
    · rw [if_neg e, if_neg e]; exact ⟨v, _, rfl, h2, RpF.put ry h3⟩
theorem RpF.len : ∀ {fs : List (Str × D)} {ws : List (Str × V)}, RpF K F as fs ws → fs.length = ws.length
  | [], _, h => by cases h; rfl
  | _ :: _, _, ⟨_, _, h1, _, h3⟩ => by subst h1; simp [RpF.len h3]
end
section
variable {X : Cx} {o e value : Expr} {es : List Expr} {dl : List Sl} {mu : List MO} {Φ : DK} {ε : XP} {pos p apos : Pos} {f m x : Str} {C : Addr}
theorem we_attr (c : Cls X.K C) (n : NoAttr X.K C f) (h : WE X o dl mu (fun d m => ∃ fs y, rdD m d = .obj C fs ∧ fs.lookup f = some y ∧ Φ y m) ε) (hb : attributeBase o f X.env (eval o X.env) = eval o X.env := by rfl) : WE X (.Attribute o f pos) dl mu Φ ε :=
  .mk fun W R F as σ H Q tk hs ha k kx => SE.by (pe_fld SE.pe hb) (h.then tk hs ha kx fun v d m F' as' H' q e1 e2 hs' ha' r kx' => by
    obtain ⟨fs, y, g1, g2, g3⟩ := q
    have vw := hs'.view r
    rw [g1] at vw
    obtain ⟨a, dx, ws, rfl, q2, q3⟩ := vw
    obtain ⟨v', l1, l2⟩ := q3.look f g2
    exact ⟨a, C, dx, ws, v', rfl, q2, c, n, l1, k v' y m F' as' H' g3 e1 e2 hs' l2⟩)
theorem ws_attr {p' : Pos} {Ψ : DEnds} (c : Cls X.K C) (n : NoAttr X.K C f) (h : WE X value dl mu (fun y m => WE X o dl m (fun d m2 => ∃ k fs, d = .own k ∧ m2[k]? = some (.ins C fs) ∧ fs.length < 1000 ∧ Ψ.nx dl (m2.set k (.ins C (putD f y fs)))) (fun x m => Ψ.ex x dl m)) (fun x m => Ψ.ex x dl m))
    (hsw : swapsWith value (some (.Attribute o f p')) pos.line X.env = pure false := by rfl) : WS X (.Assign [.Attribute o f p'] value pos) dl mu Ψ := .mk fun W R F as σ H E tk hs ha k =>
  SS.by (ps_fld SE.pe SE.pe hsw) (h.then tk hs ha (k.toX ha) fun v y m F1 as1 H1 q e1 p1 hs1 ha1 r1 kx1 => q.then tk hs1 ha1 kx1 fun v2 d m2 F2 as2 H2 q2 e2 p2 hs2 ha2 r2 kx2 => by
    obtain ⟨i, fs, rfl, g2, g3, g4⟩ := q2
    obtain ⟨a, a1, rfl⟩ := r2
    obtain ⟨dx, ws, b1, b2⟩ := hs2.ct i a _ a1 g2
    refine ⟨a, C, dx, ws, rfl, b1, c, n, by rw [← b2.len]; exact g3, ?_⟩
    exact k.nx _ _ F2 as2 σ _ g4 (e1.trans e2) (p1.trans p2) (hs2.put a1 g2 rfl ⟨dx, _, upd_same, b2.put (Rp.mono e2 p2 _ _ r1)⟩) ha2)
end
structure CalM (P : Program) (w : World) (K : PySem.W.Frag) (mg : Str → Option Value) (base : Heap) (C : Addr) (m : Str) (k : Nat) (sp : SpD) : Prop where
  ex : ∃ (f : Addr) (fd : FuncData) (ps : List Str), Meth K C m f ∧ FnG P w K mg base k f fd ps (conc K sp) ∧ Binds K fd ps []
structure CalMk (P : Program) (w : World) (K : PySem.W.Frag) (mg : Str → Option Value) (base : Heap) (x : Str) (C : Addr) (k : Nat) (sp : SpD) : Prop where
  ex : ∃ (f : Addr) (fd : FuncData) (ps : List Str), mg x = some (.ref C) ∧ Mk K C f ∧ FnG P w K mg base k f fd ps (conc K sp) ∧ Binds K fd ps []
theorem CalM.up {P : Program} {w : World} {K : PySem.W.Frag} {mg : Str → Option Value} {base : Heap} {C : Addr} {m : Str} {j k : Nat} {sp : SpD} (c : CalM P w K mg base C m j sp) (h : j ≤ k) : CalM P w K mg base C m k sp := by
  obtain ⟨f, fd, ps, h1, h2, h3⟩ := c.ex
  exact ⟨f, fd, ps, h1, h2.up h, h3⟩
theorem CalMk.up {P : Program} {w : World} {K : PySem.W.Frag} {mg : Str → Option Value} {base : Heap} {x : Str} {C : Addr} {j k : Nat} {sp : SpD} (c : CalMk P w K mg base x C j sp) (h : j ≤ k) : CalMk P w K mg base x C k sp := by
  obtain ⟨f, fd, ps, h1, h2, h3, h4⟩ := c.ex
  exact ⟨f, fd, ps, h1, h2, h3.up h, h4⟩
def tMethS (C : Addr) (m : Str) (sp : Sp) (E : L2.St → XK) (ta : TE) (t : TA) : TE := fun σ H Q => ta σ H fun x H1 => ∃ a dx fs, x = .ref a ∧ H1 a = some (.ins C dx fs) ∧ fs.lookup m = none ∧
  t σ H1 fun vs H2 => sp (x :: vs) H2 Q (E σ)
def tMakeS (C : Addr) (sp : Sp) (E : L2.St → XK) (t : TA) : TE := fun σ H Q => t σ H fun vs H1 => ∀ x dx, H1 x = none → H1 dx = none → dx ≠ x →
  sp (.ref x :: vs) (upd (upd H1 dx (.own x)) x (.ins C dx [])) (fun v H2 => v = .non ∧ Q (.ref x) H2) (E σ)
section
variable {X : Cx} {o e value : Expr} {es : List Expr} {dl : List Sl} {mu : List MO} {Φ : DK} {ε : XP} {pos p apos : Pos} {f m x : Str} {C : Addr}
theorem we_meth0 {k j : Nat} {sp : SpD} {pl : Sem Bool} (c : Cls X.K C) (cm : CalM X.prog X.w X.K X.mg X.base C m k sp) (n : Nat) (hr : RoomG j X.A) (hk : k ≤ j)
    (h : WE X o dl mu (fun d m1 => ∃ fs, rdD m1 d = .obj C fs ∧ fs.lookup m = none ∧ CallOk n [] sp [d] m1 Φ ε) ε)
    (ht : eval (.Call (.Attribute o m apos) [] [] pos) X.env = (do
      let ov ← eval o X.env
      standAt apos.atName
      let (f, first) ← holding [ov] (getMethod ov m pl)
      callWith pos f first (backTo pos (starEach [] X.env)) (backToKw pos (keywordEach [] X.env))) := by rfl) :
    WE X (.Call (.Attribute o m apos) [] [] pos) dl mu Φ ε := .mk fun W R F as σ H Q tk hs ha k' kx => by
  obtain ⟨g, fd, ps, hm, h3, h4⟩ := cm.ex
  refine SE.by (t := tMethS C m (conc X.K sp) (L2.WE W) (SE X o) tNil) ⟨fun pins s σ H Q I h => ?_⟩ (h.then tk hs ha kx fun v d m1 F1 as1 H1 q e1 p1 hs1 ha1 r1 kx1 => ?_)
  · refine PySem.W.methodCall_KW (pl := pl) (thn (SE.pe.run pins s σ H _ I h) fun u s1 ⟨x, H1, I1, rx, a, dx, fs, ex, ea, l, q⟩ => ?_) ht
    subst ex
    obtain rfl : u = Value.ref a := rx
    refine getmeth_ok I1 ea c hm l ?_
    exact PySem.W.callWith_K0 (first := [.ref a]) I1.kIn hm.kp (run_fng (CXE := L2.WE W) (dvs := []) (ds := []) (us := [.ref a]) (vs := [.ref a]) h3 (hr.mono hk) h4 .nil (passAt tk σ) I1 (.cons rfl .nil) q)
  · obtain ⟨fs, g1, g2, g3⟩ := q
    have vw := hs1.view r1
    rw [g1] at vw
    obtain ⟨a, dx, ws, rfl, q2, q3⟩ := vw
    exact ⟨a, dx, ws, rfl, q2, q3.none m g2, conc_call (vs := [.ref a]) (xs := [d]) (dd := []) (dvs := []) (σ := σ) (W := W) hs1 ⟨_, _, rfl, r1, rfl⟩ (fun _ _ => rfl) g3 (k'.go e1 p1) kx1⟩
theorem wo_make {k j : Nat} {sp : SpD} {Φ : MO → List MO → Prop} (cm : CalMk X.prog X.w X.K X.mg X.base x C k sp) (hr : RoomG j X.A) (hk : k + 1 ≤ j)
    (h : WA X (e :: es) dl mu (fun xs m => noOwns xs = true ∧ sp (.own 0 :: xs) [.ins C []] (fun y mc => y = .non ∧ ∃ mo, mc = [mo] ∧ mo.live = true ∧ mo.pure = true ∧ Φ mo m) (fun y mc => ε y m)) ε) (hg : Gl X x := by rfl)
    (hdb : (x == ("__debug__" : Str)) = false := by decide) (he : starEach (e :: es) X.env = (false, eval e X.env) :: starEach es X.env := by rfl) (hpl : (backTo pos (starEach es X.env)).any (·.1) = false := by rfl) : WO X (.Call (.Name x p) (e :: es) [] pos) dl mu Φ ε :=
  .mk fun W R F as σ H Q tk hs ha k' kx => by
    obtain ⟨g, fd, ps, h1, M, h3, h4⟩ := cm.ex
    refine SE.by (t := tMakeS C (conc X.K sp) (L2.WE W) (SA X (e :: es))) ⟨fun pins s σ H Q I h => wpAny_Call_Name_kw (ld_glob I hg h1 ?_ hdb)⟩ (h.then tk hs ha kx fun vs xs m F1 as1 H1 q e1 p1 hs1 ha1 r1 kx1 => fun a dx hx hd ne => ?_)
    · refine PySem.W.callWith_K (h₀ := X.base) I.ok.mod.kin M.kp (thn (SA.pa.run pos pins s σ H _ I h) fun us s1 ⟨vs, H1, I1, r, q⟩ => ⟨I1.kIn, ?_⟩) he hpl
      have hq := q (s1.heap.objs.size + 1) s1.heap.objs.size (I1.hok.fresh (Nat.le_succ _)) (I1.hok.fresh (Nat.le_refl _)) (Nat.ne_of_lt (Nat.lt_succ_self _))
      have I2 := Inv.made (C := C) I1
      have r2 : Vals (V.ref (s1.heap.objs.size + 1) :: vs) (Value.ref (s1.heap.objs.size + 1) :: us) := .cons rfl r
      have hl : (Value.ref (s1.heap.objs.size + 1) :: us ++ []).length = ps.length := by
        have e := r2.length
        rw [h3.len _ _ _ _ hq] at e
        rw [List.append_nil]; exact e.symm
      refine wpAny_call (make_map (f := g) I1.kIn M.makes M.init (beq_iff_eq.mp M.fn) (codeAny_mono (h3.run _ X.stack _ _ ⟨Value.ref (s1.heap.objs.size + 1) :: us, []⟩ (Value.ref (s1.heap.objs.size + 1) :: us) _ _ _ ⟨(hr.mono hk).rm.make C us [], ?_⟩
        (I2.env0.make C us []) ?_ r2 hq) fun r s' hq' => ?_))
      · exact (hr.mono hk).gd
      · have := h4 { s1 with heap := ((s1.heap.push PySem.W.emptyDict).push (PySem.W.instObj C s1.heap.objs.size)) } (Value.ref (s1.heap.objs.size + 1) :: us) I2.kIn hl
        rwa [List.append_nil] at this
      · cases r with
        | error e => exact passAt tk σ pins _ _ e s' I2 hq'
        | ok fl =>
          cases fl with
          | ret u =>
            obtain ⟨v, H', I3, rv, ev, q3⟩ := I2.after hq'
            subst ev
            exact ⟨rv, ⟨V.ref (s1.heap.objs.size + 1), H', I3, rfl, q3⟩⟩
          | next => exact False.elim hq'
          | brk => exact False.elim hq'
          | cont => exact False.elim hq'
    · obtain ⟨no, q⟩ := q
      have hA := hs1.up (o := .own a) hd
      have hxA : upd H1 dx (.own a) a = none := by rw [upd_ne (Ne.symm ne)]; exact hx
      have hB := hA.up (o := .ins C dx []) hxA
      obtain ⟨f1, f2, f3⟩ := hs1.free hx
      have asd : aside R (upd (upd H1 dx (.own a)) a (.ins C dx [])) as1 m 0 a = none := by
        unfold aside
        split
        · rename_i z
          obtain ⟨i, m', _, z1, z2, z3⟩ := z
          rw [f3 i m' z1 z2] at z3; cases z3
        · exact f2
      have hC := (hB.part 0 (fun i z hi => absurd hi (Nat.not_lt_zero _)) (Nat.zero_le _)).more (m := .ins C []) (p := a) f1 asd (fun i z e => by simp at e) ⟨dx, [], upd_same, rfl⟩
      refine ⟨_, F1, [a], [.ins C []], .own 0 :: xs, _, _, hC, ⟨_, _, rfl, ⟨a, rfl, rfl⟩, RpL.other _ _ no r1⟩, q, ?_, ?_⟩
      · rintro v y mc F' H' ⟨rfl, mo, rfl, ml, mp, hΦ⟩ e2 hs2 _ r2
        refine ⟨r2, ?_⟩
        have hcut := hs2.cut (bs := []) (List.nil_prefix) (fun i z hi => absurd hi (Nat.not_lt_zero _))
        have hj := hB.join (n := 0) (Nat.zero_le _) e2 hcut
        refine k' a mo m F' as1 H' hΦ (e1.trans e2) p1 hj f2 (hs2.sep 0 a mo rfl rfl ml) f3 ((hs2.ct 0 a mo rfl rfl).other mp) ml
      · intro y d mc F' H' hε e2 hs2 px xo
        have hcut := hs2.cut (bs := []) (List.nil_prefix) (fun i z hi => absurd hi (Nat.not_lt_zero _))
        have hj := hB.join (n := 0) (Nat.zero_le _) e2 hcut
        refine kx1 y d m F' as1 H' hε e2 (List.prefix_refl _) hj ?_
        cases hf : y.fs with
        | none => rw [hf] at xo; exact xo
        | some fs =>
          rw [hf] at xo px
          obtain ⟨b, ws, q1, q2, q3, q4⟩ := xo
          exact ⟨b, ws, q1, q2, q3, RpF.other _ _ px q4⟩
end
end DL
namespace DL
open PySem PySem.Spec PyProof.Rows L2 RZ PySem.Calls
def putZ (g : Addr → Array Value) : Hp → List Addr → List (Key × V) → Hp
  | H, a :: as, p :: kvs => putZ g (upd H a (.frz (tob (g a)) (.tup [kV p.1, p.2]))) as kvs
  | H, _, _ => H
theorem putZ_off {g : Addr → Array Value} {b : Addr} : ∀ (as : List Addr) (kvs : List (Key × V)) (H : Hp), b ∉ as → putZ g H as kvs b = H b
  | [], _, _, _ => rfl
  | _ :: _, [], _, _ => rfl
  | a :: as, p :: kvs, H, h => by
    show putZ g (upd H a (.frz (tob (g a)) (.tup [kV p.1, p.2]))) as kvs b = H b
    rw [putZ_off as kvs _ (fun z => h (List.mem_cons_of_mem _ z)), upd_ne (fun z => h (by rw [z]; exact List.mem_cons_self))]
theorem putZ_at {g : Addr → Array Value} : ∀ (as : List Addr) (kvs : List (Key × V)) (H : Hp), as.length = kvs.length → as.Nodup → Paired (fun (t : Addr) (p : Key × V) => putZ g H as kvs t = some (.frz (tob (g t)) (.tup [kV p.1, p.2]))) as kvs
  | [], [], _, _, _ => .nil
  | [], _ :: _, _, h, _ => by cases h
  | _ :: _, [], _, h, _ => by cases h
  | a :: as, p :: kvs, H, h, hn => by
    have hn' := List.nodup_cons.mp hn
    have ih := putZ_at (g := g) as kvs (upd H a (.frz (tob (g a)) (.tup [kV p.1, p.2]))) (Nat.succ.inj h) hn'.2
    refine .cons ?_ ih
    show putZ g (upd H a (.frz (tob (g a)) (.tup [kV p.1, p.2]))) as kvs a = _
    rw [putZ_off as kvs _ hn'.1, upd_same]
def itsAt (h : Heap) (a : Addr) : Array Value := match h.get? a with
  | some ⟨_, _, .seq its _, _⟩ => its
  | _ => #[]
theorem Hs.putZ {K : PySem.W.Frag} {R : Hp} {mu : List MO} {as0 : List Addr} {g : Addr → Array Value} : ∀ {as : List Addr} {kvs : List (Key × D)} {ws : List (Key × V)} {F H : Hp}, Hs K R F as0 mu H → RpK K F as0 kvs ws → as.length = ws.length → as.Nodup → (∀ a, a ∈ as → H a = none) →
    ∃ F', Er F F' ∧ Hs K R F' as0 mu (putZ g H as ws) ∧ RpL K F' as0 (kvs.map pairD) (as.map V.ref)
  | [], [], _, F, H, hs, r, hl, _, _ => by cases r; exact ⟨F, Er.refl F, hs, rfl⟩
  | [], _ :: _, _, _, _, _, ⟨_, _, e, _, _⟩, hl, _, _ => by subst e; cases hl
  | _ :: _, [], _, _, _, _, r, hl, _, _ => by cases r; cases hl
  | a :: as, (k, d) :: kvs, _, F, H, hs, ⟨v, r', e, r1, r2⟩, hl, hn, hH => by
    subst e
    have hn' := List.nodup_cons.mp hn
    obtain ⟨g1, g2⟩ := hs.laid (o := .frz (tob (g a)) (.tup [kV k, v])) (hH a List.mem_cons_self)
    obtain ⟨F', e1, h1, h2⟩ := Hs.putZ (g := g) g1 (RpK.mono g2 (List.prefix_refl _) _ _ r2) (Nat.succ.inj hl) hn'.2 (fun b hb => by
      rw [upd_ne (fun z => hn'.1 (by rw [← z]; exact hb))]; exact hH b (List.mem_cons_of_mem _ hb))
    refine ⟨F', g2.trans e1, h1, _, _, rfl, ⟨a, _, rfl, .inl ⟨_, e1.ex _ _ trivial upd_same⟩, ⟨kV k, [v], rfl, ?_, v, [], rfl, Rp.mono (g2.trans e1) (List.prefix_refl _) _ _ r1, rfl⟩⟩, h2⟩
    cases k <;> rfl
section
variable {X : Cx} {e : Expr} {te : TE} {p apos cpos pos : Pos}
theorem items_laidZ {pins : List (Addr × Obj)} {σ : L2.St} {H : Hp} {s : Shared} {h' : Heap} {tk : Nat} {kvs : List (Key × V)} {vs : List (Key × Value)} {acc : Array Value} {c : Nat} {as : List Addr} (I : Inv X pins σ H s) (hz : kvs.length ≤ sizeLine) (kv : KV kvs vs)
    (hk : ∀ b o, s.heap.get? b = some o → h'.get? b = some o) (hS : h'.get? s.heap.objs.size = some { cls := .type "list", dict := none, data := .seq acc c, slots := #[] }) (hl : as.length = vs.length) (hG : PySem.W.KdxG (mixKind X.prog X.w) vs s.heap.objs.size h' as) (hacc : acc.toList = as.map Value.ref) :
    as.length = kvs.length ∧ as.Nodup ∧ (∀ t ∈ as, H t = none) ∧ putZ (itsAt h') H as kvs s.heap.objs.size = none ∧ Inv X pins σ (upd (putZ (itsAt h') H as kvs) s.heap.objs.size (.lst (as.map V.ref))) { s with heap := h', toks := tk } := by
  have lk : kvs.length = vs.length := Paired.length kv
  have hSn : s.heap.objs.size ∉ as := fun z => Nat.lt_irrefl _ (hG.above _ z)
  have nd : as.Nodup := List.Pairwise.imp (fun {a b} (h : a < b) => Nat.ne_of_lt h) hG.rise
  have new : ∀ t ∈ as, H t = none := fun t ht => I.hok.fresh (Nat.le_of_lt (hG.above t ht))
  have newS : H s.heap.objs.size = none := I.hok.fresh (Nat.le_refl _)
  have zS : putZ (itsAt h') H as kvs s.heap.objs.size = none := by rw [putZ_off as kvs _ hSn]; exact newS
  have atP := putZ_at (g := itsAt h') as kvs H (by omega) nd
  have off : ∀ b, b ∉ as → b ≠ s.heap.objs.size → upd (putZ (itsAt h') H as kvs) s.heap.objs.size (.lst (as.map V.ref)) b = H b := fun b h1 h2 => by rw [upd_ne h2, putZ_off as kvs _ h1]
  have low : ∀ b o, s.heap.get? b = some o → b ∉ as ∧ b ≠ s.heap.objs.size := fun b o e => ⟨fun z => absurd (Heap.lt_size e) (Nat.not_lt.mpr (Nat.le_of_lt (hG.above b z))), Nat.ne_of_lt (Heap.lt_size e)⟩
  have kp : ∀ b u, H b = some u → upd (putZ (itsAt h') H as kvs) s.heap.objs.size (.lst (as.map V.ref)) b = some u := fun b u e => by
    rw [off b (fun z => by rw [new b z] at e; cases e) (fun z => by rw [z, newS] at e; cases e)]
    exact e
  refine ⟨by omega, nd, new, zS, ?_⟩
  refine I.call' (ch := []) rfl ⟨fun b o q _ _ _ => hk b o q, fun b o q _ _ _ => ⟨o.slots, hk b o q⟩, fun b o q n _ => ?_, fun b o q _ => ⟨o, hk b o q⟩, fun b xs q => kp b _ q, fun b o u q => kp b _ q, fun b ps q => ⟨#[], by rw [kp b _ q]; simp⟩⟩ (fun b u q => ?_) I.bare fun b z => by simp at z
  · obtain ⟨z1, z2⟩ := low b o q
    rw [off b z1 z2]
    exact n
  · by_cases hb2 : b = s.heap.objs.size
    · rw [hb2] at q ⊢
      rw [upd_same] at q
      cases q
      refine ⟨by rw [List.length_map]; omega, acc.toList, c, by rw [hacc]; exact LiI.vals_refs as, ?_⟩
      rw [Array.toArray_toList]
      exact hS
    · by_cases hb : b ∈ as
      · obtain ⟨j, pk, e1, e2, e3⟩ := LiI.paired_ix atP hb
        rw [upd_ne hb2, e3] at q
        cases q
        obtain ⟨key, k, x, f1, f2, f3⟩ := hG.pairs j b e1
        obtain ⟨qv, g1, g2, g3⟩ := LiI.paired_get kv e2
        rw [f1] at g1
        cases g1
        have rk : RelV (kV pk.1) key := by
          rw [g2]
          exact relV_key (show keyIs k key = true from f2)
        have ei : itsAt h' b = #[key, x] := by unfold itsAt; rw [f3]
        rw [ei]
        exact ⟨f3, by show 2 ≤ sizeLine; decide, [key, x], .cons rk (.cons g3 .nil), ⟨_, f3, rfl, _, rfl⟩⟩
      · rw [off b hb hb2] at q
        exact (I.hok b u q).stay (fun d v _ y => hk d v y) (fun d y => kp d _ y) fun d xs y => kp d _ y
theorem pe_listItemsZ (hc : X.calm = true) (hg : Gl X "list") (hm : X.mg "list" = none) (hv : bootBuiltins "list" = some (.type "list")) (hbase : attributeBase e "items" X.env (eval e X.env) = eval e X.env) (hline : (apos.endLine == cpos.line) = true)
    (hs : starEach [.Call (.Attribute e "items" apos) [] [] cpos] X.env = (false, eval (.Call (.Attribute e "items" apos) [] [] cpos) X.env) :: starEach [] X.env) :
    PE X (.Call (.Name "list" p) [.Call (.Attribute e "items" apos) [] [] cpos] [] pos) (fun σ H Q => SE X e σ H fun y H1 => ∃ d kvs, y = .ref d ∧ Rd H1 d (.dK kvs) ∧
      ∀ (g : Addr → Array Value) (q : Addr) (ts : List Addr), ts.length = kvs.length → ts.Nodup → (∀ t ∈ ts, H1 t = none) → putZ g H1 ts kvs q = none → Q (.ref q) (upd (putZ g H1 ts kvs) q (.lst (ts.map V.ref)))) := by
  refine ⟨fun pins s σ H Q I hq => ?_⟩
  refine wpAny_Call_Name_kw (ld_blt I hg hm hv ?_)
  refine PyProof.Rows.callWith_type1 ?_ hs rfl
  rw [hs]
  show wpAny _ _ (spliced ((false, eval (.Call (.Attribute e "items" apos) [] [] cpos) X.env) :: backTo pos (starEach [] X.env))) _ _ s
  refine Calls.spliced_cons ?_
  refine wpAny_Call_method (T := "dict") (id := "dict.items") hbase rfl hline F.plainAttrs_dict F.slot_dict_items F.type_dict_items (thn (SE.pe.run pins s σ H _ I hq) fun u s1 ⟨x, H1, I1, rx, d, kvs, ex, hd, q⟩ => ?_)
  subst ex
  obtain rfl : u = Value.ref d := rx
  obtain ⟨hz, hs0, vs, kv, hdo⟩ := dk_rd I1.hok hd
  obtain ⟨ep, hat⟩ := hdo.dictAt
  have lk : kvs.length = vs.length := Paired.length kv
  have I2 : Inv X pins σ H1 { s1 with heap := s1.heap.push { cls := .type "dict_items", data := .fields #[.ref d] } } := I1.kept (t' := s1.toks) fun b ob q => Heap.get?_push_of_some _ q
  refine ⟨hdo.typeIs, hdo.mapOf.noDict, ?_⟩
  show wpAny _ _ (callWith cpos (.builtin "dict.items") [.ref d] [] []) _ X.xe s1
  refine method_meetsIn F.slot_dict_items F.entry_dict_items rfl (PySem.evalArgs_none ⟨rfl, hdo.typeIs, F.args_dict_items_1 _, _, meets_dict_items (mixKind X.prog X.w) d hs0, ⟨vs, hdo⟩, ?_⟩)
  refine Calls.spliced_nil ?_
  refine PySem.W.kdx_call (knd := mixKind X.prog X.w) (kvs := vs) (ep := ep) (I1.ok.hd hc) ⟨_, Heap.get?_push_size _ rfl, rfl, rfl⟩ (hat.push _) (by omega) fun h' tk acc c as hk hS hl hG hacc => ?_
  obtain ⟨k1, k2, k3, k4, J⟩ := items_laidZ (tk := tk) I2 hz kv hk hS hl hG hacc
  exact ⟨.ref _, _, J, rfl, q (itsAt h') _ as k1 k2 k3 k4⟩
variable {dl : List Sl} {mu : List MO} {Φ : MO → List MO → Prop} {ε : XP}
theorem wo_listItems (hm : X.mg "list" = none) (h : WE X e dl mu (fun d m => ∃ kvs, rdD m d = .dct kvs ∧ Φ (.lst (kvs.map pairD)) m) ε) (hc : X.calm = true := by rfl) (hg : Gl X "list" := by rfl) (hv : bootBuiltins "list" = some (.type "list") := by rfl)
    (hbase : attributeBase e "items" X.env (eval e X.env) = eval e X.env := by rfl) (hline : (apos.endLine == cpos.line) = true := by rfl)
    (he : starEach [.Call (.Attribute e "items" apos) [] [] cpos] X.env = (false, eval (.Call (.Attribute e "items" apos) [] [] cpos) X.env) :: starEach [] X.env := by rfl) : WO X (.Call (.Name "list" p) [.Call (.Attribute e "items" apos) [] [] cpos] [] pos) dl mu Φ ε := .mk fun W R F as σ H Q tk hs ha k kx =>
  SE.by (pe_listItemsZ hc hg hm hv hbase hline he) (h.then tk hs ha kx fun v d m F' as' H' ⟨kvs, hd, φ⟩ e1 e2 hs' ha' r kx' => by
    have w := hs'.view r
    rw [hd] at w
    obtain ⟨a, ws, rfl, h1, h2⟩ := w
    refine ⟨a, ws, rfl, h1, fun g q ts hl hn ht hq => ?_⟩
    obtain ⟨F2, e3, hs2, r2⟩ := hs'.putZ (g := g) h2 hl hn ht
    exact ((k.go e1 e2).go e3 (List.prefix_refl _)).lst hs2 φ r2 hq)
end
abbrev LDK := List Yd → List Yd → List (Key × D) → List MO → Prop
def DcOk (X : Cx) (kx vx tg it : Expr) (is : List Nat) (ifs : List Expr) (scope : Scope) (own : List (Str × Nat)) (dl : List Sl) (mu : List MO) (Φ : List (Key × D) → List MO → Prop) (ε : XP) : Prop :=
  WIt X tg it dl mu (fun ys m => ys.length ≤ sizeLine ∧ ∃ J : LDK, J [] ys [] m ∧
      (∀ pre y post acc m', ys = pre ++ y :: post → J pre (y :: post) acc m' → Blocks X scope fun B => WG B tg is y (wipeD dl (own.map (·.2))) m' (fun dl2 m2 =>
        Blocks X scope fun B => WTs B ifs dl2 m2 (fun b m3 => (b = true → Blocks X scope fun B => WE B kx dl2 m3 (fun kd m4 => Blocks X scope fun B => WE B vx dl2 m4 (fun z m5 => ∃ kk, keyD kd = some kk ∧ J (pre ++ [y]) post (gput acc kk z) m5) X0) X0) ∧ (b = false → J (pre ++ [y]) post acc m3)))) ∧
      (∀ acc m', J ys [] acc m' → Φ acc m')) ε
theorem gput_len {α : Type} (kvs : List (Key × α)) (k : Key) (v : α) : (gput kvs k v).length ≤ kvs.length + 1 := by
  unfold gput
  split
  · simp
  · simp
section
variable {X : Cx} {kx vx tg it : Expr} {dl : List Sl} {mu : List MO} {ε : XP} {pos : Pos}
theorem dc_run {own : List (Str × Nat)} {is : List Nat} {ifs : List Expr} {scope : Scope} {Φ : MO → List MO → Prop} (h : DcOk X kx vx tg it is ifs scope own dl mu (fun acc m => Φ (.dct acc) m) ε) (his : ∀ i ∈ is, i ∈ own.map (·.2))
    {W : WX} {R F : Hp} {as : List Addr} {σ : L2.St} {H : Hp} {Q : VK} (tk : Takes X W) (hs : Hs X.K R F as mu H) (ha : At X.K F as dl σ) (k : KontO X.K R F as Φ Q) (kx' : KontX X.K R F as ε (fun c d H => W c d σ H)) : tDc (SIt X tg it) (BG X scope tg) (BT X scope ifs) (BE X scope kx) (BE X scope vx) (own.map (·.2)) σ H Q := by
  refine (WIt.run h W R F as σ H _ tk hs ha (fun I ys m F1 as1 H1 ⟨hsz, J, j0, jt, jd⟩ e1 e2 hs1 wk Dl hD => ?_) kx')
  obtain ⟨fF, fR, _⟩ := hs1.free hD
  have fA := hs1.ne_new hD
  have st0 : Hs X.K (upd R Dl (.dK [])) F1 as1 m (upd H1 Dl (.dK [])) := (hs1.up hD).frame upd_same fF fA
  refine ⟨fun i n H2 => ∃ pre post accD accV F2 as2 mu2, ys = pre ++ post ∧ pre.length = i ∧ post.length = n ∧ Er F1 F2 ∧ as1 <+: as2 ∧ Hs X.K (upd R Dl (.dK accV)) F2 as2 mu2 H2 ∧ RpK X.K F2 as2 accD accV ∧ accD.length ≤ pre.length ∧ J pre post accD mu2,
    ⟨ys.length, [], ys, [], [], F1, as1, m, rfl, rfl, rfl, Er.refl _, List.prefix_refl _, st0, rfl, Nat.le_refl _, j0⟩, fun i n H2 ⟨pre, post, accD, accV, F2, as2, mu2, ey, ei, en, f1, f2, hs2, ra, al, jj⟩ => ?_⟩
  obtain ⟨w1, w2⟩ := wk _ i H2 F2 as2 mu2 f1 f2 hs2
  cases post with
  | nil =>
    rw [List.append_nil] at ey
    subst ey
    refine .inl ⟨w2 (by omega), k Dl (.dct accD) mu2 F2 as2 H2 (jd _ _ jj) (e1.trans f1) (e2.trans f2) (hs2.unframe fR) fR (hs2.frF Dl _ upd_same) (fun k' m' q _ => ?_) ⟨accV, hs2.fr Dl _ upd_same, ra⟩ rfl⟩
    have := hs2.frA Dl (List.mem_of_getElem? q)
    rw [upd_same] at this; cases this
  | cons y post =>
    have gy : ys[i]? = some y := by rw [ey, ← ei]; simp
    obtain ⟨go, yl⟩ := w1 y gy
    have hlen : accD.length < sizeLine := by
      have : pre.length + (post.length + 1) = ys.length := by rw [ey]; simp
      omega
    refine .inr ⟨go, fun H3 => ∃ accD' accV' F3 as3 mu3, Er F1 F3 ∧ as1 <+: as3 ∧ Hs X.K (upd R Dl (.dK accV')) F3 as3 mu3 H3 ∧ RpK X.K F3 as3 accD' accV' ∧ accD'.length ≤ pre.length + 1 ∧ J (pre ++ [y]) post accD' mu3, fun H3 ⟨accD', accV', F3, as3, mu3, g1, g2, hs3, ra3, al3, j3⟩ => ?_, fun z H3 yz => ?_⟩
    · exact ⟨post.length, by simp at en; omega, pre ++ [y], post, accD', accV', F3, as3, mu3, by simp [ey], by simp [ei], rfl, g1, g2, hs3, ra3, by simpa using al3, j3⟩
    · obtain ⟨F3, g1, hs3, yo⟩ := yl z H3 yz
      have ha3 : At X.K F3 as2 (wipeD dl (own.map (·.2))) (L2.wipe σ (own.map (·.2))) := (ha.mono ((e1.trans f1).trans g1) (e2.trans f2)).wipe _
      intro s0 H0 C cl fp
      refine jt pre y post accD mu2 ey jj s0 H0 C cl fp (upd R Dl (.dK accV)) F3 as2 _ H3 z _ hs3 ha3 yo fun dl4 mu4 F4 as4 σ4 H4 p4 q1 q2 hs4 ha4 stw => ⟨(stw.wipe his).trans (wipe_wipe σ _), ?_⟩
      intro s0 H0 C cl fp
      refine p4 s0 H0 C cl fp (upd R Dl (.dK accV)) F4 as4 σ4 H4 _ hs4 ha4 fun b mu5 F5 as5 H5 p5 r1 r2 hs5 => ?_
      cases b with
      | false =>
        show ∃ accD' accV' F3 as3 mu3, _
        exact ⟨accD, accV, F5, as5, mu5, ((f1.trans g1).trans q1).trans r1, (f2.trans q2).trans r2, hs5, RpK.mono ((g1.trans q1).trans r1) (q2.trans r2) _ _ ra, by omega, p5.2 rfl⟩
      | true =>
        show BE X scope kx σ4 H5 _
        intro s0 H0 C cl fp
        refine p5.1 rfl s0 H0 C cl fp (fun _ _ _ _ => False) (upd R Dl (.dK accV)) F5 as5 σ4 H5 _ takes0 hs5 (ha4.mono r1 r2) (fun vk kd mu6 F6 as6 H6 p6 t1 t2 hs6 r6 => ?_) fun _ _ _ _ _ _ z => z.elim
        intro s0 H0 C cl fp
        refine p6 s0 H0 C cl fp (fun _ _ _ _ => False) (upd R Dl (.dK accV)) F6 as6 σ4 H6 _ takes0 hs6 ((ha4.mono r1 r2).mono t1 t2) (fun v d mu7 F7 as7 H7 p7 u1 u2 hs7 r7 => ?_) fun _ _ _ _ _ _ z => z.elim
        obtain ⟨kk, hkk, p7⟩ := p7
        have raV := RpK.mono ((((g1.trans q1).trans r1).trans t1).trans u1) (((q2.trans r2).trans t2).trans u2) _ _ ra
        refine ⟨accV, kk, keyD.v hkk r6, hs7.fr Dl _ upd_same, by rw [← ra.len]; exact hlen, gput accD kk d, putK accV kk v, F7, as7, mu7, ((((f1.trans g1).trans q1).trans r1).trans t1).trans u1, (((f2.trans q2).trans r2).trans t2).trans u2, hs7.reframe, raV.put r7, ?_, p7⟩
        have := gput_len accD kk d
        omega
theorem wo_dc {is : List Nat} {ifs : List Expr} {scope : Scope} {Φ : MO → List MO → Prop} (own : List (Str × Nat)) (h : DcOk X kx vx tg it is ifs scope own dl mu (fun acc m => Φ (.dct acc) m) ε)
    (hN : X.N.Nodup := by assumption) (ok : BlkOk X.N X.env.scope scope own := by exact blkOk_by rfl) (his : ∀ i ∈ is, i ∈ own.map (·.2) := by decide) (hc : X.calm = true := by rfl) (hfs : ∀ x, foldedSetIterable it X.env x = pure x := by intro _; rfl) : WO X (.DictComp kx vx [⟨tg, it, ifs, 0⟩] scope pos) dl mu Φ ε := .mk fun W R F as σ H Q tk hs ha k kx =>
  SE.by (pe_dc hc hN SIt.pi ok BG.pg BT.pt BE.pe BE.pe hfs) (dc_run h his tk hs ha k kx)
end
end DL
namespace DL
open PySem PySem.Spec PyProof.Rows L2 RZ PySem.Calls
theorem nodup_inj {α β : Type} {f : α → β} : ∀ {l : List α}, (l.map f).Nodup → ∀ {a b : α}, a ∈ l → b ∈ l → f a = f b → a = b
  | [], _, a, _, h, _, _ => by simp at h
  | x :: l, nd, a, b, ha, hb, e => by
    simp only [List.map_cons, List.nodup_cons] at nd
    rcases List.mem_cons.mp ha with e1 | ha
    · rcases List.mem_cons.mp hb with e2 | hb
      · rw [e1, e2]
      · exact absurd (by rw [← e1, e]; exact List.mem_map_of_mem hb) nd.1
    · rcases List.mem_cons.mp hb with e2 | hb
      · exact absurd (by rw [← e2, ← e]; exact List.mem_map_of_mem ha) nd.1
      · exact nodup_inj nd.2 ha hb e
theorem sort_by {α : Type} {k : α → Str} {f : α → D} {kd : D → PyData} (hk : ∀ a, kd (f a) = .str (k a)) {xs ys : List α} (p : xs.Perm ys) (s : sortedS (ys.map k) = true) (nd : (ys.map k).Nodup) : (xs.map f).mergeSort (PySem.W.dataLe false kd) = ys.map f := by
  rw [← List.map_mergeSort (r := PySem.W.dataLe false (fun a => PyData.str (k a))) (fun a _ b _ => by rw [PySem.W.dataLe_eq, PySem.W.dataLe_eq]; simp only [hk])]
  congr 1
  have tr : ∀ a b c : α, (PySem.W.dataLe false (fun a => PyData.str (k a))) a b = true → (PySem.W.dataLe false (fun a => PyData.str (k a))) b c = true → (PySem.W.dataLe false (fun a => PyData.str (k a))) a c = true := fun a b c h g => by
    rw [PySem.W.dataLe_str] at *
    exact decide_eq_true (List.le_trans (of_decide_eq_true h) (of_decide_eq_true g))
  have tt : ∀ a b : α, ((PySem.W.dataLe false (fun a => PyData.str (k a))) a b || (PySem.W.dataLe false (fun a => PyData.str (k a))) b a) = true := fun a b => by
    rw [PySem.W.dataLe_str]
    rcases List.le_total (k a).cps.toList (k b).cps.toList with h | h <;> simp [h]
  have ps := List.pairwise_mergeSort tr tt xs
  have pp := (List.mergeSort_perm xs (PySem.W.dataLe false (fun a => PyData.str (k a)))).trans p
  refine List.Perm.eq_of_pairwise (le := fun a b => leS (k a) (k b)) (fun a b ha hb h g => nodup_inj nd (pp.subset ha) hb (leS_anti h g)) (ps.imp fun {a b} h => ?_) (List.pairwise_map.mp (sortedS_pw s)) pp
  rw [PySem.W.dataLe_str] at h
  have h : (k a).cps.toList ≤ (k b).cps.toList := by simpa using h
  exact h
theorem key0_alike {α : Type} {k : α → Str} {f : α → D} {kd : D → PyData} (hk : ∀ a, kd (f a) = .str (k a)) (xs : List α) : PySem.W.AllAlike ((xs.map f).map kd) ∧ PySem.W.Sortable ((xs.map f).map kd) ∧ ∀ d, d ∈ xs.map f → (kd d).depth ≤ 50 := by
  refine ⟨?_, ?_, ?_⟩
  · rw [List.map_map]
    refine PySem.W.AllAlike.of fun a b => ?_
    show PySem.W.alike (kd (f a)) (kd (f b)) = true
    rw [hk, hk]; simp [PySem.W.alike]
  · rw [List.map_map]
    refine PySem.W.Sortable.others fun b => ?_
    show kd (f b) ≠ .none ∧ ∀ xs, kd (f b) ≠ .tuple xs
    rw [hk]
    exact ⟨by simp, fun _ => by simp⟩
  · intro d hd
    obtain ⟨a, _, rfl⟩ := List.mem_map.mp hd
    rw [hk]; simp [PyData.depth]
section
variable {X : Cx} {kx vx tg it : Expr} {dl : List Sl} {mu : List MO} {ε : XP} {pos : Pos}
theorem dcA {α : Type} {is : List Nat} {scope : Scope} {own : List (Str × Nat)} {Φ : List (Key × D) → List MO → Prop} (h : WIt X tg it dl mu (fun ys m => ∃ (l : List α) (g : α → Yd) (kf : α → Key) (vf : α → D), ys = l.map g ∧ l.length ≤ sizeLine ∧
      (∀ a, a ∈ l → Blocks X scope fun B => WG B tg is (g a) (wipeD dl (own.map (·.2))) m (fun dl2 m2 => m2 = m ∧ (Blocks X scope fun B => WE B kx dl2 m (fun z m4 => m4 = m ∧ z = kD (kf a)) X0) ∧ Blocks X scope fun B => WE B vx dl2 m (fun z m4 => m4 = m ∧ z = vf a) X0)) ∧
      Φ (gmerge [] (l.map fun a => (kf a, vf a))) m) ε) : DcOk X kx vx tg it is [] scope own dl mu Φ ε := WIt.imp h fun ys m ⟨l, g, kf, vf, ey, hl, ht, q⟩ => by
  subst ey
  refine ⟨by rw [List.length_map]; exact hl, fun pre post acc m' => m' = m ∧ ∃ l1 l2, l = l1 ++ l2 ∧ pre = l1.map g ∧ post = l2.map g ∧ acc = gmerge [] (l1.map fun a => (kf a, vf a)), ⟨rfl, [], l, rfl, rfl, rfl, rfl⟩, ?_, ?_⟩
  · rintro pre y post acc m' he ⟨rfl, l1, l2, rfl, rfl, hp, rfl⟩
    cases l2 with
    | nil => cases hp
    | cons a l2 =>
      cases hp
      intro s0 H0 C cl fp
      refine (ht a (by simp) s0 H0 C cl fp).imp fun d m2 ⟨e1, e2, e3⟩ => ?_
      subst e1
      intro s1 H1 C1 cl1 fp1
      refine wts_nil ⟨fun _ => ?_, fun h => by cases h⟩
      intro s2 H2 C2 cl2 fp2
      refine WE.imp (e2 s2 H2 C2 cl2 fp2) fun z m4 ⟨e4, e5⟩ => ?_
      subst e4 e5
      intro s3 H3 C3 cl3 fp3
      refine WE.imp (e3 s3 H3 C3 cl3 fp3) fun z m5 ⟨e6, e7⟩ => ?_
      subst e6 e7
      refine ⟨kf a, keyD_kD _, rfl, l1 ++ [a], l2, by simp, by simp, rfl, ?_⟩
      simp [gmerge, List.foldl_append]
  · rintro acc m' ⟨rfl, l1, l2, rfl, h1, h2, rfl⟩
    have h2 : l2 = [] := by
      cases l2 with
      | nil => rfl
      | cons => cases h2
    subst h2
    rw [List.append_nil] at q
    exact q
end
structure HallC (K : PySem.W.Frag) (C : Addr) : Prop where
  cls : Cls K C
  chambers : NoAttr K C "chambers"
  gates : NoAttr K C "gates"
  weights : NoAttr K C "weights"
  folk : NoAttr K C "folk"
  bodies : NoAttr K C "bodies"
def bodyD (x : Wlk) : D := .tup [.int x.heft, .int x.hands]
def bodiesK (l : List Wlk) : List (Key × D) := l.map fun x => (.inr x.name, bodyD x)
def hallF (h : Hall) : List (Str × D) := [("chambers", .lst (h.rooms.map .str)), ("gates", .dct (doorsK h.doors)), ("weights", .dct (stonesK h.stones)), ("folk", .lst (h.folk.map .str)), ("bodies", .dct (bodiesK h.walkers))]
def Hall.o (C : Addr) (h : Hall) : D := .obj C (hallF h)
def rowsIs (d : D) (rs : List Row) : Prop := d = .lst (rs.map Row.d) ∨ d = .tup (rs.map Row.d)
def DoorTold (x : Door) (a b : Str) (d : D) : Prop := ((a = x.one ∧ b = x.other) ∨ (x.way = "both" ∧ a = x.other ∧ b = x.one)) ∧ ∃ rs : List Row, rowsIs d rs ∧ rs.Perm x.rows
structure Door.Fit (x : Door) : Prop where
  both : x.way = "both" → leS x.one x.other
  rows : sortedS (x.rows.map (·.room)) = true
  nd : (x.rows.map (·.room)).Nodup
  nm : ∀ r, r ∈ x.rows → nameOk r.room = true
  len : x.rows.length ≤ 1000
theorem okD_row {n : Nat} {r : Row} (h : nameOk r.room = true) : okD (n + 1) r.d = true := by
  show (okD n (.str r.room) && (okD n (.int r.least) && (okD n (optD r.most) && true))) = true
  rw [okD_name h]
  cases r.most <;> cases n <;> rfl
theorem Door.Ok.fit {rooms : List Str} {x : Door} (o : x.Ok rooms) (s : sortedS rooms = true) (nd : rooms.Nodup) (nm : ∀ r, r ∈ rooms → nameOk r = true) : x.Fit where
  both h := by
    have := sortedS_pw (o.both h)
    simpa using this
  rows := sortedS_sub o.rows s
  nd := nd.sublist o.rows
  nm r hr := nm _ (o.rows.subset (List.mem_map_of_mem hr))
  len := by have := o.rows4; omega
structure Hall.Fit (h : Hall) : Prop where
  rooms : sortedS h.rooms = true
  doors : sortedS (h.doors.map (·.name)) = true
  doorsN : (h.doors.map (·.name)).Nodup
  stones : sortedS (h.stones.map (·.1)) = true
  stonesN : (h.stones.map (·.1)).Nodup
  folkN : h.folk.Nodup
  l1 : h.rooms.length ≤ 60
  l2 : h.doors.length ≤ 1000
  l3 : h.stones.length ≤ 1000
  l4 : h.walkers.length ≤ 1000
  door : ∀ x, x ∈ h.doors → x.Fit
theorem Hall.Few.fit {h : Hall} (f : h.Few) : h.Fit := by
  obtain ⟨nd, nm, _⟩ := f.names
  obtain ⟨_, _, _, _, o, _⟩ := f.ok
  have n1 : h.rooms.Nodup ∧ (h.doors.map (·.name)).Nodup ∧ (h.stones.map (·.1)).Nodup ∧ h.folk.Nodup := by
    unfold Hall.names at nd
    simp only [List.nodup_append] at nd
    exact ⟨nd.1.1.1, nd.1.1.2.1, nd.1.2.1, nd.2.1⟩
  refine ⟨f.sr, f.sd, n1.2.1, o.stones, n1.2.2.1, n1.2.2.2, f.rooms, by have := f.doors; omega, by have := f.stones; omega, by have := f.walkers; omega, fun x hx => (o.door x hx).fit f.sr n1.1 fun r hr => nm r (by simp [Hall.names, hr])⟩
def sqIs (d : D) (xs : List D) : Prop := d = .lst xs ∨ d = .tup xs
structure DoorT where
  x : Door
  a : Str
  b : Str
  r : D
def DoorT.d (t : DoorT) : D := .tup [.str t.x.name, .str t.a, .str t.b, .str t.x.way, t.r]
def stoneD (x : Str × Int) : D := .tup [.str x.1, .int x.2]
def HallTold (h : Hall) (xr xd xs xw : D) : Prop := ∃ (rs : List Str) (ds : List DoorT) (ss : List (Str × Int)),
  sqIs xr (rs.map .str) ∧ rs.Perm h.rooms ∧ sqIs xd (ds.map DoorT.d) ∧ (ds.map (·.x)).Perm h.doors ∧ (∀ t, t ∈ ds → DoorTold t.x t.a t.b t.r) ∧ sqIs xs (ss.map stoneD) ∧ ss.Perm h.stones ∧ sqIs xw (h.walkers.map Wlk.d)
def sp_door_kept : SpD := fun args mu Φ _ => ∃ (x : Door) (a b : Str) (d : D), args = [.str a, .str b, .str x.way, d] ∧ mu = [] ∧ DoorTold x a b d ∧ x.Fit ∧ Φ x.d []
def sp_Hall_init (C : Addr) : SpD := fun args mu Φ _ => ∃ (h : Hall) (xr xd xs xw : D), args = [.own 0, xr, xd, xs, xw] ∧ mu = [.ins C []] ∧ HallTold h xr xd xs xw ∧ h.Fit ∧ Φ .non [.ins C (hallF h)]
def sp_Hall_rooms (C : Addr) : SpD := fun args mu Φ _ => ∃ h : Hall, args = [h.o C] ∧ mu = [] ∧ Φ (.lst (h.rooms.map .str)) []
def sp_Hall_stones (C : Addr) : SpD := fun args mu Φ _ => ∃ h : Hall, args = [h.o C] ∧ mu = [] ∧ Φ (.lst (h.stones.map fun x => .str x.1)) []
def sp_Hall_walkers (C : Addr) : SpD := fun args mu Φ _ => ∃ h : Hall, args = [h.o C] ∧ mu = [] ∧ Φ (.lst (h.folk.map .str)) []
theorem ownLt_o {n : Nat} (C : Addr) (h : Hall) : ownLt n (h.o C) = true := by
  have e1 : ownLtK n (doorsK h.doors) = true := noOwnK_map fun x => by
    show (ownLt n (.str x.one) && (ownLt n (.str x.other) && (ownLt n (.str x.way) && (ownLts n (x.rows.map Row.d) && true)))) = true
    rw [noOwns_rows]; rfl
  have e2 : ownLtK n (stonesK h.stones) = true := noOwnK_map fun x => rfl
  have e3 : ownLtK n (bodiesK h.walkers) = true := noOwnK_map fun x => rfl
  show (ownLts n (h.rooms.map D.str) && (ownLtK n (doorsK h.doors) && (ownLtK n (stonesK h.stones) && (ownLts n (h.folk.map D.str) && (ownLtK n (bodiesK h.walkers) && true))))) = true
  rw [noOwns_strs, noOwns_strs, e1, e2, e3]; rfl
end DL
namespace DL
open PySem PySem.Spec PyProof.Rows L2 RZ PySem.Calls
structure DnM (K : PySem.W.Frag) (C : Addr) (m qual : Str) (st : Stmt) : Prop where
  ex : ∃ (f : Addr) (fd : FuncData), Meth K C m f ∧ Fun K m qual st f fd
structure DnI (K : PySem.W.Frag) (mg : Str → Option Value) (C : Addr) (x qual : Str) (st : Stmt) : Prop where
  ex : ∃ (f : Addr) (fd : FuncData), mg x = some (.ref C) ∧ Mk K C f ∧ Fun K "__init__" qual st f fd
abbrev BindM (x qual : Str) (st : Stmt) (ps : List Str) : Prop := ∀ (kV doc pm : Value) (an : Option Addr) (cdv ct : Value) (us : List Value), us.length = ps.length → bindArgs (PySem.W.fnOf x qual (defArgs st) (defBody st) (defScope st) .none kV doc pm an cdv ct) ⟨us, []⟩ = pure (ps.zip us)
section
variable {P : Program} {w : World} {K : PySem.W.Frag} {mg : Str → Option Value} {base : Heap} {x m qual : Str} {st : Stmt} {ps : List Str} {k : Nat} {C : Addr} {sp : SpD}
theorem DnM.cal (d : DnM K C m qual st) (h : ∀ f fd, Fun K m qual st f fd → FnG P w K mg base k f fd ps (conc K sp)) (hb : BindM m qual st ps) : CalM P w K mg base C m k sp := by
  obtain ⟨f, fd, h1, h2⟩ := d.ex
  exact ⟨f, fd, ps, h1, h f fd h2, h2.binds hb⟩
theorem DnI.cal (d : DnI K mg C x qual st) (h : ∀ f fd, Fun K "__init__" qual st f fd → FnG P w K mg base k f fd ps (conc K sp)) (hb : BindM "__init__" qual st ps) : CalMk P w K mg base x C k sp := by
  obtain ⟨f, fd, h1, h2, h3⟩ := d.ex
  exact ⟨f, fd, ps, h1, h2, h f fd h3, h3.binds hb⟩
end
section
variable {h : Hall}
theorem look_chambers : List.lookup ("chambers" : Str) (hallF h) = some (.lst (h.rooms.map .str)) := rfl
theorem look_weights : List.lookup ("weights" : Str) (hallF h) = some (.dct (stonesK h.stones)) := rfl
theorem look_folk : List.lookup ("folk" : Str) (hallF h) = some (.lst (h.folk.map .str)) := rfl
theorem ownLt_o1 {n : Nat} (C : Addr) (h : Hall) : ownLts n [h.o C] = true := by
  show (ownLt n (h.o C) && true) = true
  rw [ownLt_o]; rfl
theorem gval_doors {l : List Door} {x : Door} (hx : x ∈ l) (nd : (l.map (·.name)).Nodup) : gval (doorsK l) (.inr x.name) = some x.d := by
  induction l with
  | nil => cases hx
  | cons y l ih =>
    simp only [List.map_cons, List.nodup_cons] at nd
    rcases List.mem_cons.mp hx with e | hx
    · subst e; exact gval_pos rfl
    · have ne : y.name ≠ x.name := fun e => nd.1 (e ▸ List.mem_map_of_mem hx)
      show gval ((Sum.inr y.name, y.d) :: doorsK l) _ = _
      rw [gval_neg (fun e => ne (Sum.inr.inj e))]
      exact ih hx nd.2
theorem gval_stones {l : List (Str × Int)} {n : Str} {v : Int} (hx : (n, v) ∈ l) (nd : (l.map (·.1)).Nodup) : gval (stonesK l) (.inr n) = some (.int v) := by
  induction l with
  | nil => cases hx
  | cons y l ih =>
    simp only [List.map_cons, List.nodup_cons] at nd
    rcases List.mem_cons.mp hx with e | hx
    · subst e; exact gval_pos rfl
    · have ne : y.1 ≠ n := fun e => nd.1 (by rw [e]; exact List.mem_map_of_mem (f := Prod.fst) hx)
      show gval ((Sum.inr y.1, D.int y.2) :: stonesK l) _ = _
      rw [gval_neg (fun e => ne (Sum.inr.inj e))]
      exact ih hx nd.2
end
end DL
namespace DL
open PySem PySem.Spec PyProof.Rows L2 RZ PySem.Calls
section
variable {X : Cx} {s t : Str} {mu : List MO} {Φ : DK}
theorem ltX (k : Φ (.bl (ltS s t)) mu) : WOp X (compareOp .Lt) (.str s) (.str t) mu Φ := wop_lt k
theorem gtX (k : Φ (.bl (ltS t s)) mu) : WOp X (compareOp .Gt) (.str s) (.str t) mu Φ := wop_gt k
end
theorem RpK.keysD {K : PySem.W.Frag} {F : Hp} {as : List Addr} : ∀ {kvs : List (Key × D)} {ws : List (Key × V)}, RpK K F as kvs ws → RpL K F as (kvs.map fun p => kD p.1) (ws.map fun p => kV p.1)
  | [], _, h => by cases h; rfl
  | (k, _) :: _, _, ⟨v, r, h1, h2, h3⟩ => by
    subst h1
    refine ⟨kV k, _, rfl, ?_, RpK.keysD h3⟩
    cases k <;> rfl
section
variable {X : Cx} {mu : List MO}
theorem cf_listD {x : D} {kvs : List (Key × D)} {Φ : MO → List MO → Prop} (hc : X.calm = true) (hn : rdD mu x = .dct kvs) (h : Φ (.lst (kvs.map fun p => kD p.1)) mu) : WCfO X (.type "list") [x] mu Φ := .mk fun R F as H vs Q hs r k => by
  obtain ⟨v, rfl, r1⟩ := r.one
  have w := hs.view r1
  rw [hn] at w
  obtain ⟨a, ws, rfl, h1, h2⟩ := w
  intro pins s σ us I ru
  obtain ⟨u, rfl, ru1⟩ := vals1 ru
  cases ru1
  obtain ⟨z, lo, vs', kv, dd⟩ := dk_rd I.hok h1
  obtain ⟨ep, hat⟩ := dd.dictAt
  have hlen : ws.length = vs'.length := Paired.length kv
  refine PySem.W.kdl_call (PySem.W.kdl_dict (knd := mixKind X.prog X.w) (kvs := vs') (ep := ep) lo) (I.ok.hd hc) hat (by rw [← hlen]; exact z) fun h' tk acc c hk hD hacc => ?_
  refine ⟨.ref _, upd H _ (.lst (ws.map fun p => kV p.1)), I.laid (t' := tk) hk (Nat.le_refl _) ⟨by rw [List.length_map]; exact z, acc.toList, c, vals_by (by rw [List.length_map, Array.length_toList, hlen]; exact hacc.1) fun j v hj => ?_, by simpa using hD⟩, rfl, k.lst hs h h2.keysD (I.hok.fresh (Nat.le_refl _))⟩
  obtain ⟨kk, xx, hx, hi⟩ := hacc.2 j v (by rw [← Array.getElem?_toList]; exact hj)
  have hj2 : j < vs'.length := (List.getElem?_eq_some_iff.mp hx).1
  obtain ⟨kw, hw⟩ : ∃ kw, ws[j]? = some kw := ⟨_, List.getElem?_eq_getElem (by omega)⟩
  obtain ⟨b, e1, e2⟩ := pair_get kv hw
  rw [hx] at e1; cases e1
  refine ⟨kV kw.1, by rw [List.getElem?_map, hw]; rfl, ?_⟩
  rw [e2.1]
  exact relV_key (show keyIs kk v = true from hi)
end
theorem keys_stones (l : List (Str × Int)) : (stonesK l).map (fun p => kD p.1) = l.map fun x => .str x.1 := by simp [stonesK, kD]
end DL
namespace DL
open PySem PySem.Spec PyProof.Rows L2 RZ PySem.Calls
theorem sepM {z TI TO i1 i2 a b : Addr} (D : ZipApart z TI TO i1 i2 a b) : ZipSep2 z TI TO i1 i2 [i1, a] [i2, b] :=
  ⟨D.TIz, D.TOz, D.TITO, D.TIi1, by simp, by simp [D.i1z.symm, D.l1z.symm], by simp [D.TOi1, D.l1TO.symm], D.TIi2, by simp, by simp [D.i2z.symm, D.l2z.symm], by simp [D.TOi2, D.l2TO.symm], by simp [D.i12, D.l2i1.symm], by simp [D.i12.symm, D.l1i2.symm]⟩
section
variable {K : PySem.W.Frag} {F : Hp} {as : List Addr} {a b : Addr} {xs ys : List D} {vs ws : List V}
end
section
variable {X : Cx} {a b : Expr} {elts : List Expr} {kk : Nat} {tpos p pos apos cpos : Pos} {dl : List Sl} {mu : List MO} {ε : XP} {e : Expr}
end
section
variable {X : Cx} {mu : List MO} {Φ : DK} {x : D} {xs : List Str} {y : Str}
end
end DL
namespace DL
open PySem PySem.Spec PyProof.Rows L2 RZ PySem.Calls
structure Stand where
  turn : Nat
  rooms : List Str
  places : List Str
def Stand.d (s : Stand) : D := .tup [.int (s.turn : Nat), .tup (s.rooms.map .str), .tup (s.places.map .str)]
structure Stand.Ok (h : Hall) (s : Stand) : Prop where
  turn : s.turn < h.walkers.length
  rooms : s.rooms.length = h.walkers.length
  roomsIn : ∀ r, r ∈ s.rooms → r ∈ h.rooms
  places : s.places.length = h.stones.length
  placesIn : ∀ p, p ∈ s.places → p ∈ h.rooms ∨ p ∈ h.folk
  hands : ∀ x, x ∈ h.walkers → ((s.places.count x.name : Nat) : Int) ≤ x.hands
def addW (f : Str → Int) (x : Str) (v : Int) : Str → Int := fun r => if r = x then f r + v else f r
def whereOf (kvs : List (Str × Str)) (p : Str) : Str := match gval (strK kvs) (.inr p) with
  | some (.str r) => r
  | _ => p
def born1 (a : Option Str) (l : List (Wlk × Str)) : Str → Int := l.foldl (fun f q => if a = some q.1.name then f else addW f q.2 q.1.heft) fun _ => 0
def born2 (a : Option Str) (kvs : List (Str × Str)) (f : Str → Int) (l : List ((Str × Int) × Str)) : Str → Int := l.foldl (fun f q => if a = some q.2 then f else addW f (whereOf kvs q.2) q.1.2) f
def at_ (h : Hall) (s : Stand) : List (Str × Str) := h.folk.zip s.rooms
def born (h : Hall) (s : Stand) (a : Option Str) : Str → Int := born2 a (at_ h s) (born1 a (h.walkers.zip s.rooms)) (h.stones.zip s.places)
def sp_law_made (C : Addr) : SpD := fun args mu Φ _ => ∃ h : Hall, args = [h.d] ∧ mu = [] ∧ h.Few ∧ Φ (h.o C) []
def Row.met (r : Row) (f : Str → Int) : Bool := decide (r.least ≤ f r.room) && (match r.most with | none => true | some t => decide (f r.room ≤ t))
def Door.opened (x : Door) (f : Str → Int) : Bool := x.rows.all fun r => r.met f
def Door.far (x : Door) (r : Str) : Option Str := if r = x.one then some x.other else if r = x.other ∧ x.way = "both" then some x.one else none
end DL
namespace DL
open PySem PySem.Spec PyProof.Rows L2 RZ PySem.Calls
section
variable {X : Cx} {kx vx tg it : Expr} {dl : List Sl} {mu : List MO} {ε : XP} {pos : Pos}
end
end DL
namespace DL
open PySem PySem.Spec PyProof.Rows L2 RZ PySem.Calls
section
variable {prog : Program} {w : World} {A : Around} {E : Value → Shared → Prop} {s : Shared} {z TI TO T i1 i2 : Addr} {fp1 fp2 : List Addr} {n1 n2 i : Nat} {P1 P2 : Nat → Value → Prop} {St1 St2 : Nat → Heap → Prop} {f : Bool} {oT : Obj}
end
section
variable {prog : Program} {w : World}
end
section
variable {X : Cx} {a b : Expr} {p p2 pos pos2 : Pos} {dl : List Sl} {mu : List MO} {ε : XP}
end
end DL
namespace DL
open PySem PySem.Spec PyProof.Rows L2 RZ PySem.Calls
section
variable {P : Program} {w : World} {K : PySem.W.Frag} {mg : Str → Option Value} {base : Heap}
structure DnD (K : PySem.W.Frag) (mg : Str → Option Value) (x : Str) (st : Stmt) : Prop where
  ex : ∃ (f : Addr) (fd : FuncData), mg x = some (.ref f) ∧ FunD K x x (defArgs st) (defBody st) (defScope st) [V.non] [] f fd
abbrev BindD (x : Str) (st : Stmt) (ps : List Str) (n j : Nat) : Prop := ∀ (T : Addr) (kV doc pm : Value) (an : Option Addr) (cdv ct : Value) (us its : List Value), us.length = n → its.length = 1 →
  ∃ k, bindArgs (PySem.W.fnOf x x (defArgs st) (defBody st) (defScope st) (.ref T) kV doc pm an cdv ct) ⟨us, []⟩ = seqItems? (.ref T) >>= k ∧ k (some its.toArray) = pure (ps.zip (us ++ its.drop j))
variable {x : Str} {st : Stmt} {ps : List Str} {k : Nat} {sp : SpD}
theorem DnD.cal (d : DnD K mg x st) (h : ∀ f fd, FunD K x x (defArgs st) (defBody st) (defScope st) [V.non] [] f fd → FnG P w K mg base k f fd ps (conc K sp)) (h1 : 1 ≤ ps.length) (b0 : BindD x st ps ps.length 1) (b1 : BindD x st ps (ps.length - 1) 0) : Cal P w K mg base x k [] sp ∧ Cal P w K mg base x k [.non] sp := by
  obtain ⟨f, fd, hm, F⟩ := d.ex
  have g := h f fd F
  obtain ⟨ds, r0, hb0⟩ := F.binds1 ps.length 1 (by simp) (by simp) b0
  obtain ⟨ds1, r1, hb1⟩ := F.binds1 (ps.length - 1) 0 (by simp) (by simp; omega) b1
  exact ⟨⟨f, fd, ps, ds, [], hm, F.kp, g, hb0, r0, fun _ _ => rfl⟩, ⟨f, fd, ps, ds1, [V.non], hm, F.kp, g, hb1, r1, fun _ _ => ⟨V.non, [], rfl, rfl, rfl⟩⟩⟩
end
end DL
namespace DL
open PySem PySem.Spec PyProof.Rows L2 RZ PySem.Calls
structure ZSt (z TI TO i1 i2 l1 l2 S : Addr) (xs ys : Array Value) (i : Nat) (h : Heap) : Prop where
  to : ∃ o, h.get? TO = some o
  ti : PySem.IsPair h TI (.ref i1) (.ref i2)
  s1 : h.IsListIter i1 l1 i ∧ h.IsList l1 xs
  s2 : h.IsTupleIter i2 l2 i ∧ h.IsTuple l2 ys
  z : (IsZip h z TI TO .none ∧ ∃ a b, PySem.IsPair h TO a b) ∨ ∃ T f oT, IsZipHeld h z TI TO T f ∧ h.get? T = some oT ∧ T ≠ z ∧ T ≠ i1 ∧ T ≠ i2 ∧ T ≠ S
structure ZG (xs ys : Array Value) (lo : Addr) (h : Heap) (as : List Addr) : Prop where
  rise : as.Pairwise (· < ·)
  above : ∀ a ∈ as, lo < a
  pairs : ∀ (j : Nat) (a : Addr), as[j]? = some a → ∃ x y, xs[j]? = some x ∧ ys[j]? = some y ∧ h.get? a = some { cls := .type "tuple", data := .seq #[x, y] }
section
variable {prog : Program} {w : World} {A : Around} {E : Value → Shared → Prop} {s : Shared} {z TI TO i1 i2 l1 l2 S : Addr} {xs ys : Array Value} {i lo : Nat}
theorem ZSt.keep {h h' : Heap} (st : ZSt z TI TO i1 i2 l1 l2 S xs ys i h) (D : ZipApart z TI TO i1 i2 l1 l2) (hS : S ∉ [z, TI, TO, i1, i2, l1, l2]) (k : ∀ b o, b ≠ S → h.get? b = some o → h'.get? b = some o) : ZSt z TI TO i1 i2 l1 l2 S xs ys i h' := by
  simp only [List.mem_cons, List.not_mem_nil, or_false, not_or] at hS
  obtain ⟨dz, dTI, dTO, di1, di2, dl1, dl2⟩ := hS
  refine ⟨st.to.imp fun o e => k _ o (Ne.symm dTO) e, k _ _ (Ne.symm dTI) st.ti, ⟨st.s1.1.at fun o e => k _ o (Ne.symm di1) e, st.s1.2.at fun o e => k _ o (Ne.symm dl1) e⟩, ⟨st.s2.1.at fun o e => k _ o (Ne.symm di2) e, st.s2.2.at fun o e => k _ o (Ne.symm dl2) e⟩, ?_⟩
  rcases st.z with ⟨hz, a, b, hTO⟩ | ⟨T, f, oT, hz, hT, r1, r2, r3, r4⟩
  · exact .inl ⟨k _ _ (Ne.symm dz) hz, a, b, k _ _ (Ne.symm dTO) hTO⟩
  · exact .inr ⟨T, f, oT, k _ _ (Ne.symm dz) hz, k _ _ r4 hT, r1, r2, r3, r4⟩
end
end DL
namespace DL
open PySem PySem.Spec PyProof.Rows L2 RZ PySem.Calls
def putQ (g : Addr → Array Value) : Hp → List Addr → List (V × V) → Hp
  | H, a :: as, p :: kvs => putQ g (upd H a (.frz (tob (g a)) (.tup [p.1, p.2]))) as kvs
  | H, _, _ => H
def twoD (p : D × D) : D := .tup [p.1, p.2]
theorem Hs.putQ {K : PySem.W.Frag} {R : Hp} {mu : List MO} {as0 : List Addr} {g : Addr → Array Value} : ∀ {as : List Addr} {ps : List (D × D)} {ws : List (V × V)} {F H : Hp}, Hs K R F as0 mu H → Paired (fun (p : D × D) (q : V × V) => Rp K F as0 p.1 q.1 ∧ Rp K F as0 p.2 q.2) ps ws → as.length = ws.length → as.Nodup → (∀ a, a ∈ as → H a = none) →
    ∃ F', Er F F' ∧ Hs K R F' as0 mu (putQ g H as ws) ∧ RpL K F' as0 (ps.map twoD) (as.map V.ref)
  | [], [], _, F, H, hs, r, hl, _, _ => by cases r; exact ⟨F, Er.refl F, hs, rfl⟩
  | [], _ :: _, _, _, _, _, r, hl, _, _ => by cases r; cases hl
  | _ :: _, [], _, _, _, _, r, hl, _, _ => by cases r; cases hl
  | a :: as, p :: ps, _, F, H, hs, r, hl, hn, hH => by
    cases r with
    | cons r t =>
      rename_i q qs
      have hn' := List.nodup_cons.mp hn
      obtain ⟨g1, g2⟩ := hs.laid (o := .frz (tob (g a)) (.tup [q.1, q.2])) (hH a List.mem_cons_self)
      obtain ⟨F', e1, h1, h2⟩ := Hs.putQ (g := g) g1 (Paired.imp (fun x y h => ⟨Rp.mono g2 (List.prefix_refl _) _ _ h.1, Rp.mono g2 (List.prefix_refl _) _ _ h.2⟩) t) (Nat.succ.inj hl) hn'.2 (fun b hb => by
        rw [upd_ne (fun z => hn'.1 (by rw [← z]; exact hb))]; exact hH b (List.mem_cons_of_mem _ hb))
      refine ⟨F', g2.trans e1, h1, _, _, rfl, ⟨a, _, rfl, .inl ⟨_, e1.ex _ _ trivial upd_same⟩, ⟨q.1, [q.2], rfl, Rp.mono (g2.trans e1) (List.prefix_refl _) _ _ r.1, q.2, [], rfl, Rp.mono (g2.trans e1) (List.prefix_refl _) _ _ r.2, rfl⟩⟩, h2⟩
section
variable {X : Cx} {a b : Expr} {p p2 pos pos2 : Pos}
variable {dl : List Sl} {mu : List MO} {Φ : MO → List MO → Prop} {ε : XP}
end
end DL
namespace DL
open PySem PySem.Spec PyProof.Rows L2 RZ PySem.Calls
section
variable {X : Cx} {mu : List MO}
end
end DL
namespace DL
open PySem PySem.Spec PyProof.Rows L2 RZ PySem.Calls
section
variable {X : Cx} {a b : Expr} {dl : List Sl} {mu : List MO} {ε : XP} {pos : Pos} {Φ : DK}
structure GlT (K : PySem.W.Frag) (mg : Str → Option Value) (x : Str) (t : List Str) : Prop where
  ex : ∃ (a : Addr) (o : Obj) (its : Array Value) (n : Nat), mg x = some (.ref a) ∧ K.lookup a = some o ∧ o.cls = .type "tuple" ∧ o.dict = none ∧ o.data = .seq its n ∧ its.size ≤ sizeLine ∧ Vals (t.map V.str) its.toList
end
def deedsOf (h : Hall) (s : Stand) (wn rn : Str) (hands : Int) : List (List Str) :=
  ((h.doors.filter fun x => x.opened (born h s (some wn)) && (x.far rn).isSome).map fun x => [("go" : Str), x.name]) ++
  ((((h.stones.zip s.places).filter fun q => q.2 == wn).map fun q => [("lay" : Str), q.1.1]) ++
  ((if ((s.places.count wn : Nat) : Int) < hands then ((h.stones.zip s.places).filter fun q => q.2 == rn).map fun q => [("lift" : Str), q.1.1] else []) ++ [[("wait" : Str)]]))
end DL
namespace DL
open PySem PySem.Spec PyProof.Rows L2 RZ PySem.Calls
def SlSub (n : Nat) (d' d : List Sl) : Prop := d'.length = d.length ∧ ∀ (i : Nat) x, d'[i]? = some (some x) → d[i]? = some (some x) ∧ ownLt n x = true
def CutK (n : Nat) (K : SK) : SK := fun d m => ∃ d', SlSub n d' d ∧ (m.take n).all MO.pure = true ∧ K d' (m.take n)
section
variable {X : Cx} {st : List Stmt} {dl : List Sl} {mu : List MO} {Ψ : DEnds}
theorem At.cut {K : PySem.W.Frag} {F : Hp} {as bs : List Addr} {d d' : List Sl} {σ : L2.St} {n : Nat} (h : At K F as d σ) (p : bs <+: as) (hn : bs.length = n) (s : SlSub n d' d) : At K F bs d' σ := by
  obtain ⟨t, rfl⟩ := p
  refine ⟨s.1.trans h.1, fun i x q => ?_⟩
  obtain ⟨q1, q2⟩ := s.2 i x q
  obtain ⟨v, v1, v2⟩ := h.2 i x q1
  refine ⟨v, v1, Rp.part (n := n) (fun k hk => ?_) x v q2 v2⟩
  rw [List.getElem?_append_left (by omega)]
theorem KontS.cut {K : PySem.W.Frag} {R F : Hp} {as : List Addr} {Φ : SK} {N : L2.St → Hp → Prop} {n : Nat} (hn : as.length = n) (k : KontS K R F as Φ N) : KontS K R F as (CutK n Φ) N := fun dl' mu' F' as' σ' H' ⟨d', s, pu, q⟩ e p hs ha => by
  rw [← hn] at pu q
  exact k d' _ F' as σ' H' q e (List.prefix_refl _) (hs.cut p (all_pure pu)) (ha.cut p hn s)
theorem WSs.cut (h : WSs X st dl mu { Ψ with nx := CutK mu.length Ψ.nx, ct := CutK mu.length Ψ.ct }) : WSs X st dl mu Ψ := .mk fun W R F as σ H E tk hs ha k =>
  h W R F as σ H E tk hs ha ⟨k.nx.cut hs.ln, k.rt, k.bk, k.ct.cut hs.ln, k.ex⟩
end
end DL
namespace DL
open PySem PySem.Spec PyProof.Rows L2 RZ PySem.Calls
section
variable {prog : Program} {w : World} {A : Around} {E : Value → Shared → Prop} {s : Shared}
theorem starItems {l : Addr} {items : Array Value} {i : Nat} {Q : List Value → Shared → Prop} (hl : IsTup s.heap l items) (hh : A.handled = none) (hi : i ≤ items.size) (hz : items.size ≤ sizeLine)
    (h : ∀ (h' : Heap) (tk : Nat), (∀ b o, s.heap.get? b = some o → h'.get? b = some o) → Q (items.toList.take i ++ [.ref h'.objs.size]) { s with heap := h'.push { cls := .type "list", data := .seq (items.toList.drop i).toArray }, toks := tk }) : wpAny (model prog w) A (unpackItems (.ref l) (i + 1) (some i)) Q E s := by
  have hlt : l ≠ s.heap.objs.size := by obtain ⟨o, ho, _⟩ := hl; exact Nat.ne_of_lt (Heap.lt_size ho)
  unfold unpackItems
  refine wpAny_bind ?_
  unfold notIterableAtAll
  refine wpAny_bind (wpAny_specialOf hl.typeIs PyProof.Rows.slot_tuple_iter.lookup ?_)
  refine wpAny_pure ?_
  simp only [Bool.false_eq_true, if_false]
  refine wpAny_bind (wpAny_holding (iter_tuple hl ?_))
  refine wpAny_bind (wpAny_holding (draw_tuple hlt i 0 _ _ ⟨_, Heap.get?_push_size _ rfl, rfl, rfl⟩ (hl.push _) (by omega) fun h₁ hit₁ hs₁ => ?_))
  have hl₁ : IsTup h₁ l items := (hl.push _).extBut hs₁.extBut hlt
  rw [Nat.zero_add] at hit₁
  have hit₁' := hit₁
  obtain ⟨oi, hoi, _⟩ := hit₁'
  have hl₁' := hl₁
  obtain ⟨ol, hol, _⟩ := hl₁'
  rw [List.drop_zero]
  have hfl : (items.toList.take i).length = i := by rw [List.length_take, Array.length_toList]; omega
  rw [if_neg (show ¬ ((items.toList.take i).length < i) by rw [hfl]; omega)]
  refine wpAny_bind (wpAny_holding (PySem.W.kun_collect (s := { s with heap := h₁ }) (T := "tuple_iterator") (.inr (.inr (.inr rfl))) (Walks.tuple (A := A.in1) hh s.heap.objs.size l hlt items) (fun j u st => st.1.typeIs) (k := i) hi ⟨hit₁, hl₁⟩ (Heap.lt_size hoi) (Heap.lt_size hol) (fun h₂ tk hk => ?_) hz))
  have hrl : (items.toList.drop i).length = items.size - i := by rw [List.length_drop, Array.length_toList]
  show wpAny _ _ (if (items.toList.drop i).length < i + 1 - 1 - i then _ else _) _ _ _
  rw [if_neg (by omega)]
  show wpAny _ _ (newList ((items.toList.drop i).take ((items.toList.drop i).length - (i + 1 - 1 - i))) >>= fun d => pure (items.toList.take i ++ [d] ++ (items.toList.drop i).drop ((items.toList.drop i).length - (i + 1 - 1 - i)))) _ _ _
  have e1 : (items.toList.drop i).length - (i + 1 - 1 - i) = (items.toList.drop i).length := by omega
  rw [e1, List.take_length, List.drop_length]
  have he : ∀ b o, s.heap.get? b = some o → h₂.get? b = some o := fun b o e => hk b o (Nat.ne_of_lt (Heap.lt_size e)) (hs₁.extBut b o (Nat.ne_of_lt (Heap.lt_size e)) (Heap.get?_push_of_some _ e))
  exact wpAny_bind (wpAny_newList (s := { s with heap := h₂, toks := tk }) (wpAny_pure (by rw [List.append_nil]; exact h h₂ tk he)) (by rw [hrl]; omega))
end
def gStar (K : PySem.W.Frag) (i : Nat) (t : TGs) : TG := fun v σ H Q => ∃ a xs, v = .ref a ∧ SqT K H a xs ∧ i ≤ xs.length ∧ ∀ p, H p = none → t (xs.take i ++ [.ref p]) σ (upd H p (.lst (xs.drop i))) Q
section
variable {X : Cx} {es : List Expr} {dl : List Sl} {mu : List MO} {e : Expr} {pos p : Pos}
theorem pg_star {k : Nat} {t : TGs} {i : Nat} (hc : X.calm = true) (h : PGs X es t) (hn : (assignEach es X.env).length = i + 1 := by rfl) (hst : (assignEach es X.env).findIdx? (·.1) = some i := by rfl) : PG X (.Tuple es k pos) (gStar X.K i t) := by
  refine ⟨fun pins s σ H v u Q I r hw => ?_⟩
  obtain ⟨a, xs, e1, hq, hl, hw⟩ := hw
  subst e1
  cases r
  obtain ⟨its, rv, ht, hz⟩ := I.tuple hq
  have hlen := rv.length
  rw [PyProof.Rows.assign_Tuple]
  refine wpAny_bind (wpAny_standAt ?_)
  unfold unpack
  rw [hn, hst]
  refine wpAny_bind (wpAny_holding (starItems (i := i) ht (I.ok.hd hc) (by rw [List.size_toArray]; omega) (by rw [List.size_toArray]; omega) fun h' tk hk => ?_))
  have I1 : Inv X pins σ H { s with heap := h', toks := tk } := I.kept (t' := tk) hk
  have hfr := I1.hok.fresh (Nat.le_refl _)
  have hz' : (xs.drop i).length ≤ sizeLine := by rw [List.length_drop]; omega
  have I2 : Inv X pins σ (upd H h'.objs.size (.lst (xs.drop i))) { s with heap := h'.push { cls := .type "list", data := .seq (its.toArray.toList.drop i).toArray }, toks := tk } :=
    I1.laid (t' := tk) (fun b o e => Heap.get?_push_of_some _ e) (Nat.le_refl _) (show ObjOk X.prog X.w _ _ _ (.lst _) from ⟨hz', its.drop i, 0, rv.drop i, Heap.get?_push_size _ rfl⟩)
  refine h.run pins _ σ _ _ _ Q I2 ?_ (hw _ hfr)
  have r1 : Vals (xs.take i) (its.toArray.toList.take i) := rv.take i
  exact r1.append (.cons rfl .nil)
theorem pgs_star {t : TG} {u : TGs} (h1 : PG X e t) (h2 : PGs X es u)
    (hs : (assignEach (.Starred e p :: es) X.env).map (·.2) = assign e X.env :: (assignEach es X.env).map (·.2) := by rfl) : PGs X (.Starred e p :: es) (gCons t u) := by
  refine ⟨fun pins s σ H vs us Q I r h => ?_⟩
  obtain ⟨v, vr, e1, h⟩ := h
  subst e1
  cases r with
  | cons r rr =>
    rw [hs]
    refine assignInOrder_cons (thn (h1.run pins s σ H _ _ _ I r h) fun _ s1 ⟨σ1, H1, I1, q1⟩ => ?_)
    exact h2.run pins s1 σ1 H1 _ _ Q I1 rr q1
theorem wgs_star {Ψ : SK} {is js : List Nat} {d : D} {ds : List D} (h : WG X e is (.one d) dl mu (fun dl' mu' => WGs X es js ds dl' mu' Ψ)) (hst : (assignEach (.Starred e p :: es) X.env).map (·.2) = assign e X.env :: (assignEach es X.env).map (·.2) := by rfl) :
    WGs X (.Starred e p :: es) (is ++ js) (d :: ds) dl mu Ψ := .mk fun R F as σ H vs Q hs ha ⟨v, r, ev, r1, r2⟩ k => by
  subst ev
  refine SGs.by (pgs_star SG.pg SGs.pgs hst) ⟨v, r, rfl, h R F as σ H v _ hs ha r1 fun dl' mu' F' as' σ' H' p e1 e2 hs' ha' st => ?_⟩
  exact p R F' as' σ' H' r Q hs' ha' (RpL.mono e1 e2 _ _ r2) fun dl2 mu2 F2 as2 σ2 H2 p2 f1 f2 hs2 ha2 st2 => k dl2 mu2 F2 as2 σ2 H2 p2 (e1.trans f1) (e2.trans f2) hs2 ha2 (st.trans st2)
theorem wg_star {Ψ : SK} {is : List Nat} {y : Yd} {ds : List D} {i k' : Nat} (hy : ydL y = some ds) (hl : i ≤ ds.length) (h : WGs X es is (ds.take i ++ [.lst (ds.drop i)]) dl mu Ψ) (hc : X.calm = true := by rfl)
    (hn : (assignEach es X.env).length = i + 1 := by rfl) (hst : (assignEach es X.env).findIdx? (·.1) = some i := by rfl) : WG X (.Tuple es k' pos) is y dl mu Ψ := .mk fun R F as σ H v Q hs ha r k => by
  have : ∃ a vs, v = .ref a ∧ SqT X.K H a vs ∧ RpL X.K F as ds vs := by
    cases y with
    | many zs => cases hy; exact r
    | one d =>
      cases d with
      | tup zs => cases hy; obtain ⟨a, vs, h1, h2, h3⟩ := r; exact ⟨a, vs, h1, (hs.er.tup h2).sqT, h3⟩
      | _ => cases hy
  obtain ⟨a, vs, h1, h2, h3⟩ := this
  refine SG.by (pg_star hc SGs.pgs hn hst) ⟨a, vs, h1, h2, by rw [← h3.len]; exact hl, fun p hp => ?_⟩
  obtain ⟨g1, g2, g3⟩ := hs.free hp
  have ht := (hs.up (o := .lst (vs.drop i)) hp).tell upd_same g1 g2 g3
  have er : Er F (upd F p (.lst (vs.drop i))) := Er.new g1
  refine h R _ as σ _ _ Q ht (ha.mono er (List.prefix_refl _)) (RpL.append (RpL.mono er (List.prefix_refl _) _ _ (RpL.take i h3)) ?_) fun dl' mu' F' as' σ' H' q e1 e2 hs' ha' st => k dl' mu' F' as' σ' H' q (er.trans e1) e2 hs' ha' st
  exact ⟨.ref p, [], rfl, ⟨p, _, rfl, upd_same, RpL.mono er (List.prefix_refl _) _ _ (RpL.drop i h3)⟩, rfl⟩
theorem idx_at {l : List Str} {y : Str} (h : y ∈ l) : l[l.idxOf y]? = some y := by
  rw [List.getElem?_eq_getElem (List.idxOf_lt_length_of_mem h)]
  simp
end
end DL
namespace DL
open PySem PySem.Spec PyProof.Rows L2 RZ PySem.Calls
def Wish.wd : Wish → Str
  | .at .. => "at"
  | .bears .. => "bears"
  | .open .. => "open"
  | .lies .. => "lies"
  | .held .. => "held"
def Wish.nm : Wish → Str
  | .at w _ => w
  | .bears r _ => r
  | .open x => x
  | .lies s _ => s
  | .held s _ => s
def Wish.more : Wish → List D
  | .at _ r => [.str r]
  | .bears _ n => [.int n]
  | .open _ => []
  | .lies _ r => [.str r]
  | .held _ w => [.str w]
theorem Wish.tup (x : Wish) : x.d = .tup (.str x.wd :: .str x.nm :: x.more) := by cases x <;> rfl
theorem Wish.rd (x : Wish) (mu : List MO) : rdD mu x.d = .tup (.str x.wd :: .str x.nm :: x.more) := by cases x <;> rfl
theorem Wish.yd (x : Wish) : ydL (.one x.d) = some (.str x.wd :: .str x.nm :: x.more) := by cases x <;> rfl
theorem Wish.is_open {x : Wish} (h : (x.wd == ("open" : Str)) = true) : ∃ y, x = .open y := by
  cases x with
  | «open» y => exact ⟨y, rfl⟩
  | _ => exact absurd h (by simp only [Wish.wd]; decide +kernel)
theorem Wish.is_bears {x : Wish} (h : (x.wd == ("bears" : Str)) = true) : ∃ r n, x = .bears r n := by
  cases x with
  | bears r n => exact ⟨r, n, rfl⟩
  | _ => exact absurd h (by simp only [Wish.wd]; decide +kernel)
theorem Wish.is_at {x : Wish} (h : (x.wd == ("at" : Str)) = true) : ∃ w r, x = .at w r := by
  cases x with
  | «at» w r => exact ⟨w, r, rfl⟩
  | _ => exact absurd h (by simp only [Wish.wd]; decide +kernel)
def Wish.met (h : Hall) (s : Stand) : Wish → Bool
  | .at w r => s.rooms[h.folk.idxOf w]? == some r
  | .bears r n => decide (n ≤ born h s none r)
  | .open x => h.doors.any fun d => d.name == x && d.opened (born h s none)
  | .lies x r => s.places[(h.stones.map (·.1)).idxOf x]? == some r
  | .held x r => s.places[(h.stones.map (·.1)).idxOf x]? == some r
def Wish.Fit (h : Hall) : Wish → Prop
  | .at w r => w ∈ h.folk ∧ r ∈ h.rooms
  | .bears r _ => r ∈ h.rooms
  | .open _ => True
  | .lies s _ => s ∈ h.stones.map (·.1)
  | .held s _ => s ∈ h.stones.map (·.1)
theorem Wish.Ok.fit {h : Hall} {x : Wish} (o : x.Ok h) : x.Fit h := by
  cases x with
  | «at» w r => exact o
  | bears r n => exact o.1
  | «open» y => trivial
  | lies s r => exact o.1
  | held s w => exact o.1
structure Wish.Lh (h : Hall) (s : Stand) (x : Wish) (b : Str) (c : Str) : Prop where
  more : x.more = [.str b]
  at_ : s.places[(h.stones.map (·.1)).idxOf x.nm]? = some c
  nm : x.nm ∈ h.stones.map (·.1)
  met : x.met h s = (c == b)
theorem Wish.lh {h : Hall} {s : Stand} {x : Wish} (f : x.Fit h) (o : s.places.length = h.stones.length) (h1 : (x.wd == ("open" : Str)) = false) (h2 : (x.wd == ("bears" : Str)) = false) (h3 : (x.wd == ("at" : Str)) = false) : ∃ b c, x.Lh h s b c := by
  have key : ∀ y, y ∈ h.stones.map (·.1) → ∃ c, s.places[(h.stones.map (·.1)).idxOf y]? = some c := fun y hy => by
    have := List.idxOf_lt_length_of_mem hy
    rw [List.length_map, ← o] at this
    exact ⟨_, List.getElem?_eq_getElem this⟩
  cases x with
  | «open» y => exact absurd h1 (by simp only [Wish.wd]; decide +kernel)
  | bears r n => exact absurd h2 (by simp only [Wish.wd]; decide +kernel)
  | «at» w r => exact absurd h3 (by simp only [Wish.wd]; decide +kernel)
  | lies y r =>
    obtain ⟨c, hc⟩ := key y f
    exact ⟨r, c, rfl, hc, f, by show (_ == some r) = _; rw [hc]; rfl⟩
  | held y r =>
    obtain ⟨c, hc⟩ := key y f
    exact ⟨r, c, rfl, hc, f, by show (_ == some r) = _; rw [hc]; rfl⟩
theorem Wish.is_lh {x : Wish} : ([D.str "lies", .str "held"].any fun z => eqD z (.str x.wd)) = true ↔ (x.wd == ("open" : Str)) = false ∧ (x.wd == ("bears" : Str)) = false ∧ (x.wd == ("at" : Str)) = false := by
  cases x <;> simp only [Wish.wd] <;> decide +kernel
theorem Wish.met_at {h : Hall} {s : Stand} {w r : Str} (o : s.rooms.length = h.walkers.length) (hw : w ∈ h.folk) : ∃ c, s.rooms[h.folk.idxOf w]? = some c ∧ (Wish.at w r).met h s = (c == r) := by
  have := List.idxOf_lt_length_of_mem hw
  rw [show h.folk.length = h.walkers.length by simp [Hall.folk], ← o] at this
  obtain ⟨c, hc⟩ : ∃ c, s.rooms[h.folk.idxOf w]? = some c := ⟨_, List.getElem?_eq_getElem this⟩
  exact ⟨c, hc, by show (_ == some r) = _; rw [hc]; rfl⟩
theorem Wish.met_open {h : Hall} {s : Stand} {y : Str} : (((h.doors.filter fun x => x.opened (born h s none)).map fun x => D.str x.name).any fun z => eqD z (.str y)) = (Wish.open y).met h s := by
  rw [List.any_map, List.any_filter]
  show (h.doors.any fun x => x.opened (born h s none) && (x.name == y)) = h.doors.any fun d => d.name == y && d.opened (born h s none)
  congr 1
  funext x
  exact Bool.and_comm _ _
theorem Wish.met_noDoor {h : Hall} {s : Stand} {y : Str} (e : ((h.doors.map (·.name)).map D.str |>.any fun z => eqD z (.str y)) = false) : (Wish.open y).met h s = false := by
  rw [List.any_map, List.any_map, List.any_eq_false] at e
  show (h.doors.any fun d => d.name == y && d.opened (born h s none)) = false
  rw [List.any_eq_false]
  intro d hd hh
  rw [Bool.and_eq_true] at hh
  exact e d hd hh.1
theorem Wish.met_door {h : Hall} {s : Stand} {y : Str} (nd : (h.doors.map (·.name)).Nodup) (e : ((h.doors.map (·.name)).map D.str |>.any fun z => eqD z (.str y)) = true) : ∃ x, x ∈ h.doors ∧ x.name = y ∧ (Wish.open y).met h s = x.opened (born h s none) := by
  rw [List.any_map, List.any_map, List.any_eq_true] at e
  obtain ⟨x, hx, hn⟩ := e
  have hn : x.name = y := by simpa [eqD] using hn
  refine ⟨x, hx, hn, ?_⟩
  subst hn
  show (h.doors.any fun d => d.name == x.name && d.opened (born h s none)) = _
  rw [Bool.eq_iff_iff, List.any_eq_true]
  constructor
  · rintro ⟨d, hd, hh⟩
    rw [Bool.and_eq_true] at hh
    have e2 : d.name = x.name := by simpa using hh.1
    have : d = x := nodup_inj nd hd hx e2
    rw [← this]; exact hh.2
  · intro hh
    exact ⟨x, hx, by simp [hh]⟩
def Wish.Sound (h : Hall) (x : Wish) : Prop := x.Fit h ∧ okD 58 x.d = true
theorem okD_parts {w : Str} {l : List D} (hw : PyData.strOk w = true) (hl : ∀ y, y ∈ l → okD 57 y = true) : okD 58 (.tup (.str w :: l)) = true := by
  show okDs 57 (.str w :: l) = true
  exact okDs_of fun y hy => by
    rcases List.mem_cons.mp hy with rfl | hy
    · exact hw
    · exact hl y hy
theorem Hall.Few.ok1 {h : Hall} (f : h.Few) {r : Str} (hr : r ∈ h.rooms) : okD 57 (.str r) = true := okD_name (f.names.2.1 r (by simp [Hall.names, hr]))
theorem Hall.Few.ok2 {h : Hall} (f : h.Few) {r : Str} (hr : r ∈ h.folk) : okD 57 (.str r) = true := okD_name (f.names.2.1 r (by simp [Hall.names, hr]))
theorem Hall.Few.ok3 {h : Hall} (f : h.Few) {r : Str} (hr : r ∈ h.stones.map (·.1)) : okD 57 (.str r) = true := okD_name (f.names.2.1 r (by unfold Hall.names; exact List.mem_append_left _ (List.mem_append_right _ hr)))
theorem Hall.Few.ok4 {h : Hall} (f : h.Few) {r : Str} (hr : r ∈ h.doors.map (·.name)) : okD 57 (.str r) = true := okD_name (f.names.2.1 r (by unfold Hall.names; exact List.mem_append_left _ (List.mem_append_left _ (List.mem_append_right _ hr))))
theorem okD2 {w : Str} {a : D} (hw : PyData.strOk w = true) (ha : okD 57 a = true) : okD 58 (.tup [.str w, a]) = true := okD_parts hw fun y hy => by cases List.mem_singleton.mp hy; exact ha
theorem okD3 {w : Str} {a b : D} (hw : PyData.strOk w = true) (ha : okD 57 a = true) (hb : okD 57 b = true) : okD 58 (.tup [.str w, a, b]) = true := okD_parts hw fun y hy => by
  rcases List.mem_cons.mp hy with rfl | hy
  · exact ha
  · cases List.mem_singleton.mp hy; exact hb
theorem Wish.Ok.sound {h : Hall} (f : h.Few) {x : Wish} (o : x.Ok h) : x.Sound h := by
  refine ⟨o.fit, ?_⟩
  cases x with
  | «at» w r => exact okD3 (by decide +kernel) (f.ok2 o.1) (f.ok1 o.2)
  | bears r n => exact okD3 (by decide +kernel) (f.ok1 o.1) rfl
  | «open» x =>
    refine okD2 (by decide +kernel) ?_
    rcases o with e | e
    · exact f.ok4 e
    · rw [e]; decide +kernel
  | lies s r => exact okD3 (by decide +kernel) (f.ok3 o.1) (f.ok1 o.2)
  | held s w => exact okD3 (by decide +kernel) (f.ok3 o.1) (f.ok2 o.2)
def goalD (g : List Wish) : D := .tup (g.map Wish.d)
end DL
namespace DL
open PySem PySem.Spec PyProof.Rows L2 RZ PySem.Calls
section
variable {X : Cx} {a b c e o tg it : Expr} {dl : List Sl} {mu : List MO} {ε : XP} {pos p1 p2 p3 : Pos} {Φ : DK}
theorem we_chain {op op' : CmpOp} (h : WE X a dl mu (fun x m => WE X b dl m (fun y m' => WOp X (compareOp op) x y m' (fun z m2 => ∃ k, z = .bl k ∧ (k = true → WE X c dl m2 (fun w m3 => WOp X (compareOp op') y w m3 Φ) ε) ∧ (k = false → Φ (.bl false) m2))) ε) ε) (hm : lastMarks [op, op'] [b, c] = false := by rfl) : WE X (.Compare a [op, op'] [b, c] pos) dl mu Φ ε := .mk fun W R F as σ H Q tk hs ha k kx =>
  SE.by (pe_chain SO.op SO.op SE.pe SE.pe SE.pe hm) (h.then tk hs ha kx fun v x m F' as' H' p e1 e2 hs' ha' r kx' => p.then tk hs' ha' kx' fun w y m2 F2 as2 H2 p2 f1 f2 hs2 ha2 r2 kx2 =>
    p2 R F2 as2 H2 v w (fun z H3 => ∃ k, z = .bl k ∧ (if k = true then SE X c σ H3 (fun w' H4 => SO X (compareOp op') w w' H4 Q) else Q (.bl false) H3)) hs2 (hs2.view (Rp.mono f1 f2 _ _ r)) (hs2.view r2) (fun z d m3 F3 as3 H3 ⟨kk, ek, q1, q2⟩ g1 g2 hs3 rz => by
      subst ek
      cases rz
      refine ⟨kk, rfl, ?_⟩
      cases kk with
      | true =>
        rw [if_pos rfl]
        exact (q1 rfl).then tk hs3 (ha2.mono g1 g2) (kx2.go g1 g2) fun w' y' m4 F4 as4 H4 q3 i1 i2 hs4 ha4 r4 kx4 =>
          q3 R F4 as4 H4 w w' Q hs4 (hs4.view (Rp.mono (g1.trans i1) (g2.trans i2) _ _ r2)) (hs4.view r4) (k.go ((e1.trans f1).trans (g1.trans i1)) ((e2.trans f2).trans (g2.trans i2)))
      | false =>
        rw [if_neg (by decide)]
        exact k _ _ m3 F3 as3 H3 (q2 rfl) ((e1.trans f1).trans g1) ((e2.trans f2).trans g2) hs3 rfl))
def chY (x : Str) : List Yd := x.cps.toList.map fun c => .one (.str ⟨#[c]⟩)
theorem walks_str {x : Str} {K : PySem.W.Frag} {F : Hp} {as : List Addr} : Walks (Its x) (chY x) K F as := fun R i H' F' as' mu' e p hs' => ⟨fun y hy => by
    obtain ⟨c, e1, rfl⟩ := get_map hy
    have hi : i < x.cps.toList.length := (List.getElem?_eq_some_iff.mp e1).1
    refine ⟨by show i < x.cps.size; simpa using hi, fun z H2 yl => ?_⟩
    obtain ⟨rfl, c', e2, rfl⟩ := yl
    have : c' = c := by rw [Array.getElem?_toList] at e1; rw [e1] at e2; exact (Option.some.inj e2).symm
    subst this
    exact ⟨F', Er.refl _, hs', rfl⟩, fun hl => by
      show x.cps.size ≤ i
      simpa [chY] using hl⟩
theorem wit_str {Φ : List Yd → List MO → Prop} (h : WE X it dl mu (fun x m => ∃ y, x = .str y ∧ Φ (chY y) m) ε) : WIt X tg it dl mu Φ ε := .mk fun W R F as σ H Q tk hs ha k kx =>
  SIt.by (pi_str SE.pe) (h.then tk hs ha kx fun v x m F' as' H' ⟨y, ey, q⟩ e1 e2 hs' ha' r kx' => by
    subst ey
    cases r
    exact ⟨y, rfl, k _ _ m F' as' H' q e1 e2 hs' walks_str⟩)
end
end DL
namespace DL
open PySem PySem.Spec PyProof.Rows L2 RZ PySem.Calls
def Stand.next (s : Stand) : Nat := (s.turn + 1) % s.rooms.length
def Stand.goes (s : Stand) (to : Str) : Stand := ⟨s.next, s.rooms.set s.turn to, s.places⟩
def Stand.puts (s : Stand) (k : Nat) (p : Str) : Stand := ⟨s.next, s.rooms, s.places.set k p⟩
def Stand.waits (s : Stand) : Stand := ⟨s.next, s.rooms, s.places⟩
inductive After (h : Hall) (s : Stand) (wn rn : Str) (hands : Int) : List Str → Stand → Prop
  | go (x : Door) (to : Str) : x ∈ h.doors → x.far rn = some to → x.opened (born h s (some wn)) = true → After h s wn rn hands ["go", x.name] (s.goes to)
  | lay (k : Nat) (x : Str × Int) : h.stones[k]? = some x → s.places[k]? = some wn → After h s wn rn hands ["lay", x.1] (s.puts k rn)
  | lift (k : Nat) (x : Str × Int) : h.stones[k]? = some x → s.places[k]? = some rn → ((s.places.count wn : Nat) : Int) < hands → After h s wn rn hands ["lift", x.1] (s.puts k wn)
  | wait : After h s wn rn hands ["wait"] s.waits
theorem after_of {h : Hall} {s : Stand} {wn rn : Str} {hands : Int} {l : List Str} (m : l ∈ deedsOf h s wn rn hands) : ∃ o, After h s wn rn hands l o := by
  unfold deedsOf at m
  rcases List.mem_append.mp m with m | m
  · obtain ⟨x, hx, rfl⟩ := List.mem_map.mp m
    obtain ⟨h1, h2⟩ := List.mem_filter.mp hx
    rw [Bool.and_eq_true] at h2
    obtain ⟨to, ht⟩ := Option.isSome_iff_exists.mp h2.2
    exact ⟨_, .go x to h1 ht h2.1⟩
  · rcases List.mem_append.mp m with m | m
    · obtain ⟨q, hq, rfl⟩ := List.mem_map.mp m
      obtain ⟨h1, h2⟩ := List.mem_filter.mp hq
      obtain ⟨k, hk⟩ := List.getElem?_of_mem h1
      obtain ⟨g1, g2⟩ := List.getElem?_zip_eq_some.mp hk
      have e : q.2 = wn := by simpa using h2
      exact ⟨_, .lay k q.1 g1 (by rw [g2, e])⟩
    · rcases List.mem_append.mp m with m | m
      · split at m
        · rename_i hc
          obtain ⟨q, hq, rfl⟩ := List.mem_map.mp m
          obtain ⟨h1, h2⟩ := List.mem_filter.mp hq
          obtain ⟨k, hk⟩ := List.getElem?_of_mem h1
          obtain ⟨g1, g2⟩ := List.getElem?_zip_eq_some.mp hk
          have e : q.2 = rn := by simpa using h2
          exact ⟨_, .lift k q.1 g1 (by rw [g2, e]) hc⟩
        · cases m
      · cases List.mem_singleton.mp m
        exact ⟨_, .wait⟩
theorem Door.far_in {h : Hall} (f : h.Few) {x : Door} (hx : x ∈ h.doors) {r to : Str} (e : x.far r = some to) : to ∈ h.rooms ∧ to ≠ r ∧ ((x.one = r ∧ x.other = to) ∨ (x.other = r ∧ x.one = to)) := by
  obtain ⟨_, _, _, _, o, _⟩ := f.ok
  have d := o.door x hx
  unfold Door.far at e
  split at e
  · rename_i q; cases e; exact ⟨d.other, fun z => d.ne (by rw [z, q]), .inl ⟨q.symm, rfl⟩⟩
  · split at e
    · rename_i q; cases e; exact ⟨d.one, fun z => d.ne (by rw [z, q.1]), .inr ⟨q.1.symm, rfl⟩⟩
    · cases e
theorem Hall.Few.apart {h : Hall} (f : h.Few) {r w : Str} (hr : r ∈ h.rooms) (hw : w ∈ h.folk) : r ≠ w := fun e => by
  have nd := f.names.1
  unfold Hall.names at nd
  rw [List.append_assoc, List.append_assoc] at nd
  exact (List.nodup_append.mp nd).2.2 r hr w (List.mem_append_right _ (List.mem_append_right _ hw)) e
theorem count_set {l : List Str} {k : Nat} {p w : Str} (hk : k < l.length) : (l.set k p).count w + (if l[k] = w then 1 else 0) = l.count w + (if p = w then 1 else 0) := by
  rw [List.count_set hk]
  have : l[k] = w → 1 ≤ l.count w := fun e => by rw [← e]; exact List.one_le_count_iff.mpr (List.getElem_mem hk)
  by_cases a : l[k] = w <;> by_cases b : p = w <;> simp [a, b] <;> (try have := this a) <;> omega
theorem After.ok {h : Hall} (f : h.Few) {s : Stand} (o : s.Ok h) {x : Wlk} {rn : Str} (hx : h.walkers[s.turn]? = some x) (hrn : s.rooms[s.turn]? = some rn) {l : List Str} {o' : Stand} (a : After h s x.name rn x.hands l o') : o'.Ok h := by
  have t1 := f.walkers1
  have tn : s.next < h.walkers.length := by unfold Stand.next; rw [o.rooms]; exact Nat.mod_lt _ (by omega)
  have hr : rn ∈ h.rooms := o.roomsIn _ (List.mem_of_getElem? hrn)
  have hw : x.name ∈ h.folk := List.mem_map_of_mem (List.mem_of_getElem? hx)
  have nr : rn ≠ x.name := f.apart hr hw
  cases a with
  | go d to hd hf hop =>
    refine ⟨tn, by show (s.rooms.set _ _).length = _; rw [List.length_set]; exact o.rooms, fun r hr => ?_, o.places, o.placesIn, o.hands⟩
    rcases List.mem_or_eq_of_mem_set hr with q | q
    · exact o.roomsIn r q
    · rw [q]; exact (Door.far_in f hd hf).1
  | lay k q hq hp =>
    refine ⟨tn, o.rooms, o.roomsIn, by show (s.places.set _ _).length = _; rw [List.length_set]; exact o.places, fun p hp => ?_, fun y hy => ?_⟩
    · rcases List.mem_or_eq_of_mem_set hp with q | q
      · exact o.placesIn p q
      · rw [q]; exact .inl hr
    · have hk := (List.getElem?_eq_some_iff.mp hp).1
      have c := count_set (p := rn) (w := y.name) hk
      have ny : rn ≠ y.name := f.apart hr (List.mem_map_of_mem hy)
      rw [if_neg ny] at c
      have := o.hands y hy
      show ((((s.places.set k rn).count y.name : Nat)) : Int) ≤ _
      omega
  | lift k q hq hp hc =>
    refine ⟨tn, o.rooms, o.roomsIn, by show (s.places.set _ _).length = _; rw [List.length_set]; exact o.places, fun p hp => ?_, fun y hy => ?_⟩
    · rcases List.mem_or_eq_of_mem_set hp with q | q
      · exact o.placesIn p q
      · rw [q]; exact .inr hw
    · have hk := (List.getElem?_eq_some_iff.mp hp).1
      have c := count_set (p := x.name) (w := y.name) hk
      have := o.hands y hy
      show ((((s.places.set k x.name).count y.name : Nat)) : Int) ≤ _
      by_cases e : x.name = y.name
      · have exy : x = y := nodup_inj f.fit.folkN (List.mem_of_getElem? hx) hy e
        subst exy
        rw [if_pos rfl] at c
        omega
      · rw [if_neg e] at c
        omega
  | wait => exact ⟨tn, o.rooms, o.roomsIn, o.places, o.placesIn, o.hands⟩
def at1 (c : Str) (r : Str) (v : Int) : Int := if c = r then v else 0
theorem where_cons (a b p : Str) (l : List (Str × Str)) : whereOf ((a, b) :: l) p = if a = p then b else whereOf l p := by
  unfold whereOf
  show (match gval ((Sum.inr a, D.str b) :: strK l) (.inr p) with | some (.str r) => r | _ => p) = _
  by_cases e : a = p
  · subst e; rw [gval_pos rfl, if_pos rfl]
  · rw [gval_neg (fun z => e (Sum.inr.inj z)), if_neg e]; try rfl
theorem where_set {to : Str} (p : Str) : ∀ {ks : List Str} {rs : List Str} {i : Nat} {w : Str}, ks.Nodup → ks[i]? = some w → i < rs.length → whereOf (ks.zip (rs.set i to)) p = if p = w then to else whereOf (ks.zip rs) p
  | [], _, _, _, _, h, _ => by simp at h
  | _ :: _, [], _, _, _, _, h => by simp at h
  | k :: ks, c :: rs, 0, w, nd, h1, _ => by
    simp at h1; subst h1
    rw [List.set_cons_zero, List.zip_cons_cons, List.zip_cons_cons, where_cons, where_cons]
    by_cases e : k = p
    · rw [if_pos e, if_pos e.symm]
    · rw [if_neg e, if_neg (fun z => e z.symm), if_neg e]
  | k :: ks, c :: rs, i + 1, w, nd, h1, h2 => by
    simp at h1 h2
    obtain ⟨n1, n2⟩ := List.nodup_cons.mp nd
    have ih := where_set (to := to) p (ks := ks) (rs := rs) n2 h1 h2
    rw [List.set_cons_succ, List.zip_cons_cons, List.zip_cons_cons, where_cons, where_cons, ih]
    by_cases e : k = p
    · rw [if_pos e, if_pos e, if_neg (fun z => by subst z; subst e; exact n1 (List.mem_of_getElem? h1))]
    · rw [if_neg e, if_neg e]
theorem where_get {ks rs : List Str} {i : Nat} {w c : Str} (nd : ks.Nodup) (h1 : ks[i]? = some w) (h2 : rs[i]? = some c) : whereOf (ks.zip rs) w = c := by
  have hi := (List.getElem?_eq_some_iff.mp h2).1
  have := where_set (to := c) w nd h1 hi
  rw [if_pos rfl] at this
  rw [← this]
  congr 2
  refine List.ext_getElem? fun j => ?_
  by_cases e : i = j
  · subst e; rw [List.getElem?_set_self hi, h2]
  · rw [List.getElem?_set_ne e]
theorem where_none {ks rs : List Str} {p : Str} (h : p ∉ ks) : whereOf (ks.zip rs) p = p := by
  induction ks generalizing rs with
  | nil => simp [whereOf, strK, gval]
  | cons k l ih =>
    cases rs with
    | nil => simp [whereOf, strK, gval]
    | cons c rs =>
      simp only [List.mem_cons, not_or] at h
      rw [List.zip_cons_cons, where_cons, if_neg (fun z => h.1 z.symm)]
      exact ih h.2
def held (wn : Str) (l : List ((Str × Int) × Str)) : Int := ((l.filter fun q => q.2 == wn).map fun q => q.1.2).sum
end DL
namespace DL
open PySem PySem.Spec PyProof.Rows L2 RZ PySem.Calls
structure GlS (mg : Str → Option Value) (x : Str) (t : Str) : Prop where
  ex : ∃ tk, mg x = some (.str t tk)
section
variable {X : Cx} {dl : List Sl} {mu : List MO} {ε : XP} {pos : Pos} {Φ : DK}
theorem we_globS {x t : Str} (g : GlS X.mg x t) (h : Φ (.str t) mu) (hg : Gl X x := by rfl) (hd : (x == ("__debug__" : Str)) = false := by decide) : WE X (.Name x pos) dl mu Φ ε := by
  obtain ⟨tk, h1⟩ := g.ex
  exact we_of (pe_glob (v := .str t) hg h1 ⟨tk, rfl⟩ hd) fun R F as σ H Q hs ha k => k.now hs h rfl
end
theorem idx_of {l : List Str} (nd : l.Nodup) {k : Nat} {y : Str} (h : l[k]? = some y) : l.idxOf y = k := by
  have hy : y ∈ l := List.mem_of_getElem? h
  have h2 := idx_at hy
  have l1 := (List.getElem?_eq_some_iff.mp h).1
  have l2 := List.idxOf_lt_length_of_mem hy
  rw [List.getElem?_eq_getElem l1] at h
  rw [List.getElem?_eq_getElem l2] at h2
  have e : l[l.idxOf y] = l[k] := by rw [Option.some.inj h, Option.some.inj h2]
  rcases Nat.lt_trichotomy (l.idxOf y) k with q | q | q
  · exact absurd e (List.pairwise_iff_getElem.mp nd _ _ l2 l1 q)
  · exact q
  · exact absurd e.symm (List.pairwise_iff_getElem.mp nd _ _ l1 l2 q)
inductive Deedy : List Str → Prop
  | wait : Deedy ["wait"]
  | of (w n : Str) : (w = "go" ∨ w = "lift" ∨ w = "lay") → nameOk n = true → Deedy [w, n]
theorem After.deedy {h : Hall} (f : h.Few) {s : Stand} {wn rn : Str} {hands : Int} {l : List Str} {o : Stand} (a : After h s wn rn hands l o) : Deedy l := by
  have nm := f.names.2.1
  cases a with
  | go d to hd hf hop => exact .of _ _ (.inl rfl) (nm _ (by unfold Hall.names; exact List.mem_append_left _ (List.mem_append_left _ (List.mem_append_right _ (List.mem_map_of_mem hd)))))
  | lay k q hq hp => exact .of _ _ (.inr (.inr rfl)) (nm _ (by unfold Hall.names; exact List.mem_append_left _ (List.mem_append_right _ (List.mem_map_of_mem (List.mem_of_getElem? hq)))))
  | lift k q hq hp hc => exact .of _ _ (.inr (.inl rfl)) (nm _ (by unfold Hall.names; exact List.mem_append_left _ (List.mem_append_right _ (List.mem_map_of_mem (List.mem_of_getElem? hq)))))
  | wait => exact .wait
structure Turns (h : Hall) (s : Stand) (x : Wlk) (rn : Str) : Prop where
  few : h.Few
  ok : s.Ok h
  wlk : h.walkers[s.turn]? = some x
  room : s.rooms[s.turn]? = some rn
theorem Turns.ex {h : Hall} {s : Stand} (f : h.Few) (o : s.Ok h) : ∃ x rn, Turns h s x rn := by
  obtain ⟨x, hx⟩ : ∃ x, h.walkers[s.turn]? = some x := ⟨_, List.getElem?_eq_getElem o.turn⟩
  obtain ⟨rn, hrn⟩ : ∃ x, s.rooms[s.turn]? = some x := ⟨_, List.getElem?_eq_getElem (by rw [o.rooms]; exact o.turn)⟩
  exact ⟨x, rn, f, o, hx, hrn⟩
theorem Turns.folk {h : Hall} {s : Stand} {x : Wlk} {rn : Str} (t : Turns h s x rn) : h.folk[s.turn]? = some x.name := by unfold Hall.folk; rw [List.getElem?_map, t.wlk]; rfl
section
variable {h : Hall} {s : Stand} {wn rn w : Str} {hands : Int} {r : List Str} {o : Stand}
theorem After.go_inv (a : After h s wn rn hands (w :: r) o) (e : (w == ("go" : Str)) = true) : ∃ (d : Door) (to : Str), r = [d.name] ∧ d ∈ h.doors ∧ d.far rn = some to ∧ d.opened (born h s (some wn)) = true ∧ o = s.goes to := by
  generalize hl : w :: r = l at a
  cases a with
  | go d to hd hf hop => cases hl; exact ⟨d, to, rfl, hd, hf, hop, rfl⟩
  | lay k q hq hp => cases hl; exact absurd e (by decide +kernel)
  | lift k q hq hp hc => cases hl; exact absurd e (by decide +kernel)
  | wait => cases hl; exact absurd e (by decide +kernel)
theorem After.wait_inv (a : After h s wn rn hands (w :: r) o) (e : (w == ("wait" : Str)) = true) : r = [] ∧ o = s.waits := by
  generalize hl : w :: r = l at a
  cases a with
  | go d to hd hf hop => cases hl; exact absurd e (by decide +kernel)
  | lay k q hq hp => cases hl; exact absurd e (by decide +kernel)
  | lift k q hq hp hc => cases hl; exact absurd e (by decide +kernel)
  | wait => cases hl; exact ⟨rfl, rfl⟩
structure Puts (h : Hall) (s : Stand) (wn rn w : Str) (hands : Int) (r : List Str) (o : Stand) (j : Nat) (y : Str × Int) (c p : Str) : Prop where
  r : r = [y.1]
  stone : h.stones[j]? = some y
  place : s.places[j]? = some c
  out : o = s.puts j p
  lift : (w == ("lift" : Str)) = true → c = rn ∧ p = wn ∧ ((s.places.count wn : Nat) : Int) < hands
  lay : (w == ("lift" : Str)) = false → c = wn ∧ p = rn
  word : (w == ("lift" : Str)) = !(w == ("lay" : Str))
theorem After.put_inv (a : After h s wn rn hands (w :: r) o) (e : (w == ("go" : Str)) = false) (e2 : (w == ("wait" : Str)) = false) : ∃ j y c p, Puts h s wn rn w hands r o j y c p := by
  generalize hl : w :: r = l at a
  cases a with
  | go d to hd hf hop => cases hl; exact absurd e (by decide +kernel)
  | lay k q hq hp => cases hl; exact ⟨k, q, wn, rn, rfl, hq, hp, rfl, fun z => absurd z (by decide +kernel), fun _ => ⟨rfl, rfl⟩, by decide +kernel⟩
  | lift k q hq hp hc => cases hl; exact ⟨k, q, rn, wn, rfl, hq, hp, rfl, fun _ => ⟨rfl, rfl, hc⟩, fun z => absurd z (by decide +kernel), by decide +kernel⟩
  | wait => cases hl; exact absurd e2 (by decide +kernel)
theorem After.rooms_of (a : After h s wn rn hands (w :: r) o) (e : (w == ("go" : Str)) = false) : o.rooms = s.rooms := by
  generalize hl : w :: r = l at a
  cases a with
  | go d to hd hf hop => cases hl; exact absurd e (by decide +kernel)
  | _ => rfl
theorem After.places_of (a : After h s wn rn hands (w :: r) o) (e : ([D.str "lift", .str "lay"].any fun z => eqD z (.str w)) = false) : o.places = s.places := by
  generalize hl : w :: r = l at a
  cases a with
  | go d to hd hf hop => rfl
  | lay k q hq hp => cases hl; exact absurd e (by decide +kernel)
  | lift k q hq hp hc => cases hl; exact absurd e (by decide +kernel)
  | wait => rfl
theorem After.puts_of (a : After h s wn rn hands (w :: r) o) (e : ([D.str "lift", .str "lay"].any fun z => eqD z (.str w)) = true) : (w == ("go" : Str)) = false ∧ (w == ("wait" : Str)) = false := by
  generalize hl : w :: r = l at a
  cases a with
  | go d to hd hf hop => cases hl; exact absurd e (by decide +kernel)
  | lay k q hq hp => cases hl; decide +kernel
  | lift k q hq hp hc => cases hl; decide +kernel
  | wait => cases hl; exact absurd e (by decide +kernel)
theorem After.turn_of {l : List Str} (a : After h s wn rn hands l o) : o.turn = (s.turn + 1) % s.rooms.length := by cases a <;> rfl
theorem After.cons {l : List Str} (a : After h s wn rn hands l o) : ∃ w r, l = w :: r := by cases a <;> exact ⟨_, _, rfl⟩
theorem After.lens {l : List Str} (a : After h s wn rn hands l o) : o.rooms.length = s.rooms.length ∧ o.places.length = s.places.length := by
  cases a <;> simp [Stand.goes, Stand.puts, Stand.waits]
end
section
variable {X : Cx} {a b : Expr} {dl : List Sl} {mu : List MO} {ε : XP} {Φ : DK} {t : Bool}
theorem ifExp_join (P : D → Prop) (h1 : t = true → WE X a dl mu (fun x m => m = mu ∧ P x) ε) (h2 : t = false → WE X b dl mu (fun x m => m = mu ∧ P x) ε) (h : ∀ x, P x → Φ x mu) : (t = true → WE X a dl mu Φ ε) ∧ (t = false → WE X b dl mu Φ ε) :=
  ⟨fun q => (h1 q).imp fun x m ⟨e, p⟩ => by subst e; exact h x p, fun q => (h2 q).imp fun x m ⟨e, p⟩ => by subst e; exact h x p⟩
end
end DL
namespace DL
open PySem PySem.Spec PyProof.Rows L2 RZ PySem.Calls
def enY (xs : List D) : List Yd := xs.zipIdx.map fun p => .many [.int (p.2 : Nat), p.1]
section
variable {K : PySem.W.Frag} {F : Hp} {as : List Addr} {a : Addr} {xs : List D} {vs : List V}
end
section
variable {X : Cx} {e : Expr} {elts : List Expr} {kk : Nat} {tpos p pos : Pos} {dl : List Sl} {mu : List MO} {ε : XP}
end
inductive Gone (h : Hall) : Stand → List (List Str) → List Stand → Prop
  | nil (s : Stand) : Gone h s [] [s]
  | cons {s o : Stand} {x : Wlk} {rn : Str} {l : List Str} {ls : List (List Str)} {os : List Stand} : Turns h s x rn → After h s x.name rn x.hands l o → Gone h o ls os → Gone h s (l :: ls) (s :: os)
def Stand.at (s : Stand) (t : Nat) : Stand := ⟨t, s.rooms, s.places⟩
theorem Stand.at_ok {h : Hall} {s : Stand} (o : s.Ok h) {t : Nat} (ht : t < h.walkers.length) : (s.at t).Ok h := ⟨ht, o.rooms, o.roomsIn, o.places, o.placesIn, o.hands⟩
structure Touch where
  ends : List Str
  rows : List Str
  stone : List Str
def Touch.d (t : Touch) : D := .tup [.lst (t.ends.map .str), .lst (t.rows.map .str), .lst (t.stone.map .str)]
inductive Touches (h : Hall) (rn : Str) : List Str → Touch → Prop
  | go (x : Door) : x ∈ h.doors → Touches h rn ["go", x.name] ⟨[x.one, x.other], x.rows.map (·.room), []⟩
  | put (w n : Str) : (w = "lift" ∨ w = "lay") → Touches h rn [w, n] ⟨[rn], [], [n]⟩
  | wait : Touches h rn ["wait"] ⟨[], [], []⟩
theorem After.touches {h : Hall} {s : Stand} {wn rn : Str} {hands : Int} {l : List Str} {o : Stand} (a : After h s wn rn hands l o) : ∃ t, Touches h rn l t := by
  cases a with
  | go d to hd hf hop => exact ⟨_, .go d hd⟩
  | lay k q hq hp => exact ⟨_, .put _ _ (.inr rfl)⟩
  | lift k q hq hp hc => exact ⟨_, .put _ _ (.inl rfl)⟩
  | wait => exact ⟨_, .wait⟩
def apart (t u : Touch) : Bool := (t.ends.filter fun r => (u.ends ++ u.rows).any fun z => z == r).isEmpty && ((u.ends.filter fun r => t.rows.any fun z => z == r).isEmpty && (t.stone.filter fun r => u.stone.any fun z => z == r).isEmpty)
def sum1a (n : Str) (l : List (Wlk × Str)) (r : Str) : Int := (l.map fun q => if n = q.1.name then 0 else at1 q.2 r q.1.heft).sum
def sum2a (n : Str) (kvs : List (Str × Str)) (l : List ((Str × Int) × Str)) (r : Str) : Int := (l.map fun q => if n = q.2 then 0 else at1 (whereOf kvs q.2) r q.1.2).sum
theorem born1_suma (n r : Str) : ∀ (l : List (Wlk × Str)) (f : Str → Int), (l.foldl (fun f q => if some n = some q.1.name then f else addW f q.2 q.1.heft) f) r = f r + sum1a n l r
  | [], f => by simp [sum1a]
  | q :: l, f => by
    rw [List.foldl_cons, born1_suma n r l]
    simp only [sum1a, List.map_cons, List.sum_cons]
    by_cases z : n = q.1.name
    · rw [if_pos (by rw [z]), if_pos z]; omega
    · rw [if_neg (fun y => z (Option.some.inj y)), if_neg z]
      simp only [addW, at1]
      by_cases e : r = q.2
      · rw [if_pos e, if_pos e.symm]; omega
      · rw [if_neg e, if_neg (fun z => e z.symm)]; omega
theorem born2_suma (n : Str) (kvs : List (Str × Str)) (r : Str) : ∀ (l : List ((Str × Int) × Str)) (f : Str → Int), (born2 (some n) kvs f l) r = f r + sum2a n kvs l r
  | [], f => by simp [born2, sum2a]
  | q :: l, f => by
    have ih := born2_suma n kvs r l
    unfold born2 at *
    rw [List.foldl_cons, ih]
    simp only [sum2a, List.map_cons, List.sum_cons]
    by_cases z : n = q.2
    · rw [if_pos (by rw [z]), if_pos z]; omega
    · rw [if_neg (fun y => z (Option.some.inj y)), if_neg z]
      simp only [addW, at1]
      by_cases e : r = whereOf kvs q.2
      · rw [if_pos e, if_pos e.symm]; omega
      · rw [if_neg e, if_neg (fun z => e z.symm)]; omega
theorem born_suma (h : Hall) (s : Stand) (n r : Str) : born h s (some n) r = sum1a n (h.walkers.zip s.rooms) r + sum2a n (at_ h s) (h.stones.zip s.places) r := by
  unfold born
  rw [born2_suma]
  congr 1
  unfold born1
  rw [born1_suma]; simp
theorem born_at (h : Hall) (s : Stand) (t : Nat) (a : Option Str) (r : Str) : born h (s.at t) a r = born h s a r := rfl
theorem sum1a_set {n r to : Str} : ∀ {ws : List Wlk} {rs : List Str} {i : Nat} {rn : Str}, rs[i]? = some rn → rn ≠ r → to ≠ r → sum1a n (ws.zip (rs.set i to)) r = sum1a n (ws.zip rs) r
  | [], _, _, _, _, _, _ => by simp
  | _ :: _, [], _, _, h, _, _ => by simp at h
  | w :: ws, c :: rs, 0, rn, h, e1, e2 => by
    simp at h; subst h
    simp only [sum1a, List.set_cons_zero, List.zip_cons_cons, List.map_cons, List.sum_cons, at1, if_neg e1, if_neg e2]
  | w :: ws, c :: rs, i + 1, rn, h, e1, e2 => by
    simp at h
    have ih := sum1a_set (n := n) (ws := ws) (rs := rs) h e1 e2
    simp only [sum1a, List.set_cons_succ, List.zip_cons_cons, List.map_cons, List.sum_cons] at *
    rw [ih]
theorem sum2a_go {n w rn to r : Str} {kvs kvs' : List (Str × Str)} (h1 : ∀ p, whereOf kvs' p = if p = w then to else whereOf kvs p) (h2 : whereOf kvs w = rn) (e1 : rn ≠ r) (e2 : to ≠ r) : ∀ l : List ((Str × Int) × Str), sum2a n kvs' l r = sum2a n kvs l r
  | [] => rfl
  | q :: l => by
    have ih := sum2a_go (n := n) h1 h2 e1 e2 l
    simp only [sum2a, List.map_cons, List.sum_cons] at *
    rw [ih, h1]
    congr 1
    by_cases z : q.2 = w
    · rw [if_pos z, z, h2]
      simp only [at1, if_neg e1, if_neg e2]
    · rw [if_neg z]
theorem sum2a_set {n r p : Str} {kvs : List (Str × Str)} : ∀ {ss : List (Str × Int)} {ps : List Str} {k : Nat} {c : Str}, ps[k]? = some c → n ≠ c → n ≠ p → whereOf kvs p = whereOf kvs c → sum2a n kvs (ss.zip (ps.set k p)) r = sum2a n kvs (ss.zip ps) r
  | [], _, _, _, _, _, _, _ => by simp
  | _ :: _, [], _, _, h, _, _, _ => by simp at h
  | s :: ss, c' :: ps, 0, c, h, e1, e2, e => by
    simp at h; subst h
    simp only [sum2a, List.set_cons_zero, List.zip_cons_cons, List.map_cons, List.sum_cons, e, if_neg e1, if_neg e2]
  | s :: ss, c' :: ps, k + 1, c, h, e1, e2, e => by
    simp at h
    have ih := sum2a_set (n := n) (r := r) (ss := ss) h e1 e2 e
    simp only [sum2a, List.set_cons_succ, List.zip_cons_cons, List.map_cons, List.sum_cons] at *
    rw [ih]
theorem After.born_apart {h : Hall} {s : Stand} {x : Wlk} {rn : Str} (t : Turns h s x rn) {l : List Str} {o : Stand} (a : After h s x.name rn x.hands l o) {u : Touch} (tu : Touches h rn l u) {n r : Str} (hn : n ∈ h.folk) (nx : n ≠ x.name) (hr : r ∉ u.ends) : born h o (some n) r = born h s (some n) r := by
  have f := t.few
  have fit := f.fit
  have hrn : rn ∈ h.rooms := t.ok.roomsIn _ (List.mem_of_getElem? t.room)
  have nrn : n ≠ rn := fun e => f.apart hrn hn e.symm
  have w1 : whereOf (at_ h s) x.name = rn := where_get fit.folkN t.folk t.room
  have w2 : whereOf (at_ h s) rn = rn := where_none fun q => f.apart hrn q rfl
  rw [born_suma, born_suma]
  cases a with
  | go d to hd hf hop =>
    obtain ⟨hto, nto, hends⟩ := Door.far_in f hd hf
    have e12 : rn ≠ r ∧ to ≠ r := by
      generalize hl : [("go" : Str), d.name] = l at tu
      cases tu with
      | go d' hd' =>
        have e : d.name = d'.name := (List.cons.inj (List.cons.inj hl).2).1
        have : d = d' := nodup_inj fit.doorsN hd hd' e
        subst this
        have hr : r ∉ [d.one, d.other] := hr
        simp only [List.mem_cons, List.not_mem_nil, or_false, not_or] at hr
        rcases hends with ⟨q1, q2⟩ | ⟨q1, q2⟩
        · exact ⟨fun z => hr.1 (by rw [q1, z]), fun z => hr.2 (by rw [q2, z])⟩
        · exact ⟨fun z => hr.2 (by rw [q1, z]), fun z => hr.1 (by rw [q2, z])⟩
      | put w nn hw =>
        have e : ("go" : Str) = w := (List.cons.inj hl).1
        rcases hw with rfl | rfl <;> exact absurd e (by decide +kernel)
      | wait => exact absurd (congrArg List.length hl) (by simp)
    have hi : s.turn < s.rooms.length := (List.getElem?_eq_some_iff.mp t.room).1
    show sum1a n (h.walkers.zip (s.rooms.set s.turn to)) r + sum2a n (at_ h (s.goes to)) (h.stones.zip s.places) r = _
    rw [sum1a_set t.room e12.1 e12.2, sum2a_go (w := x.name) (rn := rn) (to := to) (kvs := at_ h s) (kvs' := at_ h (s.goes to)) (fun p => where_set p fit.folkN t.folk hi) w1 e12.1 e12.2]
  | lay k q hq hp =>
    show sum1a n (h.walkers.zip s.rooms) r + sum2a n (at_ h s) (h.stones.zip (s.places.set k rn)) r = _
    rw [sum2a_set hp nx nrn (by rw [w1, w2])]
  | lift k q hq hp hc =>
    show sum1a n (h.walkers.zip s.rooms) r + sum2a n (at_ h s) (h.stones.zip (s.places.set k x.name)) r = _
    rw [sum2a_set hp nrn nx (by rw [w1, w2])]
  | wait => rfl
end DL
namespace DL
open PySem PySem.Spec PyProof.Rows L2 RZ PySem.Calls
structure Eff where
  ri : Option (Nat × Str)
  pk : Option (Nat × Str)
def setO (l : List Str) : Option (Nat × Str) → List Str
  | none => l
  | some p => l.set p.1 p.2
structure EffOf (s : Stand) (wn rn : Str) (u : Touch) (o : Stand) (e : Eff) : Prop where
  rooms : o.rooms = setO s.rooms e.ri
  places : o.places = setO s.places e.pk
  ri : ∀ p, e.ri = some p → p.1 = s.turn
  pk : ∀ p, e.pk = some p → u.ends = [rn] ∧ (∃ c, s.places[p.1]? = some c ∧ (c = wn ∨ c = rn)) ∧ (p.2 = wn ∨ p.2 = rn)
theorem Touches.put_ends {h : Hall} {rn w n : Str} {u : Touch} (t : Touches h rn [w, n] u) (hw : w = "lift" ∨ w = "lay") : u.ends = [rn] := by
  generalize hl : [w, n] = l at t
  cases t with
  | go d hd =>
    have e : w = "go" := (List.cons.inj hl).1
    rcases hw with rfl | rfl <;> exact absurd e (by decide +kernel)
  | put w' n' hw' => rfl
  | wait => exact absurd (congrArg List.length hl) (by simp)
theorem Touches.go_rows {h : Hall} (f : h.Few) {rn : Str} {d : Door} (hd : d ∈ h.doors) {u : Touch} (t : Touches h rn ["go", d.name] u) : u.ends = [d.one, d.other] ∧ u.rows = d.rows.map (·.room) := by
  generalize hl : [("go" : Str), d.name] = l at t
  cases t with
  | go d' hd' =>
    have e : d.name = d'.name := (List.cons.inj (List.cons.inj hl).2).1
    have : d = d' := nodup_inj f.fit.doorsN hd hd' e
    subst this
    exact ⟨rfl, rfl⟩
  | put w n hw =>
    have e : ("go" : Str) = w := (List.cons.inj hl).1
    rcases hw with rfl | rfl <;> exact absurd e (by decide +kernel)
  | wait => exact absurd (congrArg List.length hl) (by simp)
theorem eff_go {s : Stand} {wn rn to : Str} {u : Touch} : EffOf s wn rn u (s.goes to) ⟨some (s.turn, to), none⟩ := ⟨rfl, rfl, fun p q => (by cases q; rfl), fun p q => (by cases q)⟩
theorem eff_put {s : Stand} {wn rn c p : Str} {u : Touch} {k : Nat} (h1 : u.ends = [rn]) (h2 : s.places[k]? = some c) (h3 : c = wn ∨ c = rn) (h4 : p = wn ∨ p = rn) : EffOf s wn rn u (s.puts k p) ⟨none, some (k, p)⟩ := ⟨rfl, rfl, fun p q => (by cases q), fun p q => (by cases q; exact ⟨h1, ⟨c, h2, h3⟩, h4⟩)⟩
theorem eff_wait {s : Stand} {wn rn : Str} {u : Touch} : EffOf s wn rn u s.waits ⟨none, none⟩ := ⟨rfl, rfl, fun p q => (by cases q), fun p q => (by cases q)⟩
theorem After.eff {h : Hall} {s : Stand} {wn rn : Str} {hands : Int} {l : List Str} {o : Stand} (a : After h s wn rn hands l o) {u : Touch} (t : Touches h rn l u) : ∃ e, EffOf s wn rn u o e := by
  cases a with
  | go d to hd hf hop => exact ⟨_, eff_go⟩
  | lay k y hq hp => exact ⟨_, eff_put (t.put_ends (.inr rfl)) hp (.inl rfl) (.inr rfl)⟩
  | lift k y hq hp hc => exact ⟨_, eff_put (t.put_ends (.inl rfl)) hp (.inr rfl) (.inl rfl)⟩
  | wait => exact ⟨_, eff_wait⟩
theorem opened_congr {d : Door} {f g : Str → Int} (h : ∀ r, r ∈ d.rows.map (·.room) → f r = g r) : d.opened f = d.opened g := by
  have e : ∀ r, r ∈ d.rows → r.met f = r.met g := fun r hr => by
    unfold Row.met
    rw [h r.room (List.mem_map_of_mem hr)]
  unfold Door.opened
  rw [Bool.eq_iff_iff, List.all_eq_true, List.all_eq_true]
  exact ⟨fun q r hr => by rw [← e r hr]; exact q r hr, fun q r hr => by rw [e r hr]; exact q r hr⟩
theorem setO_get {l : List Str} {a : Option (Nat × Str)} {k : Nat} (h : ∀ p, a = some p → p.1 ≠ k) : (setO l a)[k]? = l[k]? := by
  cases a with
  | none => rfl
  | some p => exact List.getElem?_set_ne (h p rfl)
theorem mem_of_after {h : Hall} {s : Stand} {wn rn : Str} {hands : Int} {l : List Str} {o : Stand} (a : After h s wn rn hands l o) : l ∈ deedsOf h s wn rn hands := by
  unfold deedsOf
  cases a with
  | go d to hd hf hop =>
    refine List.mem_append_left _ (List.mem_map.mpr ⟨d, List.mem_filter.mpr ⟨hd, ?_⟩, rfl⟩)
    rw [hop, hf]; rfl
  | lay k y hq hp =>
    refine List.mem_append_right _ (List.mem_append_left _ (List.mem_map.mpr ⟨(y, wn), List.mem_filter.mpr ⟨?_, by simp⟩, rfl⟩))
    exact List.mem_of_getElem? (List.getElem?_zip_eq_some.mpr ⟨hq, hp⟩)
  | lift k y hq hp hc =>
    refine List.mem_append_right _ (List.mem_append_right _ (List.mem_append_left _ ?_))
    rw [if_pos hc]
    exact List.mem_map.mpr ⟨(y, rn), List.mem_filter.mpr ⟨List.mem_of_getElem? (List.getElem?_zip_eq_some.mpr ⟨hq, hp⟩), by simp⟩, rfl⟩
  | wait => simp
theorem After.keep {h : Hall} {s : Stand} {i j : Nat} (ij : i ≠ j) {x1 x2 : Wlk} {rn1 rn2 : Str} (t1 : Turns h (s.at i) x1 rn1) (t2 : Turns h (s.at j) x2 rn2) {l1 l2 : List Str} {o1 o2 : Stand} (a1 : After h (s.at i) x1.name rn1 x1.hands l1 o1) (a2 : After h (s.at j) x2.name rn2 x2.hands l2 o2) {u1 u2 : Touch} (v1 : Touches h rn1 l1 u1) (v2 : Touches h rn2 l2 u2)
    (ap1 : ∀ r, r ∈ u1.ends → r ∉ u2.ends ++ u2.rows) : Turns h (o1.at j) x2 rn2 ∧ ∃ e, EffOf (s.at j) x2.name rn2 u2 o2 e ∧ ∃ q, After h (o1.at j) x2.name rn2 x2.hands l2 q ∧ q.rooms = setO o1.rooms e.ri ∧ q.places = setO o1.places e.pk := by
  have f := t1.few
  have fit := f.fit
  obtain ⟨e1, ef1⟩ := a1.eff v1
  have in1 : x1.name ∈ h.folk := List.mem_map_of_mem (List.mem_of_getElem? t1.wlk)
  have in2 : x2.name ∈ h.folk := List.mem_map_of_mem (List.mem_of_getElem? t2.wlk)
  have hr1 : rn1 ∈ h.rooms := t1.ok.roomsIn _ (List.mem_of_getElem? t1.room)
  have hr2 : rn2 ∈ h.rooms := t2.ok.roomsIn _ (List.mem_of_getElem? t2.room)
  have n12 : x2.name ≠ x1.name := fun z => by
    have g1 := t1.folk
    have g2 := t2.folk
    have g1 : h.folk[i]? = some x1.name := g1
    have g2 : h.folk[j]? = some x2.name := g2
    exact ij ((idx_of fit.folkN g1).symm.trans (by rw [← z]; exact idx_of fit.folkN g2))
  have x2r1 : x2.name ≠ rn1 := fun z => f.apart hr1 in2 z.symm
  have r2x1 : rn2 ≠ x1.name := f.apart hr2 in1
  have ok1 : o1.Ok h := a1.ok f t1.ok t1.wlk t1.room
  have tj : j < h.walkers.length := t2.ok.turn
  have hroom : o1.rooms[j]? = some rn2 := by
    rw [ef1.rooms, setO_get fun p hp => by rw [ef1.ri p hp]; exact ij]
    exact t2.room
  have tt : Turns h (o1.at j) x2 rn2 := ⟨f, Stand.at_ok ok1 tj, t2.wlk, hroom⟩
  have r12 : u2.ends = [rn2] → u1.ends = [rn1] → rn2 ≠ rn1 := fun z2 z1 z => ap1 rn1 (by rw [z1]; simp) (by rw [z2, z]; simp)
  have hplace : ∀ (k : Nat) (c : Str), s.places[k]? = some c → c ≠ x1.name → (u1.ends = [rn1] → c ≠ rn1) → o1.places[k]? = some c := fun k c hk c1 c2 => by
    rw [ef1.places, setO_get fun p hp => ?_]
    · exact hk
    · obtain ⟨g1, ⟨c', g2, g3⟩, _⟩ := ef1.pk p hp
      intro z
      have g2 : s.places[p.1]? = some c' := g2
      rw [z, hk] at g2
      cases g2
      rcases g3 with g3 | g3
      · exact c1 g3
      · exact c2 g1 g3
  have hcount : o1.places.count x2.name = s.places.count x2.name := by
    rw [ef1.places]
    cases hp : e1.pk with
    | none => rfl
    | some p =>
      obtain ⟨_, ⟨c', g2, g3⟩, g4⟩ := ef1.pk p hp
      have g2 : s.places[p.1]? = some c' := g2
      have hl := (List.getElem?_eq_some_iff.mp g2).1
      have gc : s.places[p.1] = c' := (List.getElem?_eq_some_iff.mp g2).2
      have c := count_set (p := p.2) (w := x2.name) hl
      rw [gc, if_neg (by rcases g3 with rfl | rfl; exact n12.symm; exact x2r1.symm), if_neg (by rcases g4 with z | z <;> rw [z]; exact n12.symm; exact x2r1.symm)] at c
      show (s.places.set p.1 p.2).count x2.name = _
      omega
  refine ⟨tt, ?_⟩
  cases a2 with
  | go d to hd hf hop =>
    obtain ⟨z1, z2⟩ := v2.go_rows f hd
    have hop1 : d.opened (born h (o1.at j) (some x2.name)) = true := by
      rw [opened_congr (g := born h (s.at j) (some x2.name)) fun r hr => ?_]
      · exact hop
      · rw [born_at, born_at]
        have hrr : r ∉ u1.ends := fun q => ap1 r q (List.mem_append_right _ (by rw [z2]; exact hr))
        exact a1.born_apart t1 v1 in2 n12 hrr
    exact ⟨_, eff_go, _, .go d to hd hf hop1, rfl, rfl⟩
  | lay k y hq hp =>
    have z1 := v2.put_ends (.inr rfl)
    have hp1 : o1.places[k]? = some x2.name := hplace k _ hp n12 fun _ => x2r1
    exact ⟨_, eff_put z1 hp (.inl rfl) (.inr rfl), _, .lay k y hq hp1, rfl, rfl⟩
  | lift k y hq hp hc =>
    have z1 := v2.put_ends (.inl rfl)
    have hp1 : o1.places[k]? = some rn2 := hplace k _ hp r2x1 (r12 z1)
    exact ⟨_, eff_put z1 hp (.inr rfl) (.inl rfl), _, .lift k y hq hp1 (by show ((o1.places.count x2.name : Nat) : Int) < _; rw [hcount]; exact hc), rfl, rfl⟩
  | wait => exact ⟨_, eff_wait, _, .wait, rfl, rfl⟩
end DL
namespace DL
open PySem PySem.Spec PyProof.Rows L2 RZ PySem.Calls
def spIni (K : PySem.W.Frag) (f : Str) : Sp := fun vs H Q _ => ∃ (a C : Addr) (v : V), vs = [.ref a, v] ∧ OexC K C ∧ PySem.W.findIn K (.ref C) f = some none ∧ H a = some (exo a C none) ∧ ∀ dx, H dx = none → dx ≠ a → Q .non (upd (upd H dx (exd dx [(f, v)])) a (exo a C (some dx)))
section
variable {P : Program} {w : World} {K : PySem.W.Frag} {mg : Str → Option Value} {base : Heap}
theorem ini_fn {qual p f : Str} {st : Stmt} {fI : Addr} {fd : FuncData} {p1 p2 p3 p4 : Pos} (F : Fun K "__init__" qual st fI fd) (S : FnScope ["self", p] ["self", p] (defScope st)) (hb : defBody st = [.Assign [.Attribute (.Name "self" p1) f p2] (.Name p p3) p4])
    (v0 : Vis (defScope st) "self") (v1 : Vis (defScope st) p) (d1 : (p == ("__debug__" : Str)) = false) (d2 : (p == ("__classdict__" : Str)) = false) : FnOk P w K mg base CX0 1 fI fd ["self", p] (spIni K f) :=
  F.ok S (fun vs H Q E ⟨_, _, _, e, _⟩ => by rw [e]; rfl) fun cdv A outer s H vs Q E hr ⟨a, C, v, ev, T, hno, ha, q⟩ => by
    subst ev
    rw [hb]
    refine ⟨_, pss_one (ps_ost SE.pe SE.pe), ?_⟩
    exact SE.by (pv 1 rfl v1 d1 d2) ⟨v, rfl, SE.by (pv 0 rfl v0) ⟨.ref a, rfl, a, C, rfl, T, hno, .inl ⟨ha, fun dx n ne => q dx n ne⟩⟩⟩
structure ExK (K : PySem.W.Frag) (mg : Str → Option Value) (base : Heap) (P : Program) (w : World) (x f : Str) (C : Addr) : Prop where
  ex : ∃ (fI : Addr) (fd : FuncData) (p : Str), mg x = some (.ref C) ∧ OexC K C ∧ PySem.W.findIn K (.ref C) "__init__" = some (some (.ref fI)) ∧ PySem.W.typeIn K (.ref fI) = some (.type "function") ∧ FnOk P w K mg base CX0 1 fI fd ["self", p] (spIni K f) ∧ PySem.W.findIn K (.ref C) f = some none ∧ Binds K fd ["self", p] []
end
section
variable {X : Cx} {x f : Str} {C : Addr} {e : Expr} {dl : List Sl} {mu : List MO} {Ψ : DEnds} {p pos pos2 : Pos} {j : Nat}
theorem ws_raise (c : ExK X.K X.mg X.base X.prog X.w x f C) (hr : RoomG j X.A) (hj : 2 ≤ j) (h : WE X e dl mu (fun v m => Ψ.ex ⟨.ref C, some [(f, v)]⟩ dl m) (fun x m => Ψ.ex x dl m)) (hc : X.calm = true := by rfl) (hg : Gl X x := by rfl) (hdb : (x == ("__debug__" : Str)) = false := by decide)
    (he : starEach [e] X.env = [(false, eval e X.env)] := by rfl) (hpl : (backTo pos (starEach ([] : List Expr) X.env)).any (·.1) = false := by rfl) : WS X (.Raise (some (.Call (.Name x p) [e] [] pos)) none pos2) dl mu Ψ := .mk fun W R F as σ H E tk hs ha k => by
  obtain ⟨fI, fd, pr, hm, T, iC, tI, F1, hno, hb⟩ := c.ex
  refine SS.by (ps_raise hc tk (pmk_oex T iC tI F1 (hr.rm.mono hj) hb .nil (fun _ _ _ _ _ _ _ z => False.elim z) hg hm SA.pa hdb he hpl)) ?_
  refine (wa_cons (es := []) (Φ := fun zs m => ∃ v, zs = [v] ∧ Ψ.ex ⟨.ref C, some [(f, v)]⟩ dl m) (h.imp fun v m q => wa_nil ⟨v, rfl, q⟩) he).then tk hs ha (k.toX ha) fun vs xs m F' as' H' ⟨v, ex, q⟩ e1 e2 hs' ha' r kx' => ?_
  subst ex
  obtain ⟨u, rfl, r1⟩ := r.one
  refine ⟨by show 1 ≤ 1000; decide, fun a ha0 => ⟨a, C, u, rfl, T, hno, upd_same, fun dx n ne => ⟨rfl, dx, [(f, u)], upd_same, ?_, ?_, ?_⟩⟩⟩
  · rw [upd_ne ne]; exact upd_same
  · rw [upd_ne ne] at n; exact n
  · rw [upd_ne ne] at n
    have eH : upd (del (upd (upd (upd H' a (exo a C none)) dx (exd dx [(f, u)])) a (exo a C (some dx))) a) dx (.xd [(f, u)]) = upd H' dx (.xd [(f, u)]) := by
      funext b
      by_cases hb : b = dx
      · subst hb; rw [upd_same, upd_same]
      · rw [upd_ne hb, upd_ne hb]
        by_cases hba : b = a
        · subst hba; rw [del_same, ha0]
        · rw [del_ne hba, upd_ne hba, upd_ne hb, upd_ne hba]
    show W (.ref C) (some dx) σ (upd (del _ a) dx (.xd [(f, u)]))
    rw [eH]
    obtain ⟨g1, g2, g3⟩ := hs'.free n
    have ht := (hs'.up (o := .xd [(f, u)]) n).tell upd_same g1 g2 g3
    have er : Er F' (upd F' dx (.xd [(f, u)])) := Er.new g1
    exact k.ex ⟨.ref C, some [(f, v)]⟩ (some dx) dl m _ as' σ _ q (e1.trans er) e2 ht (ha'.mono er (List.prefix_refl _)) ⟨dx, [(f, u)], rfl, upd_same, upd_same, u, [], rfl, Rp.mono er (List.prefix_refl _) _ _ r1, rfl⟩
end
end DL
namespace DL
open PySem PySem.Spec PyProof.Rows L2 RZ PySem.Calls
abbrev FP := Hp → List Addr → Prop
def Stab (P : FP) : Prop := ∀ F F' as as', P F as → Er F F' → as <+: as' → P F' as'
structure WEf (X : Cx) (P : FP) (e : Expr) (dl : List Sl) (mu : List MO) (Φ : DK) (ε : XP) : Prop where
  run : ∀ W R F as σ H Q, P F as → Takes X W → Hs X.K R F as mu H → At X.K F as dl σ → Kont X.K R F as Φ Q → KontX X.K R F as ε (fun c d H => W c d σ H) → SE X e σ H Q
structure WAf (X : Cx) (P : FP) (es : List Expr) (dl : List Sl) (mu : List MO) (Φ : List D → List MO → Prop) (ε : XP) : Prop where
  run : ∀ W R F as σ H Q, P F as → Takes X W → Hs X.K R F as mu H → At X.K F as dl σ → KontA X.K R F as Φ Q → KontX X.K R F as ε (fun c d H => W c d σ H) → SA X es σ H Q
structure WSf (X : Cx) (P : FP) (st : List Stmt) (dl : List Sl) (mu : List MO) (Ψ : DEnds) : Prop where
  run : ∀ W R F as σ H E, P F as → Takes X W → Hs X.K R F as mu H → At X.K F as dl σ → KontE X R F as Ψ W E → SSs X st E σ H
section
variable {X : Cx} {P : FP} {e o : Expr} {es : List Expr} {dl : List Sl} {mu : List MO} {Φ : DK} {ε : XP} {pos p apos cpos : Pos} {Ψ : DEnds} {x : Str}
theorem WEf.then {ψ : DK} {t : V → Hp → Prop} {W : WX} {R F : Hp} {as : List Addr} {σ : L2.St} {H : Hp} (sP : Stab P) (h : WEf X P e dl mu ψ ε) (hp : P F as) (tk : Takes X W) (hs : Hs X.K R F as mu H) (ha : At X.K F as dl σ) (kx : KontX X.K R F as ε (fun c d H => W c d σ H))
    (q : ∀ v x m F' as' H', ψ x m → P F' as' → Er F F' → as <+: as' → Hs X.K R F' as' m H' → At X.K F' as' dl σ → Rp X.K F' as' x v → KontX X.K R F' as' ε (fun c d H => W c d σ H) → t v H') : SE X e σ H t :=
  h.run W R F as σ H t hp tk hs ha (fun v x m F' as' H' p e1 e2 hs' r => q v x m F' as' H' p (sP _ _ _ _ hp e1 e2) e1 e2 hs' (ha.mono e1 e2) r (kx.go e1 e2)) kx
theorem WAf.then {ψ : List D → List MO → Prop} {t : List V → Hp → Prop} {W : WX} {R F : Hp} {as : List Addr} {σ : L2.St} {H : Hp} (sP : Stab P) (h : WAf X P es dl mu ψ ε) (hp : P F as) (tk : Takes X W) (hs : Hs X.K R F as mu H) (ha : At X.K F as dl σ) (kx : KontX X.K R F as ε (fun c d H => W c d σ H))
    (q : ∀ v x m F' as' H', ψ x m → P F' as' → Er F F' → as <+: as' → Hs X.K R F' as' m H' → At X.K F' as' dl σ → RpL X.K F' as' x v → KontX X.K R F' as' ε (fun c d H => W c d σ H) → t v H') : SA X es σ H t :=
  h.run W R F as σ H t hp tk hs ha (fun v x m F' as' H' p e1 e2 hs' r => q v x m F' as' H' p (sP _ _ _ _ hp e1 e2) e1 e2 hs' (ha.mono e1 e2) r (kx.go e1 e2)) kx
end
theorem RpF.lookX {K : PySem.W.Frag} {F : Hp} {as : List Addr} {f : Str} {x : D} : ∀ {fs : List (Str × D)} {ws : List (Str × V)}, RpF K F as fs ws → fs.lookup f = some x → ∃ v, ws.lookup f = some v ∧ Rp K F as x v
  | [], _, _, h => by cases h
  | (k, y) :: fs, ws, ⟨v, r, e, h1, h2⟩, h => by
    subst e
    by_cases q : f = k
    · subst q
      simp [List.lookup] at h
      subst h
      exact ⟨v, by simp [List.lookup], h1⟩
    · have q' : (f == k) = false := by simpa using q
      simp only [List.lookup, q'] at h ⊢
      exact RpF.lookX h2 h
structure XfK (K : PySem.W.Frag) (C : Addr) (f : Str) : Prop where
  xf : XfC K C
  no : PySem.W.findIn K (.ref C) f = some none
section
variable {X : Cx} {a C : Addr} {oe : Obj} {d : Option Addr} {pn : List (Addr × Obj)} {n f : Str} {dl : List Sl} {mu : List MO} {Φ : DK} {ε : XP} {pos pos2 : Pos} {fs : List (Str × D)} {x : D}
end
section
variable {X : Cx} {x n : Str} {c : Value} {body suite : List Stmt} {b₀ : Stmt} {np pos pos' : Pos} {dl : List Sl} {mu : List MO} {Ψ : DEnds}
end
end DL
namespace DL
open PySem PySem.Spec PyProof.Rows L2 RZ PySem.Calls
def whyGo (h : Hall) (s : Stand) (wn rn n : Str) : Option Str := match h.doors.find? (fun d => d.name == n) with
  | none => some "door"
  | some d => match d.far rn with
    | none => some "room"
    | some _ => if d.opened (born h s (some wn)) = true then none else some "shut"
def whyLift (h : Hall) (s : Stand) (wn rn : Str) (hands : Int) (n : Str) : Option Str := if n ∈ h.stones.map (·.1) then (if s.places[(h.stones.map (·.1)).idxOf n]? = some rn then (if ((s.places.count wn : Nat) : Int) < hands then none else some "hands") else some "far") else some "stone"
def whyLay (h : Hall) (s : Stand) (wn n : Str) : Option Str := if n ∈ h.stones.map (·.1) then (if s.places[(h.stones.map (·.1)).idxOf n]? = some wn then none else some "held") else some "stone"
def whyDeed (h : Hall) (s : Stand) (wn rn : Str) (hands : Int) (w n : Str) : Option Str := if w = "go" then whyGo h s wn rn n else if w = "lift" then whyLift h s wn rn hands n else whyLay h s wn n
inductive Ask (h : Hall) (s : Stand) (wn rn : Str) (hands : Int) : D → Option Str → Prop
  | deed (w n : Str) : (w = "go" ∨ w = "lift" ∨ w = "lay") → nameOk n = true → Ask h s wn rn hands (lotD [w, n]) (whyDeed h s wn rn hands w n)
  | wait : Ask h s wn rn hands (lotD ["wait"]) none
  | waits (a : Str) : PyData.strOk a = true → Ask h s wn rn hands (lotD ["wait", a]) (some "form")
  | non : Ask h s wn rn hands .non (some "form")
theorem stone_at {h : Hall} {n : Str} (hn : n ∈ h.stones.map (·.1)) : ∃ y, h.stones[(h.stones.map (·.1)).idxOf n]? = some y ∧ y.1 = n := by
  have h2 := idx_at hn
  rw [List.getElem?_map] at h2
  obtain ⟨y, hy, e⟩ := Option.map_eq_some_iff.mp h2
  exact ⟨y, hy, e⟩
theorem Ask.after {h : Hall} {s : Stand} {wn rn : Str} {hands : Int} {d : D} {y : Option Str} (a : Ask h s wn rn hands d y) (e : y = none) : ∃ l o, d = lotD l ∧ After h s wn rn hands l o := by
  cases a with
  | deed w n hw hn =>
    unfold whyDeed at e
    rcases hw with rfl | rfl | rfl
    · rw [if_pos rfl] at e
      unfold whyGo at e
      split at e
      · cases e
      · rename_i dd hf
        have hd := List.mem_of_find?_eq_some hf
        have hname : dd.name = n := by simpa using List.find?_some hf
        split at e
        · cases e
        · rename_i to hto
          split at e
          · rename_i hop
            subst hname
            exact ⟨_, _, rfl, .go dd to hd hto hop⟩
          · cases e
    · rw [if_neg (by decide +kernel), if_pos rfl] at e
      unfold whyLift at e
      split at e
      · rename_i hin
        obtain ⟨y, hy, rfl⟩ := stone_at hin
        split at e
        · rename_i hp
          split at e
          · rename_i hc
            exact ⟨_, _, rfl, .lift _ y hy hp hc⟩
          · cases e
        · cases e
      · cases e
    · rw [if_neg (by decide +kernel), if_neg (by decide +kernel)] at e
      unfold whyLay at e
      split at e
      · rename_i hin
        obtain ⟨y, hy, rfl⟩ := stone_at hin
        split at e
        · rename_i hp
          exact ⟨_, _, rfl, .lay _ y hy hp⟩
        · cases e
      · cases e
  | wait => exact ⟨_, _, rfl, .wait⟩
  | waits a ha => cases e
  | non => cases e
theorem After.ask {h : Hall} (f : h.Few) {s : Stand} {wn rn : Str} {hands : Int} {l : List Str} {o : Stand} (a : After h s wn rn hands l o) : Ask h s wn rn hands (lotD l) none := by
  have dy := a.deedy f
  cases a with
  | go d to hd hf hop =>
    have e : whyDeed h s wn rn hands "go" d.name = none := by
      unfold whyDeed whyGo
      rw [if_pos rfl]
      have : h.doors.find? (fun z => z.name == d.name) = some d := by
        cases q : h.doors.find? (fun z => z.name == d.name) with
        | none => exact absurd (List.find?_eq_none.mp q d hd) (by simp)
        | some z => exact congrArg some (nodup_inj f.fit.doorsN (List.mem_of_find?_eq_some q) hd (by simpa using List.find?_some q))
      rw [this]
      simp only [hf]
      rw [if_pos hop]
    rw [← e]
    exact .deed _ _ (.inl rfl) (f.names.2.1 _ (by unfold Hall.names; exact List.mem_append_left _ (List.mem_append_left _ (List.mem_append_right _ (List.mem_map_of_mem hd)))))
  | lay k q hq hp =>
    have hm : q.1 ∈ h.stones.map (·.1) := List.mem_map_of_mem (List.mem_of_getElem? hq)
    have hi : (h.stones.map (·.1)).idxOf q.1 = k := idx_of f.fit.stonesN (by rw [List.getElem?_map, hq]; rfl)
    have e : whyDeed h s wn rn hands "lay" q.1 = none := by
      unfold whyDeed whyLay
      rw [if_neg (by decide +kernel), if_neg (by decide +kernel), if_pos hm, hi, if_pos hp]
    rw [← e]
    exact .deed _ _ (.inr (.inr rfl)) (f.names.2.1 _ (by unfold Hall.names; exact List.mem_append_left _ (List.mem_append_right _ hm)))
  | lift k q hq hp hc =>
    have hm : q.1 ∈ h.stones.map (·.1) := List.mem_map_of_mem (List.mem_of_getElem? hq)
    have hi : (h.stones.map (·.1)).idxOf q.1 = k := idx_of f.fit.stonesN (by rw [List.getElem?_map, hq]; rfl)
    have e : whyDeed h s wn rn hands "lift" q.1 = none := by
      unfold whyDeed whyLift
      rw [if_neg (by decide +kernel), if_pos rfl, if_pos hm, hi, if_pos hp, if_pos hc]
    rw [← e]
    exact .deed _ _ (.inr (.inl rfl)) (f.names.2.1 _ (by unfold Hall.names; exact List.mem_append_left _ (List.mem_append_right _ hm)))
  | wait => exact .wait
end DL
namespace DL
open PySem PySem.Spec PyProof.Rows L2 RZ PySem.Calls
def spIni2 (K : PySem.W.Frag) (f g : Str) : Sp := fun vs H Q _ => ∃ (a C : Addr) (v u : V), vs = [.ref a, v, u] ∧ OexC K C ∧ PySem.W.findIn K (.ref C) f = some none ∧ PySem.W.findIn K (.ref C) g = some none ∧ H a = some (exo a C none) ∧
  ∀ dx, H dx = none → dx ≠ a → Q .non (upd (upd (upd H dx (exd dx [(f, v)])) a (exo a C (some dx))) dx (exd dx [(g, u), (f, v)]))
section
variable {P : Program} {w : World} {K : PySem.W.Frag} {mg : Str → Option Value} {base : Heap}
structure ExK2 (K : PySem.W.Frag) (mg : Str → Option Value) (base : Heap) (P : Program) (w : World) (x f g : Str) (C : Addr) : Prop where
  ex : ∃ (fI : Addr) (fd : FuncData) (p q : Str), mg x = some (.ref C) ∧ OexC K C ∧ PySem.W.findIn K (.ref C) "__init__" = some (some (.ref fI)) ∧ PySem.W.typeIn K (.ref fI) = some (.type "function") ∧ FnOk P w K mg base CX0 1 fI fd ["self", p, q] (spIni2 K f g) ∧ PySem.W.findIn K (.ref C) f = some none ∧ PySem.W.findIn K (.ref C) g = some none ∧ Binds K fd ["self", p, q] []
end
section
variable {X : Cx} {x f g : Str} {C : Addr} {e e' : Expr} {dl : List Sl} {mu : List MO} {Ψ : DEnds} {p pos pos2 : Pos} {j : Nat}
end
inductive Tried (h : Hall) : Stand → List (List Str) → Option (List Stand) → Option (Nat × Str) → Prop
  | nil (s : Stand) : Tried h s [] (some [s]) none
  | cons {s o : Stand} {x : Wlk} {rn : Str} {l : List Str} {ls : List (List Str)} {os : List Stand} : Turns h s x rn → After h s x.name rn x.hands l o → Tried h o ls (some os) none → Tried h s (l :: ls) (some (s :: os)) none
  | here {s : Stand} {x : Wlk} {rn : Str} {l : List Str} {ls : List (List Str)} {t : Str} : t ≠ "form" → Turns h s x rn → Ask h s x.name rn x.hands (lotD l) (some t) → Tried h s (l :: ls) none (some (0, t))
  | later {s o : Stand} {x : Wlk} {rn : Str} {l : List Str} {ls : List (List Str)} {k : Nat} {t : Str} : Turns h s x rn → After h s x.name rn x.hands l o → Tried h o ls none (some (k, t)) → Tried h s (l :: ls) none (some (k + 1, t))
end DL
namespace DL
open PySem PySem.Spec PyProof.Rows L2 RZ PySem.Calls
theorem whyDeed_form {h : Hall} {s : Stand} {wn rn : Str} {hands : Int} {w n : Str} : whyDeed h s wn rn hands w n ≠ some ("form" : Str) := by
  unfold whyDeed whyGo whyLift whyLay
  intro e
  split at e
  · split at e
    · exact absurd (Option.some.inj e) (by decide +kernel)
    · split at e
      · exact absurd (Option.some.inj e) (by decide +kernel)
      · split at e
        · cases e
        · exact absurd (Option.some.inj e) (by decide +kernel)
  · split at e
    · split at e
      · split at e
        · split at e
          · cases e
          · exact absurd (Option.some.inj e) (by decide +kernel)
        · exact absurd (Option.some.inj e) (by decide +kernel)
      · exact absurd (Option.some.inj e) (by decide +kernel)
    · split at e
      · split at e
        · cases e
        · exact absurd (Option.some.inj e) (by decide +kernel)
      · exact absurd (Option.some.inj e) (by decide +kernel)
theorem Ask.deedy {h : Hall} {s : Stand} {wn rn : Str} {hands : Int} {d : D} {y : Option Str} (a : Ask h s wn rn hands d y) (e : y ≠ some ("form" : Str)) : ∃ l, d = lotD l ∧ Deedy l ∧ ((l = [("wait" : Str)] ∧ y = none) ∨ ∃ w n, l = [w, n] ∧ (w = ("go" : Str) ∨ w = ("lift" : Str) ∨ w = ("lay" : Str)) ∧ y = whyDeed h s wn rn hands w n) := by
  cases a with
  | deed w n hw hn => exact ⟨_, rfl, .of w n hw hn, .inr ⟨w, n, rfl, hw, rfl⟩⟩
  | wait => exact ⟨_, rfl, .wait, .inl ⟨rfl, rfl⟩⟩
  | waits a ha => exact absurd rfl e
  | non => exact absurd rfl e
end DL
namespace DL
open PySem PySem.Spec PyProof.Rows L2 RZ PySem.Calls
section
variable {X : Cx} {mu : List MO}
end
theorem Gone.turns {h : Hall} {s : Stand} {ls : List (List Str)} {os : List Stand} (g : Gone h s ls os) : ∃ (front : List Stand) (o : Stand), os = front ++ [o] ∧ front.length = ls.length := by
  induction g with
  | nil s => exact ⟨[], s, rfl, rfl⟩
  | cons t a g ih =>
    obtain ⟨f, o, e, l⟩ := ih
    exact ⟨_ :: f, o, by rw [e]; rfl, by simp [l]⟩
inductive Went (h : Hall) : Stand → List (List Str) → List Stand → Stand → Prop
  | nil (s : Stand) : Went h s [] [] s
  | cons {s o z : Stand} {x : Wlk} {rn : Str} {l : List Str} {ls : List (List Str)} {os : List Stand} : Turns h s x rn → After h s x.name rn x.hands l o → Went h o ls os z → Went h s (l :: ls) (s :: os) z
theorem Went.tried {h : Hall} {s z : Stand} {ls : List (List Str)} {os : List Stand} (g : Went h s ls os z) : Tried h s ls (some (os ++ [z])) none := by
  induction g with
  | nil s => exact .nil s
  | cons t a g ih => exact .cons t a ih
theorem Went.len {h : Hall} {s z : Stand} {ls : List (List Str)} {os : List Stand} (g : Went h s ls os z) : os.length = ls.length := by
  induction g with
  | nil s => rfl
  | cons t a g ih => simp [ih]
theorem Went.append {h : Hall} {s z y : Stand} {ls ls2 : List (List Str)} {os os2 : List Stand} (g : Went h s ls os z) (g2 : Went h z ls2 os2 y) : Went h s (ls ++ ls2) (os ++ os2) y := by
  induction g with
  | nil s => exact g2
  | cons t a g ih => exact .cons t a (ih g2)
theorem Went.snoc {h : Hall} {s z o : Stand} {x : Wlk} {rn : Str} {l : List Str} {ls : List (List Str)} {os : List Stand} (g : Went h s ls os z) (t : Turns h z x rn) (a : After h z x.name rn x.hands l o) : Went h s (ls ++ [l]) (os ++ [z]) o :=
  g.append (.cons t a (.nil o))
theorem Went.ok {h : Hall} (f : h.Few) {s z : Stand} {ls : List (List Str)} {os : List Stand} (g : Went h s ls os z) (o : s.Ok h) : z.Ok h := by
  induction g with
  | nil s => exact o
  | cons t a g ih => exact ih (a.ok f o t.wlk t.room)
theorem Went.deedy {h : Hall} (f : h.Few) {s z : Stand} {ls : List (List Str)} {os : List Stand} (g : Went h s ls os z) : ∀ l, l ∈ ls → Deedy l := by
  induction g with
  | nil s => simp
  | cons t a g ih =>
    intro l hl
    rcases List.mem_cons.mp hl with rfl | hl
    · exact a.deedy f
    · exact ih l hl
theorem Went.nth {h : Hall} {s z : Stand} {ls : List (List Str)} {os : List Stand} (g : Went h s ls os z) : ∀ (k : Nat) (l : List Str), ls[k]? = some l → ∃ (a b : Stand) (x : Wlk) (rn : Str), (os ++ [z])[k]? = some a ∧ (os ++ [z])[k + 1]? = some b ∧ Turns h a x rn ∧ After h a x.name rn x.hands l b := by
  induction g with
  | nil s => intro k l e; simp at e
  | @cons s o z x rn l0 ls os t a g ih =>
    intro k l e
    cases k with
    | zero =>
      cases e
      refine ⟨s, o, x, rn, rfl, ?_, t, a⟩
      cases g with
      | nil => rfl
      | cons t' a' g' => rfl
    | succ k =>
      obtain ⟨p, q, x', rn', e1, e2, t', a'⟩ := ih k l e
      exact ⟨p, q, x', rn', e1, e2, t', a'⟩
theorem Went.refused {h : Hall} {s z : Stand} {ls ls2 : List (List Str)} {os : List Stand} (g : Went h s ls os z) {x : Wlk} {rn : Str} {l : List Str} {t : Str} (ht : t ≠ "form") (tt : Turns h z x rn) (ak : Ask h z x.name rn x.hands (lotD l) (some t)) : Tried h s (ls ++ l :: ls2) none (some (ls.length, t)) := by
  induction g with
  | nil s => exact .here ht tt ak
  | cons t' a g ih => exact .later t' a (ih tt ak)
end DL
namespace DL
open PySem PySem.Spec PyProof.Rows L2 RZ PySem.Calls
end DL
namespace DL
open PySem PySem.Spec PyProof.Rows L2 RZ PySem.Calls
theorem lot_ok {l : List Str} (h : ∀ z, z ∈ l → PyData.strOk z = true) (n : Nat) : okD (n + 1) (lotD l) = true := by
  show okDs n (l.map D.str) = true
  exact okDs_of fun d hd => by obtain ⟨z, hz, rfl⟩ := List.mem_map.mp hd; exact h z hz
theorem deedy_strs {l : List Str} (d : Deedy l) : ∀ z, z ∈ l → PyData.strOk z = true := fun z hz => by
  cases d with
  | wait => cases List.mem_singleton.mp hz; decide +kernel
  | of w n hw hn =>
    simp only [List.mem_cons, List.not_mem_nil, or_false] at hz
    rcases hz with rfl | rfl
    · rcases hw with rfl | rfl | rfl <;> decide +kernel
    · exact okD_name (n := 0) hn
theorem lot_in {L : List (List Str)} {l : List Str} (h : l ∈ L) (ok : ∀ z, z ∈ l → PyData.strOk z = true) : ((L.map lotD).any fun z => eqD z (lotD l)) = true := by
  rw [List.any_map, List.any_eq_true]
  exact ⟨l, h, eqD_refl 60 _ (lot_ok ok 59)⟩
theorem Went.all_ok {h : Hall} (f : h.Few) {s z : Stand} {ls : List (List Str)} {os : List Stand} (g : Went h s ls os z) (o : s.Ok h) : ∀ q, q ∈ os ++ [z] → q.Ok h := by
  induction g with
  | nil s => intro q hq; simp at hq; subst hq; exact o
  | cons t a g ih =>
    intro q hq
    rcases List.mem_cons.mp hq with rfl | hq
    · exact o
    · exact ih (a.ok f o t.wlk t.room) q hq
end DL
namespace DL
open PySem PySem.Spec PyProof.Rows L2 RZ PySem.Calls
abbrev SpT := List D → (List MO → Prop) → XP → Prop
def ownsD (n m : Nat) : List D := (List.range' n m).map .own
theorem RpL.shift {K : PySem.W.Frag} {F : Hp} {as bs : List Addr} : ∀ (m i : Nat) (vs : List V), RpL K F bs (ownsD i m) vs → RpL K F (as ++ bs) (ownsD (as.length + i) m) vs
  | 0, i, vs, h => h
  | m + 1, i, vs, ⟨v, r, e, ⟨a, h1, h2⟩, h3⟩ => ⟨v, r, e, ⟨a, by rw [List.getElem?_append_right (by omega)]; rw [← h1]; congr 1; omega, h2⟩, RpL.shift m (i + 1) r h3⟩
section
variable {K : PySem.W.Frag} {R F H : Hp} {as bs : List Addr} {mu : List MO}
theorem aside_none {n : Nat} {a : Addr} (h : Hs K R F as mu H) (e : aside R H as mu n a = none) : R a = none := by
  cases q : R a with
  | none => rfl
  | some o => rw [aside_R h q] at e; cases e
theorem Hs.join0 {F' H' : Hp} {mc : List MO} (h : Hs K R F as mu H) (e : Er F F') (g : Hs K (aside R H as mu 0) F' bs mc H') (hp : mc.all (fun z => z.live && z.pure) = true) : Hs K R F' (as ++ bs) (mu ++ mc) H' := by
  have hl := h.ln
  have lc := g.ln
  have pu : ∀ {k : Nat} {m : MO}, mc[k]? = some m → m.pure = true := fun {k m} e => by
    rw [List.all_eq_true] at hp
    have := hp m (List.mem_of_getElem? e)
    rw [Bool.and_eq_true] at this
    exact this.2
  have keep : ∀ {k : Nat} {a : Addr} {m : MO}, as[k]? = some a → mu[k]? = some m → m.live = true → H' a = H a ∧ F' a = none ∧ a ∉ bs := fun {k a m} e1 e2 l => by
    have ai := aside_in (R := R) (H := H) (n := 0) (Nat.zero_le _) e1 e2 l
    obtain ⟨o, eo⟩ := (h.ct k a m e1 e2).some l
    rw [eo] at ai
    refine ⟨(g.fr a o ai).trans eo.symm, g.frF a o ai, fun z => ?_⟩
    rw [g.frA a z] at ai; cases ai
  have sp : ∀ {k : Nat} {a : Addr} {m : MO}, (as ++ bs)[k]? = some a → (mu ++ mc)[k]? = some m → (k < as.length ∧ as[k]? = some a ∧ mu[k]? = some m) ∨ (as.length ≤ k ∧ bs[k - as.length]? = some a ∧ mc[k - as.length]? = some m) := fun {k a m} e1 e2 => by
    by_cases hk : k < as.length
    · rw [List.getElem?_append_left hk] at e1
      rw [List.getElem?_append_left (by omega)] at e2
      exact .inl ⟨hk, e1, e2⟩
    · rw [List.getElem?_append_right (by omega)] at e1
      rw [List.getElem?_append_right (by omega), ← hl] at e2
      exact .inr ⟨by omega, e1, e2⟩
  refine ⟨g.er, fun a o q => g.fr a o (aside_R h q), fun a o q => g.frF a o (aside_R h q), fun a ha => ?_, by simp [lc, hl], fun i j a m1 m2 e1 e2 e3 e4 l1 l2 => ?_, fun k a m e1 e2 l => ?_, fun k a m e1 e2 => ?_, g.tb, fun a ps e => ⟨(g.nt a ps e).1, aside_none h (g.nt a ps e).2⟩⟩
  · rcases List.mem_append.mp ha with q | q
    · exact h.frA a q
    · exact aside_none h (g.frA a q)
  · rcases sp e1 e3 with ⟨c1, c2, c3⟩ | ⟨c1, c2, c3⟩ <;> rcases sp e2 e4 with ⟨d1, d2, d3⟩ | ⟨d1, d2, d3⟩
    · exact h.nd i j a m1 m2 c2 d2 c3 d3 l1 l2
    · exact absurd (List.mem_of_getElem? d2) (keep c2 c3 l1).2.2
    · exact absurd (List.mem_of_getElem? c2) (keep d2 d3 l2).2.2
    · have := g.nd _ _ a m1 m2 c2 d2 c3 d3 l1 l2
      omega
  · rcases sp e1 e2 with ⟨c1, c2, c3⟩ | ⟨c1, c2, c3⟩
    · exact (keep c2 c3 l).2.1
    · exact g.sep _ a m c2 c3 l
  · rcases sp e1 e2 with ⟨c1, c2, c3⟩ | ⟨c1, c2, c3⟩
    · cases q : m.live with
      | false => exact (h.ct k a m c2 c3).dead q e
      | true => exact (h.ct k a m c2 c3).mono e (List.prefix_append _ _) (keep c2 c3 q).1
    · exact (g.ct _ a m c2 c3).other (pu c3)
end
def concT (K : PySem.W.Frag) (w : SpT) : Sp := fun vs H Q E => ∃ R F args Φ ε, Hs K R F [] [] H ∧ RpL K F [] args vs ∧ w args Φ ε ∧
  (∀ v mc F' bs H', Φ mc → Er F F' → Hs K R F' bs mc H' → mc.all (fun z => z.live && z.pure) = true → Rp K F' bs (.tup (ownsD 0 mc.length)) v → Q v H') ∧
  (∀ (x : Xn) d F' H', ε x [] → Er F F' → Hs K R F' [] [] H' → xPure x.fs = true → XOk K H' F' [] d x.fs → E x.cls d H')
section
variable {P : Program} {w : World} {K : PySem.W.Frag} {mg : Str → Option Value} {base : Heap}
end
structure CalT (P : Program) (w : World) (K : PySem.W.Frag) (mg : Str → Option Value) (base : Heap) (x : Str) (k : Nat) (sp : SpT) : Prop where
  ex : ∃ (f : Addr) (fd : FuncData) (ps : List Str), mg x = some (.ref f) ∧ PySem.W.keepIn K (.ref f) = true ∧ FnG P w K mg base k f fd ps (concT K sp) ∧ Binds K fd ps []
theorem CalT.up {P : Program} {w : World} {K : PySem.W.Frag} {mg : Str → Option Value} {base : Heap} {x : Str} {k : Nat} {sp : SpT} (c : CalT P w K mg base x k sp) {j : Nat} (h : k ≤ j) : CalT P w K mg base x j sp := by
  obtain ⟨f, fd, ps, h1, h2, h3, h4⟩ := c.ex
  exact ⟨f, fd, ps, h1, h2, h3.up h, h4⟩
section
variable {X : Cx} {e : Expr} {es : List Expr} {dl : List Sl} {mu : List MO} {Φ : DK} {ε : XP} {pos p : Pos} {x : Str}
end
section
variable {P : Program} {w : World} {K : PySem.W.Frag} {mg : Str → Option Value} {base : Heap} {x : Str} {st : Stmt} {ps : List Str} {k : Nat}
theorem Dn.calT {sp : SpT} (d : Dn K mg x st) (h : ∀ f fd, Fun K x x st f fd → FnG P w K mg base k f fd ps (concT K sp)) (hb : BindA x st ps) : CalT P w K mg base x k sp := by
  obtain ⟨f, fd, h1, h2⟩ := d.ex
  exact ⟨f, fd, ps, h1, h2.kp, h f fd h2, h2.binds hb⟩
end
section
variable {K : PySem.W.Frag} {R F H : Hp} {as : List Addr} {mu : List MO} {X : Cx} {Φ : DK}
theorem okDs.dpO {n : Nat} (hs : Hs K R F as mu H) : ∀ (ds : List D) (vs : List V), okDs n (ds.map (rdD mu)) = true → RpL K F as ds vs → DpAll K H vs (pyDs (ds.map (rdD mu)))
  | [], _, _, r => by cases r; simp only [List.map_nil, pyDs]; exact .nil
  | x :: xs, _, h, ⟨v, r, h1, h2, h3⟩ => by
    subst h1
    simp only [List.map_cons, okDs, Bool.and_eq_true] at h
    simp only [List.map_cons, pyDs]
    exact .cons ((hs.view h2).dp hs h.1) (okDs.dpO hs xs r h.2 h3)
end
end DL
namespace DL
open PySem PySem.Spec PyProof.Rows L2 RZ PySem.Calls
theorem Ask.own {h : Hall} {s : Stand} {wn rn : Str} {hands : Int} {d : D} {y : Option Str} (a : Ask h s wn rn hands d y) (n : Nat) : ownLt n d = true := by
  cases a with
  | non => rfl
  | _ => exact noOwns_strs
theorem After.det {h : Hall} (f : h.Few) {s : Stand} {wn rn : Str} {hands : Int} {l : List Str} {o o' : Stand} (a : After h s wn rn hands l o) (b : After h s wn rn hands l o') : o = o' := by
  have ix : ∀ {k k' : Nat} {q q' : Str × Int}, h.stones[k]? = some q → h.stones[k']? = some q' → q.1 = q'.1 → k = k' := fun {k k' q q'} e1 e2 e => by
    have i1 : (h.stones.map (·.1)).idxOf q.1 = k := idx_of f.fit.stonesN (by rw [List.getElem?_map, e1]; rfl)
    have i2 : (h.stones.map (·.1)).idxOf q'.1 = k' := idx_of f.fit.stonesN (by rw [List.getElem?_map, e2]; rfl)
    rw [← i1, ← i2, e]
  cases a with
  | wait => exact (b.wait_inv rfl).2.symm
  | go x to hx hf ho =>
    obtain ⟨d, to', e, hd, hf', _, rfl⟩ := b.go_inv rfl
    have e1 : x.name = d.name := (List.cons.inj e).1
    have e2 : x = d := nodup_inj f.fit.doorsN hx hd e1
    subst e2
    rw [hf] at hf'
    rw [Option.some.inj hf']
  | lay k q hq hp =>
    generalize hl : [("lay" : Str), q.1] = l at b
    cases b with
    | wait => exact absurd (List.cons.inj hl).1 (by decide +kernel)
    | go x to hx hf ho => exact absurd (List.cons.inj hl).1 (by decide +kernel)
    | lift k' q' hq' hp' => exact absurd (List.cons.inj hl).1 (by decide +kernel)
    | lay k' q' hq' hp' => rw [ix hq hq' (List.cons.inj (List.cons.inj hl).2).1]
  | lift k q hq hp =>
    generalize hl : [("lift" : Str), q.1] = l at b
    cases b with
    | wait => exact absurd (List.cons.inj hl).1 (by decide +kernel)
    | go x to hx hf ho => exact absurd (List.cons.inj hl).1 (by decide +kernel)
    | lay k' q' hq' hp' => exact absurd (List.cons.inj hl).1 (by decide +kernel)
    | lift k' q' hq' hp' => rw [ix hq hq' (List.cons.inj (List.cons.inj hl).2).1]
theorem lot_inj : ∀ {l l' : List Str}, lotD l = lotD l' → l = l' := by
  intro l l' e
  have e : l.map D.str = l'.map D.str := by unfold lotD at e; exact D.tup.inj e
  induction l generalizing l' with
  | nil => cases l' with
    | nil => rfl
    | cons a r => cases e
  | cons a r ih => cases l' with
    | nil => cases e
    | cons b q =>
      rw [List.map_cons, List.map_cons] at e
      injection e with e1 e2
      injection e1 with e1
      rw [e1, ih (by unfold lotD; rw [e2]) e2]
theorem exm_own {K : PySem.W.Frag} {S : Addr} (h1 : PySem.W.subIn K (.ref S) (.type "BaseException") = some true) (h2 : PySem.W.isClsIn K S = true) (h3 : PySem.W.typeIn K (.ref S) = some (.type "type")) (h4 : PySem.W.subIn K (.ref S) (.ref S) = some true) : PySem.W.exmOne K (.ref S) (.ref S) = some true := by
  have h2' : (PySem.W.clsIn K S).isSome = true := h2
  have e1 : (PySem.W.subIn K (.ref S) (.type "BaseException") == some true) = true := by rw [h1]; rfl
  have e2 : ((PySem.W.clsIn K S).isSome && PySem.W.typeIn K (.ref S) == some (.type "type")) = true := by rw [h2', h3]; rfl
  show (if _ then (if _ then _ else none) else none) = some true
  rw [if_pos e1, if_pos e2, h4]
end DL
namespace DL
open PySem PySem.Spec PyProof.Rows L2 RZ PySem.Calls
mutual
def mapD (f : Nat → Nat) : D → D
  | .lst xs => .lst (mapDs f xs)
  | .tup xs => .tup (mapDs f xs)
  | .dct kvs => .dct (mapDK f kvs)
  | .obj C fs => .obj C (mapDF f fs)
  | .exn C fs => .exn C (mapDF f fs)
  | .own k => .own (f k)
  | d => d
def mapDs (f : Nat → Nat) : List D → List D
  | [] => []
  | x :: xs => mapD f x :: mapDs f xs
def mapDK (f : Nat → Nat) : List (Key × D) → List (Key × D)
  | [] => []
  | (k, x) :: xs => (k, mapD f x) :: mapDK f xs
def mapDF (f : Nat → Nat) : List (Str × D) → List (Str × D)
  | [] => []
  | (k, x) :: xs => (k, mapD f x) :: mapDF f xs
end
mutual
def allD (p : Nat → Bool) : D → Bool
  | .lst xs => allDs p xs
  | .tup xs => allDs p xs
  | .dct kvs => allDK p kvs
  | .obj _ fs => allDF p fs
  | .exn _ fs => allDF p fs
  | .own k => p k
  | _ => true
def allDs (p : Nat → Bool) : List D → Bool
  | [] => true
  | x :: xs => allD p x && allDs p xs
def allDK (p : Nat → Bool) : List (Key × D) → Bool
  | [] => true
  | (_, x) :: xs => allD p x && allDK p xs
def allDF (p : Nat → Bool) : List (Str × D) → Bool
  | [] => true
  | (_, x) :: xs => allD p x && allDF p xs
end
mutual
theorem mapD_pure (f : Nat → Nat) : ∀ d : D, noOwn d = true → mapD f d = d
  | .non, _ => rfl
  | .bl _, _ => rfl
  | .int _, _ => rfl
  | .str _, _ => rfl
  | .lst xs, h => by simp only [mapD, mapDs_pure f xs (by simpa [noOwn, ownLt] using h)]
  | .tup xs, h => by simp only [mapD, mapDs_pure f xs (by simpa [noOwn, ownLt] using h)]
  | .dct kvs, h => by simp only [mapD, mapDK_pure f kvs (by simpa [noOwn, ownLt] using h)]
  | .obj _ fs, h => by simp only [mapD, mapDF_pure f fs (by simpa [noOwn, ownLt] using h)]
  | .exn _ fs, h => by simp only [mapD, mapDF_pure f fs (by simpa [noOwn, ownLt] using h)]
  | .own k, h => by simp [noOwn, ownLt] at h
  | .val _, _ => rfl
  | .scr _, _ => rfl
theorem mapDs_pure (f : Nat → Nat) : ∀ ds : List D, noOwns ds = true → mapDs f ds = ds
  | [], _ => rfl
  | x :: xs, h => by
    simp only [noOwns, ownLts, Bool.and_eq_true] at h
    simp only [mapDs, mapD_pure f x h.1, mapDs_pure f xs h.2]
theorem mapDK_pure (f : Nat → Nat) : ∀ ds : List (Key × D), noOwnK ds = true → mapDK f ds = ds
  | [], _ => rfl
  | (_, x) :: xs, h => by
    simp only [noOwnK, ownLtK, Bool.and_eq_true] at h
    simp only [mapDK, mapD_pure f x h.1, mapDK_pure f xs h.2]
theorem mapDF_pure (f : Nat → Nat) : ∀ ds : List (Str × D), noOwnF ds = true → mapDF f ds = ds
  | [], _ => rfl
  | (_, x) :: xs, h => by
    simp only [noOwnF, ownLtF, Bool.and_eq_true] at h
    simp only [mapDF, mapD_pure f x h.1, mapDF_pure f xs h.2]
end
mutual
theorem allD_true : ∀ d : D, allD (fun _ => true) d = true
  | .non => rfl
  | .bl _ => rfl
  | .int _ => rfl
  | .str _ => rfl
  | .lst xs => by simp only [allD, allDs_true xs]
  | .tup xs => by simp only [allD, allDs_true xs]
  | .dct kvs => by simp only [allD, allDK_true kvs]
  | .obj _ fs => by simp only [allD, allDF_true fs]
  | .exn _ fs => by simp only [allD, allDF_true fs]
  | .own k => rfl
  | .val _ => rfl
  | .scr _ => rfl
theorem allDs_true : ∀ ds : List D, allDs (fun _ => true) ds = true
  | [] => rfl
  | x :: xs => by simp only [allDs, allD_true x, allDs_true xs, Bool.and_self]
theorem allDK_true : ∀ ds : List (Key × D), allDK (fun _ => true) ds = true
  | [] => rfl
  | (_, x) :: xs => by simp only [allDK, allD_true x, allDK_true xs, Bool.and_self]
theorem allDF_true : ∀ ds : List (Str × D), allDF (fun _ => true) ds = true
  | [] => rfl
  | (_, x) :: xs => by simp only [allDF, allD_true x, allDF_true xs, Bool.and_self]
end
mutual
theorem mapD_id : ∀ d : D, mapD (fun k => k) d = d
  | .non => rfl
  | .bl _ => rfl
  | .int _ => rfl
  | .str _ => rfl
  | .lst xs => by simp only [mapD, mapDs_id xs]
  | .tup xs => by simp only [mapD, mapDs_id xs]
  | .dct kvs => by simp only [mapD, mapDK_id kvs]
  | .obj _ fs => by simp only [mapD, mapDF_id fs]
  | .exn _ fs => by simp only [mapD, mapDF_id fs]
  | .own k => rfl
  | .val _ => rfl
  | .scr _ => rfl
theorem mapDs_id : ∀ ds : List D, mapDs (fun k => k) ds = ds
  | [] => rfl
  | x :: xs => by simp only [mapDs, mapD_id x, mapDs_id xs]
theorem mapDK_id : ∀ ds : List (Key × D), mapDK (fun k => k) ds = ds
  | [] => rfl
  | (_, x) :: xs => by simp only [mapDK, mapD_id x, mapDK_id xs]
theorem mapDF_id : ∀ ds : List (Str × D), mapDF (fun k => k) ds = ds
  | [] => rfl
  | (_, x) :: xs => by simp only [mapDF, mapD_id x, mapDF_id xs]
end
mutual
theorem allD_pure (p : Nat → Bool) : ∀ d : D, noOwn d = true → allD p d = true
  | .non, _ => rfl
  | .bl _, _ => rfl
  | .int _, _ => rfl
  | .str _, _ => rfl
  | .lst xs, h => by simp only [allD, allDs_pure p xs (by simpa [noOwn, ownLt] using h)]
  | .tup xs, h => by simp only [allD, allDs_pure p xs (by simpa [noOwn, ownLt] using h)]
  | .dct kvs, h => by simp only [allD, allDK_pure p kvs (by simpa [noOwn, ownLt] using h)]
  | .obj _ fs, h => by simp only [allD, allDF_pure p fs (by simpa [noOwn, ownLt] using h)]
  | .exn _ fs, h => by simp only [allD, allDF_pure p fs (by simpa [noOwn, ownLt] using h)]
  | .own k, h => by simp [noOwn, ownLt] at h
  | .val _, _ => rfl
  | .scr _, _ => rfl
theorem allDs_pure (p : Nat → Bool) : ∀ ds : List D, noOwns ds = true → allDs p ds = true
  | [], _ => rfl
  | x :: xs, h => by
    simp only [noOwns, ownLts, Bool.and_eq_true] at h
    simp only [allDs, allD_pure p x h.1, allDs_pure p xs h.2, Bool.and_self]
theorem allDK_pure (p : Nat → Bool) : ∀ ds : List (Key × D), noOwnK ds = true → allDK p ds = true
  | [], _ => rfl
  | (_, x) :: xs, h => by
    simp only [noOwnK, ownLtK, Bool.and_eq_true] at h
    simp only [allDK, allD_pure p x h.1, allDK_pure p xs h.2, Bool.and_self]
theorem allDF_pure (p : Nat → Bool) : ∀ ds : List (Str × D), noOwnF ds = true → allDF p ds = true
  | [], _ => rfl
  | (_, x) :: xs, h => by
    simp only [noOwnF, ownLtF, Bool.and_eq_true] at h
    simp only [allDF, allD_pure p x h.1, allDF_pure p xs h.2, Bool.and_self]
end
section
variable {K : PySem.W.Frag} {F : Hp} {as bs : List Addr} {p : Nat → Bool} {f : Nat → Nat}
mutual
theorem Rp.map (h : ∀ k a, p k = true → as[k]? = some a → bs[f k]? = some a) : ∀ (d : D) (v : V), allD p d = true → Rp K F as d v → Rp K F bs (mapD f d) v
  | .non, _, _, r => r
  | .bl _, _, _, r => r
  | .int _, _, _, r => r
  | .str _, _, _, r => r
  | .lst xs, _, g, ⟨a, vs, h1, h2, h3⟩ => ⟨a, vs, h1, h2, RpL.map h xs vs (by simpa [allD] using g) h3⟩
  | .tup xs, _, g, ⟨a, vs, h1, h2, h3⟩ => ⟨a, vs, h1, h2, RpL.map h xs vs (by simpa [allD] using g) h3⟩
  | .dct kvs, _, g, ⟨a, o, ws, h1, h2, h3⟩ => ⟨a, o, ws, h1, h2, RpK.map h kvs ws (by simpa [allD] using g) h3⟩
  | .obj _ fs, _, g, ⟨a, dx, ws, h1, h2, h3⟩ => ⟨a, dx, ws, h1, h2, RpF.map h fs ws (by simpa [allD] using g) h3⟩
  | .exn _ fs, _, g, ⟨a, d, ws, h1, h2, h3, h4, h5⟩ => ⟨a, d, ws, h1, h2, h3, h4, RpF.map h fs ws (by simpa [allD] using g) h5⟩
  | .own k, _, g, ⟨a, h1, h2⟩ => ⟨a, h k a (by simpa [allD] using g) h1, h2⟩
  | .val _, _, _, r => r
  | .scr _, _, _, r => r
theorem RpL.map (h : ∀ k a, p k = true → as[k]? = some a → bs[f k]? = some a) : ∀ (ds : List D) (vs : List V), allDs p ds = true → RpL K F as ds vs → RpL K F bs (mapDs f ds) vs
  | [], _, _, r => r
  | x :: xs, _, g, ⟨v, r, h1, h2, h3⟩ => by
    simp only [allDs, Bool.and_eq_true] at g
    exact ⟨v, r, h1, Rp.map h x v g.1 h2, RpL.map h xs r g.2 h3⟩
theorem RpK.map (h : ∀ k a, p k = true → as[k]? = some a → bs[f k]? = some a) : ∀ (ds : List (Key × D)) (vs : List (Key × V)), allDK p ds = true → RpK K F as ds vs → RpK K F bs (mapDK f ds) vs
  | [], _, _, r => r
  | (_, x) :: xs, _, g, ⟨v, r, h1, h2, h3⟩ => by
    simp only [allDK, Bool.and_eq_true] at g
    exact ⟨v, r, h1, Rp.map h x v g.1 h2, RpK.map h xs r g.2 h3⟩
theorem RpF.map (h : ∀ k a, p k = true → as[k]? = some a → bs[f k]? = some a) : ∀ (ds : List (Str × D)) (vs : List (Str × V)), allDF p ds = true → RpF K F as ds vs → RpF K F bs (mapDF f ds) vs
  | [], _, _, r => r
  | (_, x) :: xs, _, g, ⟨v, r, h1, h2, h3⟩ => by
    simp only [allDF, Bool.and_eq_true] at g
    exact ⟨v, r, h1, Rp.map h x v g.1 h2, RpF.map h xs r g.2 h3⟩
end
end
def mapM (f : Nat → Nat) : MO → MO
  | .lst xs => .lst (mapDs f xs)
  | .dct kvs => .dct (mapDK f kvs)
  | .ins C fs => .ins C (mapDF f fs)
  | m => m
def allM (p : Nat → Bool) : MO → Bool
  | .lst xs => allDs p xs
  | .dct kvs => allDK p kvs
  | .ins _ fs => allDF p fs
  | _ => true
theorem mapM_live (f : Nat → Nat) : ∀ m : MO, (mapM f m).live = m.live
  | .lst _ => rfl
  | .dct _ => rfl
  | .ins _ _ => rfl
  | .pen _ => rfl
  | .gone => rfl
theorem allM_true : ∀ m : MO, allM (fun _ => true) m = true
  | .lst xs => allDs_true xs
  | .dct xs => allDK_true xs
  | .ins _ xs => allDF_true xs
  | .pen _ => rfl
  | .gone => rfl
theorem MOk.map {K : PySem.W.Frag} {F H : Hp} {as bs : List Addr} {a : Addr} {p : Nat → Bool} {f : Nat → Nat} (h : ∀ k a, p k = true → as[k]? = Option.some a → bs[f k]? = Option.some a) : ∀ {m : MO}, allM p m = true → MOk K F as H a m → MOk K F bs H a (mapM f m)
  | .lst xs, g, ⟨vs, h1, h2⟩ => ⟨vs, h1, RpL.map h _ _ g h2⟩
  | .dct xs, g, ⟨vs, h1, h2⟩ => ⟨vs, h1, RpK.map h _ _ g h2⟩
  | .ins C fs, g, ⟨dx, ws, h1, h2⟩ => ⟨dx, ws, h1, RpF.map h _ _ g h2⟩
  | .pen _, _, r => r
  | .gone, _, r => r
theorem nd_inj {ix : List Nat} (h : ix.Nodup) : ∀ {i j k : Nat}, ix[i]? = some k → ix[j]? = some k → i = j := by
  induction ix with
  | nil => intro i j k e; simp at e
  | cons a l ih =>
    intro i j k e1 e2
    obtain ⟨h1, h2⟩ := List.nodup_cons.mp h
    cases i with
    | zero => cases j with
      | zero => rfl
      | succ j =>
        simp at e1 e2
        exact absurd (e1 ▸ List.mem_of_getElem? e2) h1
    | succ i => cases j with
      | zero =>
        simp at e1 e2
        exact absurd (e2 ▸ List.mem_of_getElem? e1) h1
      | succ j =>
        simp at e1 e2
        rw [ih h2 e1 e2]
structure Gath (n : Nat) (ix : List Nat) (m : List MO) : Prop where
  lt : ∀ i ∈ ix, i < m.length
  nd : ix.Nodup
  own : ∀ i ∈ ix, allM (fun k => ix.contains k) (m.getD i .gone) = true
  pre : ix.take n = List.range n
def gaths (ix : List Nat) (m : List MO) : List MO := ix.map fun i => mapM (fun k => ix.idxOf k) (m.getD i .gone)
theorem Hs.gather {K : PySem.W.Frag} {R F H : Hp} {as : List Addr} {mu : List MO} {n : Nat} {ix : List Nat} (h : Hs K R F as mu H) (g : Gath n ix mu) : Hs K R F (ix.map fun i => as.getD i 0) (gaths ix mu) H := by
  have hl := h.ln
  have src : ∀ {k : Nat} {a : Addr} {m : MO}, (ix.map fun i => as.getD i 0)[k]? = some a → (gaths ix mu)[k]? = some m → ∃ i m0, ix[k]? = some i ∧ as[i]? = some a ∧ mu[i]? = some m0 ∧ m = mapM (fun k => ix.idxOf k) m0 ∧ i ∈ ix := fun {k a m} e1 e2 => by
    unfold gaths at e2
    rw [List.getElem?_map] at e1 e2
    cases q : ix[k]? with
    | none => rw [q] at e1; cases e1
    | some i =>
      rw [q] at e1 e2
      have hi := List.mem_of_getElem? q
      have lt := g.lt i hi
      refine ⟨i, mu[i], rfl, ?_, List.getElem?_eq_getElem lt, ?_, hi⟩
      · rw [List.getElem?_eq_getElem (by omega)]
        simp only [Option.map_some, Option.some.injEq, List.getD_eq_getElem?_getD] at e1
        rw [List.getElem?_eq_getElem (by omega)] at e1
        exact congrArg some e1
      · simp only [Option.map_some, Option.some.injEq, List.getD_eq_getElem?_getD] at e2
        rw [List.getElem?_eq_getElem lt] at e2
        exact e2.symm
  refine ⟨h.er, h.fr, h.frF, fun a ha => ?_, by simp [gaths], fun i j a m1 m2 e1 e2 e3 e4 l1 l2 => ?_, fun k a m e1 e2 l => ?_, fun k a m e1 e2 => ?_, h.tb, h.nt⟩
  · obtain ⟨i, hi, rfl⟩ := List.mem_map.mp ha
    have lt := g.lt i hi
    refine h.frA _ ?_
    rw [List.getD_eq_getElem?_getD, List.getElem?_eq_getElem (by omega)]
    exact List.getElem_mem ..
  · obtain ⟨i', n1, q1, q2, q3, rfl, _⟩ := src e1 e3
    obtain ⟨j', n2, r1, r2, r3, rfl, _⟩ := src e2 e4
    rw [mapM_live] at l1 l2
    have := h.nd _ _ a n1 n2 q2 r2 q3 r3 l1 l2
    subst this
    obtain ⟨b1, c1⟩ := List.getElem?_eq_some_iff.mp q1
    obtain ⟨b2, c2⟩ := List.getElem?_eq_some_iff.mp r1
    exact nd_inj g.nd q1 r1
  · obtain ⟨i', n1, q1, q2, q3, rfl, _⟩ := src e1 e2
    rw [mapM_live] at l
    exact h.sep _ a n1 q2 q3 l
  · obtain ⟨i', n1, q1, q2, q3, rfl, hi⟩ := src e1 e2
    have ow := g.own i' hi
    rw [List.getD_eq_getElem?_getD, q3] at ow
    refine MOk.map (p := fun k => ix.contains k) (fun k b hk hb => ?_) ow (h.ct _ a n1 q2 q3)
    have hk : k ∈ ix := by simpa using hk
    have hx : ix.idxOf k < ix.length := List.idxOf_lt_length_of_mem hk
    rw [List.getElem?_map, List.getElem?_eq_getElem hx, List.getElem_idxOf hx]
    simp [List.getD_eq_getElem?_getD, hb]
theorem Gath.rp {K : PySem.W.Frag} {F : Hp} {as : List Addr} {mu : List MO} {n : Nat} {ix : List Nat} {x : D} {v : V} (g : Gath n ix mu) (hx : allD (fun k => ix.contains k) x = true) (r : Rp K F as x v) : Rp K F (ix.map fun i => as.getD i 0) (mapD (fun k => ix.idxOf k) x) v :=
  Rp.map (p := fun k => ix.contains k) (fun k b hk hb => by
    have hk : k ∈ ix := by simpa using hk
    have hx : ix.idxOf k < ix.length := List.idxOf_lt_length_of_mem hk
    rw [List.getElem?_map, List.getElem?_eq_getElem hx, List.getElem_idxOf hx]
    simp [List.getD_eq_getElem?_getD, hb]) x v hx r
theorem Gath.pref {as bs : List Addr} {mu : List MO} {ix : List Nat} (g : Gath bs.length ix mu) (p : bs <+: as) (hl : as.length = mu.length) : bs <+: ix.map fun i => as.getD i 0 := by
  obtain ⟨t, rfl⟩ := p
  rw [List.prefix_iff_eq_take, ← List.map_take, g.pre]
  apply List.ext_getElem?
  intro i
  rw [List.getElem?_map]
  by_cases hi : i < bs.length
  · rw [List.getElem?_range hi]
    simp [List.getD_eq_getElem?_getD, List.getElem?_append_left hi, List.getElem?_eq_getElem hi]
  · rw [List.getElem?_eq_none (by omega), List.getElem?_eq_none (by simp; omega)]
    rfl
abbrev SpG := List D → List MO → DK → XP → Prop
def concG (K : PySem.W.Frag) (w : SpG) : Sp := fun vs H Q E => ∃ R F as mu args Φ ε, Hs K R F as mu H ∧ RpL K F as args vs ∧ w args mu Φ ε ∧
  (∀ v x mu' F' as' H', Φ x mu' → Er F F' → as <+: as' → Hs K R F' as' mu' H' → Rp K F' as' x v → Q v H') ∧
  (∀ (x : Xn) d mu' F' H', ε x mu' → Er F F' → Hs K R F' as mu' H' → xPure x.fs = true → XOk K H' F' [] d x.fs → E x.cls d H')
theorem Hs.cutG {K : PySem.W.Frag} {R F H : Hp} {as bs : List Addr} {mu : List MO} (h : Hs K R F as mu H) (p : bs <+: as) (hp : ∀ (k : Nat) m, k < bs.length → mu[k]? = some m → allM (fun j => decide (j < bs.length)) m = true) : Hs K R F bs (mu.take bs.length) H := by
  obtain ⟨t, rfl⟩ := p
  have hl := h.ln
  rw [List.length_append] at hl
  have up : ∀ {k : Nat} {a : Addr}, bs[k]? = some a → (bs ++ t)[k]? = some a := fun {k a} e => by
    rw [List.getElem?_append_left (List.getElem?_eq_some_iff.mp e).1]; exact e
  refine ⟨h.er, h.fr, h.frF, fun a ha => h.frA a (List.mem_append_left _ ha), by rw [List.length_take]; omega,
    fun i j a m1 m2 e1 e2 e3 e4 => h.nd i j a m1 m2 (up e1) (up e2) (take_get e3).2 (take_get e4).2, fun k a m e1 e2 => h.sep k a m (up e1) (take_get e2).2,
    fun k a m e1 e2 => ?_, h.tb, h.nt⟩
  have c := (h.ct k a m (up e1) (take_get e2).2).map (bs := bs) (p := fun j => decide (j < bs.length)) (f := fun k => k) (fun k b hk hb => by
    have hk : k < bs.length := by simpa using hk
    rw [List.getElem?_append_left hk] at hb; exact hb) (hp k m (take_get e2).1 (take_get e2).2)
  have idm : ∀ m : MO, mapM (fun k => k) m = m := by
    intro m
    cases m with
    | lst xs => simp only [mapM, mapDs_id]
    | dct xs => simp only [mapM, mapDK_id]
    | ins C xs => simp only [mapM, mapDF_id]
    | pen n => rfl
    | gone => rfl
  rw [idm] at c
  exact c
def Clsd (n : Nat) (m : List MO) : Bool := (m.take n).all fun z => allM (fun j => decide (j < n)) z
theorem Clsd.get {n : Nat} {m : List MO} (h : Clsd n m = true) : ∀ (k : Nat) z, k < n → m[k]? = some z → allM (fun j => decide (j < n)) z = true := fun k z hk e => by
  unfold Clsd at h
  rw [List.all_eq_true] at h
  exact h z (List.mem_of_getElem? (i := k) (by rw [List.getElem?_take, if_pos hk]; exact e))
section
variable {K : PySem.W.Frag} {R F H : Hp} {as : List Addr} {mu : List MO}
theorem Hs.partG (h : Hs K R F as mu H) (n : Nat) (hl : ∀ (k : Nat) m, k < n → mu[k]? = some m → m.live = true) (hc : Clsd n mu = true) (hn : n ≤ mu.length) : Hs K (aside R H as mu n) F (as.take n) (mu.take n) H where
  er := h.er
  tb := h.tb
  nt a ps e := by
    refine ⟨(h.nt a ps e).1, ?_⟩
    unfold aside
    split
    · rename_i z
      obtain ⟨k, m, _, h2, h3, h4⟩ := z
      exact ((h.ct k a m h2 h3).pn h4 e).elim
    · exact (h.nt a ps e).2
  fr a o e := by
    unfold aside at e
    split at e
    · exact e
    · exact h.fr a o e
  frF a o e := by
    unfold aside at e
    split at e
    · rename_i z
      obtain ⟨k, m, h1, h2, h3, h4⟩ := z
      exact h.sep k a m h2 h3 h4
    · exact h.frF a o e
  frA a ha := by
    obtain ⟨j, hj⟩ := List.getElem?_of_mem ha
    obtain ⟨hjn, hj⟩ := take_get hj
    unfold aside
    rw [if_neg]
    · exact h.frA a (List.mem_of_getElem? hj)
    · rintro ⟨k, m, h1, h2, h3, h4⟩
      obtain ⟨m', e'⟩ : ∃ m', mu[j]? = some m' := ⟨_, List.getElem?_eq_getElem (by omega)⟩
      have := h.nd j k a m' m hj h2 e' h3 (hl j m' hjn e') h4
      omega
  ln := by rw [List.length_take, List.length_take, h.ln]
  nd i j a m1 m2 e1 e2 e3 e4 := h.nd i j a m1 m2 (take_get e1).2 (take_get e2).2 (take_get e3).2 (take_get e4).2
  sep k a m e1 e2 := h.sep k a m (take_get e1).2 (take_get e2).2
  ct k a m e1 e2 := by
    have c := MOk.map (bs := as.take n) (p := fun j => decide (j < n)) (f := fun k => k) (fun k b hk hb => by
      have hk : k < n := by simpa using hk
      rw [List.getElem?_take, if_pos hk]; exact hb) (Clsd.get hc k m (take_get e1).1 (take_get e2).2) (h.ct k a m (take_get e1).2 (take_get e2).2)
    have e : mapM (fun k => k) m = m := by
      cases m with
      | lst xs => simp only [mapM, mapDs_id]
      | dct xs => simp only [mapM, mapDK_id]
      | ins C xs => simp only [mapM, mapDF_id]
      | pen n => rfl
      | gone => rfl
    rw [e] at c
    exact c
def sh (n L : Nat) (k : Nat) : Nat := if k < n then k else k - n + L
theorem Hs.joinG {F' H' : Hp} {bs : List Addr} {mc : List MO} {n : Nat} (h : Hs K R F as mu H) (hn : n ≤ mu.length) (e : Er F F') (p : as.take n <+: bs) (g : Hs K (aside R H as mu n) F' bs mc H') :
    Hs K R F' (as ++ bs.drop n) ((mc.take n).map (mapM (sh n mu.length)) ++ mu.drop n ++ (mc.drop n).map (mapM (sh n mu.length))) H' ∧ ∀ (k : Nat) a, bs[k]? = some a → (as ++ bs.drop n)[sh n mu.length k]? = some a := by
  have hl := h.ln
  have lc := g.ln
  have lb : n ≤ bs.length := by
    have := p.length_le
    rw [List.length_take] at this
    omega
  have low : ∀ {k : Nat}, k < n → bs[k]? = as[k]? := fun {k} hk => by
    obtain ⟨t, rfl⟩ := p
    rw [List.getElem?_append_left (by rw [List.length_take]; omega), List.getElem?_take, if_pos hk]
  have mp : ∀ (k : Nat) a, bs[k]? = some a → (as ++ bs.drop n)[sh n mu.length k]? = some a := fun k a hk => by
    unfold sh
    by_cases c : k < n
    · rw [if_pos c, List.getElem?_append_left (by omega), ← low c]; exact hk
    · rw [if_neg c, List.getElem?_append_right (by omega), List.getElem?_drop]
      rw [← hk]; congr 1; omega
  refine ⟨?_, mp⟩
  have src : ∀ {k : Nat} {a : Addr} {m : MO}, (as ++ bs.drop n)[k]? = some a → ((mc.take n).map (mapM (sh n mu.length)) ++ mu.drop n ++ (mc.drop n).map (mapM (sh n mu.length)))[k]? = some m →
      (∃ j m0, bs[j]? = some a ∧ mc[j]? = some m0 ∧ m = mapM (sh n mu.length) m0 ∧ k = sh n mu.length j) ∨ (n ≤ k ∧ k < mu.length ∧ as[k]? = some a ∧ mu[k]? = some m) := fun {k a m} e1 e2 => by
    have l1 : ((mc.take n).map (mapM (sh n mu.length))).length = n := by rw [List.length_map, List.length_take]; omega
    have l2 : ((mc.take n).map (mapM (sh n mu.length)) ++ mu.drop n).length = mu.length := by rw [List.length_append, l1, List.length_drop]; omega
    by_cases c1 : k < n
    · rw [List.getElem?_append_left (by omega)] at e1
      rw [List.getElem?_append_left (by omega), List.getElem?_append_left (by omega), List.getElem?_map, List.getElem?_take, if_pos c1] at e2
      cases q : mc[k]? with
      | none => rw [q] at e2; cases e2
      | some m0 =>
        rw [q] at e2
        refine .inl ⟨k, m0, by rw [low c1]; exact e1, q, (Option.some.inj e2).symm, by unfold sh; rw [if_pos c1]⟩
    · by_cases c2 : k < mu.length
      · rw [List.getElem?_append_left (by omega)] at e1
        rw [List.getElem?_append_left (by omega), List.getElem?_append_right (by omega), List.getElem?_drop, l1] at e2
        exact .inr ⟨by omega, c2, e1, by rw [← e2]; congr 1; omega⟩
      · rw [List.getElem?_append_right (by omega), List.getElem?_drop] at e1
        rw [List.getElem?_append_right (by omega), List.getElem?_map, List.getElem?_drop, l2] at e2
        cases q : mc[n + (k - mu.length)]? with
        | none => rw [q] at e2; cases e2
        | some m0 =>
          rw [q] at e2
          exact .inl ⟨n + (k - mu.length), m0, by rw [← e1]; congr 1; omega, q, (Option.some.inj e2).symm, by unfold sh; rw [if_neg (by omega)]; omega⟩
  have keep : ∀ {k : Nat} {a : Addr} {m : MO}, n ≤ k → as[k]? = some a → mu[k]? = some m → m.live = true → H' a = H a ∧ F' a = none ∧ a ∉ bs := fun {k a m} hk e1 e2 l => by
    have ai := aside_in (R := R) (H := H) hk e1 e2 l
    obtain ⟨o, eo⟩ := (h.ct k a m e1 e2).some l
    rw [eo] at ai
    refine ⟨(g.fr a o ai).trans eo.symm, g.frF a o ai, fun z => ?_⟩
    rw [g.frA a z] at ai; cases ai
  refine ⟨g.er, fun a o q => g.fr a o (aside_R h q), fun a o q => g.frF a o (aside_R h q), fun a ha => ?_, by simp; omega, fun i j a m1 m2 e1 e2 e3 e4 l1 l2 => ?_, fun k a m e1 e2 l => ?_, fun k a m e1 e2 => ?_, g.tb, fun a ps e => ⟨(g.nt a ps e).1, ?_⟩⟩
  · rcases List.mem_append.mp ha with q | q
    · exact h.frA a q
    · have := g.frA a (List.mem_of_mem_drop q)
      cases q : R a with
      | none => rfl
      | some o => rw [aside_R h q] at this; cases this
  · rcases src e1 e3 with ⟨i', n1, q1, q2, rfl, rfl⟩ | ⟨b1, b2, q1, q2⟩ <;> rcases src e2 e4 with ⟨j', n2, r1, r2, rfl, rfl⟩ | ⟨d1, d2, r1, r2⟩
    · rw [mapM_live] at l1 l2
      rw [g.nd _ _ a n1 n2 q1 r1 q2 r2 l1 l2]
    · exact absurd (List.mem_of_getElem? q1) (keep d1 r1 r2 l2).2.2
    · exact absurd (List.mem_of_getElem? r1) (keep b1 q1 q2 l1).2.2
    · exact h.nd _ _ a m1 m2 q1 r1 q2 r2 l1 l2
  · rcases src e1 e2 with ⟨i', n1, q1, q2, rfl, rfl⟩ | ⟨b1, b2, q1, q2⟩
    · rw [mapM_live] at l
      exact g.sep _ a n1 q1 q2 l
    · exact (keep b1 q1 q2 l).2.1
  · rcases src e1 e2 with ⟨i', n1, q1, q2, rfl, rfl⟩ | ⟨b1, b2, q1, q2⟩
    · exact MOk.map (p := fun _ => true) (fun k a _ hk => mp k a hk) (allM_true _) (g.ct _ a n1 q1 q2)
    · cases q : m.live with
      | false => exact (h.ct k a m q1 q2).dead q e
      | true => exact (h.ct k a m q1 q2).mono e (List.prefix_append _ _) (keep b1 q1 q2 q).1
  · have := (g.nt a ps e).2
    cases q : R a with
    | none => rfl
    | some o => rw [aside_R h q] at this; cases this
end
section
variable {P : Program} {w : World} {K : PySem.W.Frag} {mg : Str → Option Value} {base : Heap}
end
structure CalG (P : Program) (w : World) (K : PySem.W.Frag) (mg : Str → Option Value) (base : Heap) (x : Str) (k : Nat) (sp : SpG) : Prop where
  ex : ∃ (f : Addr) (fd : FuncData) (ps : List Str), mg x = some (.ref f) ∧ PySem.W.keepIn K (.ref f) = true ∧ FnG P w K mg base k f fd ps (concG K sp) ∧ Binds K fd ps []
theorem CalG.up {P : Program} {w : World} {K : PySem.W.Frag} {mg : Str → Option Value} {base : Heap} {x : Str} {k : Nat} {sp : SpG} (c : CalG P w K mg base x k sp) {j : Nat} (h : k ≤ j) : CalG P w K mg base x j sp := by
  obtain ⟨f, fd, ps, h1, h2, h3, h4⟩ := c.ex
  exact ⟨f, fd, ps, h1, h2, h3.up h, h4⟩
section
variable {X : Cx} {e o : Expr} {es : List Expr} {dl : List Sl} {mu : List MO} {Φ : DK} {ε : XP} {pos p apos : Pos} {x f : Str} {C : Addr}
end
section
variable {P : Program} {w : World} {K : PySem.W.Frag} {mg : Str → Option Value} {base : Heap} {x : Str} {st : Stmt} {ps : List Str} {k : Nat}
theorem Dn.calG {sp : SpG} (d : Dn K mg x st) (h : ∀ f fd, Fun K x x st f fd → FnG P w K mg base k f fd ps (concG K sp)) (hb : BindA x st ps) : CalG P w K mg base x k sp := by
  obtain ⟨f, fd, h1, h2⟩ := d.ex
  exact ⟨f, fd, ps, h1, h2.kp, h f fd h2, h2.binds hb⟩
end
structure CalGM (P : Program) (w : World) (K : PySem.W.Frag) (mg : Str → Option Value) (base : Heap) (C : Addr) (m : Str) (k : Nat) (sp : SpG) : Prop where
  ex : ∃ (f : Addr) (fd : FuncData) (ps : List Str), Meth K C m f ∧ FnG P w K mg base k f fd ps (concG K sp) ∧ Binds K fd ps []
theorem CalGM.up {P : Program} {w : World} {K : PySem.W.Frag} {mg : Str → Option Value} {base : Heap} {C : Addr} {m : Str} {j k : Nat} {sp : SpG} (c : CalGM P w K mg base C m j sp) (h : j ≤ k) : CalGM P w K mg base C m k sp := by
  obtain ⟨f, fd, ps, h1, h2, h3⟩ := c.ex
  exact ⟨f, fd, ps, h1, h2.up h, h3⟩
section
variable {X : Cx} {o e value : Expr} {es : List Expr} {dl : List Sl} {mu : List MO} {Φ : DK} {ε : XP} {pos p apos : Pos} {f m x : Str} {C : Addr}
end
end DL
namespace L2
open PySem PySem.Spec PyProof.Rows
def excH (a : Addr) (cls : Value) (d : Option Addr) : HO := .ext fun h => ∃ o : Obj, h.get? a = some o ∧ Zc cls d o ∧ ∃ vs, o.data = .fields vs
theorem excH_ok {P : Program} {w : World} {H : Hp} {h : Heap} {a : Addr} {cls : Value} {d : Option Addr} {o : Obj} {vs : Array Value} (he : h.get? a = some o) (hz : Zc cls d o) (hd : o.data = .fields vs) : ObjOk P w H h a (excH a cls d) :=
  ⟨⟨o, he, hz, vs, hd⟩, ⟨_, he⟩, fun h1 h2 z k => by
    obtain ⟨o, q, r⟩ := z
    exact ⟨o, k _ q, r⟩⟩
theorem excH_at {P : Program} {w : World} {H : Hp} {h : Heap} {a : Addr} {cls : Value} {d : Option Addr} (hok : HOk P w H h) (e : H a = some (excH a cls d)) : ∃ o : Obj, h.get? a = some o ∧ Zc cls d o ∧ ∃ vs, o.data = .fields vs := by
  have x : ObjOk P w H h a (.ext fun h => ∃ o : Obj, h.get? a = some o ∧ Zc cls d o ∧ ∃ vs, o.data = .fields vs) := hok a _ e
  exact x.1
section
variable {X : Cx} {pins : List (Addr × Obj)} {σ : St} {H : Hp} {s : Shared}
theorem Inv.adopt {a : Addr} {o : HO} (I : Inv X pins σ H s) (h0 : X.s_0.heap.get? a = none) (hp : ∀ p ∈ X.pn ++ pins, p.1 ≠ a) (hH : H a = none) (nL : a ≠ X.env.locals) (nC : ∀ x c, X.env.cells.lookup x = some c → c ≠ a) (new : ObjOk X.prog X.w (upd H a o) s.heap a o) : Inv X pins σ (upd H a o) s := by
  have ne : ∀ {b : Addr} {u : HO}, H b = some u → b ≠ a := fun {b u} e z => by rw [z, hH] at e; cases e
  have ns : ∀ {b : Addr} {u : Obj}, X.s_0.heap.get? b = some u → b ≠ a := fun {b u} e z => by rw [z, h0] at e; cases e
  refine ⟨I.ok, I.os, I.bare, ⟨I.base.keep, I.base.slot, fun b u e n hx => ?_, I.base.there, fun b xs q => ?_, fun b u v q => ?_, fun b ps q => ?_⟩, I.loc, I.cell, ?_, fun x c e => ?_, fun p hq => ?_, fun b u q => ?_, I.len⟩
  · rw [upd_ne (ns e)]; exact I.base.free b u e n hx
  · have := I.base.tups b xs q
    rw [upd_ne (ne this)]; exact this
  · have := I.base.frzs b u v q
    rw [upd_ne (ne this)]; exact this
  · obtain ⟨more, z⟩ := I.base.tbls b ps q
    exact ⟨more, by rw [upd_ne (ne z)]; exact z⟩
  · rw [upd_ne (Ne.symm nL)]; exact I.free
  · rw [upd_ne (nC x c e)]; exact I.freeC x c e
  · obtain ⟨e, n, r⟩ := I.pin p hq
    exact ⟨e, by rw [upd_ne (hp p hq)]; exact n, r⟩
  · by_cases z : b = a
    · subst z; rw [upd_same] at q; cases q; exact new
    · rw [upd_ne z] at q
      exact (I.hok b u q).stay (fun c v _ r => r) (fun c hc => by rw [upd_ne (ne hc)]; exact hc) fun c xs hc => by rw [upd_ne (ne hc)]; exact hc
theorem Inv.suiteX (I : Inv X pins σ H s) (a : Addr) : Inv (X.suite a (X.pn ++ pins)) [] σ H s :=
  ⟨I.ok.suite _ _, I.os, I.bare, I.base, I.loc, I.cell, I.free, I.freeC, fun p hp => I.pin p (by rw [List.append_nil] at hp; exact hp), I.hok, I.len⟩
theorem Inv.unsuiteX {a : Addr} {pn' : List (Addr × Obj)} (I : Inv (X.suite a (X.pn ++ pins)) pn' σ H s) (ok : X.Ok) : Inv X pins σ H s :=
  ⟨ok, I.os, I.bare, I.base, I.loc, I.cell, I.free, I.freeC, fun p hp => I.pin p (List.mem_append_left _ hp), I.hok, I.len⟩
end
def wAsX (K : PySem.W.Frag) (c : Value) (i : Nat) (ts : Addr → Value → Option Addr → TS) (Wout : WX) (D : Ends) : WX := fun cls d σ H =>
  ∃ b, PySem.W.exmOne K cls c = some b ∧ (b = true → ∀ a, H a = none → ts a cls d { nx := fun σ' H' => D.nx (σ'.set i none) H', rt := D.rt, bk := fun σ' H' => D.bk (σ'.set i none) H', ct := fun σ' H' => D.ct (σ'.set i none) H' } (σ.set i (some (.ref a))) (upd H a (excH a cls d))) ∧
    (b = false → Wout cls d σ H)
section
variable {X : Cx} {x n : Str} {c : Value} {i : Nat} {body suite : List Stmt} {b₀ : Stmt} {np pos pos' : Pos} {tb : WX → TS} {ts : Addr → Value → Option Addr → TS} {Wout : WX}
theorem ps_try_asX (hs : X.stack = X.env :: X.outer) (hf : X.env.frame = some X.env.locals) (hex : X.ex = []) (hN : X.N.Nodup) (hi : X.N[i]? = some n) (hln : X.env.kindOf n = some .local) (hc : Names X x c) (tk : Takes X Wout)
    (hb : ∀ (W : WX) (pn : List (Addr × Obj)) (xe : Value → Shared → Prop), Takes (X.tr pn xe) W → PassesOwn (model X.prog X.w) X.A X.env xe → PSs (X.tr pn xe) body (tb W))
    (hsu : ∀ (a : Addr) (cls : Value) (d : Option Addr) (pn : List (Addr × Obj)), PSs (X.suite a pn) (b₀ :: suite) (ts a cls d)) :
    PS X (.Try body [.ExceptHandler (some (.Name x np)) (some n) (b₀ :: suite) pos'] [] [] pos) (fun D σ H => tb (wAsX X.K c i ts Wout D) D σ H) := by
  refine ⟨fun pins s σ H D I h => ?_⟩
  have ok := I.ok
  have hfr : X.A.frames = some (X.env :: X.outer) := by rw [ok.frames, hs]
  have hloc : Loc X.env.scope n := .inl hln
  refine wpAny_Try_except ?_
  refine wpAny_mono ((hb (wAsX X.K c i ts Wout D) (X.pn ++ pins) (fun e s₁ => wpAny (model X.prog X.w) X.A (noteFrame e X.env) (fun _ s₂ => wpAny (model X.prog X.w) X.A (setFlight e none) (fun _ s₃ =>
    wpAny (model X.prog X.w) X.A (handleBy e X.env [.ExceptHandler (some (.Name x np)) (some n) (b₀ :: suite) pos']) (SP X pins D) X.xe s₃) X.xe s₂) X.xe s₁) (fun u s' xx => ?_) PassesOwn.looking).run [] s σ H D (I.toTry _) h) (fun f s1 hsp => ?_) (fun e s1 he => he)
  ·
    obtain ⟨a, B, sI, pins', σ', H', cls, d, rfl, J', nb, up, sky, na, os, ag, b, hb1, hyes, hno⟩ := xx
    have J : Inv X pins σ' H' sI := J'.ofTry ok
    have sky' : Sky B (X.env :: X.outer) a (Zc cls d) X.env.locals s'.heap := by rw [← hs]; exact sky
    show wpAny (model X.prog X.w) X.A (noteFrame (.ref a) X.env) _ _ _
    refine Sky.land Zc.steady hfr hf sky' fun h3 fl3 up3 => ?_
    have J3 : Inv X pins σ' H' { s' with heap := h3 } := J.landed nb fl3.1 (up.trans up3) os ag
    obtain ⟨oe3, vs3, he3, hz3, hd3⟩ := fl3.there
    have notFr : ∀ {h : Heap} {o : Obj} {vs : Array Value}, h.FunFrames B (X.env :: X.outer) → h.get? a = some o → o.data = .fields vs → a ∉ frs (X.env :: X.outer) := fun {h o vs} ff e dd hm => by
      obtain ⟨_, o', e', hnf⟩ := ff.mem hm
      rw [e] at e'; cases e'
      exact hnf _ dd
    have nfr := notFr fl3.2.2.1 he3 hd3
    have nL : a ≠ X.env.locals := fun z => nfr (List.mem_filterMap.mpr ⟨X.env, List.mem_cons_self, by rw [hf, z]⟩)
    have nF : a ∉ X.fs := fun hm => by
      obtain ⟨e, he, q⟩ := List.mem_filterMap.mp hm
      exact nfr (List.mem_filterMap.mpr ⟨e, List.mem_cons_of_mem _ he, q⟩)
    have nSI : sI.heap.get? a = none := by
      cases q : sI.heap.get? a with
      | none => rfl
      | some o =>
        have := nb a o q (by rw [hs]; exact nfr)
        rw [fl3.2.1] at this; cases this
    have n0 : X.s_0.heap.get? a = none := by
      cases q : X.s_0.heap.get? a with
      | none => rfl
      | some o =>
        obtain ⟨o', z⟩ := J.base.there a o q (by rw [hex]; intro z; cases z)
        rw [nSI] at z; cases z
    have npin : ∀ p ∈ X.pn ++ pins, p.1 ≠ a := fun p hp z => by
      have := (J.pin p hp).1
      rw [z, nSI] at this; cases this
    have S3 := J3.suite he3 hd3 na nL nF
    refine wpAny_handleBy_cons (codeAny_handlers_test ?_) (by intro q; cases q)
    have LT : PySem.W.Looks (model X.prog X.w) h3 (typeOf (.ref a)) cls := fun A Q E s k q => wpAny_typeOf_ref (k _ _ he3) (by rw [hz3.1]; exact q)
    have LM := PySem.W.exm_one (M := model X.prog X.w) (J3.kIn) LT hb1
    have test : ∀ {Q : Value → Shared → Prop} {E : Value → Shared → Prop}, Q c { s' with heap := h3 } → wpAny (model X.prog X.w) (X.A.mark (some (.ref a))) (eval (.Name x np) X.env) Q E { s' with heap := h3 } := fun {Q E} q => by
      obtain ⟨hg, hdbg, hm | ⟨hm, hv, hnn⟩⟩ := hc
      · exact ld_glob (X := X.suite a ((a, oe3) :: (X.pn ++ pins))) S3 hg hm q hdbg
      · exact ld_blt (X := X.suite a ((a, oe3) :: (X.pn ++ pins))) S3 hg hm hv q hnn hdbg
    refine test (LM.here ?_)
    cases b with
    | true =>
      refine codeAny_handlers_suite_as ?_
      refine HandSPX.lands_againZ fl3 fun h4 fl4 up4 => ?_
      have J4 : Inv X pins σ' H' { s' with heap := h4 } := J.landed nb fl4.1 ((up.trans up3).trans up4) os ag
      obtain ⟨oe4, vs4, he4, hz4, hd4⟩ := fl4.there
      have nC : ∀ x c, X.env.cells.lookup x = some c → c ≠ a := fun x c e z => by
        obtain ⟨v, q⟩ := J4.cell x c e
        obtain ⟨sl, q1, q2⟩ := q
        rw [z] at q1
        have := he4.symm.trans q1
        cases this
        rw [hd4] at q2; cases q2
      have J5 : Inv X pins σ' (upd H' a (excH a cls d)) { s' with heap := h4 } := J4.adopt n0 npin na nL nC (excH_ok he4 hz4 hd4)
      have S4 := J5.suiteX a
      refine store_ok (X := X.suite a (X.pn ++ pins)) (v := .ref a) S4 hN hi hloc rfl (fun s5 S5 => ?_) (.inr hln)
      refine wpAny_mono ((hsu a cls d (X.pn ++ pins)).run [] s5 _ _ _ S5 (hyes rfl a na)) (fun f s6 hsp => ?_) (fun _ _ z => False.elim z)
      have end_ : ∀ {σ6 : St} {H6 : Hp} {Q : Shared → Prop}, Inv (X.suite a (X.pn ++ pins)) [] σ6 H6 s6 → (∀ s7, Inv X pins (σ6.set i none) H6 s7 → Q s7) →
          wpAny (model X.prog X.w) X.A (do bindName X.env n .none; unbindBehindTheSuite X.env n pos') (fun _ s7 => Q s7) X.xe s6 := fun {σ6 H6 Q} S6 hq => gone_ok (S6.unsuiteX ok) hN hi hln hq
      cases f with
      | next =>
        obtain ⟨σ6, H6, S6, q6⟩ := hsp
        exact end_ S6 fun s7 J7 => ⟨_, _, J7, q6⟩
      | brk =>
        obtain ⟨σ6, H6, S6, q6⟩ := hsp
        exact end_ S6 fun s7 J7 => ⟨_, _, J7, q6⟩
      | cont =>
        obtain ⟨σ6, H6, S6, q6⟩ := hsp
        exact end_ S6 fun s7 J7 => ⟨_, _, J7, q6⟩
      | ret u =>
        obtain ⟨v6, σ6, H6, S6, r6, q6⟩ := hsp
        exact end_ S6 fun s7 J7 => ⟨_, _, _, J7, r6, q6⟩
    | false =>
      show wpAny _ X.A (handleBy (.ref a) X.env []) _ _ _
      refine wpAny_handleBy_nil ?_
      obtain ⟨k1, k2, k3, oe, vs, T, oT, ts', he, hz, hd, h1, hr⟩ := id fl3
      unfold PySem.passOn
      refine wpAny_bind (wpAny_field he hd h1 ?_)
      rw [if_neg (show ¬ ((Value.ref T == Value.none) = true) from by simp)]
      have fin : wpAny (model X.prog X.w) X.A (setFlight (.ref a) X.env.frame) (fun _ s4 => wpAny (model X.prog X.w) X.A (throw (.ref a) : Sem Flow) (SP X pins D) X.xe s4) X.xe { s' with heap := h3 } := by
        rw [hf]
        refine HandSPX.setFlight_upZ fl3 fun h4 hh4 up4 => wpAny_throw (tk _ _ ?_)
        exact ⟨a, B, sI, pins, σ', H', cls, d, rfl, J, nb, (up.trans up3).trans up4, .inr (.inr (by rw [hs]; exact hh4)), na, os, ag, hno rfl⟩
      first
        | exact wpAny_bind (wpAny_pure (wpAny_bind fin))
        | exact wpAny_bind fin
  · cases f with
    | next =>
      obtain ⟨σ', H', J', q⟩ := hsp
      exact wpAny_execs_nil ⟨σ', H', J'.ofTry ok, q⟩
    | brk =>
      obtain ⟨σ', H', J', q⟩ := hsp
      exact ⟨σ', H', J'.ofTry ok, q⟩
    | cont =>
      obtain ⟨σ', H', J', q⟩ := hsp
      exact ⟨σ', H', J'.ofTry ok, q⟩
    | ret u =>
      obtain ⟨v, σ', H', J', r, q⟩ := hsp
      exact ⟨v, σ', H', J'.ofTry ok, r, q⟩
end
def tXfH (C : Addr) (f : Str) (te : TE) : TE := fun σ H Q => te σ H fun x H1 => ∃ (a dd : Addr) (fs : List (Str × V)) (v : V), x = .ref a ∧ H1 a = some (excH a (.ref C) (some dd)) ∧ H1 dd = some (.xd fs) ∧ fs.lookup f = some v ∧ Q v H1
theorem pe_xfH {X : Cx} {C : Addr} {e : Expr} {te : TE} {pos : Pos} {n : Str} (T : XfC X.K C) (hno : PySem.W.findIn X.K (.ref C) n = some none) (he : PE X e te) (hb : attributeBase e n X.env (eval e X.env) = eval e X.env := by rfl) :
    PE X (.Attribute e n pos) (tXfH C n te) := by
  refine ⟨fun pins s σ H Q I h => ?_⟩
  refine attr_of hb (thn (he.run pins s σ H _ I h) fun u s1 hh => ?_)
  obtain ⟨x, H1, I1, rx, a, dd, fs, v, ex, eA, ea, l, q⟩ := hh
  subst ex
  obtain rfl : u = Value.ref a := rx
  obtain ⟨oe, ha, hz, vs, hd⟩ := excH_at I1.hok eA
  have hx : ObjOk X.prog X.w H1 s1.heap dd (.xd fs) := I1.hok dd _ ea
  obtain ⟨mA, hns, hr⟩ := hx
  obtain ⟨od, ho, hl⟩ := lookIn_ns hns
  obtain ⟨u, hu, ru⟩ := RelO.some_of (v := v) (o := mA n) (by rw [← l]; exact hr n)
  have J : PySem.W.InstAt s1.heap a oe C (some od) := ⟨ha, hz.1, by unfold PySem.W.notCls; rw [hd] <;> rfl, by rw [hz.2]; exact ho⟩
  exact HandSPX.exc_get I1.kIn J T.ga T.gg T.exC (PySem.W.findObj_own T.hdC hno rfl (by rw [hl, hu])) (handed_of ru) ⟨v, H1, I1.tok _, ru, q⟩
end L2
namespace DL
open PySem PySem.Spec PyProof.Rows L2 RZ PySem.Calls
section
variable {K : PySem.W.Frag} {R F H : Hp} {as : List Addr} {mu : List MO} {p : Addr} {o : HO}
theorem Hs.layX (h0 : Hs K R F as mu H) (hp0 : H p = none) (no : ∀ ps, o ≠ .tbl ps) : Hs K R (upd F p o) as mu (upd H p o) ∧ Er F (upd F p o) := by
  obtain ⟨hF, hR, hA⟩ := h0.free hp0
  have h : Hs K R F as mu (upd H p o) := h0.grow (fun a u e => by rw [upd_ne (ne_of_none e hp0)]; exact e) fun a ps e => by
    by_cases z : a = p
    · subst z; rw [upd_same] at e; exact absurd (Option.some.inj e) (no ps)
    · rw [upd_ne z] at e; exact h0.nt a ps e
  have hp : upd H p o p = some o := upd_same
  refine ⟨⟨?_, h.fr, fun a u e => ?_, h.frA, h.ln, h.nd, fun k a m e1 e2 q => ?_, fun k a m e1 e2 => (h.ct k a m e1 e2).mono (Er.new hF) (List.prefix_refl _) rfl, h.tb, fun a ps e => ?_⟩, Er.new hF⟩
  · refine ⟨fun a u q r => ?_, fun a u q r => ?_, fun a q => ?_⟩
    · by_cases e : a = p
      · subst e
        rcases r with r | ⟨ob, r⟩
        · rw [upd_same] at r; cases r; exact .inl hp
        · rw [upd_same] at r; cases r; exact .inr ⟨ob, hp⟩
      · refine h.er.rd a u q ?_
        rcases r with r | ⟨ob, r⟩
        · rw [upd_ne e] at r; exact .inl r
        · rw [upd_ne e] at r; exact .inr ⟨ob, r⟩
    · by_cases e : a = p
      · subst e; rw [upd_same] at r; cases r; exact hp
      · rw [upd_ne e] at r; exact h.er.ex a u q r
    · by_cases e : a = p
      · subst e; rw [hp] at q; cases q
      · rw [upd_ne e]; exact h.er.dm a q
  · have ne : a ≠ p := fun z => by subst z; rw [hR] at e; cases e
    rw [upd_ne ne]; exact h.frF a u e
  · have ne : a ≠ p := fun z => by
      subst z
      have := hA k m e1 e2
      rw [q] at this; cases this
    rw [upd_ne ne]; exact h.sep k a m e1 e2 q
  · have ne : a ≠ p := fun z => by subst z; rw [hp] at e; exact absurd (Option.some.inj e) (no ps)
    rw [upd_ne ne]; exact h.nt a ps e
end
section
variable {X : Cx} {x n : Str} {c : Value} {body suite : List Stmt} {b₀ : Stmt} {np pos pos' : Pos} {dl : List Sl} {mu : List MO} {Ψ : DEnds}
theorem ws_try_x (i : Nat) (hc : Names X x c)
    (hb : ∀ (pn : List (Addr × Obj)) (xe : Value → Shared → Prop), WSs (X.tr pn xe) body dl mu { Ψ with ex := fun y dl' m => ∃ b, PySem.W.exmOne X.K y.cls c = some b ∧
      (b = true → ∃ C, y.cls = .ref C ∧ ∀ (a : Addr) (pn' : List (Addr × Obj)), WSs (X.suite a pn') (b₀ :: suite) (dl'.set i (some (.exn C (y.fs.getD [])))) m
        { nx := fun d2 m2 => Ψ.nx (d2.set i none) m2, rt := Ψ.rt, bk := fun d2 m2 => Ψ.bk (d2.set i none) m2, ct := fun d2 m2 => Ψ.ct (d2.set i none) m2 }) ∧ (b = false → Ψ.ex y dl' m) })
    (hs : X.stack = X.env :: X.outer := by rfl) (hf : X.env.frame = some X.env.locals := by rfl) (hex : X.ex = [] := by rfl) (hN : X.N.Nodup := by assumption) (hi : X.N[i]? = some n := by rfl) (hln : X.env.kindOf n = some .local := by rfl) : WS X (.Try body [.ExceptHandler (some (.Name x np)) (some n) (b₀ :: suite) pos'] [] [] pos) dl mu Ψ := .mk fun W R F as σ H E tk hs1 ha k => by
  refine SS.by (L2.ps_try_asX (i := i) (tb := fun W D σ H => ∀ pn xe, Takes (X.tr pn xe) W → SSs (X.tr pn xe) body D σ H) (ts := fun a cls d D σ H => ∀ pn, SSs (X.suite a pn) (b₀ :: suite) D σ H) hs hf hex hN hi hln hc tk
    (fun W pn xe t _ => ⟨fun pins s σ H D I h => h pn xe t pins s I⟩) (fun a cls d pn => ⟨fun pins s σ H D I h => h pn pins s I⟩)) ?_
  intro pn xe t
  refine hb pn xe _ R F as σ H E t hs1 ha ⟨k.nx, k.rt, k.bk, k.ct, ?_⟩
  intro y d dl' mu' F' as' σ' H' ⟨b, hb1, yes, no⟩ e1 e2 hs' ha' xo
  refine ⟨b, hb1, fun hbt a na pn' => ?_, fun hbf => k.ex y d dl' mu' F' as' σ' H' (no hbf) e1 e2 hs' ha' xo⟩
  obtain ⟨C, hC, run⟩ := yes hbt
  obtain ⟨g1, g2⟩ := hs'.layX (o := L2.excH a y.cls d) na (fun ps z => by have z' : HO.ext _ = HO.tbl ps := z; cases z')
  have r0 : Rp X.K (upd F' a (L2.excH a y.cls d)) as' (.exn C (y.fs.getD [])) (.ref a) := by
    have hF := (hs'.free na).1
    cases hy : y.fs with
    | none =>
      rw [hy] at xo
      exact ⟨a, d, [], rfl, by rw [hC]; exact upd_same, fun b e => (by rw [show d = none from xo] at e; cases e), fun _ => rfl, rfl⟩
    | some fs =>
      rw [hy] at xo
      obtain ⟨b2, ws, q1, q2, q3, q4⟩ := xo
      refine ⟨a, d, ws, rfl, by rw [hC]; exact upd_same, fun b e => ?_, fun e => (by rw [q1] at e; cases e), RpF.mono g2 (List.prefix_refl _) _ _ q4⟩
      rw [q1] at e
      cases e
      rw [upd_ne (ne_of_none q3 hF)]
      exact q3
  refine run a pn' (fun _ _ _ _ => False) R _ as' _ _ _ (fun u s' ⟨_, _, _, _, _, _, _, _, _, _, _, _, _, _, _, _, q⟩ => q) g1 ((ha'.mono g2 (List.prefix_refl _)).set i r0) ⟨?_, ?_, ?_, ?_, fun _ _ _ _ _ _ _ _ q => q.elim⟩
  · exact fun dl2 mu2 F2 as2 σ2 H2 q z1 z2 hs2 ha2 => k.nx _ mu2 F2 as2 _ H2 q ((e1.trans g2).trans z1) (e2.trans z2) hs2 (ha2.setN i)
  · exact fun v x mu2 F2 as2 H2 q z1 z2 hs2 r => k.rt v x mu2 F2 as2 H2 q ((e1.trans g2).trans z1) (e2.trans z2) hs2 r
  · exact fun dl2 mu2 F2 as2 σ2 H2 q z1 z2 hs2 ha2 => k.bk _ mu2 F2 as2 _ H2 q ((e1.trans g2).trans z1) (e2.trans z2) hs2 (ha2.setN i)
  · exact fun dl2 mu2 F2 as2 σ2 H2 q z1 z2 hs2 ha2 => k.ct _ mu2 F2 as2 _ H2 q ((e1.trans g2).trans z1) (e2.trans z2) hs2 (ha2.setN i)
end
theorem Zexn {K : PySem.W.Frag} {R F H : Hp} {as : List Addr} {mu : List MO} {C : Addr} {fs : List (Str × D)} {v : V} (hs : Hs K R F as mu H) (r : Rp K F as (.exn C fs) v) : ∃ a d ws, v = .ref a ∧ H a = some (L2.excH a (.ref C) d) ∧ (∀ b, d = some b → H b = some (.xd ws)) ∧ (d = none → ws = []) ∧ RpF K F as fs ws := by
  obtain ⟨a, d, ws, h1, h2, h3, h4, h5⟩ := r
  exact ⟨a, d, ws, h1, hs.er.ex a (L2.excH a (.ref C) d) trivial h2, fun b e => hs.er.ex _ _ trivial (h3 b e), h4, h5⟩
section
variable {X : Cx} {o e value : Expr} {es : List Expr} {dl : List Sl} {mu : List MO} {Φ : DK} {ε : XP} {pos p apos : Pos} {f m x : Str} {C : Addr}
theorem we_xfld (T : XfK X.K C f) (h : WE X o dl mu (fun d m => ∃ fs y, d = .exn C fs ∧ fs.lookup f = some y ∧ Φ y m) ε) (hb : attributeBase o f X.env (eval o X.env) = eval o X.env := by rfl) : WE X (.Attribute o f pos) dl mu Φ ε :=
  .mk fun W R F as σ H Q tk hs ha k kx => SE.by (pe_xfH T.xf T.no SE.pe hb) (h.then tk hs ha kx fun v d m F' as' H' q e1 e2 hs' ha' r kx' => by
    obtain ⟨fs, y, rfl, g2, g3⟩ := q
    obtain ⟨a, d, ws, rfl, h2, h3, h4, h5⟩ := Zexn hs' r
    obtain ⟨v', l1, l2⟩ := h5.look f g2
    cases d with
    | none => rw [h4 rfl] at l1; simp [List.lookup] at l1
    | some dd => exact ⟨a, dd, ws, v', rfl, h2, h3 dd rfl, l1, k v' y m F' as' H' g3 e1 e2 hs' l2⟩)
end
end DL
namespace DL
open PySem PySem.Spec PyProof.Rows L2 RZ PySem.Calls PySem.W
structure XB (bm : List Value) (newId : String) : Prop where
  fa : ∃ B initId bmB, ExcBaseFacts B newId initId bmB ∧ bm.contains (.type B) = true
  noA : bm.contains (.type "AttributeError") = false
  noN : bm.contains (.type "NameError") = false
  st : ∃ B, StoreFacts B bm "object.__setattr__" "object"
  tl : W.excTail bm bm = true
section
open Builtin Builtin.ObjectAttr
variable {prog : Program} {w : World} {A : Around} {E : Value → Shared → Prop} {R : Result → Shared → Prop} {h : Heap} {g : Array GenState} {d : Drawn} {t : Nat} {os : OsState}
variable {nm q : Str} {C N : Addr} {bs bm bmB : List Value} {hdct : Bool} {sn : List Str} {sub : List Value} {ab : Bool} {col : Option Bool} {dd : Option Addr} {k0 k1 k2 k3 k5 : Option Value} {B newId initId : String}
end
end DL
namespace DL
open PySem PySem.Spec PyProof.Rows L2 RZ PySem.Calls
structure OexB (K : PySem.W.Frag) (C : Addr) : Prop where
  cls : ∃ nm q N bs bm sn sub ab col dd k0 k1 k2 k3 k5 newId, K.lookup C = some (excClassObj nm q C N bs bm true sn sub ab col dd k0 k1 k2 k3 k5 newId) ∧ XB bm newId
  sa : PySem.W.findIn K (.ref C) "__setattr__" = some (some (.builtin "object.__setattr__"))
  exC : PySem.W.subIn K (.ref C) (.type "BaseException") = some true
  tyC : PySem.W.typeIn K (.ref C) = some (.type "type")
  kC : PySem.W.keepIn K (.ref C) = true
section
open Builtin Builtin.ObjectAttr
variable {prog : Program} {w : World} {A : Around} {R : Result → Shared → Prop} {hp : Heap} {g : Array GenState} {d : Drawn} {t : Nat} {os : OsState} {B : String} {bm : List Value}
end
section
variable {X : Cx} {pins : List (Addr × Obj)} {σ : L2.St} {H : Hp} {s : Shared} {a C dx : Addr} {f : Str} {y : V} {u : Value} {fs : List (Str × V)} {Q : Unit → Shared → Prop} {E : Value → Shared → Prop} {A : Around}
end
section
variable {X : Cx} {o e : Expr} {es : List Expr} {to te : TE} {ta : TA} {f : Str} {p p' p1 p2 pos : Pos}
end
def spIniB (K : PySem.W.Frag) (f : Str) : Sp := fun vs H Q _ => ∃ (a C : Addr) (v : V), vs = [.ref a, v] ∧ OexB K C ∧ PySem.W.findIn K (.ref C) f = some none ∧ H a = some (exo a C none) ∧ ∀ dx, H dx = none → dx ≠ a → Q .non (upd (upd H dx (exd dx [(f, v)])) a (exo a C (some dx)))
section
variable {P : Program} {w : World} {K : PySem.W.Frag} {mg : Str → Option Value} {base : Heap}
structure ExB (K : PySem.W.Frag) (mg : Str → Option Value) (base : Heap) (P : Program) (w : World) (x f : Str) (C : Addr) : Prop where
  ex : ∃ (fI : Addr) (fd : FuncData) (p : Str), mg x = some (.ref C) ∧ OexB K C ∧ PySem.W.findIn K (.ref C) "__init__" = some (some (.ref fI)) ∧ PySem.W.typeIn K (.ref fI) = some (.type "function") ∧ FnOk P w K mg base CX0 1 fI fd ["self", p] (spIniB K f) ∧ PySem.W.findIn K (.ref C) f = some none ∧ Binds K fd ["self", p] []
end
section
variable {X : Cx} {x f : Str} {C : Addr} {e : Expr} {dl : List Sl} {mu : List MO} {Ψ : DEnds} {p pos pos2 : Pos} {j : Nat}
end
end DL
namespace DL
open PySem PySem.Spec PyProof.Rows L2 RZ PySem.Calls
mutual
def oddD : Nat → D → Bool
  | _, .non => true
  | _, .bl _ => true
  | _, .int _ => true
  | _, .str x => PyData.strOk x && decide (x.length ≤ 1000000)
  | n + 1, .lst xs => decide (xs.length ≤ 1000000) && oddDs n xs
  | n + 1, .tup xs => decide (xs.length ≤ 1000000) && oddDs n xs
  | _, _ => false
def oddDs : Nat → List D → Bool
  | _, [] => true
  | n, x :: xs => oddD n x && oddDs n xs
end
mutual
theorem oddD.ok : ∀ (n : Nat) (d : D), oddD n d = true → okD n d = true
  | _, .non, _ => by simp [okD]
  | _, .bl _, _ => by simp [okD]
  | _, .int _, _ => by simp [okD]
  | _, .str x, h => by simp only [oddD, Bool.and_eq_true] at h; simp only [okD]; exact h.1
  | 0, .lst _, h => by simp [oddD] at h
  | 0, .tup _, h => by simp [oddD] at h
  | n + 1, .lst xs, h => by simp only [oddD, Bool.and_eq_true] at h; simp only [okD]; exact oddDs.ok n xs h.2
  | n + 1, .tup xs, h => by simp only [oddD, Bool.and_eq_true] at h; simp only [okD]; exact oddDs.ok n xs h.2
  | _, .dct _, h => by simp [oddD] at h
  | _, .obj _ _, h => by simp [oddD] at h
  | _, .own _, h => by simp [oddD] at h
  | _, .val _, h => by simp [oddD] at h
  | _, .scr _, h => by simp [oddD] at h
  | _, .exn _ _, h => by simp [oddD] at h
theorem oddDs.ok : ∀ (n : Nat) (ds : List D), oddDs n ds = true → okDs n ds = true
  | _, [], _ => rfl
  | n, x :: xs, h => by
    simp only [oddDs, Bool.and_eq_true] at h
    simp only [okDs, oddD.ok n x h.1, oddDs.ok n xs h.2, Bool.and_self]
end
mutual
theorem okD.own : ∀ (k n : Nat) (d : D), okD n d = true → ownLt k d = true
  | _, _, .non, _ => rfl
  | _, _, .bl _, _ => rfl
  | _, _, .int _, _ => rfl
  | _, _, .str x, h => rfl
  | _, 0, .lst _, h => by simp [okD] at h
  | _, 0, .tup _, h => by simp [okD] at h
  | k, n + 1, .lst xs, h => by simp only [okD] at h; simp only [ownLt]; exact okDs.own k n xs h
  | k, n + 1, .tup xs, h => by simp only [okD] at h; simp only [ownLt]; exact okDs.own k n xs h
  | _, _, .dct _, h => by simp [okD] at h
  | _, _, .obj _ _, h => by simp [okD] at h
  | _, _, .own _, h => by simp [okD] at h
  | _, _, .val _, h => by simp [okD] at h
  | _, _, .scr _, h => by simp [okD] at h
  | _, _, .exn _ _, h => by simp [okD] at h
theorem okDs.own : ∀ (k n : Nat) (ds : List D), okDs n ds = true → ownLts k ds = true
  | _, _, [], _ => rfl
  | k, n, x :: xs, h => by
    simp only [okDs, Bool.and_eq_true] at h
    simp only [ownLts, okD.own k n x h.1, okDs.own k n xs h.2, Bool.and_self]
end
theorem okD.rd {n : Nat} {d : D} {mu : List MO} (h : okD n d = true) : rdD mu d = d := by
  cases d with
  | own k => simp [okD] at h
  | _ => rfl
def nameB : D → Bool
  | .str x => nameOk x
  | _ => false
def wordB (w : Str) : Bool := (w == ("go" : Str)) || ((w == ("lift" : Str)) || (w == ("lay" : Str)))
def deedB : D → Bool
  | .tup (.str w :: r) => if (w == ("wait" : Str)) = true then r.isEmpty else wordB w && (match r with
    | [n] => nameB n
    | _ => false)
  | _ => false
inductive AskX (h : Hall) (s : Stand) (wn rn : Str) (hands : Int) : D → Option Str → Prop
  | ask {d : D} {y : Option Str} : Ask h s wn rn hands d y → AskX h s wn rn hands d y
  | form {d : D} : deedB d = false → AskX h s wn rn hands d (some "form")
theorem oddDs.nth {n : Nat} : ∀ {xs : List D} {k : Nat} {x : D}, oddDs n xs = true → xs[k]? = some x → oddD n x = true
  | [], _, _, _, e => by simp at e
  | y :: ys, 0, x, h, e => by simp at e; subst e; simp only [oddDs, Bool.and_eq_true] at h; exact h.1
  | y :: ys, k + 1, x, h, e => by simp only [oddDs, Bool.and_eq_true] at h; exact oddDs.nth h.2 (by simpa using e)
theorem name_str {x : Str} (h : nameOk x = true) : PyData.strOk x = true ∧ x.length ≤ 8 := by
  unfold nameOk at h
  simp only [Bool.and_eq_true, decide_eq_true_eq, List.all_eq_true] at h
  refine ⟨?_, h.1.2⟩
  unfold PyData.strOk
  rw [← Array.all_toList, List.all_eq_true]
  intro c hc
  have := h.2 c hc
  simp only [decide_eq_true_eq]
  omega
theorem word_ok {w : Str} (h : w = "go" ∨ w = "lift" ∨ w = "lay") : PyData.strOk w = true ∧ w.length ≤ 1000000 ∧ wordB w = true ∧ (w == ("wait" : Str)) = false := by
  rcases h with rfl | rfl | rfl <;> decide +kernel
theorem wordB_iff {w : Str} : wordB w = true ↔ (w = "go" ∨ w = "lift" ∨ w = "lay") := by
  unfold wordB; simp
section
variable {h : Hall} {s : Stand} {wn rn : Str} {hands : Int} {d : D} {y : Option Str}
inductive AskS : D → Prop
  | deed (w n : Str) : (w = "go" ∨ w = "lift" ∨ w = "lay") → nameOk n = true → AskS (lotD [w, n])
  | wait : AskS (lotD ["wait"])
theorem AskX.deedB (a : AskX h s wn rn hands d y) : DL.deedB d = decide (y ≠ some ("form" : Str)) := by
  cases a with
  | ask a => cases a with
    | deed w n hw hn =>
      rw [decide_eq_true whyDeed_form]
      obtain ⟨_, _, w3, w4⟩ := word_ok hw
      show (if (w == ("wait" : Str)) = true then _ else wordB w && nameB (.str n)) = true
      rw [w4, w3]; exact hn
    | wait => rfl
    | waits a0 _ => rfl
    | non => rfl
  | form h1 => rw [h1]; rfl
theorem AskX.deedy (a : AskX h s wn rn hands d y) (e : y ≠ some ("form" : Str)) : ∃ l, d = lotD l ∧ Deedy l ∧ ((l = [("wait" : Str)] ∧ y = none) ∨ ∃ w n, l = [w, n] ∧ (w = ("go" : Str) ∨ w = ("lift" : Str) ∨ w = ("lay" : Str)) ∧ y = whyDeed h s wn rn hands w n) := by
  cases a with
  | ask a => exact a.deedy e
  | form _ => exact absurd rfl e
theorem AskX.after (a : AskX h s wn rn hands d y) (e : y = none) : ∃ l o, d = lotD l ∧ After h s wn rn hands l o := by
  cases a with
  | ask a => exact a.after e
  | form _ => cases e
theorem AskX.of (hd : oddD 50 d = true) : ∃ y, AskX h s wn rn hands d y := by
  cases hb : DL.deedB d with
  | false => exact ⟨_, .form hb⟩
  | true =>
    unfold DL.deedB at hb
    split at hb
    · rename_i w r
      by_cases e : (w == ("wait" : Str)) = true
      · rw [if_pos e] at hb
        have e : w = "wait" := by simpa using e
        cases r with
        | nil => subst e; exact ⟨_, .ask .wait⟩
        | cons a r => cases hb
      · rw [if_neg e, Bool.and_eq_true] at hb
        obtain ⟨h1, h2⟩ := hb
        split at h2
        · rename_i n
          cases n with
          | str n => exact ⟨_, .ask (.deed w n (wordB_iff.mp h1) h2)⟩
          | _ => cases h2
        · cases h2
    · cases hb
end
inductive TrieD (h : Hall) : Stand → List D → List Stand → Option (Nat × Str) → Prop
  | nil (s : Stand) : TrieD h s [] [s] none
  | cons {s o : Stand} {x : Wlk} {rn : Str} {l : List Str} {ds : List D} {os : List Stand} {f : Option (Nat × Str)} : Turns h s x rn → After h s x.name rn x.hands l o → TrieD h o ds os f → TrieD h s (lotD l :: ds) (s :: os) (f.map fun p => (p.1 + 1, p.2))
  | stop {s : Stand} {x : Wlk} {rn : Str} {d : D} {ds : List D} {t : Str} : Turns h s x rn → AskX h s x.name rn x.hands d (some t) → TrieD h s (d :: ds) [s] (some (0, t))
theorem TrieD.of {h : Hall} (f : h.Few) : ∀ {ds : List D} {s : Stand}, s.Ok h → (∀ d, d ∈ ds → oddD 50 d = true) → ∃ os g, TrieD h s ds os g
  | [], s, _, _ => ⟨_, _, .nil s⟩
  | d :: ds, s, o, hd => by
    obtain ⟨x, rn, tt⟩ := Turns.ex f o
    obtain ⟨y, a⟩ := AskX.of (h := h) (s := s) (wn := x.name) (rn := rn) (hands := x.hands) (hd d List.mem_cons_self)
    cases hy : y with
    | some t => exact ⟨_, _, .stop tt (hy ▸ a)⟩
    | none =>
      obtain ⟨l, o', rfl, af⟩ := a.after hy
      obtain ⟨os, g, t⟩ := TrieD.of f (af.ok f o tt.wlk tt.room) fun d hd' => hd d (List.mem_cons_of_mem _ hd')
      exact ⟨_, _, .cons tt af t⟩
theorem TrieD.ok {h : Hall} (f : h.Few) {s : Stand} {ds : List D} {os : List Stand} {g : Option (Nat × Str)} (t : TrieD h s ds os g) : s.Ok h → ∀ q, q ∈ os → q.Ok h := by
  induction t with
  | nil s => intro o q hq; rw [List.mem_singleton.mp hq]; exact o
  | cons tt a _ ih =>
    intro o q hq
    rcases List.mem_cons.mp hq with rfl | hq
    · exact o
    · exact ih (a.ok f o tt.wlk tt.room) q hq
  | stop tt a => intro o q hq; rw [List.mem_singleton.mp hq]; exact o
theorem TrieD.len {h : Hall} {s : Stand} {ds : List D} {os : List Stand} {g : Option (Nat × Str)} (t : TrieD h s ds os g) : os.length ≤ ds.length + 1 ∧ (∀ k w, g = some (k, w) → k < ds.length ∧ w.length ≤ 5 ∧ PyData.strOk w = true) := by
  induction t with
  | nil s => exact ⟨by simp, fun k w e => (by cases e)⟩
  | @cons s o x rn l ds os f tt a _ ih =>
    refine ⟨by simp; exact ih.1, fun k w e => ?_⟩
    cases f with
    | none => cases e
    | some p => cases e; have := ih.2 p.1 p.2 rfl; exact ⟨by simp; omega, this.2⟩
  | @stop s x rn d ds t tt a =>
    refine ⟨by simp, fun k w e => ?_⟩
    cases e
    refine ⟨by simp, ?_⟩
    have words : ∀ t : Str, (t = "form" ∨ t = "door" ∨ t = "room" ∨ t = "shut" ∨ t = "stone" ∨ t = "far" ∨ t = "hands" ∨ t = "held") → t.length ≤ 5 ∧ PyData.strOk t = true := by
      rintro t (rfl | rfl | rfl | rfl | rfl | rfl | rfl | rfl) <;> decide +kernel
    cases a with
    | form _ => exact words _ (.inl rfl)
    | ask a =>
      generalize hy : some t = y at a
      cases a with
      | wait => cases hy
      | waits _ _ => cases hy; exact words _ (.inl rfl)
      | non => cases hy; exact words _ (.inl rfl)
      | deed w n hw hn =>
        unfold whyDeed at hy
        split at hy
        · unfold whyGo at hy
          split at hy
          · cases hy; exact words _ (by simp)
          · split at hy
            · cases hy; exact words _ (by simp)
            · split at hy
              · cases hy
              · cases hy; exact words _ (by simp)
        · split at hy
          · unfold whyLift at hy
            split at hy
            · split at hy
              · split at hy
                · cases hy
                · cases hy; exact words _ (by simp)
              · cases hy; exact words _ (by simp)
            · cases hy; exact words _ (by simp)
          · unfold whyLay at hy
            split at hy
            · split at hy
              · cases hy
              · cases hy; exact words _ (by simp)
            · cases hy; exact words _ (by simp)
theorem eqD_strs : ∀ {l : List Str} {ds : List D}, eqDs (l.map D.str) ds = true → ds = l.map D.str
  | [], [], _ => rfl
  | [], _ :: _, h => by simp [eqDs] at h
  | _ :: _, [], h => by simp [eqDs] at h
  | a :: l, d :: ds, h => by
    simp only [List.map_cons, eqDs, Bool.and_eq_true] at h
    rw [eqD_strs h.2]
    cases d with
    | str b => have : a = b := by simpa [eqD] using h.1
               rw [this]; rfl
    | _ => simp [eqD] at h
theorem eqD_lot {l : List Str} {d : D} (h : eqD (lotD l) d = true) : d = lotD l := by
  cases d with
  | tup xs => rw [show xs = l.map D.str from eqD_strs (by simpa [eqD, lotD] using h)]; rfl
  | _ => simp [eqD, lotD] at h
theorem ask_in {h : Hall} {s : Stand} {wn rn : Str} {hands : Int} {d : D} (e : ((deedsOf h s wn rn hands).map lotD).any (fun z => eqD z d) = true) : ∃ l, d = lotD l ∧ l ∈ deedsOf h s wn rn hands := by
  obtain ⟨z, hz, hq⟩ := List.any_eq_true.mp e
  obtain ⟨l, hl, rfl⟩ := List.mem_map.mp hz
  exact ⟨l, eqD_lot hq, hl⟩
theorem letter_iff {c : Nat} : decide (c ∈ (("abcdefghijklmnopqrstuvwxyz" : Str)).cps.toList) = (decide (97 ≤ c) && decide (c ≤ 122)) := by
  have e : (("abcdefghijklmnopqrstuvwxyz" : Str)).cps.toList = (List.range 26).map (· + 97) := by decide +kernel
  rw [e, ← Bool.decide_and]
  apply decide_eq_decide.mpr
  simp only [List.mem_map, List.mem_range]
  constructor
  · rintro ⟨a, ha, rfl⟩; omega
  · rintro ⟨h1, h2⟩; exact ⟨c - 97, by omega, by omega⟩
section
variable {K : PySem.W.Frag} {F : Hp} {as : List Addr} {a : Addr} {xs : List D} {vs : List V}
end
end DL
namespace DL
open PySem PySem.Spec PyProof.Rows L2 RZ PySem.Calls
set_option maxHeartbeats 1000000 in
theorem meets_enum1 {v : Value} {o : Obj} {H : Heap → Prop} (B : Begins v o H) :
    Meets (Builtin.«enumerate.__new__» ⟨[.type "enumerate", v], []⟩) (fun _ R s => H s.heap ∧
      R (.ok (.ret (.ref (s.heap.push o).objs.size))) { s with heap := (s.heap.push o).push { cls := .type "enumerate", data := .fields #[.none, .bool false, .ref s.heap.objs.size, rawInt 0, .none, .none] } }) :=
  .of_wp fun prog w A R s h => by
    obtain ⟨hp, g, d, tk, os⟩ := s; obtain ⟨h1, h⟩ := h
    have hsub := sub_enumerate
    have q1 : ∀ {A' : Around} {E : Value → Shared → Prop} {Q : Value → Shared → Prop}, Q (.ref hp.objs.size) ⟨hp.push o, g, d, tk, os⟩ → wpAny (model prog w) A' (pyIter v) Q E ⟨hp, g, d, tk, os⟩ :=
      fun q => B.iter prog w _ _ ⟨hp, g, d, tk, os⟩ _ h1 q
    wp_walk using q1
    refine wpAny_stack_any fun st => wpAny_pure ?_
    split
    · rename_i c _ _ _ _ _
      cases (c == Value.type "enumerate") <;> (wp_walk using q1; exact ⟨_, rfl, h⟩)
    · wp_walk using q1
      exact ⟨_, rfl, h⟩
theorem enum_begins1 {prog : Program} {w : World} {A : Around} {E : Value → Shared → Prop} {s : Shared} {v : Value} {o : Obj} {H : Heap → Prop} {Q : Value → Shared → Prop} (B : Begins v o H) (h1 : H s.heap)
    (h : ∀ h', IsEnum h' (s.heap.objs.size + 1) s.heap.objs.size 0 .none → h'.get? s.heap.objs.size = some o → (∀ b o, s.heap.get? b = some o → h'.get? b = some o) → Q (.ref (s.heap.objs.size + 1)) { s with heap := h' }) :
    wpAny (model prog w) A (call (.type "enumerate") [v]) Q E s := by
  refine callType_new F.called_enumerate (by decide) (F.typeCall_enumerate_1 _) (F.newCall_enumerate_1 _) (fun obj => F.args_object_init_2 obj _) F.entry_enumerate_new (meets_enum1 B) ⟨h1, ?_⟩
  have hz : (s.heap.push o).objs.size = s.heap.objs.size + 1 := Heap.size_push ..
  show _ ∧ _
  rw [hz]
  have he : IsEnum ((s.heap.push o).push { cls := .type "enumerate", data := .fields #[.none, .bool false, .ref s.heap.objs.size, rawInt 0, .none, .none] }) (s.heap.objs.size + 1) s.heap.objs.size 0 .none := by
    have := Heap.get?_push_size (s.heap.push o) (o := { cls := .type "enumerate", data := .fields #[.none, .bool false, .ref s.heap.objs.size, rawInt 0, .none, .none] }) rfl
    rw [hz] at this; exact this
  exact ⟨⟨_, he, rfl⟩, h _ he (Heap.get?_push_of_some _ (Heap.get?_push_size _ B.free)) fun b o x => Heap.get?_push_of_some _ (Heap.get?_push_of_some _ x)⟩
def IteT (K : PySem.W.Frag) (a : Addr) (n : Nat) : It :=
  ⟨fun i H => ∃ (xs : List V) (x : V), xs.length = n ∧ SqT K H a xs ∧ xs[i]? = some x, fun i H v H' => ∃ T x, v = .ref T ∧ H T = none ∧ H' = upd H T (.tup [.int (i : Nat), x]) ∧ ∀ xs, SqT K H a xs → xs[i]? = some x, fun i H => ∃ xs : List V, xs.length = n ∧ SqT K H a xs ∧ xs.length ≤ i⟩
theorem turn_enumT {P : Program} {w : World} {K : PySem.W.Frag} {elts : List Expr} {kk : Nat} {tpos : Pos} {a e it : Addr} {n : Nat} (hat : a ≠ it) (hae : a ≠ e) :
    L2.Turn P w K (.Tuple elts kk tpos) (IteT K a n) [e, it] e (fun i h => i ≤ n ∧ (∃ old, IsEnum h e it ((i : Nat) : Int) old) ∧ h.IsTupleIter it a i ∧ e ≠ it) where
  mem := by simp
  obj := fun i h st b hb => by
    obtain ⟨_, ⟨old, he⟩, ⟨o, ho, _, hd⟩, _⟩ := st
    have e' : b = e ∨ b = it := by simpa using hb
    rcases e' with z | z
    · rw [z]; exact ⟨_, he, fun v q => nomatch q⟩
    · rw [z]; exact ⟨o, ho, fun v q => by rw [hd] at q; cases q⟩
  keep := fun i h h' st k => let ⟨hn, ⟨old, he⟩, hi, hne⟩ := st; ⟨hn, ⟨old, k e (by simp) _ he⟩, hi.at fun o q => k it (by simp) o q, hne⟩
  item := by
    intro X hP hw hK hc i pins s σ H E I hf st hg
    subst hP hw hK
    obtain ⟨hn, ⟨old, he⟩, hit, hne⟩ := st
    obtain ⟨xs, x, hl, hq, hx⟩ := hg
    obtain ⟨its, rv, p, hz⟩ := I.tuple hq
    obtain ⟨u, hu, ru⟩ := rv.get hx
    have m1 := rv.length
    have j1 : i < n := by rw [← hl]; exact (List.getElem?_eq_some_iff.mp hx).1
    have hel : e < s.heap.objs.size := Heap.lt_size he
    have hil : it < s.heap.objs.size := by obtain ⟨_, q, _⟩ := hit; exact Heap.lt_size q
    refine wpAny_pyNext_enum_itemD (Draws.tuple (prog := X.prog) (w := X.w) (A := X.A.in1) (I.ok.hd hc) it a hat its.toArray) he ⟨hit, (show s.heap.IsTuple a its.toArray from p)⟩ (by simp; omega) hne (by simp [hne, Ne.symm hae]) fun x1 h' tk hx1 ho st' hT hsz hk => ?_
    obtain rfl : x1 = u := by rw [show its.toArray[i]? = some u by simpa using hu] at hx1; exact (Option.some.inj hx1).symm
    refine ⟨_, rfl, wpAny_letOwnedTupleGo_enum (s := { s with heap := h', toks := tk + 1 }) ho fun h'' he' sb => ?_⟩
    have hT2 : h''.get? s.heap.objs.size = some { cls := .type "tuple", data := .seq #[.int i tk, x1] } := (sb.2 _ (Nat.ne_of_gt hel)).trans hT
    have new : ObjOk X.prog X.w (upd H s.heap.objs.size (.tup [.int (i : Nat), x])) h'' s.heap.objs.size (.tup [.int (i : Nat), x]) :=
      ⟨by show 2 ≤ sizeLine; decide, [.int i tk, x1], .cons ⟨_, rfl⟩ (.cons ru .nil), ⟨_, hT2, rfl, _, rfl⟩⟩
    have I1 : Inv X pins σ (upd H s.heap.objs.size (.tup [.int (i : Nat), x])) { s with heap := h'', toks := tk + 1 } :=
      I.turnedNew (t' := tk + 1) (ch := [e, it]) (fun b ob hb q => (sb.2 b (fun z => hb (by simp [z]))).trans (hk b ob (fun z => hb (by simp [z])) (fun z => hb (by simp [z])) q)) hf (Nat.le_refl _) new
    refine ⟨.ref s.heap.objs.size, _, I1, rfl, ⟨_, x, rfl, I.hok.fresh (Nat.le_refl _), rfl, fun ys hy => by rw [I.tuple_inj hy hq]; exact hx⟩, ⟨j1, ⟨x1, ?_⟩, st'.1.at fun o q => (sb.2 it (Ne.symm hne)).trans q, hne⟩, fun b hb => ?_⟩
    · have e1 : ((i + 1 : Nat) : Int) = (i : Int) + 1 := by omega
      rw [e1]; exact he'
    · have hb' : b < s.heap.objs.size := by
        have e' : b = e ∨ b = it := by simpa using hb
        rcases e' with z | z
        · rw [z]; exact hel
        · rw [z]; exact hil
      rw [upd_ne (Nat.ne_of_lt hb')]
      exact (hf b hb).1
  done := by
    intro X hP hw hK hc i pins s σ H E I hf st hg
    subst hP hw hK
    obtain ⟨hn, ⟨old, he⟩, hit, hne⟩ := st
    obtain ⟨xs, hl, hq, hx⟩ := hg
    obtain ⟨its, rv, p, hz⟩ := I.tuple hq
    obtain ⟨f0, f1, f2, f3, f4, f5⟩ := hf it (by simp)
    have m1 := rv.length
    have en : i = its.toArray.size := by simp; omega
    exact wpAny_pyNext_enum_endD (Draws.tuple (prog := X.prog) (w := X.w) (A := X.A.in1) (I.ok.hd hc) it a hat its.toArray) he ⟨by rw [← en]; exact hit, (show s.heap.IsTuple a its.toArray from p)⟩ fun h' eb => ⟨rfl, I.turned (t' := s.toks) (fun b o hb q => eb b o hb q) f0 f1 f3 f4 f5⟩
  self := fun A i s Q E st h => let ⟨_, ⟨_, he⟩, _⟩ := st; wpAny_pyIter_enum he h
def iEnumT (K : PySem.W.Frag) (ta : TA) : TI := fun σ H R => ta σ H fun vs H1 => ∃ a xs, vs = [.ref a] ∧ SqT K H1 a xs ∧ R (IteT K a xs.length) H1
theorem pi_enumT {X : Cx} {e : Expr} {ta : TA} {p pos tpos : Pos} {elts : List Expr} {kk : Nat} (hg : Gl X "enumerate") (hm : X.mg "enumerate" = none) (ha : PA X [e] ta) (hs : starEach [e] X.env = [(false, eval e X.env)] := by rfl) :
    PI X (.Tuple elts kk tpos) (.Call (.Name "enumerate" p) [e] [] pos) (iEnumT X.K ta) := by
  refine ⟨fun pins s σ H R I h => ?_⟩
  refine Call_ (ld_blt I hg hm boot_enumerate (PyProof.Rows.callWith_type1 (thn (ha.run pos pins s σ H _ I h) fun us s1 ⟨vs, H1, I1, r1, q1⟩ => ?_) hs rfl))
  obtain ⟨a, xs, ex, hq, q⟩ := q1
  subst ex
  cases r1 with
  | cons r rr =>
    cases rr
    cases r
    obtain ⟨its, rv, p', hz⟩ := I1.tuple hq
    obtain ⟨o2, ho2, _⟩ := id p'
    have lt := Heap.lt_size ho2
    refine enum_begins1 (begins_tuple a its.toArray) (show s1.heap.IsTuple a its.toArray from p') fun h' he hit hk => wpAny_pyIter_enum he ?_
    have I2 : Inv X pins σ H1 { s1 with heap := h' } := I1.kept (t' := s1.toks) hk
    refine ⟨s1.heap.objs.size + 1, [s1.heap.objs.size + 1, s1.heap.objs.size], _, _, H1, rfl, I2, turn_enumT (a := a) (e := s1.heap.objs.size + 1) (it := s1.heap.objs.size) (n := xs.length) (Nat.ne_of_lt lt) (Nat.ne_of_lt (Nat.lt_succ_of_lt lt)), ⟨Nat.zero_le _, ⟨.none, he⟩, ⟨_, hit, rfl, rfl⟩, Nat.succ_ne_self _⟩, fun b hb => ?_, q⟩
    have e' : b = s1.heap.objs.size + 1 ∨ b = s1.heap.objs.size := by simpa using hb
    have hle : s1.heap.objs.size ≤ b := by
      rcases e' with z | z
      · rw [z]; exact Nat.le_add_right _ _
      · rw [z]; exact Nat.le_refl _
    exact I1.fpOk hle (I1.hok.fresh hle)
section
variable {K : PySem.W.Frag} {F : Hp} {as : List Addr} {a : Addr} {xs : List D} {vs : List V}
theorem walks_enumT (h1 : TupA K F a vs) (r1 : RpL K F as xs vs) : Walks (IteT K a vs.length) (enY xs) K F as := fun R i H' F' as' mu' e p hs' => by
  have q1 : SqT K H' a vs := (hs'.er.tup (e.tup h1)).sqT
  refine ⟨fun y hy => ?_, fun hl => ?_⟩
  · obtain ⟨d, g1, rfl⟩ := get_map hy
    rw [List.getElem?_zipIdx, Option.map_eq_some_iff] at g1
    obtain ⟨d1, g1, rfl⟩ := g1
    obtain ⟨v1, e1, s1⟩ := r1.get g1
    refine ⟨⟨vs, v1, rfl, q1, e1⟩, fun z H2 yl => ?_⟩
    obtain ⟨T, x, rfl, hT, rfl, k1⟩ := yl
    have a1 := k1 vs q1
    rw [e1] at a1; cases a1
    refine ⟨F', Er.refl _, hs'.up hT, T, [.int (i : Nat), v1], rfl, .inl (.inl upd_same), .int (i : Nat), _, rfl, ?_, v1, _, rfl, Rp.mono e p _ _ s1, rfl⟩
    show Rp K F' as' (.int (((0 + i : Nat)) : Int)) (.int (i : Nat))
    rw [Nat.zero_add]; rfl
  · have hl : (enY xs).length ≤ i := hl
    unfold enY at hl
    rw [List.length_map, List.length_zipIdx, r1.len] at hl
    exact ⟨vs, rfl, q1, hl⟩
end
section
variable {X : Cx} {e : Expr} {elts : List Expr} {kk : Nat} {tpos p pos : Pos} {dl : List Sl} {mu : List MO} {ε : XP}
theorem wit_enumT {Φ : List Yd → List MO → Prop} (hm : X.mg "enumerate" = none) (h : WE X e dl mu (fun x m => ∃ xs, x = .tup xs ∧ Φ (enY xs) m) ε) (hg : Gl X "enumerate" := by rfl) (hs : starEach [e] X.env = [(false, eval e X.env)] := by rfl) :
    WIt X (.Tuple elts kk tpos) (.Call (.Name "enumerate" p) [e] [] pos) dl mu Φ ε := .mk fun W R F as σ H Q tk hs1 ha k kx =>
  SIt.by (pi_enumT hg hm SA.pa hs) ((wa_cons (es := []) (Φ := fun zs m => ∃ xs, zs = [.tup xs] ∧ Φ (enY xs) m)
    (h.imp fun x m ⟨xs, ex, q⟩ => wa_nil ⟨xs, by rw [ex], q⟩) hs).then tk hs1 ha kx fun vs xs m F' as' H' ⟨us, ex, q⟩ e1 e2 hs' ha' r kx' => by
    subst ex
    obtain ⟨v, rfl, r1⟩ := r.one
    obtain ⟨a1, v1, rfl, g1, t1⟩ := r1
    exact ⟨a1, v1, rfl, (hs'.er.tup g1).sqT, k _ _ m F' as' H' q e1 e2 hs' (walks_enumT g1 t1)⟩)
end
end DL
namespace DL
open PySem PySem.Spec PyProof.Rows L2 RZ PySem.Calls
mutual
theorem oddD_up : ∀ (k : Nat) (x : D), oddD k x = true → oddD (k + 1) x = true
  | _, .non, _ => by simp [oddD]
  | _, .bl _, _ => by simp [oddD]
  | _, .int _, _ => by simp [oddD]
  | _, .str _, h => by simpa [oddD] using h
  | 0, .lst _, h => by simp [oddD] at h
  | 0, .tup _, h => by simp [oddD] at h
  | n + 1, .lst xs, h => by simp only [oddD, Bool.and_eq_true] at h ⊢; exact ⟨h.1, oddDs_up n xs h.2⟩
  | n + 1, .tup xs, h => by simp only [oddD, Bool.and_eq_true] at h ⊢; exact ⟨h.1, oddDs_up n xs h.2⟩
  | _, .dct _, h => by simp [oddD] at h
  | _, .obj _ _, h => by simp [oddD] at h
  | _, .own _, h => by simp [oddD] at h
  | _, .val _, h => by simp [oddD] at h
  | _, .scr _, h => by simp [oddD] at h
  | _, .exn _ _, h => by simp [oddD] at h
theorem oddDs_up : ∀ (k : Nat) (x : List D), oddDs k x = true → oddDs (k + 1) x = true
  | _, [], _ => rfl
  | k, x :: xs, h => by
    simp only [oddDs, Bool.and_eq_true] at h ⊢
    exact ⟨oddD_up k x h.1, oddDs_up k xs h.2⟩
end
def tailB : List D → Bool
  | [n] => nameB n
  | _ => false
theorem deedB_cons {w : Str} {r : List D} : deedB (.tup (.str w :: r)) = if (w == ("wait" : Str)) = true then r.isEmpty else wordB w && tailB r := by
  show (if (w == ("wait" : Str)) = true then r.isEmpty else _) = _
  split
  · rfl
  · rcases r with _ | ⟨a, _ | ⟨b, r⟩⟩ <;> rfl
section
variable {h : Hall} {s : Stand} {wn rn : Str} {hands : Int} {d : D} {y : Option Str}
theorem After.why (f : h.Few) {w n : Str} {o : Stand} (a : After h s wn rn hands [w, n] o) : whyDeed h s wn rn hands w n = none := by
  have q := a.ask f
  generalize hd : lotD [w, n] = d at q
  generalize hy : (none : Option Str) = y at q
  cases q with
  | deed w' n' hw hn =>
    have e := lot_inj hd
    cases e
    first | exact hy.symm | rfl
  | wait => have e := lot_inj hd; cases e
  | waits a0 _ => cases hy
  | non => cases hd
theorem AskX.inn (f : h.Few) (a : AskX h s wn rn hands d y) : (((deedsOf h s wn rn hands).map lotD).any fun z => eqD z d) = decide (y = none) := by
  by_cases hy : y = none
  · rw [decide_eq_true hy]
    obtain ⟨l, o, rfl, af⟩ := a.after hy
    exact lot_in (mem_of_after af) (deedy_strs (af.deedy f))
  · rw [decide_eq_false hy]
    cases e : (((deedsOf h s wn rn hands).map lotD).any fun z => eqD z d) with
    | false => rfl
    | true =>
      obtain ⟨l, hd, hl⟩ := ask_in e
      obtain ⟨o, af⟩ := after_of hl
      refine absurd ?_ hy
      have dd := af.deedy f
      cases a with
      | form h1 =>
        rw [hd] at h1
        exfalso
        cases dd with
        | wait => exact absurd h1 (by decide +kernel)
        | of w n hw hn =>
          obtain ⟨_, _, w3, w4⟩ := word_ok hw
          have : DL.deedB (lotD [w, n]) = true := by
            show DL.deedB (.tup (.str w :: [.str n])) = true
            rw [deedB_cons, if_neg (by rw [w4]; simp), w3]
            exact hn
          rw [this] at h1; cases h1
      | ask q =>
        cases q with
        | deed w n hw hn => have e' := lot_inj hd; subst e'; exact af.why f
        | wait => rfl
        | waits a0 _ =>
          exfalso
          have e' := lot_inj hd
          subst e'
          cases dd with
          | of w n hw hn => rcases hw with hw | hw | hw <;> exact absurd hw (by decide +kernel)
        | non => cases hd
end
theorem TrieD.head {h : Hall} {s : Stand} {d : D} {ds : List D} {os : List Stand} {f : Option (Nat × Str)} (g : TrieD h s (d :: ds) os f) : ∃ (x : Wlk) (rn : Str) (y : Option Str), Turns h s x rn ∧ AskX h s x.name rn x.hands d y ∧ (y = none → ∃ l o os2 f2, d = lotD l ∧ After h s x.name rn x.hands l o ∧ TrieD h o ds os2 f2 ∧ os = s :: os2 ∧ f = f2.map fun p => (p.1 + 1, p.2)) ∧ (∀ t, y = some t → os = [s] ∧ f = some (0, t)) := by
  generalize hz : d :: ds = z at g
  cases g with
  | nil => cases hz
  | @cons _ o x rn l ds2 os2 f2 tt a g' =>
    injection hz with hz1 hz2
    exact ⟨x, rn, none, tt, hz1 ▸ .ask (a.ask tt.few), fun _ => ⟨l, o, os2, f2, hz1, a, hz2 ▸ g', rfl, rfl⟩, fun t e => (by cases e)⟩
  | @stop _ x rn d ds2 t tt a =>
    injection hz with hz1 hz2
    exact ⟨x, rn, some t, tt, hz1 ▸ a, fun e => (by cases e), fun t' e => (by cases e; exact ⟨rfl, rfl⟩)⟩
section
variable {mu : List MO} {x : D} {xs : List D} {i : Int}
end
section
variable {X : Cx} {mu : List MO} {Φ : DK}
end
structure Thing (d : D) : Prop where
  odd : oddD 50 d = true
  shw : Shw 50 400 d
theorem Thing.own {d : D} (t : Thing d) (n : Nat) : ownLt n d = true := okD.own n _ _ (oddD.ok _ _ t.odd)
def slLe : List Sl → List Sl → Prop
  | [], [] => True
  | some x :: l, some y :: m => x = y ∧ slLe l m
  | none :: l, _ :: m => slLe l m
  | _, _ => False
theorem slLe.get : ∀ {l m : List Sl}, slLe l m → l.length = m.length ∧ ∀ (i : Nat) x, l[i]? = some (some x) → m[i]? = some (some x)
  | [], [], _ => ⟨rfl, fun i x h => by simp at h⟩
  | some x :: l, some y :: m, ⟨e, t⟩ => by
    obtain ⟨h1, h2⟩ := slLe.get t
    refine ⟨by simp [h1], fun i z h => ?_⟩
    cases i with
    | zero => simp at h ⊢; rw [← e]; exact h
    | succ i => simp at h ⊢; exact h2 i z h
  | none :: l, a :: m, t => by
    have t : slLe l m := by cases a <;> exact t
    obtain ⟨h1, h2⟩ := slLe.get t
    refine ⟨by simp [h1], fun i z h => ?_⟩
    cases i with
    | zero => simp at h
    | succ i => simp at h ⊢; exact h2 i z h
  | [], a :: m, h => h.elim
  | some x :: l, [], h => h.elim
  | none :: l, [], h => h.elim
  | some x :: l, none :: m, h => h.elim
theorem WSs.slotsTo {X : Cx} {st : List Stmt} {dl : List Sl} {mu : List MO} {Ψ : DEnds} (dl' : List Sl) (s : slLe dl' dl) (h : WSs X st dl' mu Ψ) : WSs X st dl mu Ψ := .mk fun W R F as σ H E tk hs ha k => by
  obtain ⟨s1, s2⟩ := s.get
  exact h W R F as σ H E tk hs ⟨s1.trans ha.1, fun i d e => ha.2 i d (s2 i d e)⟩ k
end DL
namespace DL
open PySem PySem.Spec PyProof.Rows L2 RZ PySem.Calls
mutual
inductive Dq (K : PySem.W.Frag) (H : Hp) : V → PyData → Prop
  | non : Dq K H .non .none
  | bl (b : Bool) : Dq K H (.bl b) (.bool b)
  | int (i : Int) : Dq K H (.int i) (.int i)
  | str (x : Str) : Dq K H (.str x) (.str x)
  | lst {a : Addr} {xs : List V} {ds : List PyData} : SqL K H a xs → DqAll K H xs ds → Dq K H (.ref a) (.list ds)
  | tup {a : Addr} {xs : List V} {ds : List PyData} : SqT K H a xs → DqAll K H xs ds → Dq K H (.ref a) (.tuple ds)
  | dct {a : Addr} {ws : List (Key × V)} {kvs : List (PyData × PyData)} : Rd H a (.dK ws) → DqAll K H (ws.map fun p => kV p.1) (kvs.map (·.1)) → DqAll K H (ws.map (·.2)) (kvs.map (·.2)) → Dq K H (.ref a) (.dict kvs)
inductive DqAll (K : PySem.W.Frag) (H : Hp) : List V → List PyData → Prop
  | nil : DqAll K H [] []
  | cons {v : V} {vs : List V} {d : PyData} {ds : List PyData} : Dq K H v d → DqAll K H vs ds → DqAll K H (v :: vs) (d :: ds)
end
theorem pairs_vals {P : Program} {w : World} : ∀ {es : List DictEntry} {ws : List (Key × V)} {vs : List (Key × Value)}, KV ws vs → Pairs (mixKind P w) es vs → Vals (ws.map fun p => kV p.1) (es.map (·.key)) ∧ Vals (ws.map (·.2)) (es.map (·.val))
  | _, _, _, .nil, .nil => ⟨.nil, .nil⟩
  | _, _, _, .cons k1 kv, .cons p1 p2 ps => by
    obtain ⟨h1, h2⟩ := pairs_vals kv ps
    refine ⟨.cons ?_ h1, .cons ?_ h2⟩
    · dsimp only; rw [k1.1]; exact relV_key p1
    · dsimp only; rw [p2]; exact k1.2
section
variable {X : Cx} {pins : List (Addr × Obj)} {σ : L2.St} {H : Hp} {s : Shared}
mutual
theorem Dq.repr (I : Inv X pins σ H s) : ∀ {v : V} {d : PyData}, Dq X.K H v d → ∀ u, RelV v u → d.showable = true → d.shown.length ≤ sizeLine → (∃ as, Reads s.heap u d as) ∧ ∃ bs, ReadAtMost s.heap d.depth bs ∧ ReprK X.prog X.w bs s.heap d.depth u d.shown
  | _, _, .non, _, r, _, _ => by cases r; exact ⟨⟨_, .none⟩, [], (fun _ h => nomatch h), by simp only [PyData.shown]; exact .of_is ReprIs.none _ _ _⟩
  | _, _, .bl b, _, r, _, _ => by cases r; exact ⟨⟨_, .bool b⟩, [], (fun _ h => nomatch h), by simp only [PyData.shown]; exact .of_is (ReprIs.bool b) _ _ _⟩
  | _, _, .int i, _, r, hs, _ => by obtain ⟨t, rfl⟩ := r; exact ⟨⟨_, .int i t⟩, [], (fun _ h => nomatch h), by simp only [PyData.shown]; exact .of_is (ReprIs.int t (by simpa [PyData.showable] using hs)) _ _ _⟩
  | _, _, .str x, _, r, _, hz => by obtain ⟨t, rfl⟩ := r; exact ⟨⟨_, .str x t⟩, [], (fun _ h => nomatch h), by simp only [PyData.shown]; exact .of_is (ReprIs.str x t (by simpa only [PyData.shown] using hz)) _ _ _⟩
  | _, _, .lst (ds := ds) h1 h2, _, r, hs, hz => by
    cases r
    have hz' : (listText (PyData.shownAll ds)).length ≤ sizeLine := by simpa only [PyData.shown] using hz
    obtain ⟨its, rv, ⟨o, n, ho, hc, _, hd⟩, _⟩ := I.list h1
    obtain ⟨⟨as, ra⟩, bs, hb, hk⟩ := DqAll.repr I h2 its rv (by simpa [PyData.showable] using hs) fun t ht => Nat.le_trans (listText_mem_le ht) hz'
    have rr : Reads s.heap (.ref _) (.list ds) _ := .list ho hc hd ra
    have hna := not_mem_of_deeper rr (by simp only [PyData.depth]; omega) hb
    refine ⟨⟨_, rr⟩, _ :: bs, ReadAtMost.cons rr (by simp only [PyData.depth]; omega) hb, ?_⟩
    simp only [PyData.depth, PyData.shown]
    cases its with
    | nil => cases ra; simp only [PyData.shownAll, listText_nil]; exact ReprK.listEmpty ho hc hd
    | cons x l => exact ReprK.list ho hc hd hna (by simpa using hk.length_eq) fun i y e => hk.item i y (by simpa using e)
  | _, _, .tup (ds := ds) h1 h2, _, r, hs, hz => by
    cases r
    have hz' : (tupleText (PyData.shownAll ds)).length ≤ sizeLine := by simpa only [PyData.shown] using hz
    obtain ⟨its, rv, ⟨o, ho, hc, n, hd⟩, _⟩ := I.tuple h1
    obtain ⟨⟨as, ra⟩, bs, hb, hk⟩ := DqAll.repr I h2 its rv (by simpa [PyData.showable] using hs) fun t ht => Nat.le_trans (tupleText_mem_le ht) hz'
    have rr : Reads s.heap (.ref _) (.tuple ds) _ := .tuple ho hc hd ra
    have hna := not_mem_of_deeper rr (by simp only [PyData.depth]; omega) hb
    refine ⟨⟨_, rr⟩, _ :: bs, ReadAtMost.cons rr (by simp only [PyData.depth]; omega) hb, ?_⟩
    simp only [PyData.depth, PyData.shown]
    exact ReprK.tuple ho hc hd hna hk
  | _, _, .dct (kvs := kvs) h1 h2 h3, _, r, hs, hz => by
    cases r
    have hz' : (dictText (PyData.shownKv kvs)).length ≤ sizeLine := by simpa only [PyData.shown] using hz
    obtain ⟨hs1, hs2⟩ := PyData.showableKv_split kvs (by simpa [PyData.showable] using hs)
    obtain ⟨_, hsys, vs, kv, o, es, ep, ho, hx, hd, _, hp, _⟩ := dk_rd I.hok h1
    obtain ⟨q1, q2⟩ := pairs_vals kv hp
    obtain ⟨⟨as1, ra1⟩, b1, hb1, k1⟩ := DqAll.repr I h2 _ q1 hs1 (fun t ht => let ⟨p, hp, hl⟩ := PyData.shownKv_key_le kvs t ht; Nat.le_trans hl (Nat.le_trans (dictText_mem_le hp) hz'))
    obtain ⟨⟨as2, ra2⟩, b2, hb2, k2⟩ := DqAll.repr I h3 _ q2 hs2 (fun t ht => let ⟨p, hp, hl⟩ := PyData.shownKv_val_le kvs t ht; Nat.le_trans hl (Nat.le_trans (dictText_mem_le hp) hz'))
    have rr : Reads s.heap (.ref _) (.dict kvs) _ := .dict ho hx.1 hd ra1 ra2
    have hb : ReadAtMost s.heap (PyData.depthKv kvs) (b1 ++ b2) := (hb1.mono (PyData.depthAll_keys_le kvs)).append (hb2.mono (PyData.depthAll_vals_le kvs))
    have hna := not_mem_of_deeper rr (by simp only [PyData.depth]; omega) hb
    refine ⟨⟨_, rr⟩, _ :: (b1 ++ b2), ReadAtMost.cons rr (by simp only [PyData.depth]; omega) hb, ?_⟩
    simp only [PyData.depth, PyData.shown, PyData.shownKv_eq]
    exact ReprK.dict ho hx.1 hd hsys hna (ReprEntriesK.of_two es.toList _ _
      (k1.more_le (fun b hb => List.mem_append_left _ hb) (PyData.depthAll_keys_le kvs)) (k2.more_le (fun b hb => List.mem_append_right _ hb) (PyData.depthAll_vals_le kvs)))
theorem DqAll.repr (I : Inv X pins σ H s) : ∀ {vs : List V} {ds : List PyData}, DqAll X.K H vs ds → ∀ us, Vals vs us → PyData.showableAll ds = true → (∀ t ∈ PyData.shownAll ds, t.length ≤ sizeLine) → (∃ as, ReadsAll s.heap us ds as) ∧ ∃ bs, ReadAtMost s.heap (PyData.depthAll ds) bs ∧ ReprAllK X.prog X.w bs s.heap (PyData.depthAll ds) us (PyData.shownAll ds)
  | _, _, .nil, _, r, _, _ => by cases r; exact ⟨⟨_, .nil⟩, [], (fun _ h => nomatch h), by simp only [PyData.shownAll]; exact .nil⟩
  | _, _, .cons (d := d) (ds := ds) h1 h2, _, r, hs, hz => by
    cases r with
    | cons r1 r2 =>
      have hs' : d.showable = true ∧ PyData.showableAll ds = true := by simpa [PyData.showableAll] using hs
      obtain ⟨⟨as1, ra1⟩, b1, hb1, k1⟩ := Dq.repr I h1 _ r1 hs'.1 (hz _ (by simp only [PyData.shownAll]; exact List.mem_cons_self ..))
      obtain ⟨⟨as2, ra2⟩, b2, hb2, k2⟩ := DqAll.repr I h2 _ r2 hs'.2 (fun t ht => hz t (by simp only [PyData.shownAll]; exact List.mem_cons_of_mem _ ht))
      refine ⟨⟨_, .cons ra1 ra2⟩, b1 ++ b2, ?_, ?_⟩
      · simp only [PyData.depthAll]
        exact (hb1.mono (Nat.le_max_left _ _)).append (hb2.mono (Nat.le_max_right _ _))
      · simp only [PyData.depthAll, PyData.shownAll]
        exact .cons ((k1.more fun b hb => List.mem_append_left _ hb).level_le (Nat.le_max_left _ _)) (k2.more_le (fun b hb => List.mem_append_right _ hb) (Nat.le_max_right _ _))
end
theorem call_reprQ (hg : X.A.guards = some []) : CallR X (.builtin "repr") (fun xs H Q => ∃ v d, xs = [v] ∧ Dq X.K H v d ∧ d.showable = true ∧ d.shown.length ≤ sizeLine ∧ X.A.units + (d.depth + 1) < cLine ∧ Q (.str d.shown) H) := by
  intro pins s σ H xs us Q I r h
  obtain ⟨v, d, rfl, dq, hs, hz, hu, q⟩ := h
  obtain ⟨u, rfl, r1⟩ := vals1 r
  cases dq with
  | non => cases r1; simp only [PyData.shown] at q; exact PySem.P.repr_of_none ⟨.str _, H, I.tok _, ⟨_, rfl⟩, q⟩
  | bl b => cases r1; simp only [PyData.shown] at q; exact PySem.P.repr_of_bool ⟨.str _, H, I.tok _, ⟨_, rfl⟩, q⟩
  | int i => obtain ⟨t, rfl⟩ := r1; simp only [PyData.shown] at q; exact PySem.P.repr_of_int (by simpa [PyData.showable] using hs) ⟨.str _, H, I.tok _, ⟨_, rfl⟩, q⟩
  | str x => obtain ⟨t, rfl⟩ := r1; simp only [PyData.shown] at q hz; exact PySem.P.repr_of_str ⟨.str _, H, I.tok _, ⟨_, rfl⟩, q⟩ hz
  | @lst a xs ds h1 h2 =>
    cases r1
    have hz' : (listText (PyData.shownAll ds)).length ≤ sizeLine := by simpa only [PyData.shown] using hz
    obtain ⟨its, rv, ⟨o, n, ho, hc, _, hd⟩, _⟩ := I.list h1
    obtain ⟨⟨as, ra⟩, bs, hb, hk⟩ := DqAll.repr I h2 its rv (by simpa [PyData.showable] using hs) fun t ht => Nat.le_trans (listText_mem_le ht) hz'
    have hna := not_mem_of_deeper (.list ho hc hd ra) (by simp only [PyData.depth]; omega) hb
    simp only [PyData.depth] at hu
    refine call_repr_slot (by omega) ⟨o, ho, hc⟩ F.slot_list_repr.toG ?_
    simp only [PyData.shown] at q
    cases its with
    | nil => cases ra; simp only [PyData.shownAll, listText_nil] at q; exact call_list_repr_empty ⟨o, ho, hc⟩ ho hd ⟨_, _, rfl, .str _, H, I.tok _, ⟨_, rfl⟩, q⟩
    | cons x l => exact call_list_reprK ho hc hd hna (by simpa using hk.length_eq) (fun i y e => hk.item i y (by simpa using e)) hg (fun b _ => Clear.nil b) (by show X.A.units + 1 + _ < cLine; omega) (fun _ _ e => e) (fun h' u tk hk' => ⟨_, _, rfl, .str _, H, I.kept hk', ⟨_, rfl⟩, q⟩) hz'
  | @tup a xs ds h1 h2 =>
    cases r1
    have hz' : (tupleText (PyData.shownAll ds)).length ≤ sizeLine := by simpa only [PyData.shown] using hz
    obtain ⟨its, rv, ⟨o, ho, hc, n, hd⟩, _⟩ := I.tuple h1
    obtain ⟨⟨as, ra⟩, bs, hb, hk⟩ := DqAll.repr I h2 its rv (by simpa [PyData.showable] using hs) fun t ht => Nat.le_trans (tupleText_mem_le ht) hz'
    have hna := not_mem_of_deeper (.tuple ho hc hd ra) (by simp only [PyData.depth]; omega) hb
    simp only [PyData.depth] at hu
    refine call_repr_slot (by omega) ⟨o, ho, hc⟩ F.slot_tuple_repr ?_
    simp only [PyData.shown] at q
    exact call_tuple_reprK ho hc hd hna hk hg (fun b _ => Clear.nil b) (by show X.A.units + 1 + _ < cLine; omega) (fun _ _ e => e) (fun h' u tk hk' => ⟨_, _, rfl, .str _, H, I.kept hk', ⟨_, rfl⟩, q⟩) hz'
  | @dct a ws kvs h1 h2 h3 =>
    cases r1
    have hz' : (dictText (PyData.shownKv kvs)).length ≤ sizeLine := by simpa only [PyData.shown] using hz
    obtain ⟨hs1, hs2⟩ := PyData.showableKv_split kvs (by simpa [PyData.showable] using hs)
    obtain ⟨_, hsys, vs, kv, o, es, ep, ho, hx, hd, _, hp, _⟩ := dk_rd I.hok h1
    obtain ⟨q1, q2⟩ := pairs_vals kv hp
    obtain ⟨⟨as1, ra1⟩, b1, hb1, k1⟩ := DqAll.repr I h2 _ q1 hs1 (fun t ht => let ⟨p, hp, hl⟩ := PyData.shownKv_key_le kvs t ht; Nat.le_trans hl (Nat.le_trans (dictText_mem_le hp) hz'))
    obtain ⟨⟨as2, ra2⟩, b2, hb2, k2⟩ := DqAll.repr I h3 _ q2 hs2 (fun t ht => let ⟨p, hp, hl⟩ := PyData.shownKv_val_le kvs t ht; Nat.le_trans hl (Nat.le_trans (dictText_mem_le hp) hz'))
    have hb : ReadAtMost s.heap (PyData.depthKv kvs) (b1 ++ b2) := (hb1.mono (PyData.depthAll_keys_le kvs)).append (hb2.mono (PyData.depthAll_vals_le kvs))
    have hna := not_mem_of_deeper (.dict ho hx.1 hd ra1 ra2) (by simp only [PyData.depth]; omega) hb
    simp only [PyData.depth] at hu
    refine call_repr_slot (by omega) ⟨o, ho, hx.1⟩ F.slot_dict_repr ?_
    simp only [PyData.shown, PyData.shownKv_eq] at q
    exact call_dict_reprK ho hx.1 hd hsys hna (ReprEntriesK.of_two es.toList _ _
      (k1.more_le (fun b hb => List.mem_append_left _ hb) (PyData.depthAll_keys_le kvs)) (k2.more_le (fun b hb => List.mem_append_right _ hb) (PyData.depthAll_vals_le kvs))) hg (fun b _ => Clear.nil b) (by show X.A.units + 1 + _ < cLine; omega) (fun _ _ e => e) (fun h' u tk hk' => ⟨_, _, rfl, .str _, H, I.kept hk', ⟨_, rfl⟩, q⟩) (by rw [← PyData.shownKv_eq]; exact hz')
end
end DL
namespace DL
open PySem PySem.Spec PyProof.Rows L2 RZ PySem.Calls
def okKey : Key → Bool
  | .inl i => decide (i.natAbs < 10 ^ 12)
  | .inr x => PyData.strOk x
def pyKey : Key → PyData
  | .inl i => .int i
  | .inr x => .str x
def eKey : Key → Nat
  | .inl _ => 13
  | .inr x => 10 * x.length + 2
mutual
def okE : Nat → D → Bool
  | _, .non => true
  | _, .bl _ => true
  | _, .int i => decide (i.natAbs < 10 ^ 31)
  | _, .str x => PyData.strOk x
  | n + 1, .lst xs => okEs n xs
  | n + 1, .tup xs => okEs n xs
  | n + 1, .dct kvs => okEk n kvs
  | _, _ => false
def okEs : Nat → List D → Bool
  | _, [] => true
  | n, x :: xs => okE n x && okEs n xs
def okEk : Nat → List (Key × D) → Bool
  | _, [] => true
  | n, (k, x) :: xs => okKey k && okE n x && okEk n xs
end
mutual
def pyE : D → PyData
  | .non => .none
  | .bl b => .bool b
  | .int i => .int i
  | .str x => .str x
  | .lst xs => .list (pyEs xs)
  | .tup xs => .tuple (pyEs xs)
  | .dct kvs => .dict (pyEk kvs)
  | _ => .none
def pyEs : List D → List PyData
  | [] => []
  | x :: xs => pyE x :: pyEs xs
def pyEk : List (Key × D) → List (PyData × PyData)
  | [] => []
  | (k, x) :: xs => (pyKey k, pyE x) :: pyEk xs
end
mutual
def eB : D → Nat
  | .int i => if i.natAbs < 10 ^ 12 then 13 else 40
  | .str x => 10 * x.length + 2
  | .lst xs => eBs xs + 3
  | .tup xs => eBs xs + 3
  | .dct kvs => eBk kvs + 3
  | _ => 13
def eBs : List D → Nat
  | [] => 0
  | x :: xs => eB x + 2 + eBs xs
def eBk : List (Key × D) → Nat
  | [] => 0
  | (k, x) :: xs => eKey k + 2 + eB x + 2 + eBk xs
end
section
variable {K : PySem.W.Frag} {R F H : Hp} {as : List Addr} {mu : List MO}
theorem keyE (k : Key) : Dq K H (kV k) (pyKey k) := by
  cases k with
  | inl i => exact .int i
  | inr x => exact .str x
mutual
theorem okE.dq (e : Er F H) : ∀ (n : Nat) (d : D) (v : V), okE n d = true → Rp K F as d v → Dq K H v (pyE d)
  | _, .non, _, _, r => by cases r; simp only [pyE]; exact .non
  | _, .bl b, _, _, r => by cases r; simp only [pyE]; exact .bl b
  | _, .int b, _, _, r => by cases r; simp only [pyE]; exact .int b
  | _, .str b, _, _, r => by cases r; simp only [pyE]; exact .str b
  | 0, .lst _, _, h, _ => by simp [okE] at h
  | 0, .tup _, _, h, _ => by simp [okE] at h
  | 0, .dct _, _, h, _ => by simp [okE] at h
  | n + 1, .lst xs, _, h, ⟨a, vs, h1, h2, h3⟩ => by
    subst h1
    simp only [pyE]
    exact .lst (.inl (.inl (e.ex _ _ trivial h2))) (okEs.dq e n xs vs (by simpa [okE] using h) h3)
  | n + 1, .tup xs, _, h, ⟨a, vs, h1, h2, h3⟩ => by
    subst h1
    simp only [pyE]
    exact .tup (e.tup h2).sqT (okEs.dq e n xs vs (by simpa [okE] using h) h3)
  | n + 1, .dct kvs, _, h, ⟨a, o, ws, h1, h2, h3⟩ => by
    subst h1
    simp only [pyE]
    obtain ⟨q1, q2⟩ := okEk.dq e n kvs ws (by simpa [okE] using h) h3
    exact .dct (.inr ⟨o, e.ex _ _ trivial h2⟩) q1 q2
  | _, .obj _ _, _, h, _ => by simp [okE] at h
  | _, .exn _ _, _, h, _ => by simp [okE] at h
  | _, .own _, _, h, _ => by simp [okE] at h
  | _, .val _, _, h, _ => by simp [okE] at h
  | _, .scr _, _, h, _ => by simp [okE] at h
theorem okEs.dq (e : Er F H) : ∀ (n : Nat) (ds : List D) (vs : List V), okEs n ds = true → RpL K F as ds vs → DqAll K H vs (pyEs ds)
  | _, [], _, _, r => by cases r; simp only [pyEs]; exact .nil
  | n, x :: xs, _, h, ⟨v, r, h1, h2, h3⟩ => by
    subst h1
    simp only [okEs, Bool.and_eq_true] at h
    simp only [pyEs]
    exact .cons (okE.dq e n x v h.1 h2) (okEs.dq e n xs r h.2 h3)
theorem okEk.dq (e : Er F H) : ∀ (n : Nat) (ds : List (Key × D)) (ws : List (Key × V)), okEk n ds = true → RpK K F as ds ws → DqAll K H (ws.map fun p => kV p.1) ((pyEk ds).map (·.1)) ∧ DqAll K H (ws.map (·.2)) ((pyEk ds).map (·.2))
  | _, [], _, _, r => by cases r; simp only [pyEk]; exact ⟨.nil, .nil⟩
  | n, (k, x) :: xs, _, h, ⟨v, r, h1, h2, h3⟩ => by
    subst h1
    simp only [okEk, Bool.and_eq_true] at h
    simp only [pyEk]
    obtain ⟨q1, q2⟩ := okEk.dq e n xs r h.2 h3
    exact ⟨.cons (keyE k) q1, .cons (okE.dq e n x v h.1.2 h2) q2⟩
end
theorem Vw.dq {n : Nat} {x : D} {v : V} (hs : Hs K R F as mu H) (h : okE n x = true) (w : Vw K F as H x v) : Dq K H v (pyE x) := by
  cases x with
  | lst xs =>
    obtain ⟨a, vs, rfl, h2, h3⟩ := w
    cases n with
    | zero => simp [okE] at h
    | succ n => simp only [pyE]; exact .lst (.inl (.inl h2)) (okEs.dq hs.er n xs vs (by simpa [okE] using h) h3)
  | dct xs =>
    obtain ⟨a, vs, rfl, h2, h3⟩ := w
    cases n with
    | zero => simp [okE] at h
    | succ n =>
      simp only [pyE]
      obtain ⟨q1, q2⟩ := okEk.dq hs.er n xs vs (by simpa [okE] using h) h3
      exact .dct h2 q1 q2
  | obj C fs => simp [okE] at h
  | scr _ => simp [okE] at h
  | own _ => simp [okE] at h
  | exn _ _ => simp [okE] at h
  | val _ => simp [okE] at h
  | _ => exact okE.dq (as := as) hs.er n _ v h w
end
theorem int_showable2 {i : Int} (h : i.natAbs < 10 ^ 31) : (PyData.int i).showable = true := by
  simp only [PyData.showable, decide_eq_true_eq]
  by_cases z : i.natAbs = 0
  · rw [z]; decide
  · have := Nat.log2_lt z |>.mpr (show i.natAbs < 2 ^ 103 from Nat.lt_of_lt_of_le h (by decide))
    omega
theorem shown_int2 {i : Int} (h : i.natAbs < 10 ^ 31) : (PyData.shown (.int i)).length ≤ if i.natAbs < 10 ^ 12 then 13 else 40 := by
  split
  · rename_i q; exact PyData.shown_int_le q
  · have e := int_text_length_le10 (k := 31) (by decide) h
    show (Str.ofString (toString i)).length ≤ 40
    rw [PySem.ofString_length]; omega
theorem key_ok {k : Key} (h : okKey k = true) : (pyKey k).showable = true ∧ (pyKey k).shown.length ≤ eKey k ∧ (pyKey k).depth = 0 := by
  cases k with
  | inl i =>
    have h : i.natAbs < 10 ^ 12 := by simpa [okKey] using h
    exact ⟨int_showable h, PyData.shown_int_le h, by simp [pyKey, PyData.depth]⟩
  | inr x =>
    have h : PyData.strOk x = true := by simpa [okKey] using h
    exact ⟨rfl, StrLaws.reprText_len x (strOk_lt h), by simp [pyKey, PyData.depth]⟩
mutual
theorem E_ok : ∀ (n : Nat) (d : D), okE n d = true → (pyE d).showable = true ∧ (pyE d).shown.length ≤ eB d ∧ (pyE d).depth ≤ n
  | _, .non, _ => ⟨rfl, by decide, by simp [pyE, PyData.depth]⟩
  | _, .bl b, _ => ⟨rfl, by cases b <;> decide, by simp [pyE, PyData.depth]⟩
  | _, .int i, h => by
    have h : i.natAbs < 10 ^ 31 := of_decide_eq_true (by simpa only [okE] using h)
    exact ⟨int_showable2 h, shown_int2 h, by simp [pyE, PyData.depth]⟩
  | _, .str x, h => by
    have h : PyData.strOk x = true := by simpa [okE] using h
    exact ⟨rfl, StrLaws.reprText_len x (strOk_lt h), by simp [pyE, PyData.depth]⟩
  | 0, .lst _, h => by simp [okE] at h
  | 0, .tup _, h => by simp [okE] at h
  | 0, .dct _, h => by simp [okE] at h
  | n + 1, .lst xs, h => by
    obtain ⟨q1, q2, q3⟩ := Es_ok n xs (by simpa [okE] using h)
    have h2 := listText_len_le (PyData.shownAll (pyEs xs))
    refine ⟨q1, ?_, by simp only [pyE, PyData.depth]; omega⟩
    show (listText (PyData.shownAll (pyEs xs))).length ≤ eBs xs + 3
    omega
  | n + 1, .tup xs, h => by
    obtain ⟨q1, q2, q3⟩ := Es_ok n xs (by simpa [okE] using h)
    have h2 := tupleText_len_le (PyData.shownAll (pyEs xs))
    refine ⟨q1, ?_, by simp only [pyE, PyData.depth]; omega⟩
    show (tupleText (PyData.shownAll (pyEs xs))).length ≤ eBs xs + 3
    omega
  | n + 1, .dct xs, h => by
    obtain ⟨q1, q2, q3⟩ := Ek_ok n xs (by simpa [okE] using h)
    have h2 := dictText_len_le (PyData.shownKv (pyEk xs))
    refine ⟨q1, ?_, by simp only [pyE, PyData.depth]; omega⟩
    show (dictText (PyData.shownKv (pyEk xs))).length ≤ eBk xs + 3
    omega
  | _, .obj _ _, h => by simp [okE] at h
  | _, .exn _ _, h => by simp [okE] at h
  | _, .own _, h => by simp [okE] at h
  | _, .val _, h => by simp [okE] at h
  | _, .scr _, h => by simp [okE] at h
theorem Es_ok : ∀ (n : Nat) (d : List D), okEs n d = true → PyData.showableAll (pyEs d) = true ∧ ((PyData.shownAll (pyEs d)).map (·.length)).sum + 2 * (PyData.shownAll (pyEs d)).length ≤ eBs d ∧ PyData.depthAll (pyEs d) ≤ n
  | _, [], _ => ⟨rfl, by decide, by simp [pyEs, PyData.depthAll]⟩
  | n, x :: xs, h => by
    simp only [okEs, Bool.and_eq_true] at h
    obtain ⟨p1, p2, p3⟩ := E_ok n x h.1
    obtain ⟨q1, q2, q3⟩ := Es_ok n xs h.2
    refine ⟨?_, ?_, ?_⟩
    · show ((pyE x).showable && PyData.showableAll (pyEs xs)) = true
      rw [p1, q1]; rfl
    · show (((pyE x).shown :: PyData.shownAll (pyEs xs)).map (·.length)).sum + 2 * ((pyE x).shown :: PyData.shownAll (pyEs xs)).length ≤ eB x + 2 + eBs xs
      simp only [List.map_cons, List.sum_cons, List.length_cons]
      omega
    · simp only [pyEs, PyData.depthAll]; omega
theorem Ek_ok : ∀ (n : Nat) (d : List (Key × D)), okEk n d = true → PyData.showableKv (pyEk d) = true ∧ ((PyData.shownKv (pyEk d)).map (·.length)).sum + 2 * (PyData.shownKv (pyEk d)).length ≤ eBk d ∧ PyData.depthKv (pyEk d) ≤ n
  | _, [], _ => ⟨rfl, by decide, by simp [pyEk, PyData.depthKv]⟩
  | n, (k, x) :: xs, h => by
    simp only [okEk, Bool.and_eq_true] at h
    obtain ⟨k1, k2, k3⟩ := key_ok h.1.1
    obtain ⟨p1, p2, p3⟩ := E_ok n x h.1.2
    obtain ⟨q1, q2, q3⟩ := Ek_ok n xs h.2
    refine ⟨?_, ?_, ?_⟩
    · show ((pyKey k).showable && (pyE x).showable && PyData.showableKv (pyEk xs)) = true
      rw [k1, p1, q1]; rfl
    · show ((((pyKey k).shown ++ ": " ++ (pyE x).shown) :: PyData.shownKv (pyEk xs)).map (·.length)).sum + 2 * (((pyKey k).shown ++ ": " ++ (pyE x).shown) :: PyData.shownKv (pyEk xs)).length ≤ eKey k + 2 + eB x + 2 + eBk xs
      simp only [List.map_cons, List.sum_cons, List.length_cons, strLen_append]
      have : ((": " : Str)).length = 2 := rfl
      omega
    · simp only [pyEk, PyData.depthKv]; omega
end
structure ShwE (n b : Nat) (d : D) : Prop where
  ok : okE n d = true
  le : eB d ≤ b
def shE (d : D) : Str := (pyE d).shown
mutual
theorem okE_of : ∀ (n : Nat) (d : D), okD n d = true → shI d = true → okE n d = true ∧ pyE d = pyD d ∧ eB d = shB d
  | _, .non, _, _ => ⟨rfl, rfl, rfl⟩
  | _, .bl _, _, _ => ⟨rfl, rfl, rfl⟩
  | _, .int i, _, h => by
    have h : i.natAbs < 10 ^ 12 := of_decide_eq_true (by simpa only [shI] using h)
    have h2 : i.natAbs < 10 ^ 31 := Nat.lt_trans h (by decide)
    exact ⟨by simp only [okE, decide_eq_true_eq]; exact h2, rfl, by simp only [eB, shB]; rw [if_pos h]⟩
  | _, .str x, h, _ => ⟨by simpa [okE, okD] using h, rfl, rfl⟩
  | 0, .lst _, h, _ => by simp [okD] at h
  | 0, .tup _, h, _ => by simp [okD] at h
  | n + 1, .lst xs, h, g => by
    obtain ⟨q1, q2, q3⟩ := okEs_of n xs (by simpa [okD] using h) (by simpa [shI] using g)
    exact ⟨by simpa [okE] using q1, by simp only [pyE, pyD, q2], by simp only [eB, shB, q3]⟩
  | n + 1, .tup xs, h, g => by
    obtain ⟨q1, q2, q3⟩ := okEs_of n xs (by simpa [okD] using h) (by simpa [shI] using g)
    exact ⟨by simpa [okE] using q1, by simp only [pyE, pyD, q2], by simp only [eB, shB, q3]⟩
  | _, .dct _, h, _ => by simp [okD] at h
  | _, .obj _ _, h, _ => by simp [okD] at h
  | _, .exn _ _, h, _ => by simp [okD] at h
  | _, .own _, h, _ => by simp [okD] at h
  | _, .val _, h, _ => by simp [okD] at h
  | _, .scr _, h, _ => by simp [okD] at h
theorem okEs_of : ∀ (n : Nat) (d : List D), okDs n d = true → shIs d = true → okEs n d = true ∧ pyEs d = pyDs d ∧ eBs d = shBs d
  | _, [], _, _ => ⟨rfl, rfl, rfl⟩
  | n, x :: xs, h, g => by
    simp only [okDs, Bool.and_eq_true] at h
    simp only [shIs, Bool.and_eq_true] at g
    obtain ⟨p1, p2, p3⟩ := okE_of n x h.1 g.1
    obtain ⟨q1, q2, q3⟩ := okEs_of n xs h.2 g.2
    exact ⟨by simp only [okEs, p1, q1, Bool.and_self], by simp only [pyEs, pyDs, p2, q2], by simp only [eBs, shBs, p3, q3]⟩
end
theorem Shw.e {n b : Nat} {d : D} (h : Shw n b d) : ShwE n b d :=
  let ⟨q1, _, q3⟩ := okE_of n d h.ok h.sh
  ⟨q1, by rw [q3]; exact h.le⟩
theorem Shw.shE {n b : Nat} {d : D} (h : Shw n b d) : DL.shE d = shD d :=
  let ⟨_, q2, _⟩ := okE_of n d h.ok h.sh
  by unfold DL.shE shD; rw [q2]
mutual
theorem okE_up : ∀ (k : Nat) (x : D), okE k x = true → okE (k + 1) x = true
  | _, .non, _ => rfl
  | _, .bl _, _ => rfl
  | _, .int _, h => by simp only [okE] at h ⊢; exact h
  | _, .str _, h => by simpa [okE] using h
  | 0, .lst _, h => by simp [okE] at h
  | 0, .tup _, h => by simp [okE] at h
  | 0, .dct _, h => by simp [okE] at h
  | n + 1, .lst xs, h => by
    have := okEs_up n xs (by simpa [okE] using h)
    simpa [okE] using this
  | n + 1, .tup xs, h => by
    have := okEs_up n xs (by simpa [okE] using h)
    simpa [okE] using this
  | n + 1, .dct xs, h => by
    have := okEk_up n xs (by simpa [okE] using h)
    simpa [okE] using this
  | _, .obj _ _, h => by simp [okE] at h
  | _, .exn _ _, h => by simp [okE] at h
  | _, .own _, h => by simp [okE] at h
  | _, .val _, h => by simp [okE] at h
  | _, .scr _, h => by simp [okE] at h
theorem okEs_up : ∀ (k : Nat) (x : List D), okEs k x = true → okEs (k + 1) x = true
  | _, [], _ => rfl
  | k, x :: xs, h => by
    simp only [okEs, Bool.and_eq_true] at h ⊢
    exact ⟨okE_up k x h.1, okEs_up k xs h.2⟩
theorem okEk_up : ∀ (k : Nat) (x : List (Key × D)), okEk k x = true → okEk (k + 1) x = true
  | _, [], _ => rfl
  | k, (q, x) :: xs, h => by
    simp only [okEk, Bool.and_eq_true] at h ⊢
    exact ⟨⟨h.1.1, okE_up k x h.1.2⟩, okEk_up k xs h.2⟩
end
theorem ShwE.up {n b m c : Nat} {x : D} (h : ShwE n b x) (hn : n ≤ m) (hb : b ≤ c) : ShwE m c x := by
  refine ⟨?_, Nat.le_trans h.le hb⟩
  obtain ⟨j, rfl⟩ := Nat.le.dest hn
  induction j with
  | zero => exact h.ok
  | succ j ih => exact okE_up _ _ (ih (by omega))
theorem okEs_all {n : Nat} : ∀ {xs : List D}, (∀ x, x ∈ xs → okE n x = true) → okEs n xs = true
  | [], _ => rfl
  | x :: xs, h => by simp only [okEs, Bool.and_eq_true]; exact ⟨h x (by simp), okEs_all fun y hy => h y (by simp [hy])⟩
theorem eBs_le {b : Nat} : ∀ {xs : List D}, (∀ x, x ∈ xs → eB x ≤ b) → eBs xs ≤ xs.length * (b + 2)
  | [], _ => by simp [eBs]
  | x :: xs, h => by
    have h1 := h x (by simp)
    have h2 := eBs_le (xs := xs) fun y hy => h y (by simp [hy])
    simp only [eBs, List.length_cons, Nat.succ_mul]
    omega
theorem ShwE.lst {n b m : Nat} {xs : List D} (h : ∀ x, x ∈ xs → ShwE n b x) (hm : xs.length ≤ m) : ShwE (n + 1) (m * (b + 2) + 3) (.lst xs) :=
  ⟨okEs_all fun x hx => (h x hx).ok, by
    have := eBs_le (xs := xs) fun x hx => (h x hx).le
    have := Nat.mul_le_mul_right (b + 2) hm
    show eBs xs + 3 ≤ _
    omega⟩
theorem ShwE.tup {n b m : Nat} {xs : List D} (h : ∀ x, x ∈ xs → ShwE n b x) (hm : xs.length ≤ m) : ShwE (n + 1) (m * (b + 2) + 3) (.tup xs) :=
  ⟨okEs_all fun x hx => (h x hx).ok, by
    have := eBs_le (xs := xs) fun x hx => (h x hx).le
    have := Nat.mul_le_mul_right (b + 2) hm
    show eBs xs + 3 ≤ _
    omega⟩
section
variable {X : Cx} {mu : List MO} {Φ : DK}
theorem cf_reprE {x : D} {b : Nat} (hg : X.A.guards = some []) (hu : X.A.units + 64 < cLine) (hx : ShwE 60 b (rdD mu x)) (hb : b ≤ sizeLine) (h : Φ (.str (shE (rdD mu x))) mu) : WCf X (.builtin "repr") [x] mu Φ := .mk fun R F as H vs Q hs r k => by
  obtain ⟨v, rfl, r1⟩ := r.one
  obtain ⟨p1, p2, p3⟩ := E_ok _ _ hx.ok
  exact SCf.by (call_reprQ hg) ⟨v, _, rfl, (hs.view r1).dq hs hx.ok, p1, Nat.le_trans p2 (Nat.le_trans hx.le hb), by omega, k.now hs h rfl⟩
end
end DL
namespace DL
open PySem PySem.Spec PyProof.Rows L2 RZ PySem.Calls
section
variable {prog : Program} {w : World} {A : Around} {E : Value → Shared → Prop} {s : Shared} {T : String} {r d : Addr} {n : Nat} {P : Nat → Value → Prop} {OK : Heap → Prop} {Q : Value → Shared → Prop}
end
section
variable {X : Cx} {e o : Expr} {dl : List Sl} {mu : List MO} {Φ : DK} {ε : XP} {pos p p2 apos cpos : Pos} {x : Str}
theorem RpK.ints {K : PySem.W.Frag} {F : Hp} {as : List Addr} : ∀ {kvs : List (Key × D)} {ns : List Int} {ws : List (Key × V)}, kvs.map (·.2) = ns.map D.int → RpK K F as kvs ws → ws.map (·.2) = ns.map V.int
  | [], [], _, _, r => by cases r; rfl
  | [], _ :: _, _, e, _ => by cases e
  | _ :: _, [], _, e, _ => by cases e
  | (k, x) :: kvs, n :: ns, _, e, ⟨v, r, h1, h2, h3⟩ => by
    subst h1
    rw [List.map_cons, List.map_cons] at e
    injection e with e1 e2
    have e1 : x = .int n := e1
    subst e1
    have h2 : v = .int n := h2
    rw [List.map_cons, List.map_cons, RpK.ints e2 h3, h2]
end
theorem Hall.Few.roomsN {h : Hall} (f : h.Few) : h.rooms.Nodup := by
  have nd := f.names.1
  unfold Hall.names at nd
  rw [List.append_assoc, List.append_assoc] at nd
  exact (List.nodup_append.mp nd).1
end DL
namespace DL
open PySem PySem.Spec PyProof.Rows L2 RZ PySem.Calls
mutual
theorem okE.own : ∀ (k n : Nat) (d : D), okE n d = true → ownLt k d = true
  | _, _, .non, _ => rfl
  | _, _, .bl _, _ => rfl
  | _, _, .int _, _ => rfl
  | _, _, .str x, h => rfl
  | _, 0, .lst _, h => by simp [okE] at h
  | _, 0, .tup _, h => by simp [okE] at h
  | _, 0, .dct _, h => by simp [okE] at h
  | k, n + 1, .lst xs, h => by simp only [okE] at h; simp only [ownLt]; exact okEs.own k n xs h
  | k, n + 1, .tup xs, h => by simp only [okE] at h; simp only [ownLt]; exact okEs.own k n xs h
  | k, n + 1, .dct xs, h => by simp only [okE] at h; simp only [ownLt]; exact okEk.own k n xs h
  | _, _, .obj _ _, h => by simp [okE] at h
  | _, _, .own _, h => by simp [okE] at h
  | _, _, .val _, h => by simp [okE] at h
  | _, _, .scr _, h => by simp [okE] at h
  | _, _, .exn _ _, h => by simp [okE] at h
theorem okEs.own : ∀ (k n : Nat) (ds : List D), okEs n ds = true → ownLts k ds = true
  | _, _, [], _ => rfl
  | k, n, x :: xs, h => by
    simp only [okEs, Bool.and_eq_true] at h
    simp only [ownLts, okE.own k n x h.1, okEs.own k n xs h.2, Bool.and_self]
theorem okEk.own : ∀ (k n : Nat) (ds : List (Key × D)), okEk n ds = true → ownLtK k ds = true
  | _, _, [], _ => rfl
  | k, n, (q, x) :: xs, h => by
    simp only [okEk, Bool.and_eq_true] at h
    simp only [ownLtK, okE.own k n x h.1.2, okEk.own k n xs h.2, Bool.and_self]
end
theorem okE.rd {n : Nat} {d : D} {mu : List MO} (h : okE n d = true) : rdD mu d = d := by
  cases d with
  | own k => simp [okE] at h
  | _ => rfl
def isStr : D → Bool
  | .str _ => true
  | _ => false
theorem okE.ty {n : Nat} {d : D} (h : okE n d = true) : tyX d ≠ "" ∧ kitB (tyX d) "str" = some (isStr d) := by
  cases d with
  | non => exact ⟨by show ("NoneType" : String) ≠ ""; decide, rfl⟩
  | bl _ => exact ⟨by show ("bool" : String) ≠ ""; decide, rfl⟩
  | int _ => exact ⟨by show ("int" : String) ≠ ""; decide, rfl⟩
  | str _ => exact ⟨by show ("str" : String) ≠ ""; decide, rfl⟩
  | lst _ => exact ⟨by show ("list" : String) ≠ ""; decide, rfl⟩
  | tup _ => exact ⟨by show ("tuple" : String) ≠ ""; decide, rfl⟩
  | dct _ => exact ⟨by show ("dict" : String) ≠ ""; decide, rfl⟩
  | _ => simp [okE] at h
end DL
namespace DL
open PySem PySem.Spec PyProof.Rows L2 RZ PySem.Calls
def SKw (X : Cx) (kws : List Keyword) : TA := fun σ H Q => ∀ (pos : Pos) pins s, Inv X pins σ H s → wpAny (model X.prog X.w) X.A (evalAll ((backToKw pos (keywordEach kws X.env)).map (·.2))) (AP X pins σ Q) X.xe s
theorem SKw.pk {X : Cx} {kws : List Keyword} : PK X kws (SKw X kws) := ⟨fun pos pins s _ _ _ I h => h pos pins s I⟩
theorem SKw.by {X : Cx} {kws : List Keyword} {t : TA} (h : PK X kws t) {σ : L2.St} {H : Hp} {Q : List V → Hp → Prop} (q : t σ H Q) : SKw X kws σ H Q := fun pos pins s I => h.run pos pins s σ H Q I q
structure WK (X : Cx) (kws : List Keyword) (dl : List Sl) (mu : List MO) (Φ : List D → List MO → Prop) (ε : XP) : Prop where
  run : ∀ W R F as σ H Q, Takes X W → Hs X.K R F as mu H → At X.K F as dl σ → KontA X.K R F as Φ Q → KontX X.K R F as ε (fun c d H => W c d σ H) → SKw X kws σ H Q
section
variable {X : Cx} {e : Expr} {es : List Expr} {kws : List Keyword} {dl : List Sl} {mu : List MO} {ε : XP} {pos p kpos : Pos} {x : Str} {nm : Option Str}
theorem WK.then {ψ : List D → List MO → Prop} {t : List V → Hp → Prop} {W : WX} {R F : Hp} {as : List Addr} {σ : L2.St} {H : Hp} (h : WK X kws dl mu ψ ε) (tk : Takes X W) (hs : Hs X.K R F as mu H) (ha : At X.K F as dl σ) (kx : KontX X.K R F as ε (fun c d H => W c d σ H))
    (q : ∀ v x m F' as' H', ψ x m → Er F F' → as <+: as' → Hs X.K R F' as' m H' → At X.K F' as' dl σ → RpL X.K F' as' x v → KontX X.K R F' as' ε (fun c d H => W c d σ H) → t v H') : SKw X kws σ H t :=
  h.run W R F as σ H t tk hs ha (fun v x m F' as' H' p e1 e2 hs' r => q v x m F' as' H' p e1 e2 hs' (ha.mono e1 e2) r (kx.go e1 e2)) kx
end
def kwG {α : Type} (src : List (Bool × Nat)) (us mv ws : List α) : List α := us ++ src.filterMap fun p => if p.1 then ws[p.2]? else mv[p.2]?
theorem vals_get {vs : List V} {us : List Value} (h : Vals vs us) (i : Nat) : (vs[i]? = none ∧ us[i]? = none) ∨ ∃ v u, vs[i]? = some v ∧ us[i]? = some u ∧ RelV v u := by
  have hl := h.length
  by_cases hi : i < vs.length
  · obtain ⟨u, e1, e2⟩ := paired_get h (List.getElem?_eq_getElem hi)
    exact .inr ⟨_, u, List.getElem?_eq_getElem hi, e1, e2⟩
  · exact .inl ⟨List.getElem?_eq_none_iff.mpr (by omega), List.getElem?_eq_none_iff.mpr (by omega)⟩
theorem kwG_vals {src : List (Bool × Nat)} {vs mz zs : List V} {us mv ws : List Value} (h1 : Vals vs us) (h2 : Vals mz mv) (h3 : Vals zs ws) : Vals (kwG src vs mz zs) (kwG src us mv ws) := by
  refine h1.append ?_
  induction src with
  | nil => exact .nil
  | cons p r ih =>
    obtain ⟨b, i⟩ := p
    have one : ((if b then zs[i]? else mz[i]?) = none ∧ (if b then ws[i]? else mv[i]?) = none) ∨ ∃ v u, (if b then zs[i]? else mz[i]?) = some v ∧ (if b then ws[i]? else mv[i]?) = some u ∧ RelV v u := by
      cases b with
      | true => exact vals_get h3 i
      | false => exact vals_get h2 i
    rcases one with ⟨e1, e2⟩ | ⟨v, u, e1, e2, r1⟩
    · rw [List.filterMap_cons_none (by exact e1), List.filterMap_cons_none (by exact e2)]; exact ih
    · rw [List.filterMap_cons_some (by exact e1), List.filterMap_cons_some (by exact e2)]; exact .cons r1 ih
structure CalKw (P : Program) (w : World) (K : PySem.W.Frag) (mg : Str → Option Value) (base : Heap) (x : Str) (k n : Nat) (ks : List Str) (src : List (Bool × Nat)) (ds : List D) (S : Sp) : Prop where
  ex : ∃ (f : Addr) (fd : FuncData) (ps : List Str) (mz : List V) (mv : List Value), mg x = some (.ref f) ∧ PySem.W.keepIn K (.ref f) = true ∧ FnG P w K mg base k f fd ps S ∧ KBn K fd ps n ks (fun us ws => kwG src us mv ws) (fun vs zs => kwG src vs mz zs) ∧ ∀ F as, RpL K F as ds mz
theorem CalKw.up {P : Program} {w : World} {K : PySem.W.Frag} {mg : Str → Option Value} {base : Heap} {x : Str} {k n : Nat} {ks : List Str} {src : List (Bool × Nat)} {ds : List D} {S : Sp} (c : CalKw P w K mg base x k n ks src ds S) {j : Nat} (h : k ≤ j) : CalKw P w K mg base x j n ks src ds S := by
  obtain ⟨f, fd, ps, mz, mv, h1, h2, h3, h4⟩ := c.ex
  exact ⟨f, fd, ps, mz, mv, h1, h2, h3.up h, h4⟩
section
variable {X : Cx} {e : Expr} {es : List Expr} {kws : List Keyword} {dl : List Sl} {mu : List MO} {ε : XP} {pos p : Pos} {x : Str} {n : Nat} {ks : List Str} {src : List (Bool × Nat)} {ds : List D}
theorem RpL.len2 {K : PySem.W.Frag} {F : Hp} {as : List Addr} {xs : List D} {vs : List V} (h : RpL K F as xs vs) {n : Nat} (e : xs.length = n) : vs.length = n := by rw [← h.len]; exact e
end
section
variable {P : Program} {w : World} {K : PySem.W.Frag} {mg : Str → Option Value} {base : Heap} {x qual : Str} {st : Stmt} {kws : List (Str × V)} {f : Addr} {fd : FuncData} {ps : List Str}
theorem fun_of (F : FunD K x qual (defArgs st) (defBody st) (defScope st) [] kws f fd) : Fun K x qual st f fd := by
  obtain ⟨oc, od, dV, kV, doc, pm, an, cdv, ct, osl, h1, h2, h3, hD, _⟩ := F.ex
  rcases hD with ⟨_, rfl⟩ | ⟨e, _⟩
  · exact ⟨⟨oc, od, kV, doc, pm, an, cdv, ct, osl, h1, h2, h3⟩, F.kp⟩
  · exact absurd rfl e
abbrev BindK (x qual : Str) (st : Stmt) (ps : List Str) (n : Nat) (ks ms : List Str) (src : List (Bool × Nat)) : Prop := ∀ (D : Addr) (doc pm : Value) (an : Option Addr) (cdv ct : Value) (us mv ws : List Value), us.length = n → mv.length = ms.length → ws.length = ks.length →
  KwChain D (ms.zip mv) (bindArgs (PySem.W.fnOf x qual (defArgs st) (defBody st) (defScope st) .none (.ref D) doc pm an cdv ct) ⟨us, ks.zip ws⟩) (ps.zip (kwG src us mv ws))
theorem kbn_of (F : FunD K x qual (defArgs st) (defBody st) (defScope st) [] kws f fd) (n : Nat) (ks : List Str) (ms : List (Str × V)) (src : List (Bool × Nat)) (hk : kws ≠ []) (hms : ∀ q ∈ ms, q ∈ kws) (h : BindK x qual st ps n ks (ms.map (·.1)) src) :
    ∃ mv : List Value, KBn K fd ps n ks (fun us ws => kwG src us mv ws) (fun vs zs => kwG src vs (ms.map (·.2)) zs) := by
  obtain ⟨oc, od, dV, kV, doc, pm, an, cdv, ct, osl, rfl, lk, hcd, hD, hK⟩ := F.ex
  rcases hD with ⟨_, rfl⟩ | ⟨e, _⟩
  · rcases hK with e | ⟨D, rfl, hq⟩
    · exact absurd e hk
    · obtain ⟨mv, hl, rk, hks⟩ := kwd_vals (ms := ms) fun q hm => hq q (hms q hm)
      refine ⟨mv, ⟨fun s us ws X l1 l2 => ?_, fun r1 r2 => kwG_vals r1 rk r2⟩⟩
      exact BindsTo.of_looks fun M => KwChain.looks X hks (h D doc pm an cdv ct us mv ws l1 (by rw [hl, List.length_map]) l2)
  · exact absurd rfl e
structure DnK (K : PySem.W.Frag) (mg : Str → Option Value) (x : Str) (st : Stmt) (kws : List (Str × V)) : Prop where
  ex : ∃ (f : Addr) (fd : FuncData), mg x = some (.ref f) ∧ FunD K x x (defArgs st) (defBody st) (defScope st) [] kws f fd
theorem DnK.cal {k : Nat} {S : Sp} (d : DnK K mg x st kws) (h : ∀ f fd, Fun K x x st f fd → FnG P w K mg base k f fd ps S) (n : Nat) (ks : List Str) (ms : List (Str × V)) (src : List (Bool × Nat)) (ds : List D) (hk : kws ≠ []) (hms : ∀ q ∈ ms, q ∈ kws) (hds : ∀ F as, RpL K F as ds (ms.map (·.2))) (hb : BindK x x st ps n ks (ms.map (·.1)) src) : CalKw P w K mg base x k n ks src ds S := by
  obtain ⟨f, fd, hm, F⟩ := d.ex
  obtain ⟨mv, kb⟩ := kbn_of (ps := ps) F n ks ms src hk hms hb
  exact ⟨f, fd, ps, _, mv, hm, F.kp, h f fd (fun_of F), kb, hds⟩
theorem DnK.cal0 {k : Nat} {S : Sp} (d : DnK K mg x st kws) (h : ∀ f fd, Fun K x x st f fd → FnG P w K mg base k f fd ps S) (n : Nat) (hk : kws ≠ []) (hn : n + kws.length = ps.length)
    (hb : ∀ (D : Addr) (doc pm : Value) (an : Option Addr) (cdv ct : Value) (us ks : List Value), us.length = n → ks.length = kws.length →
      KwChain D ((kws.map (·.1)).zip ks) (bindArgs (PySem.W.fnOf x x (defArgs st) (defBody st) (defScope st) .none (.ref D) doc pm an cdv ct) ⟨us, []⟩) (ps.zip (us ++ ks))) :
    ∃ (f : Addr) (fd : FuncData) (ds : List Value), mg x = some (.ref f) ∧ PySem.W.keepIn K (.ref f) = true ∧ FnG P w K mg base k f fd ps S ∧ Binds K fd ps ds ∧ Vals (kws.map (·.2)) ds := by
  obtain ⟨f, fd, hm, F⟩ := d.ex
  obtain ⟨ds, r, b⟩ := F.binds0 n hk hn hb
  exact ⟨f, fd, ds, hm, F.kp, h f fd (fun_of F), b, r⟩
theorem DnK.cal0P {k : Nat} {sp : SpD} (d : DnK K mg x st kws) (h : ∀ f fd, Fun K x x st f fd → FnG P w K mg base k f fd ps (conc K sp)) (n : Nat) (dd : List D) (hdd : ∀ F as, RpL K F as dd (kws.map (·.2))) (hk : kws ≠ []) (hn : n + kws.length = ps.length)
    (hb : ∀ (D : Addr) (doc pm : Value) (an : Option Addr) (cdv ct : Value) (us ks : List Value), us.length = n → ks.length = kws.length →
      KwChain D ((kws.map (·.1)).zip ks) (bindArgs (PySem.W.fnOf x x (defArgs st) (defBody st) (defScope st) .none (.ref D) doc pm an cdv ct) ⟨us, []⟩) (ps.zip (us ++ ks))) : Cal P w K mg base x k dd sp := by
  obtain ⟨f, fd, ds, h1, h2, h3, h4, h5⟩ := d.cal0 h n hk hn hb
  exact ⟨f, fd, ps, ds, _, h1, h2, h3, h4, h5, hdd⟩
theorem DnK.cal0O {k : Nat} {sp : SpO} (d : DnK K mg x st kws) (h : ∀ f fd, Fun K x x st f fd → FnG P w K mg base k f fd ps (concO K sp)) (n : Nat) (dd : List D) (hdd : ∀ F as, RpL K F as dd (kws.map (·.2))) (hk : kws ≠ []) (hn : n + kws.length = ps.length)
    (hb : ∀ (D : Addr) (doc pm : Value) (an : Option Addr) (cdv ct : Value) (us ks : List Value), us.length = n → ks.length = kws.length →
      KwChain D ((kws.map (·.1)).zip ks) (bindArgs (PySem.W.fnOf x x (defArgs st) (defBody st) (defScope st) .none (.ref D) doc pm an cdv ct) ⟨us, []⟩) (ps.zip (us ++ ks))) : CalO P w K mg base x k dd sp := by
  obtain ⟨f, fd, ds, h1, h2, h3, h4, h5⟩ := d.cal0 h n hk hn hb
  exact ⟨f, fd, ps, ds, _, h1, h2, h3, h4, h5, hdd⟩
end
end DL
namespace DL
open PySem PySem.Spec PyProof.Rows L2 RZ PySem.Calls
end DL
namespace DL
open PySem PySem.Spec PyProof.Rows L2 RZ PySem.Calls
theorem sok_iff {x : Str} : PyData.strOk x = true ↔ ∀ c ∈ x.cps.toList, c < 0x110000 := by
  unfold PyData.strOk
  rw [← Array.all_toList, List.all_eq_true]
  constructor
  · intro h c hc; simpa using h c hc
  · intro h c hc; simpa using h c hc
theorem char_ok (c : Char) : c.toNat < 0x110000 := by
  have h := c.valid
  have : c.val.toNat.isValidChar := h
  show c.val.toNat < 0x110000
  rcases this with h | h <;> omega
theorem sok_string (s : String) : PyData.strOk (Str.ofString s) = true := by
  rw [sok_iff, Str.ofString_eq_toList]
  intro c hc
  obtain ⟨a, _, rfl⟩ := List.mem_map.mp hc
  exact char_ok a
theorem sok_app {x y : Str} (h1 : PyData.strOk x = true) (h2 : PyData.strOk y = true) : PyData.strOk (x ++ y) = true := by
  rw [sok_iff] at h1 h2 ⊢
  intro c hc
  have : c ∈ x.cps.toList ++ y.cps.toList := by
    have e : (x ++ y).cps = x.cps ++ y.cps := rfl
    rw [e, Array.toList_append] at hc
    exact hc
  rcases List.mem_append.mp this with h | h
  · exact h1 c h
  · exact h2 c h
theorem sok_reprChar {q c : Nat} (hq : q < 0x110000) (hc : c < 0x110000) : ∀ d ∈ Builtin.Str.reprChar q c, d < 0x110000 := by
  have hx : ∀ (w : Nat) (d : Nat), d ∈ (List.replicate (w - ((Nat.toDigits 16 c).map Char.toNat).length) 48 ++ (Nat.toDigits 16 c).map Char.toNat) → d < 0x110000 := by
    intro w d hd
    rcases List.mem_append.mp hd with h | h
    · rw [(List.mem_replicate.mp h).2]; omega
    · obtain ⟨a, _, rfl⟩ := List.mem_map.mp h
      exact char_ok a
  intro d hd
  unfold Builtin.Str.reprChar at hd
  dsimp only at hd
  repeat' split at hd
  all_goals first
    | (simp only [List.mem_cons, List.not_mem_nil, or_false] at hd; omega)
    | (rcases List.mem_append.mp hd with h | h
       · simp only [List.mem_cons, List.not_mem_nil, or_false] at h; omega
       · exact hx _ d h)
theorem sok_foldl {q : Nat} (hq : q < 0x110000) : ∀ (l : List Nat) (acc : Array Nat), (∀ c ∈ l, c < 0x110000) → (∀ c ∈ acc.toList, c < 0x110000) → ∀ c ∈ (l.foldl (fun out c => out ++ (Builtin.Str.reprChar q c).toArray) acc).toList, c < 0x110000
  | [], acc, _, h => h
  | c :: r, acc, h1, h2 => by
    refine sok_foldl hq r _ (fun d hd => h1 d (List.mem_cons_of_mem _ hd)) fun d hd => ?_
    rw [Array.toList_append] at hd
    rcases List.mem_append.mp hd with hd | hd
    · exact h2 d hd
    · exact sok_reprChar hq (h1 c List.mem_cons_self) d hd
theorem sok_repr {x : Str} (h : PyData.strOk x = true) : PyData.strOk (reprText x) = true := by
  have hq : reprQuote x < 0x110000 := by unfold reprQuote; split <;> decide
  rw [sok_iff] at h ⊢
  intro c hc
  unfold reprText at hc
  rw [Array.toList_push, ← Array.foldl_toList] at hc
  rcases List.mem_append.mp hc with hc | hc
  · exact sok_foldl hq _ _ h (fun d hd => by simp at hd; omega) c hc
  · simp at hc; omega
theorem sok_join {s : Str} (hs : PyData.strOk s = true) : ∀ {l : List Str}, (∀ x ∈ l, PyData.strOk x = true) → PyData.strOk (Str.join s l) = true
  | [], _ => by show PyData.strOk Str.empty = true; decide +kernel
  | [x], h => h x (by simp)
  | x :: y :: r, h => by
    show PyData.strOk (x ++ s ++ Str.join s (y :: r)) = true
    exact sok_app (sok_app (h x (by simp)) hs) (sok_join hs fun z hz => h z (List.mem_cons_of_mem _ hz))
theorem sok_from : ∀ {l : List Str} {k : Nat} {acc : Str}, PyData.strOk acc = true → (∀ x ∈ l, PyData.strOk x = true) → PyData.strOk (textFrom k acc l) = true
  | [], _, _, h, _ => h
  | x :: r, k, acc, h, h2 => by
    unfold textFrom
    exact sok_from (sok_app (sok_app h (sok_string _)) (h2 x (by simp))) fun z hz => h2 z (List.mem_cons_of_mem _ hz)
theorem sok_key {k : Key} (h : okKey k = true) : PyData.strOk (pyKey k).shown = true := by
  cases k with
  | inl i => exact sok_string _
  | inr x => exact sok_repr h
mutual
theorem sokE : ∀ (n : Nat) (d : D), okE n d = true → PyData.strOk (pyE d).shown = true
  | _, .non, _ => sok_string _
  | _, .bl b, _ => by cases b <;> exact sok_string _
  | _, .int i, _ => sok_string _
  | _, .str x, h => sok_repr (by simpa [okE] using h)
  | 0, .lst _, h => by simp [okE] at h
  | 0, .tup _, h => by simp [okE] at h
  | 0, .dct _, h => by simp [okE] at h
  | n + 1, .lst xs, h => by
    have q := sokEs n xs (by simpa [okE] using h)
    show PyData.strOk (textFrom 0 "[" (PyData.shownAll (pyEs xs)) ++ "]") = true
    exact sok_app (sok_from (sok_string _) q) (sok_string _)
  | n + 1, .tup xs, h => by
    have q := sokEs n xs (by simpa [okE] using h)
    show PyData.strOk (("(" : Str) ++ Str.join ", " (PyData.shownAll (pyEs xs)) ++ (if (PyData.shownAll (pyEs xs)).length == 1 then ",)" else ")" : String)) = true
    exact sok_app (sok_app (sok_string _) (sok_join (sok_string _) q)) (sok_string _)
  | n + 1, .dct xs, h => by
    have q := sokEk n xs (by simpa [okE] using h)
    show PyData.strOk (("{" : Str) ++ Str.join ", " (PyData.shownKv (pyEk xs)) ++ "}") = true
    exact sok_app (sok_app (sok_string _) (sok_join (sok_string _) q)) (sok_string _)
  | _, .obj _ _, h => by simp [okE] at h
  | _, .own _, h => by simp [okE] at h
  | _, .val _, h => by simp [okE] at h
  | _, .scr _, h => by simp [okE] at h
  | _, .exn _ _, h => by simp [okE] at h
theorem sokEs : ∀ (n : Nat) (ds : List D), okEs n ds = true → ∀ x ∈ PyData.shownAll (pyEs ds), PyData.strOk x = true
  | _, [], _, _, h => by cases h
  | n, d :: ds, h, x, hx => by
    simp only [okEs, Bool.and_eq_true] at h
    rcases List.mem_cons.mp (show x ∈ (pyE d).shown :: PyData.shownAll (pyEs ds) from hx) with rfl | hx
    · exact sokE n d h.1
    · exact sokEs n ds h.2 x hx
theorem sokEk : ∀ (n : Nat) (ds : List (Key × D)), okEk n ds = true → ∀ x ∈ PyData.shownKv (pyEk ds), PyData.strOk x = true
  | _, [], _, _, h => by cases h
  | n, (k, d) :: ds, h, x, hx => by
    simp only [okEk, Bool.and_eq_true] at h
    rcases List.mem_cons.mp (show x ∈ ((pyKey k).shown ++ ": " ++ (pyE d).shown) :: PyData.shownKv (pyEk ds) from hx) with rfl | hx
    · exact sok_app (sok_app (sok_key h.1.1) (sok_string _)) (sokE n d h.1.2)
    · exact sokEk n ds h.2 x hx
end
end DL
namespace DL
open PySem PySem.Spec PyProof.Rows L2 RZ PySem.Calls
section
variable {X : Cx} {e ea eb : Expr} {dl : List Sl} {mu : List MO} {ε : XP} {pos p pos2 : Pos}
end
end DL
namespace DL
open PySem PySem.Spec PyProof.Rows L2 RZ PySem.Calls
end DL
namespace DL
open PySem PySem.Spec PyProof.Rows L2 RZ PySem.Calls
def isTup : D → Bool
  | .tup _ => true
  | _ => false
def isIntB : D → Bool
  | .int _ => true
  | .bl _ => true
  | _ => false
def isBl : D → Bool
  | .bl _ => true
  | _ => false
def itT : D → List D
  | .tup xs => xs
  | _ => []
theorem okE.tyT {n : Nat} {d : D} (h : okE n d = true) : kitB (tyX d) "tuple" = some (isTup d) := by
  cases d <;> first | rfl | simp [okE] at h
theorem okE.tyI {n : Nat} {d : D} (h : okE n d = true) : kitB (tyX d) "int" = some (isIntB d) := by
  cases d <;> first | rfl | simp [okE] at h
theorem okE.tyBl {n : Nat} {d : D} (h : okE n d = true) : kitB (tyX d) "bool" = some (isBl d) := by
  cases d <;> first | rfl | simp [okE] at h
theorem isTup_of {d : D} (h : isTup d = true) : ∃ xs, d = .tup xs := by
  cases d with
  | tup xs => exact ⟨xs, rfl⟩
  | _ => cases h
theorem okE_tup {n : Nat} {xs : List D} (h : okE n (.tup xs) = true) : ∃ m, n = m + 1 ∧ okEs m xs = true := by
  cases n with
  | zero => simp [okE] at h
  | succ n => exact ⟨n, rfl, by simpa [okE] using h⟩
theorem okEs_nth {n : Nat} : ∀ {xs : List D}, okEs n xs = true → ∀ x, x ∈ xs → okE n x = true
  | y :: ys, h, x, hx => by
    simp only [okEs, Bool.and_eq_true] at h
    rcases List.mem_cons.mp hx with e | e
    · rw [e]; exact h.1
    · exact okEs_nth h.2 x e
def wholeB : D → Bool
  | .int _ => true
  | _ => false
def fromB (d : D) (a b : Int) : Bool := match d with
  | .int i => decide (a ≤ i) && decide (i ≤ b)
  | _ => false
def anyE (d : D) : Prop := okE 50 d = true ∨ ∃ i : Int, d = .int i
theorem anyE.rd {d : D} (h : anyE d) {mu : List MO} : rdD mu d = d := by
  rcases h with h | ⟨i, rfl⟩
  · exact okE.rd h
  · rfl
theorem anyE.own {d : D} (h : anyE d) (k : Nat) : ownLt k d = true := by
  rcases h with h | ⟨i, rfl⟩
  · exact okE.own k _ _ h
  · rfl
theorem anyE.ty {d : D} (h : anyE d) : tyX d ≠ "" ∧ kitB (tyX d) "str" = some (isStr d) := by
  rcases h with h | ⟨i, rfl⟩
  · exact okE.ty h
  · exact ⟨by show ("int" : String) ≠ ""; decide, rfl⟩
theorem anyE.tyI {d : D} (h : anyE d) : kitB (tyX d) "int" = some (isIntB d) := by
  rcases h with h | ⟨i, rfl⟩
  · exact okE.tyI h
  · rfl
theorem anyE.tyBl {d : D} (h : anyE d) : kitB (tyX d) "bool" = some (isBl d) := by
  rcases h with h | ⟨i, rfl⟩
  · exact okE.tyBl h
  · rfl
def sp_is_wholeX : SpD := fun args mu Φ _ => ∃ d : D, args = [d] ∧ mu = [] ∧ anyE d ∧ Φ (.bl (wholeB d)) []
def sp_is_fromX : SpD := fun args mu Φ _ => ∃ (d : D) (a b : Int), args = [d, .int a, .int b] ∧ mu = [] ∧ anyE d ∧ Φ (.bl (fromB d a b)) []
def txtIn (l : List Str) : D → Bool
  | .str x => decide (x ∈ l)
  | _ => false
theorem filt_nil {α : Type} (t : α → Bool) (f : α → D) (l : List α) : ((l.filter t).map f).isEmpty = l.all fun a => !t a := by
  induction l with
  | nil => rfl
  | cons a r ih =>
    rw [List.all_cons, ← ih]
    cases e : t a with
    | true => rw [List.filter_cons_of_pos e]; rfl
    | false => rw [List.filter_cons_of_neg (by rw [e]; decide)]; rfl
theorem nil_cmp {its : List Value} : ((List.range (min its.toArray.size ([] : List Value).toArray.size)).all (fun _ => true) && its.toArray.size == ([] : List Value).toArray.size) = its.isEmpty := by
  cases its with
  | nil => rfl
  | cons c r => simp
section
variable {X : Cx} {mu : List MO} {Φ : DK}
theorem vals_empty {xs : List V} {its : List Value} (h : Vals xs its) : its.isEmpty = xs.isEmpty := by
  have := h.length
  cases xs <;> cases its <;> first | rfl | simp at this
theorem op_eq_nil (hu : X.A.units + 65 < cLine) : OpR X (compareOp .Eq) (fun x y H Q => ∃ a b xs, x = V.ref a ∧ y = V.ref b ∧ SqT X.K H a xs ∧ SqT X.K H b [] ∧ Q (.bl xs.isEmpty) H) := by
  intro pins s σ H x y v u Q I rx ry h
  obtain ⟨a, b, xs, rfl, rfl, h1, h2, q⟩ := h
  obtain rfl : v = Value.ref a := rx
  obtain rfl : u = Value.ref b := ry
  obtain ⟨its, rv, t1, z1⟩ := I.tuple h1
  obtain ⟨its2, rv2, t2, z2⟩ := I.tuple h2
  cases rv2
  refine SeqAt.eq_tupleAt (e := fun _ => true) t1 t2 (by omega) (fun j g1 g2 => absurd g2 (by simp)) ⟨.bl xs.isEmpty, H, I, ?_, q⟩
  rw [nil_cmp, vals_empty rv]; rfl
theorem wop_eqNil {x : D} {xs : List D} (hu : X.A.units + 65 < cLine) (hx : rdD mu x = .tup xs) (h : Φ (.bl xs.isEmpty) mu) : WOp X (compareOp .Eq) x (.tup []) mu Φ := .mk fun R F as H v w Q hs r1 r2 k => by
  rw [hx] at r1
  obtain ⟨a, vs, rfl, h1, h2⟩ := r1
  obtain ⟨b, ws, rfl, g1, g2⟩ := r2
  cases g2
  have e : vs.isEmpty = xs.isEmpty := by
    have := h2.len
    cases vs <;> cases xs <;> first | rfl | simp at this
  exact SO.by (op_eq_nil hu) ⟨a, b, vs, rfl, rfl, (hs.er.tup h1).sqT, (hs.er.tup g1).sqT, by rw [e]; exact k.now hs h rfl⟩
theorem op_ne_nil (hu : X.A.units + 65 < cLine) : OpR X (compareOp .NotEq) (fun x y H Q => ∃ a b xs, x = V.ref a ∧ y = V.ref b ∧ SqT X.K H a xs ∧ SqT X.K H b [] ∧ Q (.bl (!xs.isEmpty)) H) := by
  intro pins s σ H x y v u Q I rx ry h
  obtain ⟨a, b, xs, rfl, rfl, h1, h2, q⟩ := h
  obtain rfl : v = Value.ref a := rx
  obtain rfl : u = Value.ref b := ry
  obtain ⟨its, rv, t1, z1⟩ := I.tuple h1
  obtain ⟨its2, rv2, t2, z2⟩ := I.tuple h2
  cases rv2
  refine SeqAt.RcNeAt.tuples (e := fun _ => true) t1 t2 (by omega) (fun j g1 g2 => absurd g2 (by simp)) _ _ _ _ ⟨.bl (!xs.isEmpty), H, I, ?_, q⟩
  rw [nil_cmp, vals_empty rv]; rfl
theorem wop_neNil {x : D} {xs : List D} (hu : X.A.units + 65 < cLine) (hx : rdD mu x = .tup xs) (h : Φ (.bl (!xs.isEmpty)) mu) : WOp X (compareOp .NotEq) x (.tup []) mu Φ := .mk fun R F as H v w Q hs r1 r2 k => by
  rw [hx] at r1
  obtain ⟨a, vs, rfl, h1, h2⟩ := r1
  obtain ⟨b, ws, rfl, g1, g2⟩ := r2
  cases g2
  have e : vs.isEmpty = xs.isEmpty := by
    have := h2.len
    cases vs <;> cases xs <;> first | rfl | simp at this
  exact SO.by (op_ne_nil hu) ⟨a, b, vs, rfl, rfl, (hs.er.tup h1).sqT, (hs.er.tup g1).sqT, by rw [e]; exact k.now hs h rfl⟩
theorem op_eqL_nil (hu : X.A.units + 65 < cLine) : OpR X (compareOp .Eq) (fun x y H Q => ∃ a b xs, x = V.ref a ∧ y = V.ref b ∧ SqL X.K H a xs ∧ SqL X.K H b [] ∧ Q (.bl xs.isEmpty) H) := by
  intro pins s σ H x y v u Q I rx ry h
  obtain ⟨a, b, xs, rfl, rfl, h1, h2, q⟩ := h
  obtain rfl : v = Value.ref a := rx
  obtain rfl : u = Value.ref b := ry
  obtain ⟨its, rv, t1, z1⟩ := I.list h1
  obtain ⟨its2, rv2, t2, z2⟩ := I.list h2
  cases rv2
  have ve := vals_empty rv
  cases its with
  | nil =>
    refine SeqAt.eq_listAt (e := fun _ => true) t1.isList t2.isList rfl (by omega) (fun j g1 g2 => absurd g2 (by simp)) ⟨.bl xs.isEmpty, H, I, ?_, q⟩
    rw [← ve]; rfl
  | cons c r =>
    refine SeqAt.eq_list_lengthsAt t1.isList t2.isList (by simp) (by omega) ⟨.bl xs.isEmpty, H, I, ?_, q⟩
    rw [← ve]; rfl
theorem wop_eqNilL {x : D} {xs : List D} (hu : X.A.units + 65 < cLine) (hx : rdD mu x = .lst xs) (h : Φ (.bl xs.isEmpty) mu) : WOp X (compareOp .Eq) x (.lst []) mu Φ := .mk fun R F as H v w Q hs r1 r2 k => by
  rw [hx] at r1
  obtain ⟨a, vs, rfl, h1, h2⟩ := r1
  obtain ⟨b, ws, rfl, g1, g2⟩ := r2
  cases g2
  have e : vs.isEmpty = xs.isEmpty := by
    have := h2.len
    cases vs <;> cases xs <;> first | rfl | simp at this
  exact SO.by (op_eqL_nil hu) ⟨a, b, vs, rfl, rfl, .inl (.inl h1), .inl (.inl g1), by rw [e]; exact k.now hs h rfl⟩
theorem op_neL_nil (hu : X.A.units + 65 < cLine) : OpR X (compareOp .NotEq) (fun x y H Q => ∃ a b xs, x = V.ref a ∧ y = V.ref b ∧ SqL X.K H a xs ∧ SqL X.K H b [] ∧ Q (.bl (!xs.isEmpty)) H) := by
  intro pins s σ H x y v u Q I rx ry h
  obtain ⟨a, b, xs, rfl, rfl, h1, h2, q⟩ := h
  obtain rfl : v = Value.ref a := rx
  obtain rfl : u = Value.ref b := ry
  obtain ⟨its, rv, t1, z1⟩ := I.list h1
  obtain ⟨its2, rv2, t2, z2⟩ := I.list h2
  cases rv2
  have ve := vals_empty rv
  cases its with
  | nil =>
    refine SeqAt.RcNeAt.lists (e := fun _ => true) t1.isList t2.isList rfl (by omega) (fun j g1 g2 => absurd g2 (by simp)) _ _ _ _ ⟨.bl (!xs.isEmpty), H, I, ?_, q⟩
    rw [← ve]; rfl
  | cons c r =>
    refine SeqAt.RcNeAt.lists_lengths t1.isList t2.isList (by simp) (by omega) _ _ _ _ ⟨.bl (!xs.isEmpty), H, I, ?_, q⟩
    rw [← ve]; rfl
theorem wop_neNilL {x : D} {xs : List D} (hu : X.A.units + 65 < cLine) (hx : rdD mu x = .lst xs) (h : Φ (.bl (!xs.isEmpty)) mu) : WOp X (compareOp .NotEq) x (.lst []) mu Φ := .mk fun R F as H v w Q hs r1 r2 k => by
  rw [hx] at r1
  obtain ⟨a, vs, rfl, h1, h2⟩ := r1
  obtain ⟨b, ws, rfl, g1, g2⟩ := r2
  cases g2
  have e : vs.isEmpty = xs.isEmpty := by
    have := h2.len
    cases vs <;> cases xs <;> first | rfl | simp at this
  exact SO.by (op_neL_nil hu) ⟨a, b, vs, rfl, rfl, .inl (.inl h1), .inl (.inl g1), by rw [e]; exact k.now hs h rfl⟩
end
theorem okE_le {n m : Nat} {d : D} (h : okE n d = true) (l : n ≤ m) : okE m d = true := by
  obtain ⟨k, rfl⟩ : ∃ k, m = n + k := ⟨m - n, by omega⟩
  clear l
  induction k with
  | zero => exact h
  | succ k ih => exact okE_up _ _ ih
theorem okEs_app {n : Nat} : ∀ {a b : List D}, okEs n (a ++ b) = (okEs n a && okEs n b)
  | [], b => by simp [okEs]
  | x :: a, b => by simp only [List.cons_append, okEs, okEs_app (a := a), Bool.and_assoc]
theorem eBs_app : ∀ {a b : List D}, eBs (a ++ b) = eBs a + eBs b
  | [], b => by simp [eBs]
  | x :: a, b => by simp only [List.cons_append, eBs, eBs_app (a := a)]; omega
theorem cutL_ok {n : Nat} {xs : List D} (h : okEs n xs = true) (lo hi : Option Int) : okEs n (cutL xs lo hi) = true ∧ eBs (cutL xs lo hi) ≤ eBs xs := by
  unfold cutL
  have h1 : okEs n (xs.take (HT.sIx xs.length 0 lo) ++ xs.drop (HT.sIx xs.length 0 lo)) = true := by rw [List.take_append_drop]; exact h
  have e1 := eBs_app (a := xs.take (HT.sIx xs.length 0 lo)) (b := xs.drop (HT.sIx xs.length 0 lo))
  rw [List.take_append_drop] at e1
  rw [okEs_app, Bool.and_eq_true] at h1
  have h2 : okEs n ((xs.drop (HT.sIx xs.length 0 lo)).take (HT.sIx xs.length xs.length hi - HT.sIx xs.length 0 lo) ++ (xs.drop (HT.sIx xs.length 0 lo)).drop (HT.sIx xs.length xs.length hi - HT.sIx xs.length 0 lo)) = true := by rw [List.take_append_drop]; exact h1.2
  have e2 := eBs_app (a := (xs.drop (HT.sIx xs.length 0 lo)).take (HT.sIx xs.length xs.length hi - HT.sIx xs.length 0 lo)) (b := (xs.drop (HT.sIx xs.length 0 lo)).drop (HT.sIx xs.length xs.length hi - HT.sIx xs.length 0 lo))
  rw [List.take_append_drop] at e2
  rw [okEs_app, Bool.and_eq_true] at h2
  exact ⟨h2.1, by omega⟩
theorem eBs_len : ∀ xs : List D, xs.length ≤ eBs xs
  | [] => Nat.le_refl _
  | x :: xs => by simp only [List.length_cons, eBs]; have := eBs_len xs; omega
theorem eBs_mem {x : D} : ∀ {xs : List D}, x ∈ xs → eB x ≤ eBs xs
  | y :: ys, h => by
    simp only [eBs]
    rcases List.mem_cons.mp h with e | e
    · rw [e]; omega
    · have := eBs_mem e; omega
end DL
namespace DL
open PySem PySem.Spec PyProof.Rows L2 RZ PySem.Calls
mutual
def oddE : Nat → D → Bool
  | _, .non => true
  | _, .bl _ => true
  | _, .int _ => true
  | _, .str x => PyData.strOk x && decide (x.length ≤ 1000000)
  | n + 1, .lst xs => decide (xs.length ≤ 1000000) && oddEs n xs
  | n + 1, .tup xs => decide (xs.length ≤ 1000000) && oddEs n xs
  | _, .dct kvs => kvs.isEmpty
  | _, _ => false
def oddEs : Nat → List D → Bool
  | _, [] => true
  | n, x :: xs => oddE n x && oddEs n xs
end
mutual
theorem oddE.own : ∀ (k n : Nat) (d : D), oddE n d = true → ownLt k d = true
  | _, _, .non, _ => rfl
  | _, _, .bl _, _ => rfl
  | _, _, .int _, _ => rfl
  | _, _, .str x, h => rfl
  | _, 0, .lst _, h => by simp [oddE] at h
  | _, 0, .tup _, h => by simp [oddE] at h
  | k, n + 1, .lst xs, h => by simp only [oddE, Bool.and_eq_true] at h; simp only [ownLt]; exact oddEs.own k n xs h.2
  | k, n + 1, .tup xs, h => by simp only [oddE, Bool.and_eq_true] at h; simp only [ownLt]; exact oddEs.own k n xs h.2
  | _, _, .dct [], h => rfl
  | _, _, .dct (_ :: _), h => by simp [oddE] at h
  | _, _, .obj _ _, h => by simp [oddE] at h
  | _, _, .own _, h => by simp [oddE] at h
  | _, _, .val _, h => by simp [oddE] at h
  | _, _, .scr _, h => by simp [oddE] at h
  | _, _, .exn _ _, h => by simp [oddE] at h
theorem oddEs.own : ∀ (k n : Nat) (ds : List D), oddEs n ds = true → ownLts k ds = true
  | _, _, [], _ => rfl
  | k, n, x :: xs, h => by
    simp only [oddEs, Bool.and_eq_true] at h
    simp only [ownLts, oddE.own k n x h.1, oddEs.own k n xs h.2, Bool.and_self]
end
theorem oddE.rd {n : Nat} {d : D} {mu : List MO} (h : oddE n d = true) : rdD mu d = d := by
  cases d with
  | own k => simp [oddE] at h
  | _ => rfl
theorem oddEs.nth {n : Nat} : ∀ {xs : List D} {k : Nat} {x : D}, oddEs n xs = true → xs[k]? = some x → oddE n x = true
  | [], _, _, _, e => by simp at e
  | y :: ys, 0, x, h, e => by simp at e; subst e; simp only [oddEs, Bool.and_eq_true] at h; exact h.1
  | y :: ys, k + 1, x, h, e => by simp only [oddEs, Bool.and_eq_true] at h; exact oddEs.nth h.2 (by simpa using e)
mutual
theorem oddE_up : ∀ (k : Nat) (x : D), oddE k x = true → oddE (k + 1) x = true
  | _, .non, _ => by simp [oddE]
  | _, .bl _, _ => by simp [oddE]
  | _, .int _, _ => by simp [oddE]
  | _, .str _, h => by simpa [oddE] using h
  | _, .dct _, h => by simpa [oddE] using h
  | 0, .lst _, h => by simp [oddE] at h
  | 0, .tup _, h => by simp [oddE] at h
  | n + 1, .lst xs, h => by simp only [oddE, Bool.and_eq_true] at h ⊢; exact ⟨h.1, oddEs_up n xs h.2⟩
  | n + 1, .tup xs, h => by simp only [oddE, Bool.and_eq_true] at h ⊢; exact ⟨h.1, oddEs_up n xs h.2⟩
  | _, .obj _ _, h => by simp [oddE] at h
  | _, .own _, h => by simp [oddE] at h
  | _, .val _, h => by simp [oddE] at h
  | _, .scr _, h => by simp [oddE] at h
  | _, .exn _ _, h => by simp [oddE] at h
theorem oddEs_up : ∀ (k : Nat) (x : List D), oddEs k x = true → oddEs (k + 1) x = true
  | _, [], _ => rfl
  | k, x :: xs, h => by
    simp only [oddEs, Bool.and_eq_true] at h ⊢
    exact ⟨oddE_up k x h.1, oddEs_up k xs h.2⟩
end
theorem oddE_le {n m : Nat} {d : D} (h : oddE n d = true) (l : n ≤ m) : oddE m d = true := by
  obtain ⟨k, rfl⟩ : ∃ k, m = n + k := ⟨m - n, by omega⟩
  clear l
  induction k with
  | zero => exact h
  | succ k ih => exact oddE_up _ _ ih
theorem oddE.ty {n : Nat} {d : D} (h : oddE n d = true) : tyX d ≠ "" ∧ kitB (tyX d) "str" = some (isStr d) := by
  cases d with
  | non => exact ⟨by show ("NoneType" : String) ≠ ""; decide, rfl⟩
  | bl _ => exact ⟨by show ("bool" : String) ≠ ""; decide, rfl⟩
  | int _ => exact ⟨by show ("int" : String) ≠ ""; decide, rfl⟩
  | str _ => exact ⟨by show ("str" : String) ≠ ""; decide, rfl⟩
  | lst _ => exact ⟨by show ("list" : String) ≠ ""; decide, rfl⟩
  | tup _ => exact ⟨by show ("tuple" : String) ≠ ""; decide, rfl⟩
  | dct _ => exact ⟨by show ("dict" : String) ≠ ""; decide, rfl⟩
  | _ => simp [oddE] at h
end DL
namespace DL
open PySem PySem.Spec PyProof.Rows L2 RZ PySem.Calls HT
section
variable {prog : Program} {w : World} {A : Around} {E : Value → Shared → Prop} {s : Shared}
end
section
variable {X : Cx}
end
section
variable {X : Cx} {e : Expr} {dl : List Sl} {mu : List MO} {ε : XP} {pos p1 p2 p3 : Pos}
end
end DL
namespace DL
open PySem PySem.Spec PyProof.Rows L2 RZ PySem.Calls
section
variable {X : Cx} {mu : List MO} {Φ : DK}
end
section
variable {h : Hall} {s : Stand} {wn rn : Str} {hands : Int} {d : D} {y : Option Str}
theorem AskX.ofE (hd : oddE 50 d = true) : ∃ y, AskX h s wn rn hands d y := by
  cases hb : DL.deedB d with
  | false => exact ⟨_, .form hb⟩
  | true =>
    unfold DL.deedB at hb
    split at hb
    · rename_i w r
      by_cases e : (w == ("wait" : Str)) = true
      · rw [if_pos e] at hb
        have e : w = "wait" := by simpa using e
        cases r with
        | nil => subst e; exact ⟨_, .ask .wait⟩
        | cons a r => cases hb
      · rw [if_neg e, Bool.and_eq_true] at hb
        obtain ⟨h1, h2⟩ := hb
        split at h2
        · rename_i n
          cases n with
          | str n => exact ⟨_, .ask (.deed w n (wordB_iff.mp h1) h2)⟩
          | _ => cases h2
        · cases h2
    · cases hb
end
end DL
namespace DL
open PySem PySem.Spec PyProof.Rows L2 RZ PySem.Calls
theorem ndf_inj {α : Type} {f : α → Str} : ∀ {l : List α}, (l.map f).Nodup → ∀ {x y : α}, x ∈ l → y ∈ l → f x = f y → x = y
  | [], _, _, _, h, _, _ => by cases h
  | z :: l, nd, x, y, hx, hy, e => by
    simp only [List.map_cons, List.nodup_cons] at nd
    rcases List.mem_cons.mp hx with rfl | hx' <;> rcases List.mem_cons.mp hy with rfl | hy'
    · rfl
    · exact absurd (e ▸ List.mem_map_of_mem hy') nd.1
    · exact absurd (e.symm ▸ List.mem_map_of_mem hx') nd.1
    · exact ndf_inj nd.2 hx' hy' e
theorem After.uniq {h : Hall} (f : h.Few) {s : Stand} {wn rn : Str} {hands : Int} {l : List Str} {o o' : Stand} (a : After h s wn rn hands l o) (b : After h s wn rn hands l o') : o = o' := by
  obtain ⟨w, r, rfl⟩ := a.cons
  have fit := f.fit
  cases hg : (w == ("go" : Str)) with
  | true =>
    obtain ⟨d, to, rfl, hd, hf, _, rfl⟩ := a.go_inv hg
    obtain ⟨d2, to2, e, hd2, hf2, _, rfl⟩ := b.go_inv hg
    have e : d.name = d2.name := by injection e
    have := ndf_inj (f := (·.name)) fit.doorsN hd hd2 e
    subst this
    rw [hf] at hf2; cases hf2; rfl
  | false =>
    cases hw : (w == ("wait" : Str)) with
    | true => rw [(a.wait_inv hw).2, (b.wait_inv hw).2]
    | false =>
      obtain ⟨j, y, c, p, pu⟩ := a.put_inv hg hw
      obtain ⟨j2, y2, c2, p2, pu2⟩ := b.put_inv hg hw
      have e : y.1 = y2.1 := by have := pu.r.symm.trans pu2.r; injection this
      have e1 : (h.stones.map (·.1)).idxOf y.1 = j := idx_of fit.stonesN (by rw [List.getElem?_map, pu.stone]; rfl)
      have e2 : (h.stones.map (·.1)).idxOf y2.1 = j2 := idx_of fit.stonesN (by rw [List.getElem?_map, pu2.stone]; rfl)
      have ej : j = j2 := by rw [← e1, e, e2]
      have ep : p = p2 := by
        cases hl : (w == ("lift" : Str)) with
        | true => rw [(pu.lift hl).2.1, (pu2.lift hl).2.1]
        | false => rw [(pu.lay hl).2, (pu2.lay hl).2]
      rw [pu.out, pu2.out, ej, ep]
def Bit (d : D) : Prop := oddE 2 d = true ∧ ShwE 2 200 d
theorem Bit.up {d : D} (h : Bit d) : oddE 50 d = true ∧ ShwE 50 1000 d := ⟨oddE_le h.1 (by decide), h.2.up (by decide) (by decide)⟩
end DL
namespace DL
open PySem PySem.Spec PyProof.Rows L2 RZ PySem.Calls
structure ZStL (z TI TO i1 i2 l1 l2 S : Addr) (xs ys : Array Value) (i : Nat) (h : Heap) : Prop where
  to : ∃ o, h.get? TO = some o
  ti : PySem.IsPair h TI (.ref i1) (.ref i2)
  s1 : h.IsListIter i1 l1 i ∧ h.IsList l1 xs
  s2 : h.IsListIter i2 l2 i ∧ h.IsList l2 ys
  z : (IsZip h z TI TO .none ∧ ∃ a b, PySem.IsPair h TO a b) ∨ ∃ T f oT, IsZipHeld h z TI TO T f ∧ h.get? T = some oT ∧ T ≠ z ∧ T ≠ i1 ∧ T ≠ i2 ∧ T ≠ S
section
variable {prog : Program} {w : World} {A : Around} {E : Value → Shared → Prop} {s : Shared} {z TI TO i1 i2 l1 l2 S : Addr} {xs ys : Array Value} {i lo : Nat}
theorem ZStL.keep {h h' : Heap} (st : ZStL z TI TO i1 i2 l1 l2 S xs ys i h) (D : ZipApart z TI TO i1 i2 l1 l2) (hS : S ∉ [z, TI, TO, i1, i2, l1, l2]) (k : ∀ b o, b ≠ S → h.get? b = some o → h'.get? b = some o) : ZStL z TI TO i1 i2 l1 l2 S xs ys i h' := by
  simp only [List.mem_cons, List.not_mem_nil, or_false, not_or] at hS
  obtain ⟨dz, dTI, dTO, di1, di2, dl1, dl2⟩ := hS
  refine ⟨st.to.imp fun o e => k _ o (Ne.symm dTO) e, k _ _ (Ne.symm dTI) st.ti, ⟨st.s1.1.at fun o e => k _ o (Ne.symm di1) e, st.s1.2.at fun o e => k _ o (Ne.symm dl1) e⟩, ⟨st.s2.1.at fun o e => k _ o (Ne.symm di2) e, st.s2.2.at fun o e => k _ o (Ne.symm dl2) e⟩, ?_⟩
  rcases st.z with ⟨hz, a, b, hTO⟩ | ⟨T, f, oT, hz, hT, r1, r2, r3, r4⟩
  · exact .inl ⟨k _ _ (Ne.symm dz) hz, a, b, k _ _ (Ne.symm dTO) hTO⟩
  · exact .inr ⟨T, f, oT, k _ _ (Ne.symm dz) hz, k _ _ r4 hT, r1, r2, r3, r4⟩
end
section
variable {X : Cx} {a b : Expr} {p p2 pos pos2 : Pos}
variable {dl : List Sl} {mu : List MO} {Φ : MO → List MO → Prop} {ε : XP}
end
end DL
namespace DL
open PySem PySem.Spec PyProof.Rows L2 RZ PySem.Calls
section
variable {K : PySem.W.Frag} {F : Hp} {as : List Addr} {a : Addr} {xs : List D} {vs : List V}
end
section
variable {X : Cx} {e tg : Expr} {p pos : Pos} {dl : List Sl} {mu : List MO} {ε : XP}
end
section
variable {prog : Program} {w : World} {A : Around} {E : Value → Shared → Prop} {s : Shared}
end
section
variable {X : Cx} {mu : List MO} {Φ : DK}
end
end DL
namespace DL
open PySem PySem.Spec PyProof.Rows L2 RZ PySem.Calls
theorem List.set_getElem?_self' {α : Type} : ∀ {l : List α} {i : Nat} {v : α}, l[i]? = some v → l.set i v = l
  | [], _, _, h => by simp at h
  | a :: l, 0, v, h => by simp at h; subst h; rfl
  | a :: l, i + 1, v, h => by rw [List.set_cons_succ, List.set_getElem?_self' (by simpa using h)]
inductive Path (h : Hall) : Stand → List (List Str) → Stand → Prop
  | nil (s : Stand) : Path h s [] s
  | cons {s o e : Stand} {x : Wlk} {rn : Str} {l : List Str} {ls : List (List Str)} : Turns h s x rn → After h s x.name rn x.hands l o → Path h o ls e → Path h s (l :: ls) e
inductive Steps (h : Hall) : Stand → List (Stand × List Str) → Stand → Prop
  | nil (s : Stand) : Steps h s [] s
  | cons {s o e : Stand} {x : Wlk} {rn : Str} {l : List Str} {qs : List (Stand × List Str)} : Turns h s x rn → After h s x.name rn x.hands l o → Steps h o qs e → Steps h s ((s, l) :: qs) e
section
variable {h : Hall} {s m e : Stand}
theorem Path.append {l l' : List (List Str)} (p : Path h s l m) (q : Path h m l' e) : Path h s (l ++ l') e := by
  induction p with
  | nil => exact q
  | cons t a _ ih => exact .cons t a (ih q)
theorem Path.ok {l : List (List Str)} (f : h.Few) (p : Path h s l e) : s.Ok h → e.Ok h := by
  induction p with
  | nil => exact id
  | cons t a _ ih => exact fun o => ih (a.ok f o t.wlk t.room)
theorem Path.trie {ls : List (List Str)} (p : Path h s ls e) : ∃ os, TrieD h s (ls.map lotD) os none ∧ os.getLast? = some e ∧ os ≠ [] := by
  induction p with
  | nil s => exact ⟨[s], .nil s, rfl, by simp⟩
  | @cons s o e x rn l ls t a _ ih =>
    obtain ⟨os, g, k, ne⟩ := ih
    refine ⟨s :: os, .cons t a g, ?_, by simp⟩
    cases os with
    | nil => exact absurd rfl ne
    | cons b r => rw [List.getLast?_cons_cons]; exact k
theorem TrieD.steps {ds : List D} {os : List Stand} {f : Option (Nat × Str)} (g : TrieD h s ds os f) : f = none → ∃ qs e, ds = qs.map (fun q => lotD q.2) ∧ os = qs.map (·.1) ++ [e] ∧ Steps h s qs e := by
  induction g with
  | nil s => exact fun _ => ⟨[], s, rfl, rfl, .nil s⟩
  | @cons s o x rn l ds os f t a _ ih =>
    intro ef
    have : f = none := by cases f with
      | none => rfl
      | some _ => cases ef
    obtain ⟨qs, e, rfl, rfl, st⟩ := ih this
    exact ⟨(s, l) :: qs, e, rfl, rfl, .cons t a st⟩
  | stop _ _ => exact fun e => by cases e
theorem Steps.path {qs : List (Stand × List Str)} (p : Steps h s qs e) : Path h s (qs.map (·.2)) e := by
  induction p with
  | nil s => exact .nil s
  | cons t a _ ih => exact .cons t a ih
theorem Steps.split {q1 : List (Stand × List Str)} {q : Stand × List Str} {q2 : List (Stand × List Str)} (p : Steps h s (q1 ++ q :: q2) e) : ∃ (x : Wlk) (rn : Str) (o : Stand), Steps h s q1 q.1 ∧ Turns h q.1 x rn ∧ After h q.1 x.name rn x.hands q.2 o ∧ Steps h o q2 e := by
  induction q1 generalizing s with
  | nil =>
    cases p with
    | cons t a r => exact ⟨_, _, _, .nil _, t, a, r⟩
  | cons b q1 ih =>
    cases p with
    | cons t a r =>
      obtain ⟨x, rn, o, h1, h2, h3, h4⟩ := ih r
      exact ⟨x, rn, o, .cons t a h1, h2, h3, h4⟩
theorem Steps.ok {qs : List (Stand × List Str)} (f : h.Few) (p : Steps h s qs e) : s.Ok h → e.Ok h := by
  induction p with
  | nil => exact id
  | cons t a _ ih => exact fun o => ih (a.ok f o t.wlk t.room)
theorem Steps.nilE (p : Steps h s [] e) : e = s := by cases p; rfl
theorem Steps.all {qs : List (Stand × List Str)} (f : h.Few) (p : Steps h s qs e) : s.Ok h → ∀ q, q ∈ qs → q.1.Ok h ∧ Deedy q.2 := by
  induction p with
  | nil => exact fun _ q hq => by cases hq
  | cons t a _ ih =>
    intro o q hq
    rcases List.mem_cons.mp hq with rfl | hq
    · exact ⟨o, a.deedy f⟩
    · exact ih (a.ok f o t.wlk t.room) q hq
end
end DL
namespace DL
open PySem PySem.Spec PyProof.Rows L2 RZ PySem.Calls
structure GlD (K : PySem.W.Frag) (P : Program) (w : World) (mg : Str → Option Value) (x : Str) (kvs : List (Key × D)) : Prop where
  ex : ∃ (a : Addr) (o : Obj) (es : Array DictEntry) (ep : Nat) (ws : List (Key × V)) (vs : List (Key × Value)), mg x = some (.ref a) ∧ K.lookup a = some o ∧ o.ExactDict ∧ o.data = .dict es ep ∧ KeysOf (mixKind P w) es ∧ Pairs (mixKind P w) es.toList vs ∧ KV ws vs ∧ (vs.map (·.1)).Nodup ∧ ∀ F as, RpK K F as kvs ws
inductive EntS (w : World) : List DictEntry → List (Str × Value) → Prop
  | nil : EntS w [] []
  | cons {h : Int} {k : Str} {t : Tok} {v : Value} {es : List DictEntry} {kvs : List (Str × Value)} : h = hashStr w k → EntS w es kvs → EntS w (⟨h, .str k t, v⟩ :: es) ((k, v) :: kvs)
section
variable {P : Program} {w : World}
theorem isStrOf_self (k : Str) (t : Tok) : keyIs (.inr k) (.str k t) = true := by
  show Value.isStrOf k (.str k t) = true
  simp [Value.isStrOf]
theorem EntS.pairs {es : List DictEntry} {kvs : List (Str × Value)} (h : EntS w es kvs) : Pairs (mixKind P w) es (kvs.map fun p => ((.inr p.1 : Key), p.2)) ∧ ∀ e ∈ es, ∃ k, keyIs k e.key = true ∧ e.hash = keyH w k := by
  induction h with
  | nil => exact ⟨.nil, by simp⟩
  | @cons h k t v es kvs e _ ih =>
    refine ⟨.cons (isStrOf_self k t) rfl ih.1, fun q hq => ?_⟩
    rcases List.mem_cons.mp hq with rfl | hq
    · exact ⟨.inr k, isStrOf_self k t, e⟩
    · exact ih.2 q hq
theorem gld_of {K : PySem.W.Frag} {mg : Str → Option Value} {x : Str} {a : Addr} {es : Array DictEntry} {ep : Nat} {kvs : List (Str × Value)} {ws : List (Str × V)} {ds : List (Str × D)} (h1 : mg x = some (.ref a)) (h2 : K.lookup a = some ⟨.type "dict", none, .dict es ep, #[]⟩) (h3 : EntS w es.toList kvs) (nd : (kvs.map (·.1)).Nodup)
    (h4 : Paired (fun (p : Str × V) (q : Str × Value) => p.1 = q.1 ∧ RelV p.2 q.2) ws kvs) (h5 : ∀ F as, RpK K F as (ds.map fun p => ((.inr p.1 : Key), p.2)) (ws.map fun p => ((.inr p.1 : Key), p.2))) : GlD K P w mg x (ds.map fun p => (.inr p.1, p.2)) := by
  obtain ⟨q1, q2⟩ := h3.pairs (P := P)
  refine ⟨a, _, es, ep, ws.map fun p => (.inr p.1, p.2), _, h1, h2, ⟨rfl, rfl, rfl⟩, rfl, fun e he => ?_, q1, ?_, ?_, h5⟩
  · obtain ⟨k, k1, k2⟩ := q2 e (by simpa using he)
    exact ⟨k, k1, k2⟩
  · clear h5 h3 nd q1
    induction h4 with
    | nil => exact .nil
    | cons a _ ih => exact .cons ⟨congrArg Sum.inr a.1, a.2⟩ ih
  · rw [List.map_map]
    show (kvs.map fun p => (.inr p.1 : Key)).Nodup
    rw [show (kvs.map fun p => (.inr p.1 : Key)) = (kvs.map (·.1)).map .inr by rw [List.map_map]; rfl]
    exact List.Pairwise.map _ (fun _ _ ne e => ne (Sum.inr.inj e)) nd
end
section
variable {X : Cx} {b : Expr} {dl : List Sl} {mu : List MO} {ε : XP} {p pos : Pos} {Φ : DK}
theorem ix_glob {x : Str} {kvs : List (Key × D)} {F : Hp} {as : List Addr} {a : Addr} (g : GlD X.K X.prog X.w X.mg x kvs) (ha : X.mg x = some (.ref a)) {n : Str} {d : D} (hv : gval kvs (.inr n) = some d) {H : Hp} {Q : VK} (q : ∀ z, Rp X.K F as d z → Q z H) : SI X (.ref a) (.str n) H Q := by
  intro value slice pins s σ v u I rx ry hs
  obtain ⟨a', o, es, ep, ws, vs, h1, h2, h3, h4, h5, h6, h7, h8, h9⟩ := g.ex
  rw [ha] at h1
  cases h1
  obtain rfl : v = Value.ref a := rx
  have dd : s.heap.DictOf (mixKind X.prog X.w) a vs := ⟨o, es, ep, I.kIn a o h2, h3, h4, h5, h6, h8⟩
  obtain ⟨z, j1, j2⟩ := ((h9 F as).val (.inr n)).1 d hv
  obtain ⟨w', hw, rw'⟩ := RelO.some_of (v := z) (o := valueAt vs (.inr n)) (by rw [← j1]; exact h7.val _)
  unfold subscriptTail
  refine wpAny_bind ?_
  have hT := dd.typeIs (s := s)
  rw [getitemInPython_of_ne hT.not_modules]
  refine wpAny_bind (wpAny_specialOf hT PySem.F.slot_dict_getitem.lookup ?_)
  have fin : wpAny (model X.prog X.w) X.A (subscripted slice false (.ref a) u) (fun r s₃ => wpAny (model X.prog X.w) X.A (letTemporaryGo value (.ref a) r >>= fun _ => pure r) (EP X pins σ Q) X.xe s₃) X.xe s := by
    rw [hs]
    exact wpAny_operating (wpAny_mono (wpAny_getItem_of (k := .inr n) (kV_is (k := .inr n) ry) dd.mapOf hw (⟨z, H, I.tok _, rw', q z j2⟩ : EP X pins σ Q w' _)) (fun r s₃ h₃ => wpAny_bind (wpAny_letTemporaryGo (wpAny_pure h₃))) fun _ _ x => x)
  first
    | exact wpAny_pure (wpAny_bind fin)
    | exact wpAny_bind (wpAny_pure (wpAny_bind fin))
    | exact wpAny_bind fin
theorem we_globIx {x : Str} {kvs : List (Key × D)} (g : GlD X.K X.prog X.w X.mg x kvs) (h : WE X b dl mu (fun y m' => ∃ n d, y = .str n ∧ gval kvs (.inr n) = some d ∧ Φ d m') ε) (hg : Gl X x := by rfl) (hd : (x == ("__debug__" : Str)) = false := by decide) (hp : PlainIx b := by intro _ _; rfl) : WE X (.Subscript (.Name x p) b pos) dl mu Φ ε := .mk fun W R F as σ H Q tk hs ha k kx => by
  obtain ⟨a, _, _, _, _, _, h1, _⟩ := id g.ex
  exact SE.by (pe_ix SI.ix (pe_glob hg h1 (show RelV (.ref a) (.ref a) from rfl) hd) SE.pe hp) (h.then tk hs ha kx fun w y m2 F2 as2 H2 ⟨n, d, ey, hv, q⟩ f1 f2 hs2 ha2 r2 kx2 => by
    subst ey
    cases r2
    exact ix_glob (F := F2) (as := as2) g h1 hv fun z rz => k z d m2 F2 as2 H2 q f1 f2 hs2 rz)
end
end DL
namespace L2
open PySem PySem.Spec PyProof.Rows
inductive HdsX (X : Cx) : List ExceptHandler → List (Value × Nat × (Addr → Value → Option Addr → TS)) → Prop
  | nil : HdsX X [] []
  | cons {x n : Str} {c : Value} {i : Nat} {ts : Addr → Value → Option Addr → TS} {b₀ : Stmt} {suite : List Stmt} {np pos' : Pos} {hds : List ExceptHandler} {l : List (Value × Nat × (Addr → Value → Option Addr → TS))} (hc : Names X x c) (hi : X.N[i]? = some n) (hln : X.env.kindOf n = some .local)
      (hsu : ∀ (a : Addr) (cls : Value) (d : Option Addr) (pn : List (Addr × Obj)), PSs (X.suite a pn) (b₀ :: suite) (ts a cls d)) (r : HdsX X hds l) :
      HdsX X (.ExceptHandler (some (.Name x np)) (some n) (b₀ :: suite) pos' :: hds) ((c, i, ts) :: l)
section
variable {X : Cx} {body : List Stmt} {h₀ : ExceptHandler} {hds : List ExceptHandler} {l : List (Value × Nat × (Addr → Value → Option Addr → TS))} {pos : Pos} {tb : WX → TS} {Wout : WX}
end
end L2
namespace DL
open PySem PySem.Spec PyProof.Rows L2 RZ PySem.Calls
section
variable {X : Cx} {dl : List Sl} {mu : List MO} {Ψ : DEnds} {pos : Pos}
variable {body s1 s2 : List Stmt} {b1 b2 : Stmt} {x1 x2 n : Str} {c1 c2 : Value} {np1 np2 p1 p2 : Pos}
end
end DL
namespace DL
open PySem PySem.Spec PyProof.Rows L2 RZ PySem.Calls
def Hall.redoor (h : Hall) (f : Door → Door) : Hall := { h with doors := h.doors.map f }
theorem Hall.Ok.redoor {s0 s1 s2 s3 : Nat} {h : Hall} (o : h.Ok s0 s1 s2 s3) {f : Door → Door} (hn : ∀ d, (f d).name = d.name) (hf : ∀ d, d ∈ h.doors → (f d).Ok h.rooms) : (h.redoor f).Ok s0 s1 s2 s3 := by
  have e : (h.redoor f).doors.map (·.name) = h.doors.map (·.name) := by
    show (h.doors.map f).map _ = _
    rw [List.map_map]
    exact List.map_congr_left fun d _ => hn d
  exact { o with
    doors := by rw [e]; exact o.doors
    doors2 := by show (h.doors.map f).length ≤ s1; rw [List.length_map]; exact o.doors2
    doors0 := fun q => by show h.doors.map f = []; rw [o.doors0 q]; rfl
    nd := by rw [e]; exact o.nd
    nm := by rw [e]; exact o.nm
    door := fun x hx => by
      obtain ⟨d, hd, rfl⟩ := List.mem_map.mp hx
      exact hf d hd }
mutual
theorem oddD.e : ∀ (n : Nat) (d : D), oddD n d = true → oddE n d = true
  | _, .non, _ => by simp [oddE]
  | _, .bl _, _ => by simp [oddE]
  | _, .int _, _ => by simp [oddE]
  | _, .str _, h => by simpa [oddE, oddD] using h
  | 0, .lst _, h => by simp [oddD] at h
  | 0, .tup _, h => by simp [oddD] at h
  | n + 1, .lst xs, h => by simp only [oddD, oddE, Bool.and_eq_true] at h ⊢; exact ⟨h.1, oddDs.e n xs h.2⟩
  | n + 1, .tup xs, h => by simp only [oddD, oddE, Bool.and_eq_true] at h ⊢; exact ⟨h.1, oddDs.e n xs h.2⟩
  | _, .dct _, h => by simp [oddD] at h
  | _, .obj _ _, h => by simp [oddD] at h
  | _, .own _, h => by simp [oddD] at h
  | _, .val _, h => by simp [oddD] at h
  | _, .scr _, h => by simp [oddD] at h
  | _, .exn _ _, h => by simp [oddD] at h
theorem oddDs.e : ∀ (n : Nat) (ds : List D), oddDs n ds = true → oddEs n ds = true
  | _, [], _ => rfl
  | n, x :: xs, h => by
    simp only [oddDs, oddEs, Bool.and_eq_true] at h ⊢
    exact ⟨oddD.e n x h.1, oddDs.e n xs h.2⟩
end
section
variable {X : Cx} {a b : Expr} {p p2 pos pos2 : Pos} {dl : List Sl} {mu : List MO} {Φ : MO → List MO → Prop} {ε : XP}
end
end DL
namespace DL
open PySem PySem.Spec PyProof.Rows L2 RZ PySem.Calls
theorem Path.deedy {h : Hall} (f : h.Few) {s e : Stand} {ls : List (List Str)} (p : Path h s ls e) : ∀ l, l ∈ ls → Deedy l := by
  induction p with
  | nil => exact fun l hl => by cases hl
  | cons t a _ ih =>
    intro l hl
    rcases List.mem_cons.mp hl with rfl | hl
    · exact a.deedy f
    · exact ih l hl
theorem Path.waits {h : Hall} (f : h.Few) : ∀ (n : Nat) {c : Stand}, c.Ok h → ∃ e, Path h c (List.replicate n [("wait" : Str)]) e ∧ e.rooms = c.rooms ∧ e.places = c.places ∧ e.turn = (c.turn + n) % h.walkers.length ∧ e.Ok h
  | 0, c, o => ⟨c, .nil c, rfl, rfl, by rw [Nat.add_zero, Nat.mod_eq_of_lt o.turn], o⟩
  | n + 1, c, o => by
    obtain ⟨x, rn, tt⟩ := Turns.ex f o
    have wo : c.waits.Ok h := (After.wait (h := h) (s := c) (wn := x.name) (rn := rn) (hands := x.hands)).ok f o tt.wlk tt.room
    obtain ⟨e, p, e1, e2, e3, eo⟩ := Path.waits f n wo
    refine ⟨e, .cons tt .wait p, e1, e2, ?_, eo⟩
    rw [e3]
    show ((c.turn + 1) % c.rooms.length + n) % _ = _
    rw [o.rooms, Nat.mod_add_mod, Nat.add_assoc, Nat.add_comm 1 n]
theorem Path.take {h : Hall} {s e : Stand} {ls : List (List Str)} (p : Path h s ls e) : ∀ k : Nat, ∃ m, Path h s (ls.take k) m := by
  induction p with
  | nil s => exact fun k => ⟨s, by rw [List.take_nil]; exact .nil s⟩
  | @cons s o e x rn l ls t a _ ih =>
    intro k
    cases k with
    | zero => exact ⟨s, .nil s⟩
    | succ k =>
      obtain ⟨m, q⟩ := ih k
      exact ⟨m, .cons t a q⟩
end DL
namespace DL
open PySem PySem.Spec PyProof.Rows L2 RZ PySem.Calls
structure CalMO (P : Program) (w : World) (K : PySem.W.Frag) (mg : Str → Option Value) (base : Heap) (C : Addr) (m : Str) (k : Nat) (sp : SpO) : Prop where
  ex : ∃ (f : Addr) (fd : FuncData) (ps : List Str), Meth K C m f ∧ FnG P w K mg base k f fd ps (concO K sp) ∧ Binds K fd ps []
theorem CalMO.up {P : Program} {w : World} {K : PySem.W.Frag} {mg : Str → Option Value} {base : Heap} {C : Addr} {m : Str} {j k : Nat} {sp : SpO} (c : CalMO P w K mg base C m j sp) (h : j ≤ k) : CalMO P w K mg base C m k sp := by
  obtain ⟨f, fd, ps, h1, h2, h3⟩ := c.ex
  exact ⟨f, fd, ps, h1, h2.up h, h3⟩
section
variable {X : Cx} {o e : Expr} {es : List Expr} {kws : List Keyword} {dl : List Sl} {mu : List MO} {ε : XP} {pos p apos : Pos} {m x : Str} {C : Addr}
structure CalMkK (P : Program) (w : World) (K : PySem.W.Frag) (mg : Str → Option Value) (base : Heap) (x : Str) (C : Addr) (k n : Nat) (ks : List Str) (src : List (Bool × Nat)) (ds : List D) (sp : SpD) : Prop where
  ex : ∃ (f : Addr) (fd : FuncData) (ps : List Str) (mz : List V) (mv : List Value), mg x = some (.ref C) ∧ Mk K C f ∧ FnG P w K mg base k f fd ps (conc K sp) ∧ KBn K fd ps (n + 1) ks (fun us ws => kwG src us mv ws) (fun vs zs => kwG src vs mz zs) ∧ ∀ F as, RpL K F as ds mz
theorem CalMkK.up {P : Program} {w : World} {K : PySem.W.Frag} {mg : Str → Option Value} {base : Heap} {x : Str} {C : Addr} {k n : Nat} {ks : List Str} {src : List (Bool × Nat)} {ds : List D} {sp : SpD} (c : CalMkK P w K mg base x C k n ks src ds sp) {j : Nat} (h : k ≤ j) : CalMkK P w K mg base x C j n ks src ds sp := by
  obtain ⟨f, fd, ps, mz, mv, h1, h2, h3, h4⟩ := c.ex
  exact ⟨f, fd, ps, mz, mv, h1, h2, h3.up h, h4⟩
end
section
variable {P : Program} {w : World} {K : PySem.W.Frag} {mg : Str → Option Value} {base : Heap} {x m qual : Str} {st : Stmt} {ps : List Str} {k : Nat} {C : Addr} {kws : List (Str × V)}
theorem DnM.calO {sp : SpO} (d : DnM K C m qual st) (h : ∀ f fd, Fun K m qual st f fd → FnG P w K mg base k f fd ps (concO K sp)) (hb : BindM m qual st ps) : CalMO P w K mg base C m k sp := by
  obtain ⟨f, fd, h1, h2⟩ := d.ex
  exact ⟨f, fd, ps, h1, h f fd h2, h2.binds hb⟩
structure DnIK (K : PySem.W.Frag) (mg : Str → Option Value) (C : Addr) (x qual : Str) (st : Stmt) (kws : List (Str × V)) : Prop where
  ex : ∃ (f : Addr) (fd : FuncData), mg x = some (.ref C) ∧ Mk K C f ∧ FunD K "__init__" qual (defArgs st) (defBody st) (defScope st) [] kws f fd
theorem DnIK.cal {sp : SpD} (d : DnIK K mg C x qual st kws) (h : ∀ f fd, Fun K "__init__" qual st f fd → FnG P w K mg base k f fd ps (conc K sp)) (n : Nat) (ks : List Str) (ms : List (Str × V)) (src : List (Bool × Nat)) (ds : List D) (hk : kws ≠ []) (hms : ∀ q ∈ ms, q ∈ kws) (hds : ∀ F as, RpL K F as ds (ms.map (·.2))) (hb : BindK "__init__" qual st ps (n + 1) ks (ms.map (·.1)) src) : CalMkK P w K mg base x C k n ks src ds sp := by
  obtain ⟨f, fd, hm, M, F⟩ := d.ex
  obtain ⟨mv, kb⟩ := kbn_of (ps := ps) F (n + 1) ks ms src hk hms hb
  exact ⟨f, fd, ps, _, mv, hm, M, h f fd (fun_of F), kb, hds⟩
end
end DL
namespace DL
open PySem PySem.Spec PyProof.Rows L2 RZ PySem.Calls
def stepS (h : Hall) (s : Stand) (wn rn : Str) : List Str → Stand
  | [w, n] => if w = "go" then s.goes (((h.doors.find? fun d => d.name == n).bind fun d => d.far rn).getD "") else if w = "lay" then s.puts ((h.stones.map (·.1)).idxOf n) rn else s.puts ((h.stones.map (·.1)).idxOf n) wn
  | _ => s.waits
theorem find_door {h : Hall} (f : h.Few) {d : Door} (hd : d ∈ h.doors) : (h.doors.find? fun z => z.name == d.name) = some d := by
  cases e : h.doors.find? fun z => z.name == d.name with
  | none => exact absurd (List.find?_eq_none.mp e d hd) (by simp)
  | some z =>
    have h1 := List.mem_of_find?_eq_some e
    have h2 := List.find?_some e
    rw [ndf_inj (f := (·.name)) f.fit.doorsN h1 hd (by simpa using h2)]
theorem After.step {h : Hall} (f : h.Few) {s : Stand} {wn rn : Str} {hands : Int} {l : List Str} {o : Stand} (a : After h s wn rn hands l o) : o = stepS h s wn rn l := by
  cases a with
  | go d to hd hf ho =>
    simp only [stepS, if_true, find_door f hd, Option.bind_some, hf, Option.getD_some]
  | lay k y hy hp =>
    simp only [stepS, show ¬ (("lay" : Str) = "go") by decide, if_false, if_true, idx_of f.fit.stonesN (k := k) (by rw [List.getElem?_map, hy]; rfl)]
  | lift k y hy hp hc =>
    simp only [stepS, show ¬ (("lift" : Str) = "go") by decide, show ¬ (("lift" : Str) = "lay") by decide, if_false, idx_of f.fit.stonesN (k := k) (by rw [List.getElem?_map, hy]; rfl)]
  | wait => rfl
structure PlayC (K : PySem.W.Frag) (C : Addr) : Prop where
  cls : Cls K C
  hall : NoAttr K C "hall"
  goal : NoAttr K C "goal"
  fees : NoAttr K C "fees"
  friends : NoAttr K C "friends"
  idlers : NoAttr K C "idlers"
structure RatC (K : PySem.W.Frag) (C : Addr) : Prop where
  cls : Cls K C
  whole_play : NoAttr K C "whole_play"
  ration : NoAttr K C "ration"
structure PlayR where
  h : Hall
  goal : List Wish
  fg : Int
  fi : Int
  fl : Int
  fw : Int
  friends : List Str
  idlers : List Str
def PlayR.fee (p : PlayR) (w : Str) : Int := if w = "go" then p.fg else if w = "lift" then p.fi else if w = "lay" then p.fl else p.fw
def feesK (a b c d : Int) : List (Key × D) := [(.inr "go", .int a), (.inr "lift", .int b), (.inr "lay", .int c), (.inr "wait", .int d)]
def playF (C : Addr) (p : PlayR) : List (Str × D) := [("hall", p.h.o C), ("goal", goalD p.goal), ("fees", .dct (feesK p.fg p.fi p.fl p.fw)), ("friends", .lst (p.friends.map .str)), ("idlers", .lst (p.idlers.map .str))]
def PlayR.o (C CP : Addr) (p : PlayR) : D := .obj CP (playF C p)
structure PlayR.Good (p : PlayR) : Prop where
  few : p.h.Few
  gl : p.goal.length ≤ 1000
  sound : ∀ x, x ∈ p.goal → x.Sound p.h
structure TupK (K : PySem.W.Frag) (a : Addr) (xs : List V) : Prop where
  ex : ∃ (o : Obj) (its : Array Value) (n : Nat), K.lookup a = some o ∧ o.cls = .type "tuple" ∧ o.dict = none ∧ o.data = .seq its n ∧ its.size ≤ sizeLine ∧ Vals xs its.toList
theorem TupK.tupA {K : PySem.W.Frag} {a : Addr} {xs : List V} (t : TupK K a xs) {F : Hp} : TupA K F a xs := .inr t.ex
end DL
namespace DL
open PySem PySem.Spec PyProof.Rows L2 RZ PySem.Calls
theorem Cal.alias {P : Program} {w : World} {K : PySem.W.Frag} {mg : Str → Option Value} {base : Heap} {x y : Str} {k : Nat} {dd : List D} {sp : SpD} (c : Cal P w K mg base x k dd sp) (h : mg y = mg x) : Cal P w K mg base y k dd sp := by
  obtain ⟨f, fd, ps, ds, dvs, h1, q⟩ := c.ex
  exact ⟨f, fd, ps, ds, dvs, h.trans h1, q⟩
structure RatR where
  p : PlayR
  top : Int
def ratF (C CP : Addr) (r : RatR) : List (Str × D) := [("whole_play", r.p.o C CP), ("ration", .int r.top)]
def RatR.o (C CP CQ : Addr) (r : RatR) : D := .obj CQ (ratF C CP r)
def ratT (d : D) : Prop := okE 50 d = true ∨ ∃ a b, d = .tup [a, b] ∧ okE 50 a = true ∧ anyE b
theorem ratT.rd {d : D} (h : ratT d) {mu : List MO} : rdD mu d = d := by
  rcases h with h | ⟨a, b, rfl, h1, h2⟩
  · exact okE.rd h
  · rfl
theorem ratT.own {d : D} (h : ratT d) (k : Nat) : ownLt k d = true := by
  rcases h with h | ⟨a, b, rfl, h1, h2⟩
  · exact okE.own k _ _ h
  · show (ownLt k a && (ownLt k b && true)) = true
    rw [okE.own k _ _ h1, h2.own]; rfl
theorem ratT.tyT {d : D} (h : ratT d) : tyX d ≠ "" ∧ kitB (tyX d) "tuple" = some (isTup d) := by
  rcases h with h | ⟨a, b, rfl, h1, h2⟩
  · exact ⟨(okE.ty h).1, okE.tyT h⟩
  · exact ⟨by show ("tuple" : String) ≠ ""; decide, rfl⟩
theorem ratT.pair {a b : D} (h : ratT (.tup [a, b])) : okE 50 a = true ∧ anyE b := by
  rcases h with h | ⟨a', b', e, h1, h2⟩
  · obtain ⟨m, em, ox⟩ := okE_tup h
    have em : m = 49 := by omega
    subst em
    exact ⟨okE_up _ _ (okEs_nth ox a (by simp)), .inl (okE_up _ _ (okEs_nth ox b (by simp)))⟩
  · cases e; exact ⟨h1, h2⟩
def sp_law_is_whole : SpD := fun args mu Φ _ => ∃ (d : D) (a b : Int), args = [d, .int a, .int b] ∧ mu = [] ∧ anyE d ∧ Φ (.bl (fromB d a b)) []
end DL
namespace PySem.SeqAt
open AutoSeq1 (wpAny_loadPart')
open MeetsSeq
theorem str_eq_declines_dict (b : Str) (u : Tok) (l : Addr) (c : Value) (es : Array DictEntry) (n : Nat) (dd : Option Addr) (sl : Array (Option Value)) :
    Meets (Builtin.«str.__eq__» ⟨[.str b u, .ref l], []⟩) (fun _ R s => s.heap.get? l = some { cls := c, dict := dd, data := .dict es n, slots := sl } ∧ R (.ok (.ret .notImplemented)) s) :=
  .of_wp fun prog w A R s h => by obtain ⟨hp, g, d, tk, os⟩ := s; obtain ⟨hl, h⟩ := h; wp_walk using wpAny_loadPart' hl, wpAny_load hl; exact ⟨_, rfl, h⟩
theorem dict_eq_declines_str {A : Around} {s : Shared} (l : Addr) (es : Array DictEntry) (n : Nat) (dd : Option Addr) (sl : Array (Option Value)) (b : Str) (u : Tok) :
    Meets (Builtin.«dict.__eq__» ⟨[.ref l, .str b u], []⟩) (fun _ R s => s.heap.get? l = some { cls := .type "dict", dict := dd, data := .dict es n, slots := sl } ∧ R (.ok (.ret .notImplemented)) s) :=
  .of_wp fun prog w A R s h => by
    obtain ⟨hl, h⟩ := h
    have ty : s.TypeIs (.ref l) "dict" := ⟨_, hl, rfl⟩
    show wpAny _ _ (Builtin.Dict.dictSlotArgs "__eq__" ⟨[.ref l, .str b u], []⟩ >>= _) _ _ s
    refine wpAny_bind ?_
    unfold Builtin.Dict.dictSlotArgs
    refine wpAny_bind (wpAny_notOrdered_dict ty ?_)
    show wpAny _ _ (pure (Value.ref l, Value.str b u)) _ _ s
    refine wpAny_pure ?_
    refine wpAny_bind (wpAny_isInstance (T := "str") (by exact rfl) F.sub_str_dict ?_)
    simp only [Bool.not_false, if_true]
    wp_walk
    exact ⟨_, rfl, h⟩
section
variable {A : Around} {s : Shared}
theorem RcAt.str_dict {l : Addr} {o : Obj} {es : Array DictEntry} {n : Nat} (b : Str) (u : Tok) (hl : s.heap.get? l = some o) (hc : o.cls = .type "dict") (hd : o.data = .dict es n) (hu : A.units < cLine) : RcAt A s (.str b u) (.ref l) false := fun prog w E Q h => by
  obtain ⟨cls, dd, data, sl⟩ := o
  simp only at hc hd
  subst hc hd
  exact rc_eq_decline_or (k := false) (typeIs_str s b u) ⟨_, hl, rfl⟩ (by decide) F.sub_dict_str F.slot_str_eq F.slot_dict_eq_refl
    (fun _ hq => call_meets F.slot_str_eq (typeIs_str s b u) F.entry_str_eq (F.args_str_eq_2 _ _) (str_eq_declines_dict b u l (.type "dict") es n dd sl) ⟨hl, hq⟩)
    (fun _ hq => call_meets F.slot_dict_eq_refl ⟨_, hl, rfl⟩ F.entry_dict_eq (F.args_dict_eq_2 _ _) (dict_eq_declines_str (A := A) (s := s) l es n dd sl b u) ⟨hl, hq⟩)
    (fun _ hq => wpAny_of_eq (rfl : isSame (.str b u) (.ref l) = pure false) hq) (.inr hu) h
theorem EqAt.str_dict {l : Addr} {o : Obj} {es : Array DictEntry} {n : Nat} (b : Str) (u : Tok) (hl : s.heap.get? l = some o) (hc : o.cls = .type "dict") (hd : o.data = .dict es n) (hu : A.units < cLine) : EqAt A s (.str b u) (.ref l) false := fun prog w E Q h => by
  unfold eqBool
  refine wpAny_holding ?_
  refine wpAny_ite_split (fun hab => absurd (eq_of_beq hab) nofun) (fun _ => ?_)
  exact wpAny_bind (RcAt.str_dict b u hl hc hd hu prog w E _ (wpAny_truthy_bool h))
end
end PySem.SeqAt
namespace DL
open PySem PySem.Spec PyProof.Rows L2 RZ PySem.Calls
inductive KindV (K : PySem.W.Frag) (H : Hp) : V → Prop
  | non : KindV K H .non
  | bl {b : Bool} : KindV K H (.bl b)
  | int {i : Int} : KindV K H (.int i)
  | str {x : Str} : KindV K H (.str x)
  | lst {a : Addr} {xs : List V} : SqL K H a xs → KindV K H (.ref a)
  | tup {a : Addr} {xs : List V} : SqT K H a xs → KindV K H (.ref a)
  | dct {a : Addr} {ws : List (Key × V)} : Rd H a (.dK ws) → KindV K H (.ref a)
def eqT (t : Str) : V → Bool
  | .str y => t == y
  | _ => false
section
variable {X : Cx}
theorem kind_eqAt {pins : List (Addr × Obj)} {σ : L2.St} {H : Hp} {s : Shared} {A : Around} {x : V} {v : Value} (I : Inv X pins σ H s) (hu : A.units < cLine) (k : KindV X.K H x) (rx : RelV x v) (t : Str) (tk : Tok) : SeqAt.EqAt A s (.str t tk) v (eqT t x) := by
  cases k with
  | non => obtain rfl : v = .none := rx; exact SeqAt.EqAt.str_none t tk
  | bl => obtain rfl : v = .bool _ := rx; exact SeqAt.EqAt.str_bool t tk _
  | int => obtain ⟨u, rfl⟩ := rx; exact SeqAt.EqAt.str_int t tk _ u
  | str => obtain ⟨u, rfl⟩ := rx; exact SeqAt.EqAt.str_str t tk _ u
  | lst h =>
    obtain rfl : v = .ref _ := rx
    obtain ⟨its, rv, t1, z1⟩ := I.list h
    exact SeqAt.EqAt.str_list t tk t1.isList hu
  | tup h =>
    obtain rfl : v = .ref _ := rx
    obtain ⟨its, rv, t1, z1⟩ := I.tuple h
    exact SeqAt.EqAt.str_tuple t tk t1 hu
  | dct h =>
    obtain rfl : v = .ref _ := rx
    obtain ⟨z, hd, vs, rel, o, es, ep, g1, g2, g3, _⟩ := dk_rd I.hok h
    exact SeqAt.EqAt.str_dict t tk g1 g2.1 g3 hu
def eqTv (x : V) : Value → Bool
  | .str t _ => eqT t x
  | _ => false
theorem strs_vals {x : V} : ∀ {l : List Str} {its : List Value}, Vals (l.map V.str) its → (∀ y, y ∈ its → ∃ t tk, y = .str t tk) ∧ its.any (eqTv x) = l.any fun t => eqT t x
  | [], _, h => by cases h; exact ⟨fun y hy => (by cases hy), rfl⟩
  | t :: l, _, h => by
    cases h with
    | cons a r =>
      obtain ⟨tk, rfl⟩ := a
      obtain ⟨h1, h2⟩ := strs_vals (x := x) r
      refine ⟨fun y hy => ?_, ?_⟩
      · rcases List.mem_cons.mp hy with rfl | hy
        · exact ⟨t, tk, rfl⟩
        · exact h1 y hy
      · show (eqT t x || _) = (eqT t x || _)
        rw [h2]
theorem op_inTxt (hu : X.A.units + 65 < cLine) : OpR X (compareOp .In) (fun x y H Q => ∃ (a : Addr) (l : List Str), y = V.ref a ∧ SqL X.K H a (l.map V.str) ∧ KindV X.K H x ∧ Q (.bl (l.any fun t => eqT t x)) H) := by
  intro pins s σ H x y v u Q I rx ry h
  obtain ⟨a, l, rfl, h1, kd, q⟩ := h
  obtain rfl : u = Value.ref a := ry
  obtain ⟨its, rv, t1, z1⟩ := I.list h1
  obtain ⟨e1, e2⟩ := strs_vals (x := x) rv
  refine SeqAt.in_listAt (eqTv x) t1.isList (fun y hy => ?_) ⟨.bl (l.any fun t => eqT t x), H, I, ?_, q⟩
  · obtain ⟨t, tk, rfl⟩ := e1 y (by simpa using hy)
    exact kind_eqAt I (by show X.A.in1.units < cLine; have := X.A.in1_units; omega) kd rx t tk
  · rw [← e2]; simp; rfl
end
section
variable {X : Cx} {mu : List MO} {Φ : DK}
theorem strs_rp {K : PySem.W.Frag} {F : Hp} {as : List Addr} : ∀ {l : List Str} {vs : List V}, RpL K F as (l.map D.str) vs → vs = l.map V.str
  | [], _, h => h
  | _ :: l, _, ⟨_, _, rfl, rfl, h⟩ => by rw [strs_rp h]; rfl
theorem any_false_txt {l : List Str} {f : Str → Bool} (h : ∀ t, f t = false) : (l.any f) = false := List.any_eq_false.mpr fun t _ => by rw [h]; simp
theorem wop_inTxt {n : Nat} {x y : D} {l : List Str} (hu : X.A.units + 65 < cLine) (hx : okE n (rdD mu x) = true) (hy : rdD mu y = .lst (l.map D.str)) (h : Φ (.bl (txtIn l (rdD mu x))) mu) : WOp X (compareOp .In) x y mu Φ := .mk fun R F as H v w Q hs r1 r2 k => by
  rw [hy] at r2
  obtain ⟨a, vs, rfl, h1, h2⟩ := r2
  obtain rfl := strs_rp h2
  have kv : KindV X.K H v ∧ (l.any fun t => eqT t v) = txtIn l (rdD mu x) := by
    generalize rdD mu x = d at hx r1
    cases d with
    | non => obtain rfl : v = .non := r1; exact ⟨.non, any_false_txt fun _ => rfl⟩
    | bl b => obtain rfl : v = .bl b := r1; exact ⟨.bl, any_false_txt fun _ => rfl⟩
    | int i => obtain rfl : v = .int i := r1; exact ⟨.int, any_false_txt fun _ => rfl⟩
    | str s =>
      obtain rfl : v = .str s := r1
      refine ⟨.str, ?_⟩
      show (l.any fun t => t == s) = decide (s ∈ l)
      rw [Bool.eq_iff_iff, List.any_eq_true, decide_eq_true_eq]
      exact ⟨fun ⟨t, h1, h2⟩ => by rw [← eq_of_beq h2]; exact h1, fun h1 => ⟨s, h1, beq_self_eq_true s⟩⟩
    | lst xs => obtain ⟨b, us, rfl, g1, g2⟩ := r1; exact ⟨.lst (.inl (.inl g1)), any_false_txt fun _ => rfl⟩
    | tup xs => obtain ⟨b, us, rfl, g1, g2⟩ := r1; exact ⟨.tup (hs.er.tup g1).sqT, any_false_txt fun _ => rfl⟩
    | dct xs => obtain ⟨b, us, rfl, g1, g2⟩ := r1; exact ⟨.dct g1, any_false_txt fun _ => rfl⟩
    | _ => simp [okE] at hx
  exact SO.by (op_inTxt hu) ⟨a, l, rfl, .inl (.inl h1), kv.1, by rw [kv.2]; exact k.now hs h rfl⟩
end
end DL
namespace DL
open PySem PySem.Spec PyProof.Rows L2 RZ PySem.Calls
def allN (h : Hall) : List Str := h.rooms ++ (h.doors.map (·.name) ++ (h.stones.map (·.1) ++ h.folk))
def sp_law_all_names : SpD := fun args mu Φ _ => ∃ h : Hall, args = [h.d] ∧ mu = [] ∧ h.Few ∧ Φ (.lst ((allN h).map .str)) []
theorem allN_len {h : Hall} (f : h.Few) : (allN h).length ≤ 240 := by
  have f1 := f.rooms
  have f2 := f.doors
  have f3 := f.stones
  have f4 := f.walkers
  unfold allN Hall.folk
  simp only [List.length_append, List.length_map]
  omega
theorem allN_ok {h : Hall} (f : h.Few) : ∀ x, x ∈ allN h → nameOk x = true := fun x hx => by
  obtain ⟨_, nm, _⟩ := f.names
  unfold allN at hx
  simp only [List.mem_append] at hx
  rcases hx with hx | hx | hx | hx
  · exact nm x (List.mem_append_left _ (by simp only [List.mem_append]; exact .inl (.inl hx)))
  · exact nm x (List.mem_append_left _ (by simp only [List.mem_append]; exact .inl (.inr hx)))
  · exact nm x (List.mem_append_left _ (by simp only [List.mem_append]; exact .inr hx))
  · exact nm x (List.mem_append_right _ hx)
section
variable {X : Cx} {elt tg it : Expr} {dl : List Sl} {mu : List MO} {ε : XP}
end
theorem WT.two {X : Cx} {e : Expr} {dl : List Sl} {mu : List MO} {ε : XP} (P Q : List MO → Prop) {A B : List MO → Prop} (h : WT X e dl mu (fun b m => (b = true → P m) ∧ (b = false → Q m)) ε) (k : (∀ m, P m → A m) ∧ (∀ m, Q m → B m)) : WT X e dl mu (fun b m => (b = true → A m) ∧ (b = false → B m)) ε := h.imp fun b m ⟨h1, h2⟩ => ⟨fun q => k.1 m (h1 q), fun q => k.2 m (h2 q)⟩
section
variable {K : PySem.W.Frag} {R F H : Hp} {as : List Addr} {mu : List MO} {a : Addr} {mo : MO}
theorem Hs.front (h : Hs K R F as mu H) (hp : ∀ (k : Nat) m, mu[k]? = some m → m.pure = true) (hF : F a = none) (hR : R a = none) (hA : ∀ (k : Nat) m, as[k]? = some a → mu[k]? = some m → m.live = false) (c : MOk K F [] H a mo) (cp : mo.pure = true) : Hs K R F (a :: as) (mo :: mu) H where
  tb := h.tb
  nt := h.nt
  er := h.er
  fr := h.fr
  frF := h.frF
  frA b e := by
    rcases List.mem_cons.mp e with rfl | e
    · exact hR
    · exact h.frA b e
  ln := by simp [h.ln]
  nd i j b m n e1 e2 e3 e4 l1 l2 := by
    cases i with
    | zero =>
      cases j with
      | zero => rfl
      | succ j =>
        simp only [List.getElem?_cons_zero, List.getElem?_cons_succ, Option.some.injEq] at e1 e2 e3 e4
        subst e1
        rw [hA j n e2 e4] at l2; cases l2
    | succ i =>
      cases j with
      | zero =>
        simp only [List.getElem?_cons_zero, List.getElem?_cons_succ, Option.some.injEq] at e1 e2 e3 e4
        subst e2
        rw [hA i m e1 e3] at l1; cases l1
      | succ j =>
        simp only [List.getElem?_cons_succ] at e1 e2 e3 e4
        rw [h.nd i j b m n e1 e2 e3 e4 l1 l2]
  sep k b m e1 e2 l := by
    cases k with
    | zero =>
      simp only [List.getElem?_cons_zero, Option.some.injEq] at e1
      subst e1; exact hF
    | succ k => exact h.sep k b m (by simpa using e1) (by simpa using e2) l
  ct k b m e1 e2 := by
    cases k with
    | zero =>
      simp only [List.getElem?_cons_zero, Option.some.injEq] at e1 e2
      subst e1 e2; exact c.other cp
    | succ k => exact (h.ct k b m (by simpa using e1) (by simpa using e2)).other (hp k m (by simpa using e2))
theorem Hs.tl (h : Hs K R F (a :: as) (mo :: mu) H) (hp : ∀ (k : Nat) m, mu[k]? = some m → m.pure = true) : Hs K R F as mu H where
  tb := h.tb
  nt := h.nt
  er := h.er
  fr := h.fr
  frF := h.frF
  frA b e := h.frA b (List.mem_cons_of_mem _ e)
  ln := by have := h.ln; simpa using this
  nd i j b m n e1 e2 e3 e4 l1 l2 := by
    have := h.nd (i + 1) (j + 1) b m n (by simpa using e1) (by simpa using e2) (by simpa using e3) (by simpa using e4) l1 l2
    omega
  sep k b m e1 e2 l := h.sep (k + 1) b m (by simpa using e1) (by simpa using e2) l
  ct k b m e1 e2 := (h.ct (k + 1) b m (by simpa using e1) (by simpa using e2)).other (hp k m e2)
end
section
variable {X : Cx} {e : Expr} {es : List Expr} {kws : List Keyword} {dl : List Sl} {mu : List MO} {ε : XP} {pos p : Pos} {x : Str} {C : Addr}
end
end DL
namespace DL
open PySem PySem.Spec PyProof.Rows L2 RZ PySem.Calls
structure GlI (mg : Str → Option Value) (x : Str) (i : Int) : Prop where
  ex : ∃ tk, mg x = some (.int i tk)
structure GlN (mg : Str → Option Value) (x : Str) : Prop where
  ne : ∀ a, mg x = some (.ref a) → (a == sysModules) = false
section
variable {X : Cx} {b : Expr} {dl : List Sl} {mu : List MO} {ε : XP} {p pos : Pos} {Φ : DK} {x : Str}
theorem we_globI {i : Int} (g : GlI X.mg x i) (h : Φ (.int i) mu) (hg : Gl X x := by rfl) (hd : (x == ("__debug__" : Str)) = false := by decide) : WE X (.Name x pos) dl mu Φ ε := by
  obtain ⟨tk, h1⟩ := g.ex
  exact we_of (pe_glob (v := .int i) hg h1 ⟨tk, rfl⟩ hd) fun R F as σ H Q hs ha k => k.now hs h rfl
theorem we_globV {a : Addr} (hm : X.mg x = some (.ref a)) (h : Φ (.val (.ref a)) mu) (hg : Gl X x := by rfl) (hd : (x == ("__debug__" : Str)) = false := by decide) : WE X (.Name x pos) dl mu Φ ε :=
  we_of (pe_glob (v := .ref a) hg hm (show RelV (.ref a) (.ref a) from rfl) hd) fun R F as σ H Q hs ha k => k.now hs h rfl
theorem op_inG {kvs : List (Key × D)} {a : Addr} (g : GlD X.K X.prog X.w X.mg x kvs) (n : GlN X.mg x) (ha : X.mg x = some (.ref a)) {k : Str} {H : Hp} {Q : VK} (q : Q (.bl (gval kvs (.inr k)).isSome) H) : SO X (compareOp .In) (.str k) (.ref a) H Q := fun pins s σ v u I ry rx => by
  obtain ⟨a', o, es, ep, ws, vs, h1, h2, h3, h4, h5, h6, h7, h8, h9⟩ := g.ex
  rw [ha] at h1
  cases h1
  obtain rfl : u = Value.ref a := rx
  have dd : s.heap.DictOf (mixKind X.prog X.w) a vs := ⟨o, es, ep, I.kIn a o h2, h3, h4, h5, h6, h8⟩
  refine wpAny_in_of (kV_is (k := .inr k) ry) (n.ne a ha) dd.mapOf ?_
  rw [← (h7.val (.inr k)).isSome_eq]
  exact ⟨.bl _, H, I.tok _, rfl, by rw [show (valV ws (.inr k)).isSome = (gval kvs (.inr k)).isSome from RpK.isSome (.inr k) (h9 (fun _ => none) [])]; exact q⟩
theorem we_globIn {kvs : List (Key × D)} (g : GlD X.K X.prog X.w X.mg x kvs) (n : GlN X.mg x) (h : WE X b dl mu (fun y m' => ∃ k, y = .str k ∧ Φ (.bl (gval kvs (.inr k)).isSome) m') ε) (hg : Gl X x := by rfl) (hd : (x == ("__debug__" : Str)) = false := by decide) (hm : behindInMarks .In (.Name x p) = false := by rfl) : WE X (.Compare b [.In] [.Name x p] pos) dl mu Φ ε := by
  obtain ⟨a, _, _, _, _, _, h1, _⟩ := id g.ex
  refine we_cmp (h.imp fun y m ⟨k, ey, q⟩ => ?_) hm
  subst ey
  refine we_globV h1 ?_ hg hd
  exact .mk fun R F as H v w Q hs r1 r2 kk => by
    obtain rfl : v = .str k := r1
    obtain rfl : w = .ref a := r2
    exact op_inG g n h1 (kk.now hs q rfl)
end
def wordsK : List (Key × D) := [(.inr "at", .tup ((["walker", "room"] : List Str).map .str)), (.inr "lies", .tup ((["stone", "room"] : List Str).map .str)), (.inr "held", .tup ((["stone", "walker"] : List Str).map .str))]
def partL (h : Hall) (s : Str) : List Str := if s = "room" then h.rooms else if s = "stone" then h.stones.map (·.1) else h.folk
def isSort (s : Str) : Prop := s = "room" ∨ s = "stone" ∨ s = "walker"
def wishB (h : Hall) : D → Bool
  | .tup (.str w :: r) => if w = "open" then (match r with | [x] => nameB x | _ => false) else match r with
    | [a, b] => if w = "bears" then txtIn h.rooms a && fromB b 0 9999999 else if w = "at" then txtIn h.folk a && txtIn h.rooms b else if w = "lies" then txtIn (h.stones.map (·.1)) a && txtIn h.rooms b else if w = "held" then txtIn (h.stones.map (·.1)) a && txtIn h.folk b else false
    | _ => false
  | _ => false
theorem wish_tup {h : Hall} {d : D} (q : isTup d = false) : wishB h d = false := by cases d <;> first | rfl | cases q
theorem wish_str {h : Hall} {a : D} {r : List D} (q : isStr a = false) : wishB h (.tup (a :: r)) = false := by cases a <;> first | rfl | cases q
theorem wish_not2 {h : Hall} {w : Str} {r : List D} (h1 : w ≠ "open") (h2 : r.length ≠ 2) : wishB h (.tup (.str w :: r)) = false := by
  show (if w = "open" then _ else _) = _
  rw [if_neg h1]
  rcases r with _ | ⟨a, _ | ⟨b, _ | ⟨c, ys⟩⟩⟩
  · rfl
  · rfl
  · exact absurd rfl h2
  · rfl
theorem wish_open {h : Hall} {r : List D} : wishB h (.tup (.str "open" :: r)) = match r with | [x] => nameB x | _ => false := rfl
theorem wish_two {h : Hall} {w : Str} {a b : D} (h1 : w ≠ "open") : wishB h (.tup [.str w, a, b]) = if w = "bears" then txtIn h.rooms a && fromB b 0 9999999 else if w = "at" then txtIn h.folk a && txtIn h.rooms b else if w = "lies" then txtIn (h.stones.map (·.1)) a && txtIn h.rooms b else if w = "held" then txtIn (h.stones.map (·.1)) a && txtIn h.folk b else false := if_neg h1
def badW (h : Hall) (xs : List D) : List Nat := (List.range xs.length).filter fun i => !wishB h (xs.getD i .non)
def goalAt (h : Hall) : D → Option (Option Nat)
  | .tup xs => if xs.length ≤ 8 then (badW h xs).head?.map some else some none
  | _ => some none
def optN : Option Nat → D
  | none => .non
  | some i => .int (i : Nat)
theorem badW_none {h : Hall} {xs : List D} (g : ∀ x, x ∈ xs → wishB h x = true) : badW h xs = [] := by
  unfold badW
  rw [List.filter_eq_nil_iff]
  intro i hi
  have hi := List.mem_range.mp hi
  rw [List.getD_eq_getElem?_getD, List.getElem?_eq_getElem hi]
  simp [g _ (List.getElem_mem hi)]
theorem badW_first {h : Hall} {xs : List D} {l1 l2 : List (D × Nat)} {q : D × Nat} (e : xs.zipIdx = l1 ++ q :: l2) (g : ∀ z, z ∈ l1 → wishB h z.1 = true) (b : wishB h q.1 = false) : (badW h xs).head? = some q.2 := by
  have hq : xs.zipIdx[l1.length]? = some q := by rw [e, List.getElem?_append_right (Nat.le_refl _)]; simp
  have hlt : l1.length < xs.length := by have := congrArg List.length e; simp at this; omega
  have e2 : q = (xs[l1.length], l1.length) := by
    rw [List.getElem?_zipIdx, List.getElem?_eq_getElem hlt] at hq
    simp at hq; exact hq.symm
  have before : ∀ i, i < l1.length → wishB h (xs.getD i .non) = true := fun i hi => by
    have h1 : xs.zipIdx[i]? = l1[i]? := by rw [e, List.getElem?_append_left hi]
    rw [List.getElem?_zipIdx, List.getElem?_eq_getElem (by omega), List.getElem?_eq_getElem hi] at h1
    have := g _ (List.getElem_mem hi)
    simp at h1
    rw [← h1] at this
    rw [List.getD_eq_getElem?_getD, List.getElem?_eq_getElem (by omega)]
    exact this
  unfold badW
  obtain ⟨m, hm⟩ : ∃ m, xs.length = l1.length + (m + 1) := ⟨xs.length - l1.length - 1, by omega⟩
  rw [hm, List.range_add, List.filter_append, List.head?_append]
  have e1 : (List.range l1.length).filter (fun i => !wishB h (xs.getD i .non)) = [] := by
    rw [List.filter_eq_nil_iff]
    intro i hi
    rw [before i (List.mem_range.mp hi)]; simp
  rw [e1, List.head?_nil, Option.none_or, List.range_succ_eq_map, List.map_cons, List.filter_cons_of_pos]
  · rw [e2]; simp
  · rw [e2] at b
    rw [Nat.add_zero, List.getD_eq_getElem?_getD, List.getElem?_eq_getElem hlt]
    simpa using b
theorem goal_small {h : Hall} {d : D} {i : Nat} (e : goalAt h d = some (some i)) : i < 8 := by
  cases d with
  | tup xs =>
    have e : (if xs.length ≤ 8 then (badW h xs).head?.map some else some none) = some (some i) := e
    split at e
    · rename_i hl
      cases q : (badW h xs).head? with
      | none => rw [q] at e; cases e
      | some j =>
        rw [q] at e
        have e : j = i := by simpa using e
        subst e
        have m := List.mem_of_mem_head? (by rw [q]; rfl : j ∈ (badW h xs).head?)
        have := List.mem_range.mp (List.mem_filter.mp m).1
        omega
    · cases e
  | _ => cases e
theorem optN_shw {h : Hall} {d : D} {o : Option Nat} (e : goalAt h d = some o) : ShwE 60 100 (.lst [optN o]) := by
  cases o with
  | none => exact ⟨rfl, by decide⟩
  | some i =>
    have hi := goal_small e
    have h12 : (i : Int).natAbs < 10 ^ 12 := by omega
    refine ⟨?_, ?_⟩
    · show (decide ((i : Int).natAbs < 10 ^ 31) && true) = true
      rw [decide_eq_true (Nat.lt_trans h12 (by decide))]; rfl
    · show (if (i : Int).natAbs < 10 ^ 12 then 13 else 40) + 2 + 0 + 3 ≤ 100
      rw [if_pos h12]; decide
theorem goal_tup {h : Hall} {d : D} (q : isTup d = false) : goalAt h d = some none := by cases d <;> first | rfl | cases q
theorem okE_strE {n : Nat} {d : D} (h : okE n d = true) (hb : eB d ≤ 1000000) : (∃ x, d = .str x ∧ PyData.strOk x = true ∧ x.length ≤ 1000000) ∨ (tyX d ≠ "" ∧ kitB (tyX d) "str" = some false ∧ ∀ x, d ≠ .str x) := by
  cases d with
  | str x => exact .inl ⟨x, rfl, by simpa [okE] using h, by have : 10 * x.length + 2 ≤ 1000000 := hb; omega⟩
  | non => exact .inr ⟨by show ("NoneType" : String) ≠ ""; decide, rfl, fun xs e => (by cases e)⟩
  | bl _ => exact .inr ⟨by show ("bool" : String) ≠ ""; decide, rfl, fun xs e => (by cases e)⟩
  | int _ => exact .inr ⟨by show ("int" : String) ≠ ""; decide, rfl, fun xs e => (by cases e)⟩
  | tup _ => exact .inr ⟨by show ("tuple" : String) ≠ ""; decide, rfl, fun xs e => (by cases e)⟩
  | lst _ => exact .inr ⟨by show ("list" : String) ≠ ""; decide, rfl, fun xs e => (by cases e)⟩
  | dct _ => exact .inr ⟨by show ("dict" : String) ≠ ""; decide, rfl, fun xs e => (by cases e)⟩
  | _ => simp [okE] at h
theorem isStr_of' {d : D} (h : isStr d = true) : ∃ x, d = .str x := by
  cases d with
  | str x => exact ⟨x, rfl⟩
  | _ => cases h
def sp_is_nameO : SpD := fun args mu Φ _ => ∃ d : D, args = [d] ∧ mu = [] ∧ ShwE 50 1000000 d ∧ Φ (.bl (nameB d)) []
def sp_is_part (C : Addr) : SpD := fun args mu Φ _ => ∃ (h : Hall) (s : Str) (d : D), args = [h.o C, .str s, d] ∧ mu = [] ∧ h.Few ∧ isSort s ∧ okE 50 d = true ∧ Φ (.bl (txtIn (partL h s) d)) []
def sp_is_wish (C : Addr) : SpD := fun args mu Φ _ => ∃ (h : Hall) (d : D), args = [h.o C, d] ∧ mu = [] ∧ h.Few ∧ ShwE 50 1000000 d ∧ Φ (.bl (wishB h d)) []
def sp_need_goal (C CG : Addr) : SpD := fun args mu Φ ε => ∃ (h : Hall) (d : D), args = [h.o C, d] ∧ mu = [] ∧ h.Few ∧ ShwE 50 1000000 d ∧ (goalAt h d = none → Φ .non []) ∧ ∀ o, goalAt h d = some o → ε ⟨.ref CG, some [("at", optN o)]⟩ []
def sp_law_is_wish23 : SpD := fun args mu Φ _ => ∃ (h : Hall) (d : D), args = [h.d, d] ∧ mu = [] ∧ h.Few ∧ ShwE 50 1000000 d ∧ Φ (.bl (wishB h d)) []
def dueL (h : Hall) (d : D) : List D := match goalAt h d with
  | none => []
  | some o => [optN o]
def sp_law_due23 : SpD := fun args mu Φ _ => ∃ (h : Hall) (d : D), args = [h.d, d] ∧ mu = [] ∧ h.Few ∧ ShwE 50 1000000 d ∧ Φ (.lst (dueL h d)) []
def sp_law_bent_wish : SpD := fun args mu Φ _ => ∃ (h : Hall) (xs : List D) (n k b : Nat), args = [.own 0, h.d, .tup xs] ∧ mu = [.pen n] ∧ h.Few ∧ n ≤ 2 ^ 30 ∧ xs ≠ [] ∧ okEs (k + 1) xs = true ∧ eBs xs ≤ b ∧ b ≤ 100000 ∧ ∀ y : D, ShwE (k + 3) (2 * b + 300) y → Φ y [.pen (n + 5)]
def sp_law_bent23 : SpD := fun args mu Φ _ => ∃ (h : Hall) (xs : List D) (n : Nat), args = [.own 0, h.d, .tup xs] ∧ mu = [.pen n] ∧ h.Few ∧ n ≤ 2 ^ 29 ∧ xs.length ≤ 9 ∧ (∀ x, x ∈ xs → ShwE 3 1000 x) ∧ ∀ (y : D) (n' : Nat), ShwE 45 1000000 y → n' ≤ n + 20 → Φ y [.pen n']
end DL
namespace DL
open PySem PySem.Spec PyProof.Rows L2 RZ PySem.Calls
def ItzN (K : PySem.W.Frag) (a b : Addr) (n1 n2 : Nat) : It :=
  ⟨fun i H => ∃ (xs ys : List V) (x y : V), xs.length = n1 ∧ ys.length = n2 ∧ SqT K H a xs ∧ SqL K H b ys ∧ xs[i]? = some x ∧ ys[i]? = some y,
    fun i H v H' => ∃ T x y, v = .ref T ∧ H T = none ∧ H' = upd H T (.tup [x, y]) ∧ (∀ xs, SqT K H a xs → xs[i]? = some x) ∧ ∀ ys, SqL K H b ys → ys[i]? = some y,
    fun i H => ∃ xs ys : List V, xs.length = n1 ∧ ys.length = n2 ∧ SqT K H a xs ∧ SqL K H b ys ∧ (xs.length ≤ i ∨ ys.length ≤ i)⟩
theorem turn_zipN {P : Program} {w : World} {K : PySem.W.Frag} {elts : List Expr} {kk : Nat} {tpos : Pos} {a b z TI TO i1 i2 : Addr} {n1 n2 : Nat} (D : ZipApart z TI TO i1 i2 a b) :
    L2.Turn P w K (.Tuple elts kk tpos) (ItzN K a b n1 n2) [z, TI, TO, i1, i2] z (fun i h => i ≤ n1 ∧ i ≤ n2 ∧ IsZip h z TI TO .none ∧ PySem.IsPair h TI (.ref i1) (.ref i2) ∧ (∃ x y, PySem.IsPair h TO x y) ∧ h.IsTupleIter i1 a i ∧ h.IsListIter i2 b i) where
  mem := by simp
  obj := fun i h st c hc => by
    obtain ⟨_, _, hz, hTI, ⟨x, y, hTO⟩, ⟨o1, e1, _, d1⟩, ⟨o2, e2, _, d2⟩⟩ := st
    have e' : c = z ∨ c = TI ∨ c = TO ∨ c = i1 ∨ c = i2 := by simpa using hc
    rcases e' with q | q | q | q | q
    · rw [q]; exact ⟨_, hz, fun v q => nomatch q⟩
    · rw [q]; exact ⟨_, hTI, fun v q => nomatch q⟩
    · rw [q]; exact ⟨_, hTO, fun v q => nomatch q⟩
    · rw [q]; exact ⟨o1, e1, fun v q => by rw [d1] at q; cases q⟩
    · rw [q]; exact ⟨o2, e2, fun v q => by rw [d2] at q; cases q⟩
  keep := fun i h h' st k => by
    obtain ⟨q1, q2, hz, hTI, ⟨x, y, hTO⟩, h1, h2⟩ := st
    exact ⟨q1, q2, k z (by simp) _ hz, k TI (by simp) _ hTI, ⟨x, y, k TO (by simp) _ hTO⟩, h1.at fun o q => k i1 (by simp) o q, h2.at fun o q => k i2 (by simp) o q⟩
  item := by
    intro X hP hw hK hc i pins s σ H E I hf st hg
    subst hP hw hK
    obtain ⟨q1, q2, hz, hTI, ⟨x0, y0, hTO⟩, h1, h2⟩ := st
    obtain ⟨xs, ys, x, y, l1, l2, hqx, hqy, hx, hy⟩ := hg
    obtain ⟨its, rv, p, _⟩ := I.tuple hqx
    obtain ⟨its2, rv2, p2, _⟩ := I.list hqy
    obtain ⟨u, hu, ru⟩ := rv.get hx
    obtain ⟨u2, hu2, ru2⟩ := rv2.get hy
    have m1 := rv.length
    have m2 := rv2.length
    have j1 : i < n1 := by rw [← l1]; exact (List.getElem?_eq_some_iff.mp hx).1
    have j2 : i < n2 := by rw [← l2]; exact (List.getElem?_eq_some_iff.mp hy).1
    have hzl : z < s.heap.objs.size := Heap.lt_size hz
    refine wpAny_pyNext_zipD2_item (sepM D) (Draws.tuple (prog := X.prog) (w := X.w) (A := X.A.in1) (I.ok.hd hc) i1 a D.l1i1 its.toArray) (Draws.list (prog := X.prog) (w := X.w) (A := X.A.in1) (I.ok.hd hc) i2 b D.l2i2 its2.toArray) hz hTI hTO ⟨h1, (show s.heap.IsTuple a its.toArray from p)⟩ ⟨h2, p2.isList⟩ (by simp; omega) (by simp; omega) fun x1 x2 h' tk' hx1 hx2 z' TO' st1 st2 hT hsz hk => ?_
    obtain rfl : x1 = u := by rw [show its.toArray[i]? = some u by simpa using hu] at hx1; exact (Option.some.inj hx1).symm
    obtain rfl : x2 = u2 := by rw [show its2.toArray[i]? = some u2 by simpa using hu2] at hx2; exact (Option.some.inj hx2).symm
    refine ⟨_, rfl, wpAny_letOwnedTupleGo_zip (s := { s with heap := h', toks := tk' }) z' fun h'' z'' sb => ?_⟩
    have hT2 : h''.get? s.heap.objs.size = some { cls := .type "tuple", data := .seq #[x1, x2] } := (sb.2 _ (Nat.ne_of_gt hzl)).trans hT
    have new : ObjOk X.prog X.w (upd H s.heap.objs.size (.tup [x, y])) h'' s.heap.objs.size (.tup [x, y]) :=
      ⟨by show 2 ≤ sizeLine; decide, [x1, x2], .cons ru (.cons ru2 .nil), ⟨_, hT2, rfl, _, rfl⟩⟩
    have I1 : Inv X pins σ (upd H s.heap.objs.size (.tup [x, y])) { s with heap := h'', toks := tk' } :=
      I.turnedNew (t' := tk') (ch := [z, TI, TO, i1, i2]) (fun c o hb q => (sb.2 c (fun q' => hb (by simp [q']))).trans (hk c o (fun q' => hb (by simp [q'])) (fun q' => hb (by simp [q'])) (fun q' => hb (by simp [q'])) (fun q' => hb (by simp [q'])) q)) hf (Nat.le_refl _) new
    refine ⟨.ref s.heap.objs.size, _, I1, rfl, ⟨_, x, y, rfl, I.hok.fresh (Nat.le_refl _), rfl, fun l hl => by rw [I.tuple_inj hl hqx]; exact hx, fun l hl => by rw [I.list_inj hl hqy]; exact hy⟩, ⟨j1, j2, z'', ?_, ⟨x1, x2, ?_⟩, ?_, ?_⟩, fun c hcm => ?_⟩
    · exact (sb.2 _ D.TIz).trans (hk _ _ D.TIz D.TITO D.TIi1 D.TIi2 hTI)
    · exact (sb.2 _ D.TOz).trans TO'
    · exact st1.1.at fun o q => (sb.2 _ D.i1z).trans q
    · exact st2.1.at fun o q => (sb.2 _ D.i2z).trans q
    · have hlt : c < s.heap.objs.size := by
        have e' : c = z ∨ c = TI ∨ c = TO ∨ c = i1 ∨ c = i2 := by simpa using hcm
        rcases e' with q | q | q | q | q
        · rw [q]; exact hzl
        · rw [q]; exact Heap.lt_size hTI
        · rw [q]; exact Heap.lt_size hTO
        · rw [q]; obtain ⟨_, e1, _⟩ := h1; exact Heap.lt_size e1
        · rw [q]; obtain ⟨_, e2, _⟩ := h2; exact Heap.lt_size e2
      rw [upd_ne (Nat.ne_of_lt hlt)]
      exact (hf c hcm).1
  done := by
    intro X hP hw hK hc i pins s σ H E I hf st hg
    subst hP hw hK
    obtain ⟨q1, q2, hz, hTI, ⟨x0, y0, hTO⟩, h1, h2⟩ := st
    obtain ⟨xs, ys, l1, l2, hqx, hqy, hend⟩ := hg
    obtain ⟨its, rv, p, _⟩ := I.tuple hqx
    obtain ⟨its2, rv2, p2, _⟩ := I.list hqy
    have m1 := rv.length
    have m2 := rv2.length
    exact wpAny_pyNext_zipD2_end (sepM D) (Draws.tuple (prog := X.prog) (w := X.w) (A := X.A.in1) (I.ok.hd hc) i1 a D.l1i1 its.toArray) (Draws.list (prog := X.prog) (w := X.w) (A := X.A.in1) (I.ok.hd hc) i2 b D.l2i2 its2.toArray) hz hTI hTO ⟨h1, (show s.heap.IsTuple a its.toArray from p)⟩ ⟨h2, p2.isList⟩ (by simp; omega) (by simp; omega) (by simp; omega) fun h' tk' hk => ⟨rfl, I.turnedL (t' := tk') (ch := [z, TI, TO, i1, i2]) (fun c o hb q =>
      hk c o (fun q' => hb (by simp [q'])) (fun q' => hb (by simp [q'])) (fun q' => hb (by simp [q'])) (fun q' => hb (by simp [q'])) q) hf⟩
  self := fun A i s Q E st h => wpAny_pyIter_zip st.2.2.1 h
def iZipN (K : PySem.W.Frag) (ta : TA) : TI := fun σ H R => ta σ H fun vs H1 => ∃ a b xs ys, vs = [.ref a, .ref b] ∧ SqT K H1 a xs ∧ SqL K H1 b ys ∧ R (ItzN K a b xs.length ys.length) H1
theorem pi_zipN {X : Cx} {e e2 : Expr} {ta : TA} {p pos tpos : Pos} {elts : List Expr} {kk : Nat} (hg : Gl X "zip") (hm : X.mg "zip" = none) (ha : PA X [e, e2] ta)
    (hs : starEach [e, e2] X.env = (false, eval e X.env) :: starEach [e2] X.env := by rfl) (hpl : (backTo pos (starEach [e2] X.env)).any (·.1) = false := by rfl) :
    PI X (.Tuple elts kk tpos) (.Call (.Name "zip" p) [e, e2] [] pos) (iZipN X.K ta) := by
  refine ⟨fun pins s σ H R I h => ?_⟩
  refine Call_ (ld_blt I hg hm PyProof.Rows.boot_zip (PyProof.Rows.callWith_type1 (thn (ha.run pos pins s σ H _ I h) fun us s1 ⟨vs, H1, I1, r1, q1⟩ => ?_) hs hpl))
  obtain ⟨a, b, xs, ys, ex, hqx, hqy, q⟩ := q1
  subst ex
  cases r1 with
  | cons r rr =>
    cases rr with
    | cons r' rr =>
      cases rr
      cases r
      cases r'
      have fresh5 : ∀ c, c ∈ [s1.heap.objs.size + 4, s1.heap.objs.size + 2, s1.heap.objs.size + 3, s1.heap.objs.size, s1.heap.objs.size + 1] → FpOk X pins H1 c := fun c hcm => by
        have e' : c = s1.heap.objs.size + 4 ∨ c = s1.heap.objs.size + 2 ∨ c = s1.heap.objs.size + 3 ∨ c = s1.heap.objs.size ∨ c = s1.heap.objs.size + 1 := by simpa using hcm
        have hle : s1.heap.objs.size ≤ c := by
          rcases e' with z | z | z | z | z
          · rw [z]; exact Nat.le_add_right _ _
          · rw [z]; exact Nat.le_add_right _ _
          · rw [z]; exact Nat.le_add_right _ _
          · rw [z]; exact Nat.le_refl _
          · rw [z]; exact Nat.le_add_right _ _
        exact I1.fpOk hle (I1.hok.fresh hle)
      obtain ⟨its, rv, p1, _⟩ := I1.tuple hqx
      obtain ⟨its2, rv2, p2, _⟩ := I1.list hqy
      obtain ⟨o2, ho2, _⟩ := id p1
      refine zip_begins2 (begins_tuple a its.toArray) (begins_list b its2.toArray) (show s1.heap.IsTuple a its.toArray from p1) p2.isList fun h' hz hTI hTO h1 h2 hsz hk => wpAny_pyIter_zip hz ?_
      have I2 : Inv X pins σ H1 { s1 with heap := h' } := I1.kept (t' := s1.toks) hk
      exact ⟨s1.heap.objs.size + 4, [s1.heap.objs.size + 4, s1.heap.objs.size + 2, s1.heap.objs.size + 3, s1.heap.objs.size, s1.heap.objs.size + 1], _, _, H1, rfl, I2, turn_zipN (PySem.W.ktu_apart s1.heap.objs.size a b (Heap.lt_size ho2) p2.lt), ⟨Nat.zero_le _, Nat.zero_le _, hz, hTI, ⟨_, _, hTO⟩, ⟨_, h1, rfl, rfl⟩, ⟨_, h2, rfl, rfl⟩⟩, fresh5, q⟩
section
variable {K : PySem.W.Frag} {F : Hp} {as : List Addr} {a b : Addr} {xs ys : List D} {vs ws : List V}
theorem walks_zipN (h1 : TupA K F a vs) (r1 : RpL K F as xs vs) (h2 : F b = some (.lst ws)) (r2 : RpL K F as ys ws) : Walks (ItzN K a b vs.length ws.length) (zipY xs ys) K F as := fun R i H' F' as' mu' e p hs' => by
  have q1 : SqT K H' a vs := (hs'.er.tup (e.tup h1)).sqT
  have q2 : SqL K H' b ws := .inl (.inl (hs'.er.ex _ _ trivial (e.ex _ _ trivial h2)))
  refine ⟨fun y hy => ?_, fun hl => ?_⟩
  · obtain ⟨d1, d2, g1, g2, rfl⟩ := zipW_get hy
    obtain ⟨v1, e1, s1⟩ := r1.get g1
    obtain ⟨v2, e2, s2⟩ := r2.get g2
    refine ⟨⟨vs, ws, v1, v2, rfl, rfl, q1, q2, e1, e2⟩, fun z H2 yl => ?_⟩
    obtain ⟨T, x, y, rfl, hT, rfl, k1, k2⟩ := yl
    have a1 := k1 vs q1
    have a2 := k2 ws q2
    rw [e1] at a1; rw [e2] at a2
    cases a1; cases a2
    exact ⟨F', Er.refl _, hs'.up hT, T, _, rfl, .inl (.inl upd_same), v1, _, rfl, Rp.mono e p _ _ s1, v2, _, rfl, Rp.mono e p _ _ s2, rfl⟩
  · have hl : (List.zipWith (fun x y => Yd.many [x, y]) xs ys).length ≤ i := hl
    rw [List.length_zipWith, r1.len, r2.len] at hl
    exact ⟨vs, ws, rfl, rfl, q1, q2, by omega⟩
end
section
variable {X : Cx} {a b : Expr} {elts : List Expr} {kk : Nat} {tpos p pos apos cpos : Pos} {dl : List Sl} {mu : List MO} {ε : XP} {e : Expr}
theorem wit_zipN {Φ : List Yd → List MO → Prop} (hm : X.mg "zip" = none) (h : WE X a dl mu (fun x m => WE X b dl m (fun y m' => ∃ xs ys, x = .tup xs ∧ y = .lst ys ∧ Φ (zipY xs ys) m') ε) ε) (hg : Gl X "zip" := by rfl)
    (hs : starEach [a, b] X.env = (false, eval a X.env) :: starEach [b] X.env := by rfl) (hs2 : starEach [b] X.env = [(false, eval b X.env)] := by rfl) (hpl : (backTo pos (starEach [b] X.env)).any (·.1) = false := by rfl) :
    WIt X (.Tuple elts kk tpos) (.Call (.Name "zip" p) [a, b] [] pos) dl mu Φ ε := .mk fun W R F as σ H Q tk hs1 ha k kx =>
  SIt.by (pi_zipN hg hm SA.pa hs hpl) ((wa_cons (es := [b]) (Φ := fun zs m => ∃ xs ys, zs = [.tup xs, .lst ys] ∧ Φ (zipY xs ys) m)
    (h.imp fun x m q => wa_cons (es := []) (q.imp fun y m' ⟨xs, ys, e1, e2, q⟩ => wa_nil ⟨xs, ys, by rw [e1, e2], q⟩) hs2) (by rw [hs, hs2])).then tk hs1 ha kx fun vs xs m F' as' H' ⟨us, ys, ex, q⟩ e1 e2 hs' ha' r kx' => by
    subst ex
    obtain ⟨v, w, rfl, r1, r2⟩ := r.two
    obtain ⟨a1, v1, rfl, g1, t1⟩ := r1
    obtain ⟨a2, v2, rfl, g2, t2⟩ := r2
    exact ⟨a1, a2, v1, v2, rfl, (hs'.er.tup g1).sqT, .inl (.inl (hs'.er.ex _ _ trivial g2)), k _ _ m F' as' H' q e1 e2 hs' (walks_zipN g1 t1 g2 t2)⟩)
end
end DL
namespace DL
open PySem PySem.Spec PyProof.Rows L2 RZ PySem.Calls
def top (i : Nat) : Stmt := PySem.Challenge.pw_weighdoors_k23_goals_or_not.main.body.getD i (.Pass ⟨0, 0, 0, 0⟩)
end DL
namespace DL
open PySem PySem.Spec PyProof.Rows L2 RZ PySem.Calls
def sp_law_hall : SpD := fun args mu Φ _ => ∃ s0 s1 s2 s3 n : Nat, args = [.own 0, sizeD s0 s1 s2 s3] ∧ mu = [.pen n] ∧ 1 ≤ s0 ∧ 1 ≤ s3 ∧ s0 + s1 + s2 + s3 ≤ 18 ∧ n + 20 + hallN s0 s1 s2 s3 ≤ 2 ^ 40 ∧ ∀ h : Hall, h.Ok s0 s1 s2 s3 → Φ h.d [.pen (n + 20 + hallN s0 s1 s2 s3)]
theorem tab_door_kept : (tP_door_kept, ("door_kept" : Str) ++ ".<locals>." ++ "<lambda>") ∈ tabT := by decide +kernel
theorem tabu_door_kept : ∀ q ∈ tabT, q.1 = tP_door_kept → q.2 = ("door_kept" : Str) ++ ".<locals>." ++ "<lambda>" := by decide +kernel
def sp_law_wish : SpD := fun args mu Φ _ => ∃ (h : Hall) (n : Nat), args = [.own 0, h.d] ∧ mu = [.pen n] ∧ h.Few ∧ n + 8 ≤ 2 ^ 40 ∧ ∀ x : Wish, x.Ok h → Φ x.d [.pen (n + 8)]
theorem ixn_pos {n : Nat} {i : Int} (h0 : 0 ≤ i) (h1 : i < (n : Int)) : ixN n i = some i.toNat := by
  unfold ixN
  rw [if_pos (by omega)]
  rw [if_pos (by omega)]
theorem eBs_set {v : D} : ∀ (l : List D) (i : Nat), eBs (l.set i v) ≤ eBs l + eB v + 2
  | [], _ => by show 0 ≤ _; omega
  | a :: l, 0 => by show eB v + 2 + eBs l ≤ eB a + 2 + eBs l + eB v + 2; omega
  | a :: l, i + 1 => by
    have := eBs_set (v := v) l i
    show eB a + 2 + eBs (l.set i v) ≤ eB a + 2 + eBs l + eB v + 2
    omega
theorem okEs_set {n : Nat} {v : D} {l : List D} {i : Nat} (h : okEs n l = true) (hv : okE n v = true) : okEs n (l.set i v) = true := okEs_all fun d hd => by
  rcases List.mem_or_eq_of_mem_set hd with q | q
  · exact okEs_nth h d q
  · rw [q]; exact hv
theorem okEs_le {n m : Nat} {ds : List D} (h : okEs n ds = true) (l : n ≤ m) : okEs m ds = true := okEs_all fun d hd => okE_le (okEs_nth h d hd) l
theorem sok1 (t : String) (n : Nat) : okE n (.str (t : Str)) = true := okE_le (n := 0) (by simpa [okE] using sok_string t) (Nat.zero_le _)
def oddP (x : Str) : List D := [.str "at", .str "lies", .str "held", .str "open", .str "bears", .str "At", .str "", .str "nobody", .str "ninewords", .str "a1", .int 0, .int (-1), .int 9999999, .int 10000000, .bl true, .non, .tup [], .lst [], .int (10 ^ 30), .str "0", .bl false, .tup [.str x], .lst [.str x], .dct []]
theorem sok_lit (t : String) (b : Nat) (h : 10 * (t : Str).length + 2 ≤ b) : ShwE 2 b (.str (t : Str)) := ⟨okE_le (n := 0) (sok_string t) (by decide), h⟩
theorem oddP_ok {x : Str} (hx : nameOk x = true) : ∀ w, w ∈ oddP x → ShwE 2 200 w := fun w hw => by
  have nx := name_str hx
  have ox : okE 0 (.str x) = true := by simpa [okE] using nx.1
  simp only [oddP, List.mem_cons, List.not_mem_nil, or_false] at hw
  rcases hw with rfl | rfl | rfl | rfl | rfl | rfl | rfl | rfl | rfl | rfl | rfl | rfl | rfl | rfl | rfl | rfl | rfl | rfl | rfl | rfl | rfl | rfl | rfl | rfl
  · exact sok_lit "at" 200 (by decide)
  · exact sok_lit "lies" 200 (by decide)
  · exact sok_lit "held" 200 (by decide)
  · exact sok_lit "open" 200 (by decide)
  · exact sok_lit "bears" 200 (by decide)
  · exact sok_lit "At" 200 (by decide)
  · exact sok_lit "" 200 (by decide)
  · exact sok_lit "nobody" 200 (by decide)
  · exact sok_lit "ninewords" 200 (by decide)
  · exact sok_lit "a1" 200 (by decide)
  · exact ⟨rfl, by decide⟩
  · exact ⟨rfl, by decide⟩
  · exact ⟨rfl, by decide⟩
  · exact ⟨rfl, by decide⟩
  · exact ⟨rfl, by decide⟩
  · exact ⟨rfl, by decide⟩
  · exact ⟨rfl, by decide⟩
  · exact ⟨rfl, by decide⟩
  · exact ⟨by decide, by decide⟩
  · exact sok_lit "0" 200 (by decide)
  · exact ⟨rfl, by decide⟩
  · refine ⟨?_, ?_⟩
    · show (okE 1 (.str x) && true) = true; rw [okE_le ox (by decide)]; rfl
    · show 10 * x.length + 2 + 2 + 0 + 3 ≤ 200; have := nx.2; omega
  · refine ⟨?_, ?_⟩
    · show (okE 1 (.str x) && true) = true; rw [okE_le ox (by decide)]; rfl
    · show 10 * x.length + 2 + 2 + 0 + 3 ≤ 200; have := nx.2; omega
  · exact ⟨rfl, by decide⟩
theorem wish_shw {h : Hall} (f : h.Few) {x : Wish} (o : x.Ok h) : ShwE 3 1000 x.d := by
  have nmA := f.names.2.1
  have nmR : ∀ x, x ∈ h.rooms → nameOk x = true := fun x hx => nmA x (List.mem_append_left _ (by simp [hx]))
  have nmF : ∀ x, x ∈ h.folk → nameOk x = true := fun x hx => nmA x (List.mem_append_right _ hx)
  have nmS : ∀ x, x ∈ h.stones.map (·.1) → nameOk x = true := fun x hx => nmA x (List.mem_append_left _ (List.mem_append_right _ hx))
  have nmD : ∀ x, x ∈ h.doors.map (·.name) → nameOk x = true := fun x hx => nmA x (List.mem_append_left _ (List.mem_append_left _ (List.mem_append_right _ hx)))
  have ok : ∀ {n : Str}, nameOk n = true → ∀ k, okE k (.str n) = true ∧ eB (.str n) ≤ 82 := fun {n} hn k => by
    have := name_str hn
    exact ⟨okE_le (n := 0) (by simpa [okE] using this.1) (Nat.zero_le _), by show 10 * n.length + 2 ≤ 82; have := this.2; omega⟩
  have two : ∀ {w : String} {a : Str}, nameOk a = true → 10 * (w : Str).length + 2 ≤ 100 → ShwE 3 1000 (.tup [.str (w : Str), .str a]) := fun {w a} ha hw => by
    have qa := ok ha 2
    refine ⟨?_, ?_⟩
    · show (okE 2 (.str (w : Str)) && (okE 2 (.str a) && true)) = true
      rw [sok1, qa.1]; rfl
    · have e1 := qa.2
      show 10 * (w : Str).length + 2 + 2 + (eB (.str a) + 2 + 0) + 3 ≤ 1000
      omega
  have three : ∀ {w : String} {a b : Str}, nameOk a = true → nameOk b = true → 10 * (w : Str).length + 2 ≤ 100 → ShwE 3 1000 (.tup [.str (w : Str), .str a, .str b]) := fun {w a b} ha hb hw => by
    have qa := ok ha 2
    have qb := ok hb 2
    refine ⟨?_, ?_⟩
    · show (okE 2 (.str (w : Str)) && (okE 2 (.str a) && (okE 2 (.str b) && true))) = true
      rw [sok1, qa.1, qb.1]; rfl
    · have e1 := qa.2
      have e2 := qb.2
      show 10 * (w : Str).length + 2 + 2 + (eB (.str a) + 2 + (eB (.str b) + 2 + 0)) + 3 ≤ 1000
      omega
  cases x with
  | «at» w r => exact three (w := "at") (nmF w o.1) (nmR r o.2) (by decide)
  | bears r n =>
    have qa := ok (nmR r o.1) 2
    have hn : n ∈ [(0 : Int), 1, 2, 5, 9999999] := o.2
    have hnn : n.natAbs < 10 ^ 12 := by
      simp only [List.mem_cons, List.not_mem_nil, or_false] at hn
      rcases hn with rfl | rfl | rfl | rfl | rfl <;> decide
    refine ⟨?_, ?_⟩
    · show (okE 2 (.str "bears") && (okE 2 (.str r) && (decide (n.natAbs < 10 ^ 31) && true))) = true
      rw [sok1 "bears" 2, qa.1, decide_eq_true (Nat.lt_trans hnn (by decide))]; rfl
    · have e1 := qa.2
      show 10 * ("bears" : Str).length + 2 + 2 + (eB (.str r) + 2 + ((if n.natAbs < 10 ^ 12 then 13 else 40) + 2 + 0)) + 3 ≤ 1000
      rw [if_pos hnn, show ("bears" : Str).length = 5 by decide]
      omega
  | «open» d =>
    have hd : nameOk d = true := o.elim (nmD d) (fun e => by rw [e]; decide)
    exact two (w := "open") hd (by decide)
  | lies s r => exact three (w := "lies") (nmS s o.1) (nmR r o.2) (by decide)
  | held s w => exact three (w := "held") (nmS s o.1) (nmF w o.2) (by decide)
end DL
namespace DL
open PySem PySem.Spec PyProof.Rows L2 RZ PySem.Calls
section
variable {P : Program} {w : World} {K : PySem.W.Frag} {mg : Str → Option Value} {base : Heap}
abbrev s_NoGoal_init : Stmt := inClass (top 3) 0
theorem sc_NoGoal_init : FnScope ["self", "at"] ["self", "at"] (defScope s_NoGoal_init) := ⟨rfl, rfl, rfl, by decide +kernel, rfl, by decide +kernel, by decide +kernel⟩
theorem ok_NoGoal_init {CG fI : Addr} {fd : FuncData} (F : Fun K "__init__" "NoGoal.__init__" s_NoGoal_init fI fd) (hm : mg "NoGoal" = some (.ref CG)) (T : OexC K CG) (iC : PySem.W.findIn K (.ref CG) "__init__" = some (some (.ref fI))) (tI : PySem.W.typeIn K (.ref fI) = some (.type "function")) (n1 : PySem.W.findIn K (.ref CG) "at" = some none) : ExK K mg base P w "NoGoal" "at" CG :=
  ⟨fI, fd, "at", hm, T, iC, tI, ini_fn F sc_NoGoal_init rfl (by first | exact Or.inl rfl | exact Or.inr (Or.inl rfl) | exact Or.inr (Or.inr rfl)) (by first | exact Or.inl rfl | exact Or.inr (Or.inl rfl) | exact Or.inr (Or.inr rfl)) (by decide) (by decide), n1, F.binds (ps := ["self", "at"]) fun _ _ _ _ _ _ us hl => match us, hl with | [_, _], _ => rfl⟩
end
end DL
namespace DL
open PySem PySem.Spec PyProof.Rows L2 RZ PySem.Calls
section
variable {P : Program} {w : World} {K : PySem.W.Frag} {mg : Str → Option Value} {base : Heap}
abbrev s_law_pen : Stmt := top 19
theorem sc_law_pen : FnScope ["script"] ["script"] (defScope s_law_pen) := ⟨rfl, rfl, rfl, by decide +kernel, rfl, by decide +kernel, by decide +kernel⟩
theorem ok_law_pen (d0 : Dn K mg "_law_pen" s_law_pen) (B : Bn mg) : CalO P w K mg base "_law_pen" 1 [] sp_law_pen := d0.calO (ps := ["script"]) (fun f fd F => fn_bodyO F sc_law_pen (fun args mu Φ ε h => by obtain ⟨ns, _, rfl, _⟩ := h; rfl) fun cdv A outer s H E hr args mu Φ ε h => by
  have nd := sc_law_pen.nd
  obtain ⟨ns, hl, rfl, rfl, k⟩ := h
  refine WSs.post (Ψ' := { nx := fun _ _ => False, rt := fun x m => ∃ m', Hsub m m' ∧ RetO 0 Φ x m' }) ?_ (fun _ _ z => z.elim) (fun _ _ z => z) (fun _ _ z => z.elim) (fun _ _ z => z.elim) (fun _ _ _ z => z.elim)
  refine wss_one (ws_ret ?_)
  refine WO.mut (wo_disp ?_)
  refine wpr_cons ?_
  refine we_str ?_
  refine WO.we (wo_ty B.list ?_)
  refine wa_cons ?_
  refine we_slice ?_
  refine we_name 0 rfl ?_
  refine wp_none ?_
  refine wp_some ?_
  refine we_int ?_
  refine ⟨_, rfl, ?_⟩
  refine wa_nil ?_
  refine cf_list rfl ?_
  refine ⟨trivial, ?_⟩
  refine wpr_cons ?_
  refine we_str ?_
  refine we_int ?_
  refine wpr_cons ?_
  refine we_str ?_
  refine we_int ?_
  refine wpr_nil ?_
  refine ⟨penK (cutL ns none (some 63)) 0 0, rfl, by show 3 ≤ 15; decide, ?_⟩
  refine ⟨_, Hsub.pen (ns := cutL ns none (some 63)) (t := 0) (r := 0) (n := 0) ?_ ⟨cutL_len _ _ (by decide), by decide, by decide, by decide⟩, 0, .pen 0, rfl, by decide, rfl, rfl, rfl, rfl, k⟩
  rw [gmerge_pen]
  rfl
  ) fun _ _ _ _ _ _ us hl => match us, hl with | [_], _ => rfl
end
end DL
namespace DL
open PySem PySem.Spec PyProof.Rows L2 RZ PySem.Calls
section
variable {P : Program} {w : World} {K : PySem.W.Frag} {mg : Str → Option Value} {base : Heap}
abbrev s_law_draw : Stmt := top 20
theorem sc_law_draw : FnScope ["pen", "many", "digit", "turn", "cell", "primes", "prime", "drawn"] ["pen", "many"] (defScope s_law_draw) := ⟨rfl, rfl, rfl, by decide +kernel, rfl, by decide +kernel, by decide +kernel⟩
theorem ok_law_draw (d0 : Dn K mg "_law_draw" s_law_draw) (B : Bn mg) : Cal P w K mg base "_law_draw" 1 [] sp_law_draw := d0.cal (ps := ["pen", "many"]) (fun f fd F => fn_body F sc_law_draw (fun args mu Φ ε h => by obtain ⟨m, n, rfl, _⟩ := h; rfl) fun cdv A outer s H E hr args mu Φ ε h => by
  have nd := sc_law_draw.nd
  obtain ⟨many, n, rfl, rfl, m1, m2, n1, k⟩ := h
  refine WSs.pen rfl fun ns t r pd => ?_
  have back : ∀ {x : Int} {t' r' : Int}, 0 ≤ x → x < many → PenD ns t' r' (n + 1) → ∃ m', Hsub [MO.dct (penK ns t' r')] m' ∧ RetOk 1 Φ (.int x) m' := fun {x t' r'} h0 h1 p => ⟨_, Hsub.pen rfl p, rfl, rfl, k x h0 h1⟩
  refine WSs.post (Ψ' := { nx := fun _ _ => False, rt := fun x m => ∃ m', Hsub m m' ∧ RetOk 1 Φ x m' }) ?_ (fun _ _ z => z.elim) (fun _ _ z => z) (fun _ _ z => z.elim) (fun _ _ z => z.elim) (fun _ _ _ z => z.elim)
  have ht : 0 ≤ t ∧ t ≤ 1099511627776 := by have := pd.t0; have := pd.tn; omega
  refine wss_cons (ws_if ?_)
  refine wt_cmp ?_ rfl
  refine we_ix hr.u ?_
  refine we_name 0 rfl ?_
  refine we_str ?_
  refine ixK rfl pen_rest ?_
  refine we_int ?_
  refine gtI ?_
  refine ⟨_, rfl, ?_⟩
  refine ⟨fun h => ?_, fun h => ?_⟩
  · skip
    refine wss_cons (ws_set 2 ?_)
    refine we_bin ?_
    refine we_ix hr.u ?_
    refine we_name 0 rfl ?_
    refine we_str ?_
    refine ixK rfl pen_rest ?_
    refine we_name 1 rfl ?_
    refine modI (by omega) ?_
    refine wss_cons (ws_asg (is := []) ?_)
    refine we_bin ?_
    refine we_ix hr.u ?_
    refine we_name 0 rfl ?_
    refine we_str ?_
    refine ixK rfl pen_rest ?_
    refine we_name 1 rfl ?_
    refine fdivI ⟨by omega, m2⟩ ?_
    refine wg_sub hr.u1 ?_
    refine we_name 0 rfl ?_
    refine we_str ?_
    refine .inr ⟨_, _, rfl, rfl, (by show 3 < sizeLine; decide), ?_⟩
    rw [gput_rest]
    refine wss_one (ws_ret ?_)
    refine we_name 2 rfl ?_
    exact back (Int.emod_nonneg _ (by omega)) (Int.emod_lt_of_pos _ (by omega)) ⟨pd.len, pd.t0, by have := pd.tn; omega, Int.ediv_nonneg pd.r0 (by omega)⟩
  · refine wss_nil ?_
    refine wss_cons (ws_set 3 ?_)
    refine we_ix hr.u ?_
    refine we_name 0 rfl ?_
    refine we_str ?_
    refine ixK rfl pen_turn ?_
    refine wss_cons (ws_asg (is := []) ?_)
    refine we_bin ?_
    refine we_name 3 rfl ?_
    refine we_int ?_
    refine addI ?_
    refine wg_sub hr.u1 ?_
    refine we_name 0 rfl ?_
    refine we_str ?_
    refine .inr ⟨_, _, rfl, rfl, (by show 3 < sizeLine; decide), ?_⟩
    rw [gput_turn]
    refine wss_cons (ws_set 4 ?_)
    refine we_bin ?_
    refine we_bin ?_
    refine we_int ?_
    refine we_name 3 rfl ?_
    refine mulI (cmul_l (by decide)) ?_
    refine we_int ?_
    refine addI ?_
    refine wss_mid (fun d m => ∃ cell : Int, d = [some (.own 0), some (.int many), none, some (.int t), some (.int cell), none, none, none] ∧ m = [.dct (penK ns (t + 1) r)]) (ws_if ?_) ?_
    · refine wt_cmp ?_ rfl
      refine we_ix hr.u ?_
      refine we_name 0 rfl ?_
      refine we_str ?_
      refine ixK rfl pen_cells ?_
      refine we_lst ?_
      refine wa_nil ?_
      refine ⟨by decide, ?_⟩
      refine neL0 hr.u64 rfl okD_ints ?_
      refine ⟨_, rfl, ?_⟩
      refine ⟨fun h => ?_, fun h => ?_⟩
      · have hl : 0 < (ns.map D.int).length := by
          cases ns with
          | nil => simp at h
          | cons => simp
        refine wss_one (ws_set 4 ?_)
        refine we_ix hr.u ?_
        refine we_ix hr.u ?_
        refine we_name 0 rfl ?_
        refine we_str ?_
        refine ixK rfl pen_cells ?_
        refine we_bin ?_
        refine we_name 3 rfl ?_
        refine we_bf B.len ?_
        refine wa_cons ?_
        refine we_ix hr.u ?_
        refine we_name 0 rfl ?_
        refine we_str ?_
        refine ixK rfl pen_cells ?_
        refine wa_nil ?_
        refine cf_len rfl ?_
        refine modI (show (0 : Int) < ((ns.map D.int).length : Int) by omega) ?_
        have q0 := Int.emod_nonneg t (show ((ns.map D.int).length : Int) ≠ 0 by omega)
        have q1 := Int.emod_lt_of_pos t (show 0 < ((ns.map D.int).length : Int) by omega)
        obtain ⟨c, hc⟩ : ∃ c, ns[(t % ((ns.map D.int).length : Int)).toNat]? = some c := ⟨_, List.getElem?_eq_getElem (by have := List.length_map (f := D.int) (as := ns); omega)⟩
        refine ixL rfl (atI_pos (d := .int c) q0 (by rw [List.getElem?_map, hc]; rfl)) ?_
        exact ⟨c, rfl, rfl⟩
      · refine wss_nil ?_
        exact ⟨_, rfl, rfl⟩
    rintro d m ⟨cell, rfl, rfl⟩
    refine wss_cons (ws_if (WT.val (decide (t < (ns.map D.int).length) && decide ((10 : Int) ^ (18 : Int).toNat ≤ (cell.natAbs : Int))) ?_ ?_))
    · refine WW.wt ?_
      refine ww_and ?_
      refine wt_cmp ?_ rfl
      refine we_name 3 rfl ?_
      refine we_bf B.len ?_
      refine wa_cons ?_
      refine we_ix hr.u ?_
      refine we_name 0 rfl ?_
      refine we_str ?_
      refine ixK rfl pen_cells ?_
      refine wa_nil ?_
      refine cf_len rfl ?_
      refine ltI ?_
      refine ⟨_, rfl, ?_⟩
      refine ⟨fun h => ?_, fun h => ?_⟩
      · refine ww_and1 ?_
        refine wt_cmp ?_ rfl
        refine we_bf B.abs ?_
        refine wa_cons ?_
        refine we_name 4 rfl ?_
        refine wa_nil ?_
        refine cf_abs ?_
        refine we_bin ?_
        refine we_int ?_
        refine we_int ?_
        refine powI ⟨by decide, by decide, by decide⟩ ?_
        refine geI ?_
        refine ⟨_, rfl, rfl, ?_⟩
        rw [h]; rfl
      · refine ⟨rfl, ?_⟩
        rw [h]; rfl
    refine ⟨fun h => ?_, fun h => ?_⟩
    · have h' : (1000000000000000000 : Int) ≤ (cell.natAbs : Int) := by
        rw [Bool.and_eq_true] at h
        exact of_decide_eq_true h.2
      refine wss_cons (ws_asg (is := []) ?_)
      refine we_bin ?_
      refine we_bin ?_
      refine we_bf B.abs ?_
      refine wa_cons ?_
      refine we_name 4 rfl ?_
      refine wa_nil ?_
      refine cf_abs ?_
      refine we_bin ?_
      refine we_int ?_
      refine we_int ?_
      refine powI ⟨by decide, by decide, by decide⟩ ?_
      refine subI ?_
      refine we_name 1 rfl ?_
      refine fdivI ⟨by omega, m2⟩ ?_
      refine wg_sub hr.u1 ?_
      refine we_name 0 rfl ?_
      refine we_str ?_
      refine .inr ⟨_, _, rfl, rfl, (by show 3 < sizeLine; decide), ?_⟩
      rw [gput_rest]
      refine wss_one (ws_ret ?_)
      refine we_bin ?_
      refine we_bin ?_
      refine we_bf B.abs ?_
      refine wa_cons ?_
      refine we_name 4 rfl ?_
      refine wa_nil ?_
      refine cf_abs ?_
      refine we_bin ?_
      refine we_int ?_
      refine we_int ?_
      refine powI ⟨by decide, by decide, by decide⟩ ?_
      refine subI ?_
      refine we_name 1 rfl ?_
      refine modI (by omega) ?_
      refine back (Int.emod_nonneg _ (by omega)) (Int.emod_lt_of_pos _ (by omega)) ⟨pd.len, by omega, by have := pd.tn; omega, Int.ediv_nonneg ?_ (by omega)⟩
      show (0 : Int) ≤ (cell.natAbs : Int) - 1000000000000000000
      omega
    · refine wss_nil ?_
      refine wss_cons (ws_set 5 ?_)
      refine we_lst ?_
      refine wa_cons ?_
      refine we_int ?_
      refine wa_cons ?_
      refine we_int ?_
      refine wa_cons ?_
      refine we_int ?_
      refine wa_cons ?_
      refine we_int ?_
      refine wa_cons ?_
      refine we_int ?_
      refine wa_nil ?_
      refine ⟨by decide, ?_⟩
      have five : ∀ j : Int, 0 ≤ j → j < 5 → ∃ p : Int, 0 < p ∧ p < 2147483648 ∧ L2.atI [D.int 2147483647, .int 2147483629, .int 2147483587, .int 2147483579, .int 2147483563] j = some (.int p) := fun j h0 h5 => by
        obtain ⟨i, rfl⟩ := Int.eq_ofNat_of_zero_le h0
        have : i < 5 := by omega
        match i, this with
        | 0, _ => exact ⟨2147483647, by decide, by decide, atI_pos h0 rfl⟩
        | 1, _ => exact ⟨2147483629, by decide, by decide, atI_pos h0 rfl⟩
        | 2, _ => exact ⟨2147483587, by decide, by decide, atI_pos h0 rfl⟩
        | 3, _ => exact ⟨2147483579, by decide, by decide, atI_pos h0 rfl⟩
        | 4, _ => exact ⟨2147483563, by decide, by decide, atI_pos h0 rfl⟩
      refine wss_cons (ws_set 6 ?_)
      refine we_ix hr.u ?_
      refine we_name 5 rfl ?_
      refine we_bin ?_
      refine we_name 3 rfl ?_
      refine we_int ?_
      refine modI (by decide) ?_
      obtain ⟨p, p0, p1, pe⟩ := five (t % 5) (by omega) (by omega)
      refine ixL rfl pe ?_
      refine wss_cons (ws_set 7 ?_)
      refine we_bin ?_
      refine we_bin ?_
      refine we_bin ?_
      refine we_bin ?_
      refine we_bin ?_
      refine we_name 4 rfl ?_
      refine we_name 6 rfl ?_
      refine modI p0 ?_
      refine we_int ?_
      refine mulI (cmul_r (by decide)) ?_
      refine we_bin ?_
      refine we_bin ?_
      refine we_int ?_
      refine we_name 3 rfl ?_
      refine mulI (cmul_l (by decide)) ?_
      refine we_name 3 rfl ?_
      refine mulI (cmul_r (by omega)) ?_
      refine addI ?_
      refine we_int ?_
      refine addI ?_
      refine we_name 6 rfl ?_
      refine modI p0 ?_
      generalize hd1 : (cell % p * 69621 + 40692 * t * t + 11) % p = d1
      have d1a : 0 ≤ d1 ∧ d1 < 2147483648 := by
        have := Int.emod_nonneg (cell % p * 69621 + 40692 * t * t + 11) (show p ≠ 0 by omega)
        have := Int.emod_lt_of_pos (cell % p * 69621 + 40692 * t * t + 11) p0
        omega
      refine wss_cons (ws_set 7 ?_)
      refine we_bin ?_
      refine we_bin ?_
      refine we_name 7 rfl ?_
      refine we_bin ?_
      refine we_name 7 rfl ?_
      refine we_int ?_
      refine addI ?_
      refine mulI (cmul_l (by omega)) ?_
      refine we_ix hr.u ?_
      refine we_name 5 rfl ?_
      refine we_bin ?_
      refine we_bin ?_
      refine we_name 3 rfl ?_
      refine we_int ?_
      refine addI ?_
      refine we_int ?_
      refine modI (by decide) ?_
      obtain ⟨p', p0', p1', pe'⟩ := five ((t + 3) % 5) (by omega) (by omega)
      refine ixL rfl pe' ?_
      refine modI p0' ?_
      generalize hd2 : d1 * (d1 + 48271) % p' = d2
      have d2a : 0 ≤ d2 ∧ d2 < 2147483648 := by
        have := Int.emod_nonneg (d1 * (d1 + 48271)) (show p' ≠ 0 by omega)
        have := Int.emod_lt_of_pos (d1 * (d1 + 48271)) p0'
        omega
      refine wss_one (ws_ret ?_)
      refine we_bin ?_
      refine we_bin ?_
      refine we_bin ?_
      refine we_bin ?_
      refine we_name 7 rfl ?_
      refine we_name 7 rfl ?_
      refine mulI (cmul_l (by omega)) ?_
      refine we_int ?_
      refine modI (by decide) ?_
      refine we_int ?_
      refine fdivI (by decide) ?_
      refine we_name 1 rfl ?_
      refine modI (by omega) ?_
      exact back (Int.emod_nonneg _ (by omega)) (Int.emod_lt_of_pos _ (by omega)) ⟨pd.len, by omega, by have := pd.tn; omega, pd.r0⟩
  ) fun _ _ _ _ _ _ us hl => match us, hl with | [_, _], _ => rfl
end
end DL
namespace DL
open PySem PySem.Spec PyProof.Rows L2 RZ PySem.Calls
section
variable {P : Program} {w : World} {K : PySem.W.Frag} {mg : Str → Option Value} {base : Heap}
abbrev s_law_pick : Stmt := top 21
theorem sc_law_pick : FnScope ["pen", "some"] ["pen", "some"] (defScope s_law_pick) := ⟨rfl, rfl, rfl, by decide +kernel, rfl, by decide +kernel, by decide +kernel⟩
theorem ok_law_pick (d0 : Dn K mg "_law_pick" s_law_pick) (B : Bn mg) (cd : Cal P w K mg base "_law_draw" 1 [] sp_law_draw) : Cal P w K mg base "_law_pick" 2 [] sp_law_pick := d0.cal (ps := ["pen", "some"]) (fun f fd F => fn_body F sc_law_pick (fun args mu Φ ε h => by obtain ⟨x, L, n, rfl, _⟩ := h; rfl) fun cdv A outer s H E hr args mu Φ ε h => by
  have nd := sc_law_pick.nd
  obtain ⟨x, L, n, rfl, rfl, hL, l1, l2, n1, k⟩ := h
  refine wss_one (ws_ret ?_)
  refine we_ix hr.u ?_
  refine we_name 1 rfl ?_
  refine we_call cd 1 hr (by decide) ?_
  refine wa_cons ?_
  refine we_name 0 rfl ?_
  refine wa_cons ?_
  refine we_bf B.len ?_
  refine wa_cons ?_
  refine we_name 1 rfl ?_
  refine wa_nil ?_
  refine cf_len (pkL.len hL _) ?_
  refine wa_nil ?_
  refine ⟨by simp, rfl, rfl, L, n, rfl, rfl, by omega, by omega, n1, fun r r0 r1 => ?_⟩
  obtain ⟨i, rfl⟩ := Int.eq_ofNat_of_zero_le r0
  obtain ⟨d, hd⟩ := pick_some hL (show i < L by omega)
  obtain ⟨q1, q2⟩ := k i d (by omega) hd
  exact pick_ix hL hd ⟨q1, rfl, q2⟩
  ) fun _ _ _ _ _ _ us hl => match us, hl with | [_, _], _ => rfl
end
end DL
namespace DL
open PySem PySem.Spec PyProof.Rows L2 RZ PySem.Calls
section
variable {P : Program} {w : World} {K : PySem.W.Frag} {mg : Str → Option Value} {base : Heap}
abbrev s_law_names : Stmt := top 22
theorem sc_law_names : FnScope ["pen", "many", "words", "turn", "letters", "base", "k", "at", "first", "cut", "step", "found", "tail"] ["pen", "many"] (defScope s_law_names) := ⟨rfl, rfl, rfl, by decide +kernel, rfl, by decide +kernel, by decide +kernel⟩
theorem ok_law_names (d0 : Dn K mg "_law_names" s_law_names) (B : Bn mg) (cd : Cal P w K mg base "_law_draw" 1 [] sp_law_draw) (cp : Cal P w K mg base "_law_pick" 2 [] sp_law_pick) : Cal P w K mg base "_law_names" 3 [] sp_law_names := d0.cal (ps := ["pen", "many"]) (fun f fd F => fn_body F sc_law_names (fun args mu Φ ε h => by obtain ⟨_, _, rfl, _⟩ := h; rfl) fun cdv A outer s H E hr args mu Φ ε h => by
  have nd := sc_law_names.nd
  obtain ⟨many, n, rfl, rfl, m1, m2, n1, kk⟩ := h
  refine WSs.penUp (n + 20) ?_
  have fin : ∀ {ns : List Str} {n' : Nat} {ms : List MO}, NamesOk many ns → n' ≤ n + 20 → ∃ n1 ms', (MO.pen n' :: ms) = .pen n1 :: ms' ∧ n1 ≤ n + 20 ∧ RetOk 1 Φ (.lst (ns.map .str)) (.pen (n + 20) :: ms') := fun {ns n' ms} N h => ⟨n', ms, rfl, h, noOwns_strs, rfl, kk ns N⟩
  refine wss_cons ?_
  refine ws_if ?_
  refine wt_cmp ?_ rfl
  refine we_draw cd hr (by decide) 0 rfl ?_
  refine we_int ?_
  refine ⟨_, _, _, rfl, rfl, by omega, by omega, by omega, fun r r0 r1 => ?_⟩
  refine we_int ?_
  refine eqI hr.u64 ?_
  refine ⟨_, rfl, ?_⟩
  refine ⟨fun h => ?_, fun h => ?_⟩
  · skip
    refine wss_cons ?_
    refine ws_set 2 ?_
    refine we_lst ?_
    refine wa_csts rfl ?_
    refine ⟨by decide, ?_⟩
    refine wss_cons ?_
    refine ws_set 3 ?_
    refine we_draw cd hr (by decide) 0 rfl ?_
    refine we_int ?_
    refine ⟨_, _, _, rfl, rfl, by omega, by omega, by omega, fun t t0 t1 => ?_⟩
    refine wss_one ?_
    refine ws_ret ?_
    refine we_slice ?_
    refine we_slice ?_
    refine we_bin ?_
    refine we_bin ?_
    refine we_name 2 rfl ?_
    refine we_lst ?_
    refine wa_csts rfl ?_
    refine ⟨by decide, ?_⟩
    refine addL rfl rfl (by decide) ?_
    refine we_int ?_
    refine mulL rfl (by decide) ?_
    refine wp_some ?_
    refine we_name 3 rfl ?_
    refine ⟨_, rfl, ?_⟩
    refine wp_none ?_
    refine slL rfl ?_
    refine wp_none ?_
    refine wp_some ?_
    refine we_name 1 rfl ?_
    refine ⟨_, rfl, ?_⟩
    refine slL rfl ?_
    rw [cutL_drop _ _ t0, cutL_take _ _ (by omega)]
    have e : (List.replicate (2 : Int).toNat ([D.str "room", .str "door", .str "stone", .str "walker", .str "go", .str "lift", .str "lay", .str "wait", .str "both", .str "on", .str "turn", .str "at", .str "lies"] ++ [D.str "do", .str "heft", .str "rows", .str "wall", .str "open"])).flatten = (lawWords ++ lawWords).map .str := rfl
    rw [e, ← List.map_drop, ← List.map_take, Int.toNat_natCast]
    exact fin (names_words (by omega) m2) (by omega)
  · refine wss_nil ?_
    refine wss_cons ?_
    refine ws_set 4 ?_
    refine we_str ?_
    refine wss_cons ?_
    refine ws_set 5 ?_
    refine we_bm PySem.F.plainAttrs_str PySem.F.slot_str_join PySem.F.type_str_join ?_
    refine we_str ?_
    refine ⟨rfl, ?_⟩
    refine wa_cons ?_
    refine WO.we ?_
    refine wo_lc (is := [6]) [("k", 6)] ?_
    refine wit_range1 B.range ?_
    refine we_bin ?_
    refine we_int ?_
    refine we_draw cd hr (by decide) 0 rfl ?_
    refine we_int ?_
    refine ⟨_, _, _, rfl, rfl, by omega, by omega, by omega, fun q q0 q1 => ?_⟩
    refine addI ?_
    refine ⟨_, rfl, by omega, ?_⟩
    refine ⟨?_, fun pre post acc m => ∃ cs : List Nat, acc = cs.map (fun c => D.str ⟨#[c]⟩) ∧ cs.length = pre.length ∧ (∀ c, c ∈ cs → 97 ≤ c ∧ c ≤ 122) ∧ m = [.pen (n + 2 + pre.length)], ?_, ?_, ?_⟩
    · rw [rgY_len, sizeLine_eq]; omega
    · exact ⟨[], rfl, rfl, (by intro c hc; cases hc), rfl⟩
    · rintro pre y post acc m he ⟨cs, rfl, cl, co, rfl⟩
      obtain ⟨rfl, he1, he2⟩ := rgY_split he
      intro s0 H0 C cl0 fp
      refine wg_name 6 ?_
      intro s0 H0 C cl0 fp
      refine wts_nil ⟨fun _ => ?_, fun h => by cases h⟩
      intro s0 H0 C cl0 fp
      refine we_pick cp hr (by decide) 0 rfl ?_
      refine we_name 4 rfl ?_
      refine ⟨26, _, _, rfl, rfl, rfl, by omega, by omega, by omega, fun r z r1 hz => ?_⟩
      obtain ⟨c, hc, rfl⟩ := Option.map_eq_some_iff.mp hz
      rw [abc_get r r1] at hc
      cases hc
      refine ⟨cs ++ [97 + r], by simp, by simp [cl], fun c hc => ?_, by simp; omega⟩
      rcases List.mem_append.mp hc with h | h
      · exact co c h
      · simp at h; omega
    · rintro acc m ⟨cs, rfl, cl, co, rfl⟩
      rw [rgY_len] at cl
      refine ⟨trivial, ?_⟩
      refine wa_nil ?_
      have hm : cs.map (fun c => D.str ⟨#[c]⟩) = (cs.map fun c => (⟨#[c]⟩ : Str)).map .str := by rw [List.map_map]; rfl
      refine mt_jn (ys := cs.map fun c => (⟨#[c]⟩ : Str)) (congrArg some hm) ?_ ?_
      · have h1 : ((cs.map fun c => (⟨#[c]⟩ : Str)).map (·.length)).sum = cs.length := sum_ones cs
        rw [h1, List.length_map]
        show cs.length + cs.length * 0 ≤ _
        omega
      have hj : Txt.join "" (cs.map fun c => (⟨#[c]⟩ : Str)) = tx cs := join_signs cs
      rw [hj]
      have c1 : 1 ≤ cs.length := by omega
      have c8 : cs.length ≤ 8 := by omega
      refine wss_cons ?_
      refine ws_par3 (i := 7) (j := 8) (l := 9) ?_
      refine wa_cons ?_
      refine we_draw cd hr (by decide) 0 rfl ?_
      refine we_bf B.len ?_
      refine wa_cons ?_
      refine we_name 5 rfl ?_
      refine wa_nil ?_
      refine cf_len (n := cs.length) (by show (if (tx cs).length ≤ sizeLine then some (tx cs).length else none) = some cs.length; rw [tx_len, if_pos (by rw [sizeLine_eq]; omega)]) ?_
      refine ⟨_, _, _, rfl, rfl, by omega, by omega, by rw [rgY_len]; omega, fun a a0 a1 => ?_⟩
      refine wa_cons ?_
      refine we_draw cd hr (by decide) 0 rfl ?_
      refine we_int ?_
      refine ⟨_, _, _, rfl, rfl, by omega, by omega, by rw [rgY_len]; omega, fun fi f0 f1 => ?_⟩
      refine wa_cons ?_
      refine we_draw cd hr (by decide) 0 rfl ?_
      refine we_int ?_
      refine ⟨_, _, _, rfl, rfl, by omega, by omega, by rw [rgY_len]; omega, fun cu u0 u1 => ?_⟩
      refine wa_nil ?_
      refine ⟨_, _, _, rfl, ?_⟩
      refine wss_cons ?_
      refine ws_par (i := 10) (j := 11) ?_
      refine wa_cons ?_
      refine we_pick cp hr (by decide) 0 rfl ?_
      refine we_lst ?_
      refine wa_csts rfl ?_
      refine ⟨by decide, ?_⟩
      refine ⟨_, _, _, rfl, rfl, rfl, by decide, by decide, by rw [rgY_len]; omega, fun r z r1 hz => ?_⟩
      obtain ⟨sp, sp1, rfl⟩ : ∃ sp : Nat, stepOk sp ∧ z = .int sp := by
        have hz : [D.int 1, .int 3, .int 5, .int 7, .int 9, .int 11, .int 15, .int 17, .int 19, .int 21, .int 23, .int 25][r]? = some z := hz
        have hm := List.mem_of_getElem? hz
        simp only [List.mem_cons, List.not_mem_nil, or_false] at hm
        unfold stepOk
        rcases hm with rfl | rfl | rfl | rfl | rfl | rfl | rfl | rfl | rfl | rfl | rfl | rfl <;> exact ⟨_, by decide, rfl⟩
      refine wa_cons ?_
      refine WO.mut ?_
      refine wo_lst ?_
      refine wa_nil ?_
      refine ⟨by decide, ?_⟩
      refine wa_nil ?_
      refine ⟨_, _, rfl, ?_⟩
      obtain ⟨a, rfl⟩ := Int.eq_ofNat_of_zero_le a0
      obtain ⟨fi, rfl⟩ := Int.eq_ofNat_of_zero_le f0
      have a1 : a < cs.length := by omega
      generalize hn' : n + 2 + (rgY 0 (1 + q).toNat).length + 1 + 1 + 1 + 1 = n'
      have hn2 : n' ≤ n + 14 := by rw [rgY_len] at hn'; omega
      refine wss_cons ?_
      refine ws_for (is := [6]) ?_ (passes_of rfl)
      refine wit_range1 B.range ?_
      refine we_name 1 rfl ?_
      refine ⟨_, rfl, by omega, ?_⟩
      refine ⟨fun pre post d m => ∃ sk st, d = [some (.own 0), some (.int many), none, none, some (.str "abcdefghijklmnopqrstuvwxyz"), some (.str (tx cs)), sk, some (.int (a : Int)), some (.int (fi : Int)), some (.int cu), some (.int (sp : Int)), some (.own 1), st] ∧
        m = [.pen n', .lst (((List.range pre.length).map fun k => tx (nameAt cs a fi sp cu k)).map .str)], ?_, ?_, ?_⟩
      · exact ⟨_, _, rfl, rfl⟩
      · rintro pre y post d m he ⟨sk, st, rfl, rfl⟩
        obtain ⟨rfl, he1, he2⟩ := rgY_split he
        refine wg_name 6 ?_
        refine wss_cons ?_
        refine ws_set 12 ?_
        refine we_slice ?_
        refine we_slice ?_
        refine we_name 5 rfl ?_
        refine wp_some ?_
        refine we_bin ?_
        refine we_name 7 rfl ?_
        refine we_int ?_
        refine addI ?_
        refine ⟨_, rfl, ?_⟩
        refine wp_none ?_
        refine slS (by rw [tx_len, sizeLine_eq]; omega) ?_
        refine wp_none ?_
        refine wp_some ?_
        refine we_ix hr.u ?_
        refine we_lst ?_
        refine wa_cons ?_
        refine we_int ?_
        refine wa_cons ?_
        refine we_bin ?_
        refine we_name 6 rfl ?_
        refine we_int ?_
        refine modI (by decide) ?_
        refine wa_nil ?_
        refine ⟨by show 2 ≤ sizeLine; decide, ?_⟩
        refine we_name 9 rfl ?_
        refine ixL (d := .int (if cu = 0 then 8 else (0 + (pre.length : Int)) % 3)) rfl ?_ ?_
        · refine atI_pos u0 ?_
          have : cu = 0 ∨ cu = 1 := by omega
          rcases this with rfl | rfl <;> rfl
        refine ⟨_, rfl, ?_⟩
        rw [cutS_drop _ _ (by omega)]
        refine slS (by rw [tx_len, sizeLine_eq]; simp; omega) ?_
        rw [cutS_take _ _ (by split <;> omega)]
        refine wss_one ?_
        refine ws_expr ?_
        refine we_bm PySem.F.plainAttrs_list PySem.F.slot_list_append PySem.F.type_list_append ?_
        refine we_name 11 rfl ?_
        refine ⟨rfl, ?_⟩
        refine wa_cons ?_
        refine we_bin ?_
        refine we_bin ?_
        refine we_slice ?_
        refine we_name 5 rfl ?_
        refine wp_none ?_
        refine wp_some ?_
        refine we_name 7 rfl ?_
        refine ⟨_, rfl, ?_⟩
        refine slS (by rw [tx_len, sizeLine_eq]; omega) ?_
        rw [cutS_take _ _ (by omega)]
        refine we_ix hr.u ?_
        refine we_name 4 rfl ?_
        refine we_bin ?_
        refine we_bin ?_
        refine we_name 8 rfl ?_
        refine we_bin ?_
        refine we_name 10 rfl ?_
        refine we_name 6 rfl ?_
        refine mulI (cmul_r (by omega)) ?_
        refine addI ?_
        refine we_int ?_
        refine modI (by decide) ?_
        refine ixS (c := 97 + (fi + sp * pre.length) % 26) (by decide +kernel) (atI_pos (by omega) ?_) ?_
        · have e : (((fi : Int) + (sp : Int) * (0 + (pre.length : Int))) % 26).toNat = (fi + sp * pre.length) % 26 := by
            rw [Int.zero_add]
            have : ((fi : Int) + (sp : Int) * (pre.length : Int)) % 26 = (((fi + sp * pre.length) % 26 : Nat) : Int) := by push_cast; rfl
            rw [this]; rfl
          rw [e]
          exact abc_get _ (by omega)
        refine addS (by rw [tx_len, sizeLine_eq]; simp [Str.length]; omega) ?_
        refine we_name 12 rfl ?_
        refine addS (by rw [sizeLine_eq]; show ((tx _) ++ (tx [_])).length + _ ≤ _; rw [tx_app, tx_len, tx_len]; simp only [List.length_append, List.length_take, List.length_drop, List.length_cons, List.length_nil]; omega) ?_
        refine wa_nil ?_
        refine mt_app rfl (by rw [sizeLine_eq]; simp; omega) ?_
        refine ⟨_, _, rfl, ?_⟩
        have e1 : (tx (cs.take (a : Int).toNat) ++ (⟨#[97 + (fi + sp * pre.length) % 26]⟩ : Str)) ++ tx ((cs.drop ((a : Int) + 1).toNat).take (if cu = 0 then (8 : Int) else (0 + (pre.length : Int)) % 3).toNat) = tx (nameAt cs a fi sp cu pre.length) := by
          show (tx (cs.take (a : Int).toNat) ++ tx [_]) ++ _ = _
          rw [tx_app, tx_app]
          unfold nameAt
          rw [List.append_assoc]
          have e2 : (if cu = 0 then (8 : Int) else (0 + (pre.length : Int)) % 3).toNat = if cu = 0 then 8 else pre.length % 3 := by split <;> omega
          rw [e2]
          rfl
        rw [e1]
        simp [List.range_succ]
      · rintro d m ⟨sk, st, rfl, rfl⟩
        rw [rgY_len]
        have N := names_drawn (f := fi) (c := cu) a1 c8 co sp1 m2
        have em : (many : Int).toNat = many := Int.toNat_natCast many
        rw [em]
        refine wss_mid (fun d m => ∃ sk st ns n2, d = [some (.own 0), some (.int many), none, none, some (.str "abcdefghijklmnopqrstuvwxyz"), some (.str (tx cs)), sk, some (.int (a : Int)), some (.int (fi : Int)), some (.int cu), some (.int (sp : Int)), some (.own 1), st] ∧ n2 ≤ n + 20 ∧ NamesOk many ns ∧ m = [.pen n2, .lst (ns.map .str)]) (ws_if ?_) ?_
        · refine WW.wt ?_
          refine ww_and ?_
          refine wt_cmp ?_ rfl
          refine we_name 7 rfl ?_
          refine we_int ?_
          refine gtI ?_
          refine ⟨_, rfl, ?_⟩
          refine ⟨fun h => ?_, fun h => ?_⟩
          · refine ww_and1 ?_
            refine wt_cmp ?_ rfl
            refine we_draw cd hr (by decide) 0 rfl ?_
            refine we_int ?_
            refine ⟨_, _, _, rfl, rfl, by omega, by omega, by omega, fun r r0 r1 => ?_⟩
            refine we_int ?_
            refine eqI hr.u64 ?_
            refine ⟨_, rfl, ?_⟩
            refine ⟨fun h' => ?_, fun h' => ?_⟩
            · skip
              refine wss_one ?_
              refine ws_asg (is := []) ?_
              refine we_slice ?_
              refine we_name 5 rfl ?_
              refine wp_none ?_
              refine wp_some ?_
              refine we_name 7 rfl ?_
              refine ⟨_, rfl, ?_⟩
              refine slS (by rw [tx_len, sizeLine_eq]; omega) ?_
              rw [cutS_take _ _ (by omega)]
              refine wg_sub hr.u1 ?_
              refine we_name 11 rfl ?_
              refine we_draw cd hr (by decide) 0 rfl ?_
              refine we_name 1 rfl ?_
              refine ⟨_, _, _, rfl, rfl, by omega, by omega, by omega, fun j j0 j1 => ?_⟩
              obtain ⟨j, rfl⟩ := Int.eq_ofNat_of_zero_le j0
              refine .inl ⟨_, _, j, rfl, rfl, ?_, ?_⟩
              · unfold ixN
                rw [if_pos (by omega), if_pos (by simp; omega)]; rfl
              refine ⟨_, _, _, n' + 1 + 1, rfl, ?_, names_cut (f := fi) (c := cu) (j := j) a1 c8 co sp1 m2 (by have := of_decide_eq_true h; omega), ?_⟩
              · omega
              · rw [List.map_set]; rfl
            · refine wss_nil ?_
              exact ⟨_, _, _, _, rfl, by omega, N, rfl⟩
          · refine ⟨(fun h => by cases h), fun _ => ?_⟩
            refine wss_nil ?_
            exact ⟨_, _, _, _, rfl, by omega, N, rfl⟩
        rintro d m ⟨sk, st, ns, n2, rfl, hn3, N2, rfl⟩
        refine wss_one ?_
        refine ws_ret ?_
        refine WE.cool ?_
        refine we_name 11 rfl ?_
        exact .inr ⟨1, _, rfl, rfl, trivial, fin N2 hn3⟩
  ) fun _ _ _ _ _ _ us hl => match us, hl with | [_, _], _ => rfl
end
end DL
namespace DL
open PySem PySem.Spec PyProof.Rows L2 RZ PySem.Calls
section
variable {P : Program} {w : World} {K : PySem.W.Frag} {mg : Str → Option Value} {base : Heap}
abbrev s_law_heft : Stmt := top 23
theorem sc_law_heft : FnScope ["pen"] ["pen"] (defScope s_law_heft) := ⟨rfl, rfl, rfl, by decide +kernel, rfl, by decide +kernel, by decide +kernel⟩
theorem ok_law_heft (d0 : Dn K mg "_law_heft" s_law_heft) (B : Bn mg) (cd : Cal P w K mg base "_law_draw" 1 [] sp_law_draw) : Cal P w K mg base "_law_heft" 2 [] sp_law_heft := d0.cal (ps := ["pen"]) (fun f fd F => fn_body F sc_law_heft (fun args mu Φ ε h => by obtain ⟨_, rfl, _⟩ := h; rfl) fun cdv A outer s H E hr args mu Φ ε h => by
  have nd := sc_law_heft.nd
  obtain ⟨n, rfl, rfl, n1, k⟩ := h
  refine wss_one ?_
  refine ws_ret ?_
  refine we_ix hr.u ?_
  refine we_lst ?_
  refine wa_csts rfl ?_
  refine ⟨by decide, ?_⟩
  refine we_draw cd hr (by decide) 0 rfl ?_
  refine we_int ?_
  refine ⟨_, _, _, rfl, rfl, by omega, by omega, by omega, fun r r0 r1 => ?_⟩
  obtain ⟨v, e, hv⟩ := one_int (ns := [0, 1, 1, 2, 3, 5, 9, 10, 4, 9999999]) (p := fun v => decide (0 ≤ v) && decide (v ≤ 9999999)) r0 (by simpa using r1) (by decide)
  simp only [Bool.and_eq_true, decide_eq_true_eq] at hv
  refine ixL rfl e ?_
  exact ⟨rfl, rfl, k v hv.1 hv.2⟩
  ) fun _ _ _ _ _ _ us hl => match us, hl with | [_], _ => rfl
end
end DL
namespace DL
open PySem PySem.Spec PyProof.Rows L2 RZ PySem.Calls
section
variable {P : Program} {w : World} {K : PySem.W.Frag} {mg : Str → Option Value} {base : Heap}
abbrev s_law_rows : Stmt := top 24
theorem sc_law_rows : FnScope ["pen", "rooms", "hefts", "found", "room", "least", "top"] ["pen", "rooms", "hefts"] (defScope s_law_rows) := ⟨rfl, rfl, rfl, by decide +kernel, rfl, by decide +kernel, by decide +kernel⟩
theorem ok_law_rows (d0 : Dn K mg "_law_rows" s_law_rows) (B : Bn mg) (cd : Cal P w K mg base "_law_draw" 1 [] sp_law_draw) (cp : Cal P w K mg base "_law_pick" 2 [] sp_law_pick) : Cal P w K mg base "_law_rows" 3 [] sp_law_rows := d0.cal (ps := ["pen", "rooms", "hefts"]) (fun f fd F => fn_body F sc_law_rows (fun args mu Φ ε h => by obtain ⟨_, _, _, rfl, _⟩ := h; rfl) fun cdv A outer s H E hr args mu Φ ε h => by
  have nd := sc_law_rows.nd
  obtain ⟨rooms, hefts, n, rfl, rfl, hh, hl, rl, n1, k⟩ := h
  refine WSs.penUp (n + 4 * rooms.length) ?_
  refine wss_cons ?_
  refine ws_set 3 ?_
  refine WO.mut ?_
  refine wo_lst ?_
  refine wa_nil ?_
  refine ⟨by decide, ?_⟩
  refine wss_cons ?_
  refine ws_for (is := [4]) ?_ (passes_of rfl)
  refine wit_seq ?_
  refine we_name 1 rfl ?_
  refine ⟨_, rfl, ?_⟩
  refine ⟨fun pre post d m => ∃ (l1 l2 : List Str) (rows : List Row) (n' : Nat) (s4 s5 s6 : Sl), rooms = l1 ++ l2 ∧ pre = (l1.map .str).map .one ∧ d = [some (.own 0), some (.lst (rooms.map .str)), some (.lst (hefts.map .int)), some (.own 1), s4, s5, s6] ∧ m = [.pen n', .lst (rows.map Row.d)] ∧ n' ≤ n + 4 * l1.length ∧
    (rows.map (·.room)).Sublist l1 ∧ rows.length ≤ 4 ∧ (∀ r, r ∈ rows → r.Ok), ?_, ?_, ?_⟩
  · exact ⟨[], rooms, [], n, _, _, _, rfl, rfl, rfl, rfl, by omega, List.Sublist.refl _, by decide, (by intro r hr; cases hr)⟩
  · rintro pre y post d m he ⟨l1, l2, rows, n', s4, s5, s6, rfl, rfl, rfl, rfl, hn', sub, r4, rok⟩
    obtain ⟨room, l3, rfl, rfl⟩ : ∃ room l3, l2 = room :: l3 ∧ y = .one (.str room) := by
      cases l2 with
      | nil => simp at he
      | cons r l3 => simp at he; exact ⟨r, l3, rfl, he.1.symm⟩
    have hlen : (l1 ++ room :: l3).length = l1.length + l3.length + 1 := by simp; omega
    refine wg_name 4 ?_
    refine wss_one ?_
    refine ws_if ?_
    refine WW.wt ?_
    refine ww_and ?_
    refine wt_cmp ?_ rfl
    refine we_bf B.len ?_
    refine wa_cons ?_
    refine we_name 3 rfl ?_
    refine wa_nil ?_
    refine cf_len rfl ?_
    refine we_int ?_
    refine ltI ?_
    refine ⟨_, rfl, ?_⟩
    have skip : ∀ n'' s4 s5 s6, n'' ≤ n' + 4 → ∃ (l1' l2' : List Str) (rows' : List Row) (m' : Nat) (t4 t5 t6 : Sl), l1 ++ room :: l3 = l1' ++ l2' ∧ (List.map Yd.one (List.map D.str l1)) ++ [.one (.str room)] = (l1'.map .str).map .one ∧ [some (D.own 0), some (.lst ((l1 ++ room :: l3).map .str)), some (.lst (hefts.map .int)), some (.own 1), s4, s5, s6] = [some (.own 0), some (.lst ((l1 ++ room :: l3).map .str)), some (.lst (hefts.map .int)), some (.own 1), t4, t5, t6] ∧ [MO.pen n'', .lst (rows.map Row.d)] = [.pen m', .lst (rows'.map Row.d)] ∧ m' ≤ n + 4 * l1'.length ∧
        (rows'.map (·.room)).Sublist l1' ∧ rows'.length ≤ 4 ∧ (∀ r, r ∈ rows' → r.Ok) := fun n'' s4 s5 s6 h => ⟨l1 ++ [room], l3, rows, n'', s4, s5, s6, by simp, by simp, rfl, rfl, by simp; omega, sub.trans (List.sublist_append_left _ _), r4, rok⟩
    refine ⟨fun h => ?_, fun h => ?_⟩
    · have hrl : rows.length < 4 := by
        have := of_decide_eq_true h
        simp at this
        omega
      refine ww_and1 ?_
      refine wt_cmp ?_ rfl
      refine we_draw cd hr (by decide) 0 rfl ?_
      refine we_int ?_
      refine ⟨_, _, _, rfl, rfl, by omega, by omega, by omega, fun r r0 r1 => ?_⟩
      refine we_int ?_
      refine eqI hr.u64 ?_
      refine ⟨_, rfl, ?_⟩
      refine ⟨fun h => ?_, fun h => ?_⟩
      · skip
        refine wss_cons ?_
        refine ws_set 5 ?_
        refine we_bf B.min ?_
        refine wa_cons ?_
        refine we_int ?_
        refine wa_cons ?_
        refine we_pick cp hr (by decide) 0 rfl ?_
        refine we_bin ?_
        refine we_bin ?_
        refine we_lst ?_
        refine wa_csts rfl ?_
        refine ⟨by decide, ?_⟩
        refine we_name 2 rfl ?_
        refine addL rfl rfl (by rw [sizeLine_eq]; simp; omega) ?_
        refine we_lst ?_
        refine wa_cons ?_
        refine we_bf B.sum ?_
        refine wa_cons ?_
        refine we_slice ?_
        refine we_name 2 rfl ?_
        refine wp_none ?_
        refine wp_some ?_
        refine we_int ?_
        refine ⟨_, rfl, ?_⟩
        refine slL rfl ?_
        refine wa_nil ?_
        refine cf_sum (bs := hefts.take 2) rfl (by show D.lst (cutL (hefts.map .int) none (some 2)) = _; rw [cutL_take _ _ (by decide), ← List.map_take]; rfl) ?_
        refine wa_cons ?_
        refine we_bf B.sum ?_
        refine wa_cons ?_
        refine we_name 2 rfl ?_
        refine wa_nil ?_
        refine cf_sum rfl rfl ?_
        refine wa_nil ?_
        refine ⟨by show 2 ≤ sizeLine; decide, ?_⟩
        refine addL rfl rfl (by rw [sizeLine_eq]; simp; omega) ?_
        have nn : ∀ v, v ∈ [0, 1, 2, 3] ++ hefts ++ [(hefts.take 2).sum, hefts.sum] → (0 : Int) ≤ v := fun v hv => by
          simp only [List.mem_append, List.mem_cons, List.not_mem_nil, or_false] at hv
          rcases hv with ((rfl | rfl | rfl | rfl) | hv) | rfl | rfl
          · decide
          · decide
          · decide
          · decide
          · exact hh v hv
          · exact sum_nn fun x hx => hh x (List.mem_of_mem_take hx)
          · exact sum_nn hh
        have em : [D.int 0, .int 1, .int 2, .int 3] ++ hefts.map D.int ++ [D.int (hefts.take 2).sum, .int hefts.sum] = ([0, 1, 2, 3] ++ hefts ++ [(hefts.take 2).sum, hefts.sum]).map .int := by simp
        rw [em]
        refine ⟨([0, 1, 2, 3] ++ hefts ++ [(hefts.take 2).sum, hefts.sum]).length, _, _, by show some _ = some _; rw [List.length_map], noOwns_ints, rfl, by simp, by simp; omega, by omega, fun r z r1 hz => ?_⟩
        have hz : (([0, 1, 2, 3] ++ hefts ++ [(hefts.take 2).sum, hefts.sum]).map D.int)[r]? = some z := hz
        rw [List.getElem?_map] at hz
        obtain ⟨least, hz1, rfl⟩ := Option.map_eq_some_iff.mp hz
        have l0 := nn least (List.mem_of_getElem? hz1)
        refine wa_nil ?_
        refine cf_min2 rfl ?_
        generalize hlm : min (9999999 : Int) least = lm
        have lm0 : 0 ≤ lm ∧ lm ≤ 9999999 := by omega
        refine wss_cons ?_
        refine ws_set 6 ?_
        refine we_ix hr.u ?_
        refine we_lst ?_
        refine wa_cons ?_
        refine we_non ?_
        refine wa_cons ?_
        refine we_non ?_
        refine wa_cons ?_
        refine we_bf B.min ?_
        refine wa_cons ?_
        refine we_int ?_
        refine wa_cons ?_
        refine we_bin ?_
        refine we_name 5 rfl ?_
        refine we_draw cd hr (by decide) 0 rfl ?_
        refine we_int ?_
        refine ⟨_, _, _, rfl, rfl, by omega, by omega, by omega, fun q q0 q1 => ?_⟩
        refine addI ?_
        refine wa_nil ?_
        refine cf_min2 rfl ?_
        refine wa_nil ?_
        refine ⟨by show 3 ≤ sizeLine; decide, ?_⟩
        refine we_draw cd hr (by decide) 0 rfl ?_
        refine we_int ?_
        refine ⟨_, _, _, rfl, rfl, by omega, by omega, by omega, fun j j0 j1 => ?_⟩
        obtain ⟨top, et, ht⟩ : ∃ top : Option Int, L2.atI [D.non, .non, .int (min 9999999 (lm + q))] j = some (optD top) ∧ ∀ t, top = some t → lm ≤ t ∧ t ≤ 9999999 := by
          have : j = 0 ∨ j = 1 ∨ j = 2 := by omega
          rcases this with rfl | rfl | rfl
          · exact ⟨none, atI_pos (by decide) rfl, fun t h => by cases h⟩
          · exact ⟨none, atI_pos (by decide) rfl, fun t h => by cases h⟩
          · exact ⟨some (min 9999999 (lm + q)), atI_pos (by decide) rfl, fun t h => by cases h; omega⟩
        refine ixL rfl et ?_
        refine wss_one ?_
        refine ws_expr ?_
        refine we_bm PySem.F.plainAttrs_list PySem.F.slot_list_append PySem.F.type_list_append ?_
        refine we_name 3 rfl ?_
        refine ⟨rfl, ?_⟩
        refine wa_cons ?_
        refine we_tup ?_
        refine wa_cons ?_
        refine we_name 4 rfl ?_
        refine wa_cons ?_
        refine we_name 5 rfl ?_
        refine wa_cons ?_
        refine we_name 6 rfl ?_
        refine wa_nil ?_
        refine ⟨by show 3 ≤ sizeLine; decide, ?_⟩
        refine wa_nil ?_
        refine mt_app rfl (by rw [sizeLine_eq, List.length_map]; omega) ?_
        refine ⟨l1 ++ [room], l3, rows ++ [⟨room, lm, top⟩], _, _, _, _, by simp, by simp, rfl, by simp [Row.d]; rfl, by simp; omega, ?_, by simp; omega, fun r hr' => ?_⟩
        · rw [List.map_append]
          exact sub.append (List.Sublist.refl _)
        · rcases List.mem_append.mp hr' with h | h
          · exact rok r h
          · simp at h; subst h; exact ⟨lm0.1, lm0.2, ht⟩
      · refine wss_nil ?_
        exact skip _ _ _ _ (by omega)
    · refine ⟨(fun h => by cases h), fun _ => ?_⟩
      refine wss_nil ?_
      exact skip _ _ _ _ (by omega)
  · rintro d m ⟨l1, l2, rows, n', s4, s5, s6, er, ep, rfl, rfl, hn', sub, r4, rok⟩
    have e2 : l2 = [] := by
      have h1 := congrArg List.length ep
      have h2 := congrArg List.length er
      simp at h1 h2
      exact List.eq_nil_of_length_eq_zero (by omega)
    subst e2
    rw [List.append_nil] at er
    subst er
    refine wss_one ?_
    refine ws_ret ?_
    refine we_ty B.tuple ?_
    refine wa_cons ?_
    refine we_name 3 rfl ?_
    refine wa_nil ?_
    refine cf_tuple rfl ?_
    exact ⟨n', _, rfl, hn', noOwns_rows rows, rfl, k rows sub r4 rok⟩
  ) fun _ _ _ _ _ _ us hl => match us, hl with | [_, _, _], _ => rfl
end
end DL
namespace DL
open PySem PySem.Spec PyProof.Rows L2 RZ PySem.Calls
section
variable {P : Program} {w : World} {K : PySem.W.Frag} {mg : Str → Option Value} {base : Heap}
abbrev s_law_hall_of : Stmt := top 26
theorem sc_law_hall_of : FnScope ["pen", "names", "size", "hall", "k", "name", "rooms", "hefts", "one", "at", "far", "ends", "way"] ["pen", "names", "size"] (defScope s_law_hall_of) := ⟨rfl, rfl, rfl, by decide +kernel, rfl, by decide +kernel, by decide +kernel⟩
theorem ok_law_hall_of (d0 : Dn K mg "_law_hall_of" s_law_hall_of) (B : Bn mg) (cd : Cal P w K mg base "_law_draw" 1 [] sp_law_draw) (ch : Cal P w K mg base "_law_heft" 2 [] sp_law_heft) (cr : Cal P w K mg base "_law_rows" 3 [] sp_law_rows) : Cal P w K mg base "_law_hall_of" 4 [] sp_law_hall_of := d0.cal (ps := ["pen", "names", "size"]) (fun f fd F => fn_body F sc_law_hall_of (fun args mu Φ ε h => by obtain ⟨_, _, _, _, _, _, rfl, _⟩ := h; rfl) fun cdv A outer s H E hr args mu Φ ε h => by
  have nd := sc_law_hall_of.nd
  obtain ⟨s0, s1, s2, s3, n, names, rfl, rfl, N, b0, b3, bs, n1, kk⟩ := h
  have hnl := N.len
  unfold hallN at n1 kk
  generalize hC : s1 * (3 + 4 * s0) = C at n1 kk
  refine WSs.penUp (n + (4 + 2 * s3 + s2 + C)) ?_
  refine wss_cons ?_
  refine ws_set 3 ?_
  refine WO.mut ?_
  refine wo_disp ?_
  refine wpr_cons ?_
  refine we_str ?_
  refine WO.mut ?_
  refine wo_dict0 ?_
  refine wpr_cons ?_
  refine we_str ?_
  refine WO.mut ?_
  refine wo_dict0 ?_
  refine wpr_cons ?_
  refine we_str ?_
  refine WO.mut ?_
  refine wo_lst ?_
  refine wa_nil ?_
  refine ⟨by decide, ?_⟩
  refine wpr_nil ?_
  refine ⟨hallK (.own 1) (.own 2) (.own 3), rfl, by show 3 ≤ 15; decide, ?_⟩
  rw [gmerge_hall]
  refine wss_cons ?_
  refine ws_asg (is := []) ?_
  refine WO.we ?_
  refine wo_bf B.sorted ?_
  refine wa_cons ?_
  refine we_slice ?_
  refine we_name 1 rfl ?_
  refine wp_none ?_
  refine wp_some ?_
  refine we_bin ?_
  refine we_int ?_
  refine we_draw cd hr (by decide) 0 rfl ?_
  refine we_ix hr.u ?_
  refine we_name 2 rfl ?_
  refine we_int ?_
  refine ixT (d := .int s0) rfl (atI_pos (by decide) rfl) ?_
  refine ⟨_, _, _, rfl, rfl, by omega, by omega, by omega, fun r r0 r1 => ?_⟩
  refine addI ?_
  refine ⟨_, rfl, ?_⟩
  refine slL rfl ?_
  rw [cutL_take _ _ (by omega), ← List.map_take]
  refine wa_nil ?_
  refine cf_sortedS rfl (by simp; omega) fun rooms pr sr => ?_
  have rl : rooms.length = (1 + r).toNat := by rw [pr.length_eq]; simp; omega
  refine ⟨trivial, ?_⟩
  refine wg_sub hr.u1 ?_
  refine we_name 3 rfl ?_
  refine we_str ?_
  refine .inr ⟨_, _, rfl, rfl, by show 3 < sizeLine; decide, ?_⟩
  rw [gput_rooms]
  refine wss_cons ?_
  refine ws_set 1 ?_
  refine we_slice ?_
  refine we_name 1 rfl ?_
  refine wp_some ?_
  refine we_ix hr.u ?_
  refine we_name 2 rfl ?_
  refine we_int ?_
  refine ixT (d := .int s0) rfl (atI_pos (by decide) rfl) ?_
  refine ⟨_, rfl, ?_⟩
  refine wp_none ?_
  refine slL rfl ?_
  rw [cutL_drop _ _ (by omega), ← List.map_drop, Int.toNat_natCast]
  refine wss_cons ?_
  refine ws_for (is := [4]) ?_ (passes_of rfl)
  refine wit_range1 B.range ?_
  refine we_bin ?_
  refine we_int ?_
  refine we_draw cd hr (by decide) 0 rfl ?_
  refine we_ix hr.u ?_
  refine we_name 2 rfl ?_
  refine we_int ?_
  refine ixT (d := .int s3) rfl (atI_pos (by decide) rfl) ?_
  refine ⟨_, _, _, rfl, rfl, by omega, by omega, by omega, fun wn w0 w1 => ?_⟩
  refine addI ?_
  refine ⟨_, rfl, by omega, ?_⟩
  refine ⟨fun pre post d m => ∃ (wl : List Wlk) (n' : Nat) (sk : Sl), d = [some (.own 0), some (.lst ((names.drop s0).map .str)), some (sizeD s0 s1 s2 s3), some (.own 4), sk, none, none, none, none, none, none, none, none] ∧
    m = [.pen n', .dct [], .dct [], .lst (wl.map Wlk.d), .dct (hallR (.own 1) (.own 2) (.own 3) (.lst (rooms.map .str)))] ∧ n' ≤ n + 2 + 2 * pre.length ∧ wl.map (·.name) = (names.drop s0).take pre.length ∧ (∀ x, x ∈ wl → (0 ≤ x.heft ∧ x.heft ≤ 9999999) ∧ x.hands ∈ [(0 : Int), 1, 2, 3, 9]), ?_, ?_, ?_⟩
  · exact ⟨[], n + 2, none, rfl, rfl, by simp, by simp, by intro x hx; cases hx⟩
  · rintro pre y post d m he ⟨wl, n', sk, rfl, rfl, hn', hw, hx⟩
    obtain ⟨rfl, he1, he2⟩ := rgY_split he
    have hg : pre.length < (names.drop s0).length := by simp; omega
    refine wg_name 4 ?_
    refine wss_one ?_
    refine ws_expr ?_
    refine we_bm PySem.F.plainAttrs_list PySem.F.slot_list_append PySem.F.type_list_append ?_
    refine we_ix hr.u ?_
    refine we_name 3 rfl ?_
    refine we_str ?_
    refine ixK rfl hall_walkers ?_
    refine ⟨rfl, ?_⟩
    refine wa_cons ?_
    refine we_tup ?_
    refine wa_cons ?_
    refine we_ix hr.u ?_
    refine we_name 1 rfl ?_
    refine we_name 4 rfl ?_
    refine ixL (d := .str ((names.drop s0)[pre.length])) rfl (atI_pos (by omega) (by rw [List.getElem?_map, show (0 + (pre.length : Int)).toNat = pre.length by omega, List.getElem?_eq_getElem hg]; rfl)) ?_
    refine wa_cons ?_
    refine we_call ch 1 hr (by decide) ?_
    refine wa_cons ?_
    refine we_name 0 rfl ?_
    refine wa_nil ?_
    refine ⟨by simp, rfl, rfl, n', rfl, rfl, by omega, fun hf hf0 hf1 => ?_⟩
    refine wa_cons ?_
    refine we_ix hr.u ?_
    refine we_lst ?_
    refine wa_csts rfl ?_
    refine ⟨by decide, ?_⟩
    refine we_draw cd hr (by decide) 0 rfl ?_
    refine we_int ?_
    refine ⟨_, _, _, rfl, rfl, by omega, by omega, by omega, fun j j0 j1 => ?_⟩
    obtain ⟨hd, eh, hh⟩ := one_int (ns := [0, 1, 2, 3, 9]) (p := fun v => decide (v ∈ [(0 : Int), 1, 2, 3, 9])) j0 (by simpa using j1) (by decide)
    refine ixL rfl eh ?_
    refine wa_nil ?_
    refine ⟨by show 3 ≤ sizeLine; decide, ?_⟩
    refine wa_nil ?_
    have hwl : wl.length ≤ 60 := by have := congrArg List.length hw; simp at this; omega
    refine mt_app rfl (by rw [sizeLine_eq, List.length_map]; omega) ?_
    refine ⟨wl ++ [⟨(names.drop s0)[pre.length], hf, hd⟩], n' + 1 + 1, _, rfl, by rw [List.map_append]; rfl, by simp; omega, ?_, fun x hx' => ?_⟩
    · rw [List.map_append, hw, List.length_append, List.length_singleton, List.take_succ, List.getElem?_eq_getElem hg]; rfl
    · rcases List.mem_append.mp hx' with h | h
      · exact hx x h
      · simp at h; subst h; exact ⟨⟨hf0, hf1⟩, of_decide_eq_true hh⟩
  · rintro d m ⟨wl, n', sk, rfl, rfl, hn', hw, hx⟩
    rw [rgY_len] at hn' hw
    have hwl : wl.length = (1 + wn).toNat := by
      have h := congrArg List.length hw
      rw [List.length_map, List.length_take, List.length_drop] at h
      omega
    refine wss_cons ?_
    refine ws_set 1 ?_
    refine we_slice ?_
    refine we_name 1 rfl ?_
    refine wp_some ?_
    refine we_ix hr.u ?_
    refine we_name 2 rfl ?_
    refine we_int ?_
    refine ixT (d := .int s3) rfl (atI_pos (by decide) rfl) ?_
    refine ⟨_, rfl, ?_⟩
    refine wp_none ?_
    refine slL rfl ?_
    rw [cutL_drop _ _ (by omega), ← List.map_drop, Int.toNat_natCast]
    refine wss_cons ?_
    refine ws_for (is := [5]) ?_ (passes_of rfl)
    refine wit_seq ?_
    refine WO.we ?_
    refine wo_bf B.sorted ?_
    refine wa_cons ?_
    refine we_slice ?_
    refine we_name 1 rfl ?_
    refine wp_none ?_
    refine wp_some ?_
    refine we_draw cd hr (by decide) 0 rfl ?_
    refine we_bin ?_
    refine we_ix hr.u ?_
    refine we_name 2 rfl ?_
    refine we_int ?_
    refine ixT (d := .int s2) rfl (atI_pos (by decide) rfl) ?_
    refine we_int ?_
    refine addI ?_
    refine ⟨_, _, _, rfl, rfl, by omega, by omega, by omega, fun q q0 q1 => ?_⟩
    refine ⟨_, rfl, ?_⟩
    refine slL rfl ?_
    rw [cutL_take _ _ (by omega), ← List.map_take]
    refine wa_nil ?_
    refine cf_sortedS rfl (by simp; omega) fun sn ps ss => ?_
    have snl : sn.length = q.toNat := by rw [ps.length_eq]; simp; omega
    refine ⟨trivial, _, rfl, ?_⟩
    rw [show List.map Yd.one (List.map D.str sn) = sn.map (fun x => .one (.str x)) from List.map_map]
    refine loopL (fun l1 l2 d m => ∃ (st : List (Str × Int)) (n'' : Nat) (t5 : Sl), d = [some (.own 0), some (.lst (((names.drop s0).drop s3).map .str)), some (sizeD s0 s1 s2 s3), some (.own 4), sk, t5, none, none, none, none, none, none, none] ∧
      m = [.pen n'', .dct [], .dct (stonesK st), .lst (wl.map Wlk.d), .dct (hallR (.own 1) (.own 2) (.own 3) (.lst (rooms.map .str)))] ∧ n'' ≤ n' + 1 + l1.length ∧ st.map (·.1) = l1 ∧ (∀ x, x ∈ st → 0 ≤ x.2 ∧ x.2 ≤ 9999999)) ?_ ?_ ?_
    · exact ⟨[], n' + 1, _, rfl, rfl, by simp, rfl, by intro x h; cases h⟩
    · rintro l1 a l2 d m he ⟨st, n'', t5, rfl, rfl, hn2, hst, hso⟩
      have hl1 : l1.length < sn.length := by rw [he]; simp
      refine wg_name 5 ?_
      refine wss_one ?_
      refine ws_asg (is := []) ?_
      refine we_call ch 1 hr (by decide) ?_
      refine wa_cons ?_
      refine we_name 0 rfl ?_
      refine wa_nil ?_
      refine ⟨by simp, rfl, rfl, n'', rfl, rfl, by omega, fun hf hf0 hf1 => ?_⟩
      refine wg_sub hr.u1 ?_
      refine we_ix hr.u ?_
      refine we_name 3 rfl ?_
      refine we_str ?_
      refine ixK rfl hall_stones ?_
      refine we_name 5 rfl ?_
      have sln : sn.Nodup := ps.nodup_iff.mpr ((N.nd.sublist ((List.drop_sublist _ _).trans (List.drop_sublist _ _))).sublist (List.take_sublist _ _))
      have anew : ∀ p, p ∈ stonesK st → p.1 ≠ .inr a := by
        intro p hp e
        obtain ⟨x, hx, rfl⟩ := List.mem_map.mp hp
        cases e
        have h1 : x.1 ∈ l1 := by rw [← hst]; exact List.mem_map.mpr ⟨x, hx, rfl⟩
        rw [he] at sln
        exact (List.nodup_append.mp sln).2.2 _ h1 _ (by simp) rfl
      refine .inr ⟨_, _, rfl, rfl, by show (stonesK st).length < sizeLine; rw [stonesK, List.length_map, sizeLine_eq]; have := congrArg List.length hst; simp at this; omega, ?_⟩
      rw [gput_new anew]
      refine ⟨st ++ [(a, hf)], n'' + 1, _, rfl, by rw [stonesK, stonesK, List.map_append]; rfl, by simp; omega, by rw [List.map_append, hst]; rfl, fun x hx' => ?_⟩
      rcases List.mem_append.mp hx' with h | h
      · exact hso x h
      · simp at h; subst h; exact ⟨hf0, hf1⟩
    · rintro d m ⟨st, n'', t5, rfl, rfl, hn2, hst, hso⟩
      have stl : st.length = sn.length := by have := congrArg List.length hst; simpa using this
      obtain ⟨sk', hsk'⟩ : ∃ x, x = sk.map (meltD 3 (.lst (wl.map Wlk.d))) := ⟨_, rfl⟩
      obtain ⟨tk', htk'⟩ : ∃ x, x = t5.map (meltD 3 (.lst (wl.map Wlk.d))) := ⟨_, rfl⟩
      refine WSs.meltTo (dl' := [some (.own 0), some (.lst (((names.drop s0).drop s3).map .str)), some (sizeD s0 s1 s2 s3), some (.own 4), sk', tk', none, none, none, none, none, none, none])
        (mu' := [.pen n'', .dct [], .dct (stonesK st), .gone, .dct (hallR (.own 1) (.own 2) (.lst (wl.map Wlk.d)) (.lst (rooms.map .str)))]) 3 rfl trivial ?_ ?_ ?_
      · simp only [meltS, List.map_cons, List.map_nil, Option.map_some, Option.map_none, meltD, melts_strs, hsk', htk']; rfl
      · simp only [List.map_cons, List.map_nil, meltM, hallR, meltDk, meltD, melts_strs, meltk_stones]; rfl
      refine wss_cons ?_
      refine ws_par (i := 6) (j := 7) ?_
      refine wa_cons ?_
      refine we_ix hr.u ?_
      refine we_name 3 rfl ?_
      refine we_str ?_
      refine ixK rfl hall_rooms ?_
      refine wa_cons ?_
      refine WO.we ?_
      refine wo_lc (is := [8]) [("one", 8)] ?_
      refine lcM (α := Wlk) ?_
      refine wit_seq ?_
      refine we_ix hr.u ?_
      refine we_name 3 rfl ?_
      refine we_str ?_
      refine ixK rfl hall_walkers ?_
      refine ⟨_, rfl, wl, fun x => .one x.d, fun _ => true, fun x => .int x.heft, by rw [List.map_map]; rfl, by rw [sizeLine_eq]; omega, fun x hx => ?_, ?_⟩
      · intro s1 H1 C1 cl1 fp1
        refine wg_name 8 ?_
        refine ⟨rfl, fun s2 H2 C2 cl2 fp2 => ?_⟩
        refine wts_nil ⟨rfl, rfl, fun _ s3 H3 C3 cl3 fp3 => ?_⟩
        refine we_ix hr.u ?_
        refine we_name 8 rfl ?_
        refine we_int ?_
        exact ixT rfl (atI_pos (by decide) rfl) ⟨rfl, rfl⟩
      refine ⟨trivial, ?_⟩
      refine wa_nil ?_
      refine ⟨_, _, rfl, ?_⟩
      refine wss_cons ?_
      refine ws_set 7 ?_
      refine we_bin ?_
      refine we_name 7 rfl ?_
      refine WO.we ?_
      refine wo_listVals B.list ?_
      refine we_ix hr.u ?_
      refine we_name 3 rfl ?_
      refine we_str ?_
      refine ixK rfl hall_stones ?_
      refine ⟨_, rfl, trivial, ?_⟩
      refine addL rfl rfl (by rw [sizeLine_eq, List.length_map, List.length_map, stonesK, List.length_map]; have := List.length_filter_le (fun _ : Wlk => true) wl; omega) ?_
      obtain ⟨hefts, ehf, hfl, hfo⟩ : ∃ hefts : List Int, ((wl.filter fun _ => true).map fun x => D.int x.heft) ++ (stonesK st).map (·.2) = hefts.map .int ∧ hefts.length ≤ 200 ∧ (∀ h, h ∈ hefts → 0 ≤ h) := by
        refine ⟨wl.map (·.heft) ++ st.map (·.2), ?_, ?_, fun h hh => ?_⟩
        · rw [List.map_append, List.map_map, stonesK, List.map_map, List.map_map, List.filter_eq_self.mpr fun _ _ => rfl]; rfl
        · rw [List.length_append, List.length_map, List.length_map]; omega
        · rcases List.mem_append.mp hh with h | h
          · obtain ⟨x, hx1, rfl⟩ := List.mem_map.mp h
            exact (hx x hx1).1.1
          · obtain ⟨x, hx1, rfl⟩ := List.mem_map.mp h
            exact (hso x hx1).1
      rw [ehf]
      refine wss_cons ?_
      refine ws_for (is := [5]) ?_ (passes_of rfl)
      refine wit_seq ?_
      refine WO.we ?_
      refine wo_bf B.sorted ?_
      refine wa_cons ?_
      refine we_slice ?_
      refine we_slice ?_
      refine we_name 1 rfl ?_
      refine wp_some ?_
      refine we_ix hr.u ?_
      refine we_name 2 rfl ?_
      refine we_int ?_
      refine ixT (d := .int s2) rfl (atI_pos (by decide) rfl) ?_
      refine ⟨_, rfl, ?_⟩
      refine wp_none ?_
      refine slL rfl ?_
      rw [cutL_drop _ _ (by omega), ← List.map_drop, Int.toNat_natCast]
      refine wp_none ?_
      refine wp_some ?_
      refine we_bin ?_
      refine we_draw cd hr (by decide) 0 rfl ?_
      refine we_bin ?_
      refine we_ix hr.u ?_
      refine we_name 2 rfl ?_
      refine we_int ?_
      refine ixT (d := .int s1) rfl (atI_pos (by decide) rfl) ?_
      refine we_int ?_
      refine addI ?_
      refine ⟨_, _, _, rfl, rfl, by omega, by omega, by omega, fun e e0 e1 => ?_⟩
      refine we_ty B.int ?_
      refine wa_cons ?_
      refine we_cmp ?_ rfl
      refine we_bf B.len ?_
      refine wa_cons ?_
      refine we_name 6 rfl ?_
      refine wa_nil ?_
      refine cf_lenM rfl ?_
      refine we_int ?_
      refine gtI ?_
      refine wa_nil ?_
      refine cf_intB ?_
      refine mulI (cmul_l (by omega)) ?_
      refine ⟨_, rfl, ?_⟩
      obtain ⟨dc, edc, edc1, edc2⟩ : ∃ dc : Nat, (e * if decide ((1 : Int) < ((rooms.length : Nat) : Int)) then 1 else 0) = (dc : Int) ∧ dc ≤ s1 ∧ (rooms.length ≤ 1 → dc = 0) := by
        by_cases h : (1 : Int) < ((rooms.length : Nat) : Int)
        · exact ⟨e.toNat, by rw [decide_eq_true h, if_pos rfl]; omega, by omega, by omega⟩
        · exact ⟨0, by rw [decide_eq_false h, if_neg (by decide)]; omega, by omega, fun _ => rfl⟩
      rw [edc]
      refine slL rfl ?_
      rw [cutL_take _ _ (by omega), ← List.map_take, Int.toNat_natCast]
      refine wa_nil ?_
      refine cf_sortedS rfl (by simp; omega) fun dn pd sd => ?_
      have dnl : dn.length ≤ dc := by rw [pd.length_eq]; simp; omega
      have dnd : dn.Nodup := pd.nodup_iff.mpr ((N.nd.sublist (((List.drop_sublist _ _).trans (List.drop_sublist _ _)).trans (List.drop_sublist _ _))).sublist (List.take_sublist _ _))
      have rnd : rooms.Nodup := pr.nodup_iff.mpr (N.nd.sublist (List.take_sublist _ _))
      refine ⟨trivial, _, rfl, ?_⟩
      rw [show List.map Yd.one (List.map D.str dn) = dn.map (fun x => .one (.str x)) from List.map_map]
      obtain ⟨M, hM⟩ : ∃ M, M = 3 + 4 * s0 := ⟨_, rfl⟩
      rw [← hM] at hC
      refine loopL (fun l1 l2 d m => ∃ (ds : List Door) (n3 : Nat) (u5 u9 u10 u11 u12 : Sl), d = [some (.own 0), some (.lst (((names.drop s0).drop s3).map .str)), some (sizeD s0 s1 s2 s3), some (.own 4), sk', u5, some (.lst (rooms.map .str)), some (.lst (hefts.map .int)), none, u9, u10, u11, u12] ∧
        m = [.pen n3, .dct (doorsK ds), .dct (stonesK st), .gone, .dct (hallR (.own 1) (.own 2) (.lst (wl.map Wlk.d)) (.lst (rooms.map .str)))] ∧ n3 ≤ n'' + 1 + l1.length * M ∧ ds.map (·.name) = l1 ∧ (∀ x, x ∈ ds → x.Ok rooms)) ?_ ?_ ?_
      · exact ⟨[], n'' + 1, _, _, _, _, _, rfl, rfl, by simp, rfl, by intro x h; cases h⟩
      · rintro l1 a l2 d m he ⟨ds, n3, u5, u9, u10, u11, u12, rfl, rfl, hn3, hds, hdo⟩
        have hl1 : l1.length < dn.length := by rw [he]; simp
        have hCM : l1.length * M + M ≤ C := by
          rw [← Nat.succ_mul, ← hC]
          exact Nat.mul_le_mul_right _ (by omega)
        have r2 : 2 ≤ rooms.length := by
          have : ¬ rooms.length ≤ 1 := fun h => by have := edc2 h; omega
          omega
        refine wg_name 5 ?_
        refine wss_cons ?_
        refine ws_set 9 ?_
        refine we_draw cd hr (by decide) 0 rfl ?_
        refine we_bf B.len ?_
        refine wa_cons ?_
        refine we_name 6 rfl ?_
        refine wa_nil ?_
        refine cf_lenM rfl ?_
        refine ⟨_, _, _, rfl, rfl, by omega, by omega, by omega, fun i i0 i1 => ?_⟩
        refine wss_cons ?_
        refine ws_set 10 ?_
        refine we_bin ?_
        refine we_bin ?_
        refine we_name 9 rfl ?_
        refine we_int ?_
        refine addI ?_
        refine we_draw cd hr (by decide) 0 rfl ?_
        refine we_bf B.max ?_
        refine wa_cons ?_
        refine we_int ?_
        refine wa_cons ?_
        refine we_bin ?_
        refine we_bf B.len ?_
        refine wa_cons ?_
        refine we_name 6 rfl ?_
        refine wa_nil ?_
        refine cf_lenM rfl ?_
        refine we_int ?_
        refine subI ?_
        refine wa_nil ?_
        refine cf_max2 rfl ?_
        refine ⟨_, _, _, rfl, rfl, by omega, by omega, by omega, fun j j0 j1 => ?_⟩
        refine addI ?_
        refine wss_cons ?_
        refine ws_set 11 ?_
        refine we_lst ?_
        refine wa_cons ?_
        refine we_ix hr.u ?_
        refine we_name 6 rfl ?_
        refine we_name 9 rfl ?_
        have hi : i.toNat < rooms.length := by omega
        refine ixL (d := .str rooms[i.toNat]) rfl (atI_pos (by omega) (by rw [List.getElem?_map, List.getElem?_eq_getElem hi]; rfl)) ?_
        refine wa_cons ?_
        refine we_ix hr.u ?_
        refine we_name 6 rfl ?_
        refine we_bin ?_
        refine we_name 10 rfl ?_
        refine we_bf B.len ?_
        refine wa_cons ?_
        refine we_name 6 rfl ?_
        refine wa_nil ?_
        refine cf_lenM rfl ?_
        refine modI (by omega) ?_
        obtain ⟨g, eg, hg, hgi⟩ : ∃ g : Nat, (i + 1 + j) % ((rooms.length : Nat) : Int) = (g : Int) ∧ g < rooms.length ∧ g ≠ i.toNat := by
          by_cases h : i + 1 + j < ((rooms.length : Nat) : Int)
          · exact ⟨(i + 1 + j).toNat, by rw [Int.emod_eq_of_lt (by omega) h]; omega, by omega, by omega⟩
          · refine ⟨(i + 1 + j - ((rooms.length : Nat) : Int)).toNat, ?_, by omega, by omega⟩
            rw [show i + 1 + j = (i + 1 + j - ((rooms.length : Nat) : Int)) + ((rooms.length : Nat) : Int) by omega, Int.add_emod_right, Int.emod_eq_of_lt (by omega) (by omega)]
            omega
        rw [eg]
        refine ixL (d := .str rooms[g]) rfl (atI_pos (by omega) (by rw [List.getElem?_map, Int.toNat_natCast, List.getElem?_eq_getElem hg]; rfl)) ?_
        refine wa_nil ?_
        refine ⟨by show 2 ≤ sizeLine; decide, ?_⟩
        obtain ⟨ra, hra⟩ : ∃ x, x = rooms[i.toNat] := ⟨_, rfl⟩
        obtain ⟨rb, hrb⟩ : ∃ x, x = rooms[g] := ⟨_, rfl⟩
        have mra : ra ∈ rooms := hra ▸ List.getElem_mem hi
        have mrb : rb ∈ rooms := hrb ▸ List.getElem_mem hg
        have nab : ra ≠ rb := by
          rw [hra, hrb]
          intro h
          rcases Nat.lt_or_gt_of_ne hgi with h2 | h2
          · exact List.pairwise_iff_getElem.mp rnd _ _ hg hi h2 h.symm
          · exact List.pairwise_iff_getElem.mp rnd _ _ hi hg h2 h
        rw [← hra, ← hrb]
        refine wss_cons ?_
        refine ws_set 12 ?_
        refine we_ix hr.u ?_
        refine we_lst ?_
        refine wa_csts rfl ?_
        refine ⟨by decide, ?_⟩
        refine we_draw cd hr (by decide) 0 rfl ?_
        refine we_int ?_
        refine ⟨_, _, _, rfl, rfl, by omega, by omega, by omega, fun k3 k0 k1 => ?_⟩
        obtain ⟨way, eway, hway⟩ : ∃ way : Str, L2.atI [D.str "both", .str "both", .str "on"] k3 = some (.str way) ∧ (way = "both" ∨ way = "on") := by
          have : k3 = 0 ∨ k3 = 1 ∨ k3 = 2 := by omega
          rcases this with rfl | rfl | rfl
          · exact ⟨_, atI_pos (by decide) rfl, .inl rfl⟩
          · exact ⟨_, atI_pos (by decide) rfl, .inl rfl⟩
          · exact ⟨_, atI_pos (by decide) rfl, .inr rfl⟩
        refine ixL rfl eway ?_
        refine wss_mid (fun d m => ∃ ea eb : Str, d = [some (.own 0), some (.lst (((names.drop s0).drop s3).map .str)), some (sizeD s0 s1 s2 s3), some (.own 4), sk', some (.str a), some (.lst (rooms.map .str)), some (.lst (hefts.map .int)), none, some (.int i), some (.int (i + 1 + j)), some (.lst [.str ea, .str eb]), some (.str way)] ∧
          m = [.pen (n3 + 1 + 1 + 1), .dct (doorsK ds), .dct (stonesK st), .gone, .dct (hallR (.own 1) (.own 2) (.lst (wl.map Wlk.d)) (.lst (rooms.map .str)))] ∧ ea ∈ rooms ∧ eb ∈ rooms ∧ ea ≠ eb ∧ (way = "both" → sortedS [ea, eb] = true)) ?_ ?_
        · refine ws_if ?_
          refine wt_cmp ?_ rfl
          refine we_name 12 rfl ?_
          refine we_str ?_
          refine eqS hr.u64 ?_
          refine ⟨_, rfl, ?_⟩
          refine ⟨fun h => ?_, fun h => ?_⟩
          · skip
            refine wss_one ?_
            refine ws_set 11 ?_
            refine WO.we ?_
            refine wo_bf B.sorted ?_
            refine wa_cons ?_
            refine we_name 11 rfl ?_
            refine wa_nil ?_
            refine cf_sortedS (ns := [ra, rb]) rfl (by show 2 < 64; decide) fun es pe se => ?_
            refine ⟨trivial, ?_⟩
            have el := pe.length_eq
            match es, el, pe, se with
            | [ea, eb], _, pe, se =>
              have h1 : ea ∈ [ra, rb] := pe.subset (by simp)
              have h2 : eb ∈ [ra, rb] := pe.subset (by simp)
              have nd2 : [ea, eb].Nodup := pe.nodup_iff.mpr (by simp [nab])
              have sub : ∀ x, x ∈ [ra, rb] → x ∈ rooms := fun x hx => by
                simp at hx
                rcases hx with rfl | rfl
                · exact mra
                · exact mrb
              exact ⟨ea, eb, rfl, rfl, sub _ h1, sub _ h2, by simpa using nd2, fun _ => se⟩
          · refine wss_nil ?_
            exact ⟨ra, rb, rfl, rfl, mra, mrb, nab, fun hw2 => by rw [hw2] at h; exact absurd h (by decide)⟩
        · rintro d m ⟨ea, eb, rfl, rfl, mea, meb, neb, sab⟩
          refine wss_one ?_
          refine ws_asg (is := []) ?_
          refine we_tup ?_
          refine wa_cons ?_
          refine we_ix hr.u ?_
          refine we_name 11 rfl ?_
          refine we_int ?_
          refine ixL rfl (atI_pos (by decide) rfl) ?_
          refine wa_cons ?_
          refine we_ix hr.u ?_
          refine we_name 11 rfl ?_
          refine we_int ?_
          refine ixL rfl (atI_pos (by decide) rfl) ?_
          refine wa_cons ?_
          refine we_name 12 rfl ?_
          refine wa_cons ?_
          refine we_call cr 1 hr (by decide) ?_
          refine wa_cons ?_
          refine we_name 0 rfl ?_
          refine wa_cons ?_
          refine we_name 6 rfl ?_
          refine wa_cons ?_
          refine we_name 7 rfl ?_
          refine wa_nil ?_
          have hr0 : 4 * rooms.length ≤ 4 * s0 := by omega
          refine ⟨by simp, rfl, ?_, rooms, hefts, n3 + 1 + 1 + 1, rfl, rfl, hfo, by omega, by omega, by omega, fun rows rsub r4 rok => ?_⟩
          · show (ownLts 1 (rooms.map D.str) && (ownLts 1 (hefts.map D.int) && true)) = true
            rw [noOwns_strs, noOwns_ints]; rfl
          refine wa_nil ?_
          refine ⟨by show 4 ≤ sizeLine; decide, ?_⟩
          refine wg_sub hr.u1 ?_
          refine we_ix hr.u ?_
          refine we_name 3 rfl ?_
          refine we_str ?_
          refine ixK rfl hall_doors ?_
          refine we_name 5 rfl ?_
          have anew : ∀ p, p ∈ doorsK ds → p.1 ≠ .inr a := by
            intro p hp e
            obtain ⟨x, hx, rfl⟩ := List.mem_map.mp hp
            cases e
            have h1 : x.name ∈ l1 := by rw [← hds]; exact List.mem_map.mpr ⟨x, hx, rfl⟩
            rw [he] at dnd
            exact (List.nodup_append.mp dnd).2.2 _ h1 _ (by simp) rfl
          refine .inr ⟨_, _, rfl, rfl, by show (doorsK ds).length < sizeLine; rw [doorsK, List.length_map, sizeLine_eq]; have := congrArg List.length hds; simp at this; omega, ?_⟩
          rw [gput_new anew]
          refine ⟨ds ++ [⟨a, ea, eb, way, rows⟩], n3 + 1 + 1 + 1 + 4 * rooms.length, _, _, _, _, _, rfl, by rw [doorsK, doorsK, List.map_append]; rfl, by rw [List.length_append, List.length_singleton, Nat.add_mul, Nat.one_mul]; omega, by rw [List.map_append, hds]; rfl, fun x hx' => ?_⟩
          rcases List.mem_append.mp hx' with h | h
          · exact hdo x h
          · simp at h; subst h; exact ⟨mea, meb, neb, hway, sab, rsub, r4, rok⟩
      · rintro d m ⟨ds, n3, u5, u9, u10, u11, u12, rfl, rfl, hn3, hds, hdo⟩
        have hdl : ds.length = dn.length := by have := congrArg List.length hds; simpa using this
        have hCM : dn.length * M ≤ C := by
          rw [← hC]
          exact Nat.mul_le_mul_right _ (by omega)
        refine wss_one ?_
        refine ws_ret ?_
        refine WE.melt 4 ?_
        refine WE.melt 2 ?_
        refine WE.melt 1 ?_
        refine we_name 3 rfl ?_
        obtain ⟨pn, pm⟩ := hall_parts N pr hw (hst ▸ ps) (hds ▸ pd) (by omega) (by omega) (by omega)
        refine ⟨_, rfl, trivial, _, rfl, trivial, _, rfl, trivial, ?_⟩
        have ok : Hall.Ok s0 s1 s2 s3 ⟨rooms, ds, st, wl⟩ := {
          rooms := sr, rooms1 := by show 1 ≤ rooms.length; omega, rooms2 := by show rooms.length ≤ s0; omega
          walkers1 := by show 1 ≤ wl.length; omega, walkers2 := by show wl.length ≤ s3; omega
          stones := by show sortedS (st.map (·.1)) = true; rw [hst]; exact ss
          stones2 := by show st.length ≤ s2; omega
          doors := by show sortedS (ds.map (·.name)) = true; rw [hds]; exact sd
          doors2 := by show ds.length ≤ s1; omega
          doors0 := fun h => List.eq_nil_of_length_eq_zero (by have h : rooms.length ≤ 1 := h; have := edc2 h; show ds.length = 0; omega)
          nd := pn, nm := pm, heft := fun x h => (hx x h).1, hands := fun x h => (hx x h).2, heftS := hso, door := hdo }
        have fin := kk _ ok
        refine ⟨n3, _, rfl, by omega, ?_⟩
        rw [hall_melt]
        exact ⟨noOwn_hall ⟨rooms, ds, st, wl⟩, rfl, fin⟩
  ) fun _ _ _ _ _ _ us hl => match us, hl with | [_, _, _], _ => rfl
end
end DL
namespace DL
open PySem PySem.Spec PyProof.Rows L2 RZ PySem.Calls
section
variable {P : Program} {w : World} {K : PySem.W.Frag} {mg : Str → Option Value} {base : Heap}
abbrev s_law_hall : Stmt := top 25
theorem sc_law_hall : FnScope ["pen", "size"] ["pen", "size"] (defScope s_law_hall) := ⟨rfl, rfl, rfl, by decide +kernel, rfl, by decide +kernel, by decide +kernel⟩
theorem ok_law_hall (d0 : Dn K mg "_law_hall" s_law_hall) (B : Bn mg) (c_law_names : Cal P w K mg base "_law_names" 4 [] sp_law_names) (c_law_hall_of : Cal P w K mg base "_law_hall_of" 4 [] sp_law_hall_of) : Cal P w K mg base "_law_hall" 5 [] sp_law_hall := d0.cal (ps := ["pen", "size"]) (fun f fd F => fn_body F sc_law_hall (fun args mu Φ ε h => by obtain ⟨_, _, _, _, _, rfl, _⟩ := h; rfl) fun cdv A outer s H E hr args mu Φ ε h => by
  have nd := sc_law_hall.nd
  obtain ⟨s0, s1, s2, s3, n, rfl, rfl, b0, b3, bs, n1, k⟩ := h
  refine wss_one ?_
  refine ws_ret ?_
  skip
  refine we_call c_law_hall_of 1 hr (by decide) ?_
  refine wa_cons ?_
  refine we_name 0 rfl ?_
  refine wa_cons ?_
  refine we_call c_law_names 1 hr (by decide) ?_
  refine wa_cons ?_
  refine we_name 0 rfl ?_
  refine wa_cons ?_
  refine we_bf B.sum ?_
  refine wa_cons ?_
  refine we_name 1 rfl ?_
  refine wa_nil ?_
  refine cf_sumT rfl (bs := [(s0 : Int), s1, s2, s3]) rfl ?_
  rw [show ([(s0 : Int), s1, s2, s3]).sum = ((s0 + s1 + s2 + s3 : Nat) : Int) by simp; omega]
  refine wa_nil ?_
  refine ⟨by simp, rfl, rfl, s0 + s1 + s2 + s3, n, rfl, rfl, by omega, by omega, by omega, fun ns N => ?_⟩
  refine wa_cons ?_
  refine we_name 1 rfl ?_
  refine wa_nil ?_
  refine ⟨by simp, rfl, ?_, s0, s1, s2, s3, n + 20, ns, rfl, rfl, N, by omega, by omega, by omega, by omega, fun h ok => ?_⟩
  · show (ownLts 1 (ns.map D.str) && true) = true
    rw [noOwns_strs]; rfl
  exact ⟨noOwn_hall h, rfl, k h ok⟩
  ) fun _ _ _ _ _ _ us hl => match us, hl with | [_, _], _ => rfl
end
end DL
namespace DL
open PySem PySem.Spec PyProof.Rows L2 RZ PySem.Calls
section
variable {P : Program} {w : World} {K : PySem.W.Frag} {mg : Str → Option Value} {base : Heap}
abbrev s_door_kept : Stmt := top 6
theorem sc_door_kept : FnScope ["one", "other", "way", "rows", "row"] ["one", "other", "way", "rows"] (defScope s_door_kept) := ⟨rfl, rfl, rfl, by decide +kernel, rfl, by decide +kernel, by decide +kernel⟩
theorem ok_door_kept {c : Addr} (d0 : DnC K mg "door_kept" s_door_kept c) (TB : LamX.TabB base mg c tP_door_kept) (B : Bn mg)  : Cal P w K mg base "door_kept" 2 [] sp_door_kept := d0.cal (ps := ["one", "other", "way", "rows"]) (fun f fd F => fn_bodyC F sc_door_kept (fun args mu Φ ε h => by obtain ⟨_, _, _, _, rfl, _⟩ := h; rfl) fun A outer s H E hr args mu Φ ε h => by
  have nd := sc_door_kept.nd
  obtain ⟨x, a, b, d, rfl, rfl, ⟨told, rs, hd, pr⟩, fit, k⟩ := h
  have rl := pr.length_eq
  have fl := fit.len
  refine wss_mid (fun dl m => dl = [some (.str x.one), some (.str x.other), some (.str x.way), some d, none] ∧ m = []) ?_ ?_
  · refine ws_if ?_
    refine WW.wt ?_
    refine ww_and ?_
    refine wt_cmp ?_ rfl
    refine we_name 2 rfl ?_
    refine we_str ?_
    first | refine eqI hr.u64 ?_ | refine eqS hr.u64 ?_ | refine eqB hr.u64 ?_
    refine ⟨_, rfl, ?_⟩
    refine and_swap ⟨fun o1 => ?_, fun o1 => ?_⟩
    · refine ⟨fun h => (by cases h), fun _ => wss_nil ?_⟩
      rcases told with ⟨rfl, rfl⟩ | ⟨e, rfl, rfl⟩
      · exact ⟨rfl, rfl⟩
      · simp [e] at o1
    refine ww_and1 ?_
    refine wt_cmp ?_ rfl
    refine we_name 1 rfl ?_
    refine we_name 0 rfl ?_
    first | refine ltI ?_ | refine ltX ?_
    refine ⟨_, rfl, ?_⟩
    refine ⟨fun h => ?_, fun h => ?_⟩
    · refine wss_one ?_
      refine ws_par (i := 0) (j := 1) ?_
      refine wa_cons ?_
      refine we_name 1 rfl ?_
      refine wa_cons ?_
      refine we_name 0 rfl ?_
      refine wa_nil ?_
      refine ⟨_, _, rfl, ?_⟩
      rcases told with ⟨rfl, rfl⟩ | ⟨e, rfl, rfl⟩
      · exact absurd (of_decide_eq_true (show decide (x.other.cps.toList < x.one.cps.toList) = true from h)) (fit.both (by simpa using o1))
      · exact ⟨rfl, rfl⟩
    · refine wss_nil ?_
      rcases told with ⟨rfl, rfl⟩ | ⟨e, rfl, rfl⟩
      · exact ⟨rfl, rfl⟩
      · have l := leS_anti (fit.both e) (of_decide_eq_false (show decide (x.one.cps.toList < x.other.cps.toList) = false from h))
        rw [l]; exact ⟨rfl, rfl⟩
  rintro dl m ⟨rfl, rfl⟩
  refine wss_one ?_
  refine ws_ret ?_
  skip
  refine we_tup ?_
  refine wa_cons ?_
  refine we_name 0 rfl ?_
  refine wa_cons ?_
  refine we_name 1 rfl ?_
  refine wa_cons ?_
  refine we_name 2 rfl ?_
  refine wa_cons ?_
  refine we_ty B.tuple ?_
  refine wa_cons ?_
  refine WO.we ?_
  refine wo_sortLam (c := c) (P := tP_door_kept) key0 (fun d => ∃ a r, d = .tup (.str a :: r)) B.sorted TB hr (turn_sub0 ⟨rfl, rfl, rfl, by decide, rfl, fun _ _ _ _ _ => rfl, by decide⟩) ?_ rfl tab_door_kept tabu_door_kept
  refine WO.we ?_
  refine wo_lc (is := [4]) [("row", 4)] ?_
  refine lcA (α := Row) ?_
  refine wit_seq ?_
  refine we_name 3 rfl ?_
  refine ⟨(rs.map Row.d).map .one, by rcases hd with rfl | rfl <;> rfl, ?_⟩
  refine ⟨rs, fun r => .one r.d, Row.d, List.map_map .., by rw [sizeLine_eq]; omega, fun r ha => ?_, ?_⟩
  · intro s1 H1 C1 cl1 fp1
    refine wg_name 4 ?_
    refine ⟨rfl, fun s2 H2 C2 cl2 fp2 => ?_⟩
    refine we_ty B.tuple ?_
    refine wa_cons ?_
    refine we_name 4 rfl ?_
    refine wa_nil ?_
    refine cf_tuple rfl ?_
    exact ⟨rfl, rfl⟩
  skip
  refine ⟨trivial, ?_⟩
  obtain ⟨q1, q2, q3⟩ := key0_alike (k := Row.room) (f := Row.d) (kd := key0) (fun _ => rfl) rs
  refine ⟨rs.map Row.d, rfl, fun y hy => ?_, q1, q2, q3, ?_⟩
  · obtain ⟨r, hr', rfl⟩ := List.mem_map.mp hy
    exact ⟨okD_row (fit.nm r (pr.subset hr')), r.room, [.int r.least, optD r.most], rfl⟩
  rw [sort_by (k := Row.room) (f := Row.d) (fun _ => rfl) pr fit.rows fit.nd]
  refine ⟨trivial, ?_⟩
  refine wa_nil ?_
  refine cf_tuple rfl ?_
  refine wa_nil ?_
  refine ⟨by show 4 ≤ sizeLine; decide, ?_⟩
  exact ⟨by show (ownLt 0 (.str x.one) && (ownLt 0 (.str x.other) && (ownLt 0 (.str x.way) && (ownLts 0 (x.rows.map Row.d) && true)))) = true; rw [noOwns_rows]; rfl, rfl, k⟩
  ) fun _ _ _ _ _ _ us hl => match us, hl with | [_, _, _, _], _ => rfl
end
end DL
namespace DL
open PySem PySem.Spec PyProof.Rows L2 RZ PySem.Calls
section
variable {P : Program} {w : World} {K : PySem.W.Frag} {mg : Str → Option Value} {base : Heap}
abbrev s_Hall_init : Stmt := inClass (top 7) 0
theorem sc_Hall_init : FnScope ["self", "rooms", "doors", "stones", "walkers", "gates", "name", "one", "other", "way", "rows", "weights", "heft", "hands"] ["self", "rooms", "doors", "stones", "walkers"] (defScope s_Hall_init) := ⟨rfl, rfl, rfl, by decide +kernel, rfl, by decide +kernel, by decide +kernel⟩
theorem ok_Hall_init {C : Addr} (hC : HallC K C) (d0 : DnI K mg C "Hall" "Hall.__init__" s_Hall_init) (B : Bn mg) (c_door_kept : Cal P w K mg base "door_kept" 2 [] sp_door_kept) : CalMk P w K mg base "Hall" C 3 (sp_Hall_init C) := d0.cal (ps := ["self", "rooms", "doors", "stones", "walkers"]) (fun f fd F => fn_body F sc_Hall_init (fun args mu Φ ε h => by obtain ⟨_, _, _, _, _, rfl, _⟩ := h; rfl) fun cdv A outer s H E hr args mu Φ ε h => by
  have nd := sc_Hall_init.nd
  obtain ⟨hh, xr, xd, xs, xw, rfl, rfl, ⟨rs, ds, ss, hr1, pr, hd1, pd, hdt, hs1, ps, hw1⟩, fit, k⟩ := h
  have f1 := fit.l1
  have f2 := fit.l2
  have f3 := fit.l3
  have f4 := fit.l4
  have rl := pr.length_eq
  have dl1 : ds.length = hh.doors.length := by rw [← pd.length_eq, List.length_map]
  have sl1 := ps.length_eq
  have dN : ((ds.map (·.x)).map (·.name)).Nodup := (pd.map (·.name)).nodup_iff.mpr fit.doorsN
  have sN : (ss.map (·.1)).Nodup := (ps.map (·.1)).nodup_iff.mpr fit.stonesN
  have srt : ∀ {Φ' : MO → List MO → Prop} {X : Cx} {mu : List MO}, X.calm = true → Φ' (.lst (hh.rooms.map .str)) mu → WCfO X (.builtin "sorted") [xr] mu Φ' := fun {Φ' X mu} hc q => by
    rcases hr1 with rfl | rfl
    · exact cf_sortedSE rfl (by omega) pr fit.rooms q
    · exact cf_sortedTu hc rfl fun ys p s => by rw [sortedS_uniq (p.trans pr) s fit.rooms]; exact q
  have g1 : gmerge [] (ds.map fun t => ((.inr t.x.name : Key), t.x.d)) = doorsK (ds.map (·.x)) := by
    rw [gmerge_nodup]
    · simp [doorsK]
    · rw [List.map_map]; have := nodup_inr dN; rw [List.map_map, List.map_map] at this; exact this
  have gD : ∀ l : List Door, (l.map (·.name)).Nodup → gmerge [] (l.map fun x => ((.inr x.name : Key), x.d)) = doorsK l := fun l n => gmerge_nodup (by rw [List.map_map]; have := nodup_inr n; rwa [List.map_map] at this)
  have gS : ∀ l : List (Str × Int), (l.map (·.1)).Nodup → gmerge [] (l.map fun x => ((.inr x.1 : Key), D.int x.2)) = stonesK l := fun l n => gmerge_nodup (by rw [List.map_map]; have := nodup_inr n; rwa [List.map_map] at this)
  have gB : gmerge [] (hh.walkers.map fun x => ((.inr x.name : Key), bodyD x)) = bodiesK hh.walkers := gmerge_nodup (by rw [List.map_map]; have := nodup_inr fit.folkN; unfold Hall.folk at this; rwa [List.map_map] at this)
  refine wss_cons ?_
  refine ws_attr hC.cls hC.chambers ?_
  refine WO.we ?_
  refine wo_bf B.sorted ?_
  refine wa_cons ?_
  refine we_name 1 rfl ?_
  refine wa_nil ?_
  refine srt rfl ?_
  refine ⟨trivial, ?_⟩
  refine we_name 0 rfl ?_
  refine ⟨0, _, rfl, rfl, Nat.le_of_ble_eq_true rfl, ?_⟩
  refine wss_cons ?_
  refine ws_set 5 ?_
  skip
  refine WO.we ?_
  refine wo_dc (is := [6, 7, 8, 9, 10]) [("name", 6), ("one", 7), ("other", 8), ("way", 9), ("rows", 10)] ?_
  refine dcA (α := DoorT) ?_
  refine wit_seq ?_
  refine we_name 2 rfl ?_
  refine ⟨(ds.map DoorT.d).map .one, by rcases hd1 with rfl | rfl <;> rfl, ?_⟩
  refine ⟨ds, fun t => .one t.d, fun t => .inr t.x.name, fun t => t.x.d, List.map_map .., by rw [sizeLine_eq]; omega, fun t ht => ?_, ?_⟩
  · intro s1 H1 C1 cl1 fp1
    first | refine wg_tup rfl rfl ?_ | refine wg_unl rfl ?_
    refine wgs_cons (is := [6]) (js := [7, 8, 9, 10]) ?_
    refine wg_name 6 ?_
    refine wgs_cons (is := [7]) (js := [8, 9, 10]) ?_
    refine wg_name 7 ?_
    refine wgs_cons (is := [8]) (js := [9, 10]) ?_
    refine wg_name 8 ?_
    refine wgs_cons (is := [9]) (js := [10]) ?_
    refine wg_name 9 ?_
    refine wgs_cons (is := [10]) (js := []) ?_
    refine wg_name 10 ?_
    refine wgs_nil ?_
    refine ⟨rfl, fun s2 H2 C2 cl2 fp2 => ?_, fun s2 H2 C2 cl2 fp2 => ?_⟩
    · refine we_name 6 rfl ?_
      exact ⟨rfl, rfl⟩
    · refine we_call c_door_kept 0 hr (by decide) ?_
      refine wa_cons ?_
      refine we_name 7 rfl ?_
      refine wa_cons ?_
      refine we_name 8 rfl ?_
      refine wa_cons ?_
      refine we_name 9 rfl ?_
      refine wa_cons ?_
      refine we_name 10 rfl ?_
      refine wa_nil ?_
      obtain ⟨td1, trs, td2, td3⟩ := hdt t ht
      refine ⟨by simp, rfl, (by show (true && (true && (true && (ownLt 0 t.r && true)))) = true; rcases td2 with e | e <;> rw [e] <;> (show (true && (true && (true && (ownLts 0 (trs.map Row.d) && true)))) = true; rw [noOwns_rows]; rfl)), t.x, t.a, t.b, t.r, rfl, rfl, ⟨td1, trs, td2, td3⟩, fit.door _ (pd.subset (List.mem_map_of_mem ht)), ?_⟩
      exact ⟨rfl, rfl⟩
  rw [g1]
  refine ⟨trivial, ?_⟩
  refine wss_cons ?_
  refine ws_attr hC.cls hC.gates ?_
  refine WO.we ?_
  refine wo_dc (is := [6]) [("name", 6)] ?_
  refine dcA (α := Door) ?_
  refine wit_seq ?_
  refine WO.we ?_
  refine wo_bf B.sorted ?_
  refine wa_cons ?_
  refine we_name 5 rfl ?_
  refine wa_nil ?_
  refine cf_sortedD rfl rfl (ks := (ds.map (·.x)).map (·.name)) (by simp [doorsK]) fun ys q s => ?_
  obtain rfl : ys = hh.doors.map (·.name) := sortedS_uniq (q.trans (pd.map _)) s fit.doors
  refine ⟨trivial, ?_⟩
  refine ⟨_, rfl, ?_⟩
  refine ⟨hh.doors, fun x => .one (.str x.name), fun x => .inr x.name, Door.d, by simp, by rw [sizeLine_eq]; omega, fun x hx => ?_, ?_⟩
  · intro s1 H1 C1 cl1 fp1
    refine wg_name 6 ?_
    refine ⟨rfl, fun s2 H2 C2 cl2 fp2 => ?_, fun s2 H2 C2 cl2 fp2 => ?_⟩
    · refine we_name 6 rfl ?_
      exact ⟨rfl, rfl⟩
    · refine we_ix hr.u ?_
      refine we_name 5 rfl ?_
      refine we_name 6 rfl ?_
      refine ixK rfl (gval_doors (pd.symm.subset hx) dN) ?_
      exact ⟨rfl, rfl⟩
  rw [gD _ fit.doorsN]
  refine ⟨trivial, ?_⟩
  refine we_name 0 rfl ?_
  refine ⟨0, _, rfl, rfl, Nat.le_of_ble_eq_true rfl, ?_⟩
  refine wss_cons ?_
  refine ws_set 11 ?_
  skip
  refine WO.we ?_
  refine wo_dc (is := [6, 12]) [("name", 6), ("heft", 12)] ?_
  refine dcA (α := Str × Int) ?_
  refine wit_seq ?_
  refine we_name 3 rfl ?_
  refine ⟨(ss.map stoneD).map .one, by rcases hs1 with rfl | rfl <;> rfl, ?_⟩
  refine ⟨ss, fun t => .one (stoneD t), fun t => .inr t.1, fun t => .int t.2, List.map_map .., by rw [sizeLine_eq]; omega, fun t ht => ?_, ?_⟩
  · intro s1 H1 C1 cl1 fp1
    first | refine wg_tup rfl rfl ?_ | refine wg_unl rfl ?_
    refine wgs_cons (is := [6]) (js := [12]) ?_
    refine wg_name 6 ?_
    refine wgs_cons (is := [12]) (js := []) ?_
    refine wg_name 12 ?_
    refine wgs_nil ?_
    refine ⟨rfl, fun s2 H2 C2 cl2 fp2 => ?_, fun s2 H2 C2 cl2 fp2 => ?_⟩
    · refine we_name 6 rfl ?_
      exact ⟨rfl, rfl⟩
    · refine we_name 12 rfl ?_
      exact ⟨rfl, rfl⟩
  rw [gS _ sN]
  refine ⟨trivial, ?_⟩
  refine wss_cons ?_
  refine ws_attr hC.cls hC.weights ?_
  refine WO.we ?_
  refine wo_dc (is := [6]) [("name", 6)] ?_
  refine dcA (α := Str × Int) ?_
  refine wit_seq ?_
  refine WO.we ?_
  refine wo_bf B.sorted ?_
  refine wa_cons ?_
  refine we_name 11 rfl ?_
  refine wa_nil ?_
  refine cf_sortedD rfl rfl (ks := ss.map (·.1)) (by simp [stonesK]) fun ys q s => ?_
  obtain rfl : ys = hh.stones.map (·.1) := sortedS_uniq (q.trans (ps.map _)) s fit.stones
  refine ⟨trivial, ?_⟩
  refine ⟨_, rfl, ?_⟩
  refine ⟨hh.stones, fun x => .one (.str x.1), fun x => .inr x.1, fun x => .int x.2, by simp, by rw [sizeLine_eq]; omega, fun x hx => ?_, ?_⟩
  · intro s1 H1 C1 cl1 fp1
    refine wg_name 6 ?_
    refine ⟨rfl, fun s2 H2 C2 cl2 fp2 => ?_, fun s2 H2 C2 cl2 fp2 => ?_⟩
    · refine we_name 6 rfl ?_
      exact ⟨rfl, rfl⟩
    · refine we_ix hr.u ?_
      refine we_name 11 rfl ?_
      refine we_name 6 rfl ?_
      refine ixK rfl (gval_stones (v := x.2) (ps.symm.subset hx) sN) ?_
      exact ⟨rfl, rfl⟩
  rw [gS _ fit.stonesN]
  refine ⟨trivial, ?_⟩
  refine we_name 0 rfl ?_
  refine ⟨0, _, rfl, rfl, Nat.le_of_ble_eq_true rfl, ?_⟩
  refine wss_cons ?_
  refine ws_attr hC.cls hC.folk ?_
  refine WO.we ?_
  refine wo_lc (is := [6, 12, 13]) [("name", 6), ("heft", 12), ("hands", 13)] ?_
  refine lcA (α := Wlk) ?_
  refine wit_seq ?_
  refine we_name 4 rfl ?_
  refine ⟨(hh.walkers.map Wlk.d).map .one, by rcases hw1 with rfl | rfl <;> rfl, ?_⟩
  refine ⟨hh.walkers, fun x => .one x.d, fun x => .str x.name, List.map_map .., by rw [sizeLine_eq]; omega, fun x hx => ?_, ?_⟩
  · intro s1 H1 C1 cl1 fp1
    first | refine wg_tup rfl rfl ?_ | refine wg_unl rfl ?_
    refine wgs_cons (is := [6]) (js := [12, 13]) ?_
    refine wg_name 6 ?_
    refine wgs_cons (is := [12]) (js := [13]) ?_
    refine wg_name 12 ?_
    refine wgs_cons (is := [13]) (js := []) ?_
    refine wg_name 13 ?_
    refine wgs_nil ?_
    refine ⟨rfl, fun s2 H2 C2 cl2 fp2 => ?_⟩
    refine we_name 6 rfl ?_
    exact ⟨rfl, rfl⟩
  rw [show hh.walkers.map (fun x => D.str x.name) = hh.folk.map .str from (List.map_map ..).symm]
  refine ⟨trivial, ?_⟩
  refine we_name 0 rfl ?_
  refine ⟨0, _, rfl, rfl, Nat.le_of_ble_eq_true rfl, ?_⟩
  refine wss_one ?_
  refine ws_attr hC.cls hC.bodies ?_
  refine WO.we ?_
  refine wo_dc (is := [6, 12, 13]) [("name", 6), ("heft", 12), ("hands", 13)] ?_
  refine dcA (α := Wlk) ?_
  refine wit_seq ?_
  refine we_name 4 rfl ?_
  refine ⟨(hh.walkers.map Wlk.d).map .one, by rcases hw1 with rfl | rfl <;> rfl, ?_⟩
  refine ⟨hh.walkers, fun x => .one x.d, fun x => .inr x.name, bodyD, List.map_map .., by rw [sizeLine_eq]; omega, fun x hx => ?_, ?_⟩
  · intro s1 H1 C1 cl1 fp1
    first | refine wg_tup rfl rfl ?_ | refine wg_unl rfl ?_
    refine wgs_cons (is := [6]) (js := [12, 13]) ?_
    refine wg_name 6 ?_
    refine wgs_cons (is := [12]) (js := [13]) ?_
    refine wg_name 12 ?_
    refine wgs_cons (is := [13]) (js := []) ?_
    refine wg_name 13 ?_
    refine wgs_nil ?_
    refine ⟨rfl, fun s2 H2 C2 cl2 fp2 => ?_, fun s2 H2 C2 cl2 fp2 => ?_⟩
    · refine we_name 6 rfl ?_
      exact ⟨rfl, rfl⟩
    · refine we_tup ?_
      refine wa_cons ?_
      refine we_name 12 rfl ?_
      refine wa_cons ?_
      refine we_name 13 rfl ?_
      refine wa_nil ?_
      refine ⟨by show 2 ≤ sizeLine; decide, ?_⟩
      exact ⟨rfl, rfl⟩
  rw [gB]
  refine ⟨trivial, ?_⟩
  refine we_name 0 rfl ?_
  refine ⟨0, _, rfl, rfl, Nat.le_of_ble_eq_true rfl, ?_⟩
  exact ⟨rfl, (by have := ownLt_o (n := 0) C hh; show (ownLtF 0 (hallF hh) && true) = true; rw [show ownLtF 0 (hallF hh) = true from this]; rfl), k⟩
  ) fun _ _ _ _ _ _ us hl => match us, hl with | [_, _, _, _, _], _ => rfl
end
end DL
namespace DL
open PySem PySem.Spec PyProof.Rows L2 RZ PySem.Calls
section
variable {P : Program} {w : World} {K : PySem.W.Frag} {mg : Str → Option Value} {base : Heap}
abbrev s_Hall_rooms : Stmt := inClass (top 7) 4
theorem sc_Hall_rooms : FnScope ["self"] ["self"] (defScope s_Hall_rooms) := ⟨rfl, rfl, rfl, by decide +kernel, rfl, by decide +kernel, by decide +kernel⟩
theorem ok_Hall_rooms {C : Addr} (hC : HallC K C) (d0 : DnM K C "rooms" "Hall.rooms" s_Hall_rooms) (B : Bn mg)  : CalM P w K mg base C "rooms" 1 (sp_Hall_rooms C) := d0.cal (ps := ["self"]) (fun f fd F => fn_body F sc_Hall_rooms (fun args mu Φ ε h => by obtain ⟨_, rfl, _⟩ := h; rfl) fun cdv A outer s H E hr args mu Φ ε h => by
  have nd := sc_Hall_rooms.nd
  obtain ⟨hh, rfl, rfl, k⟩ := h
  refine wss_one ?_
  refine ws_ret ?_
  skip
  refine WO.we ?_
  refine wo_ty B.list ?_
  refine wa_cons ?_
  refine we_attr hC.cls hC.chambers ?_
  refine we_name 0 rfl ?_
  refine ⟨_, _, rfl, look_chambers, ?_⟩
  refine wa_nil ?_
  first | refine cf_list rfl ?_ | refine cf_listD rfl rfl ?_
  refine ⟨trivial, ?_⟩
  exact ⟨noOwns_strs, rfl, k⟩
  ) fun _ _ _ _ _ _ us hl => match us, hl with | [_], _ => rfl
end
end DL
namespace DL
open PySem PySem.Spec PyProof.Rows L2 RZ PySem.Calls
section
variable {P : Program} {w : World} {K : PySem.W.Frag} {mg : Str → Option Value} {base : Heap}
abbrev s_Hall_stones : Stmt := inClass (top 7) 6
theorem sc_Hall_stones : FnScope ["self"] ["self"] (defScope s_Hall_stones) := ⟨rfl, rfl, rfl, by decide +kernel, rfl, by decide +kernel, by decide +kernel⟩
theorem ok_Hall_stones {C : Addr} (hC : HallC K C) (d0 : DnM K C "stones" "Hall.stones" s_Hall_stones) (B : Bn mg)  : CalM P w K mg base C "stones" 1 (sp_Hall_stones C) := d0.cal (ps := ["self"]) (fun f fd F => fn_body F sc_Hall_stones (fun args mu Φ ε h => by obtain ⟨_, rfl, _⟩ := h; rfl) fun cdv A outer s H E hr args mu Φ ε h => by
  have nd := sc_Hall_stones.nd
  obtain ⟨hh, rfl, rfl, k⟩ := h
  refine wss_one ?_
  refine ws_ret ?_
  skip
  refine WO.we ?_
  refine wo_ty B.list ?_
  refine wa_cons ?_
  refine we_attr hC.cls hC.weights ?_
  refine we_name 0 rfl ?_
  refine ⟨_, _, rfl, look_weights, ?_⟩
  refine wa_nil ?_
  first | refine cf_list rfl ?_ | refine cf_listD rfl rfl ?_
  refine ⟨trivial, ?_⟩
  exact ⟨by rw [keys_stones]; exact ownLts_map fun _ => rfl, rfl, by rw [keys_stones]; exact k⟩
  ) fun _ _ _ _ _ _ us hl => match us, hl with | [_], _ => rfl
end
end DL
namespace DL
open PySem PySem.Spec PyProof.Rows L2 RZ PySem.Calls
section
variable {P : Program} {w : World} {K : PySem.W.Frag} {mg : Str → Option Value} {base : Heap}
abbrev s_Hall_walkers : Stmt := inClass (top 7) 7
theorem sc_Hall_walkers : FnScope ["self"] ["self"] (defScope s_Hall_walkers) := ⟨rfl, rfl, rfl, by decide +kernel, rfl, by decide +kernel, by decide +kernel⟩
theorem ok_Hall_walkers {C : Addr} (hC : HallC K C) (d0 : DnM K C "walkers" "Hall.walkers" s_Hall_walkers) (B : Bn mg)  : CalM P w K mg base C "walkers" 1 (sp_Hall_walkers C) := d0.cal (ps := ["self"]) (fun f fd F => fn_body F sc_Hall_walkers (fun args mu Φ ε h => by obtain ⟨_, rfl, _⟩ := h; rfl) fun cdv A outer s H E hr args mu Φ ε h => by
  have nd := sc_Hall_walkers.nd
  obtain ⟨hh, rfl, rfl, k⟩ := h
  refine wss_one ?_
  refine ws_ret ?_
  skip
  refine WO.we ?_
  refine wo_ty B.list ?_
  refine wa_cons ?_
  refine we_attr hC.cls hC.folk ?_
  refine we_name 0 rfl ?_
  refine ⟨_, _, rfl, look_folk, ?_⟩
  refine wa_nil ?_
  first | refine cf_list rfl ?_ | refine cf_listD rfl rfl ?_
  refine ⟨trivial, ?_⟩
  exact ⟨noOwns_strs, rfl, k⟩
  ) fun _ _ _ _ _ _ us hl => match us, hl with | [_], _ => rfl
end
end DL
namespace DL
open PySem PySem.Spec PyProof.Rows L2 RZ PySem.Calls
section
variable {P : Program} {w : World} {K : PySem.W.Frag} {mg : Str → Option Value} {base : Heap}
abbrev s_law_made : Stmt := top 27
theorem sc_law_made : FnScope ["hall", "doors", "name"] ["hall"] (defScope s_law_made) := ⟨rfl, rfl, rfl, by decide +kernel, rfl, by decide +kernel, by decide +kernel⟩
theorem ok_law_made {C : Addr} (hC : HallC K C) (d0 : Dn K mg "_law_made" s_law_made) (B : Bn mg) (cHall : CalMk P w K mg base "Hall" C 3 (sp_Hall_init C)) : Cal P w K mg base "_law_made" 5 [] (sp_law_made C) := d0.cal (ps := ["hall"]) (fun f fd F => fn_body F sc_law_made (fun args mu Φ ε h => by obtain ⟨_, rfl, _⟩ := h; rfl) fun cdv A outer s H E hr args mu Φ ε h => by
  have nd := sc_law_made.nd
  obtain ⟨hh, rfl, rfl, few, k⟩ := h
  have fit := few.fit
  have f2 := fit.l2
  refine wss_cons ?_
  refine ws_setLc (is := [2]) 1 [("name", 2)] ?_
  refine lcA (α := Door) ?_
  refine wit_seq ?_
  refine we_ix hr.u ?_
  refine we_name 0 rfl ?_
  refine we_str ?_
  first | refine ixK rfl hall_rooms ?_ | refine ixK rfl hall_doors ?_ | refine ixK rfl hall_stones ?_ | refine ixK rfl hall_walkers ?_
  refine ⟨_, rfl, ?_⟩
  refine ⟨hh.doors, fun x => .one (.str x.name), fun x => DoorT.d ⟨x, x.one, x.other, .tup (x.rows.map Row.d)⟩, by simp [doorsK, kD], by rw [sizeLine_eq]; omega, fun x hx => ?_, ?_⟩
  · intro s1 H1 C1 cl1 fp1
    refine wg_name 2 ?_
    refine ⟨rfl, fun s2 H2 C2 cl2 fp2 => ?_⟩
    refine we_bin ?_
    refine we_tup ?_
    refine wa_cons ?_
    refine we_name 2 rfl ?_
    refine wa_nil ?_
    refine ⟨by show 1 ≤ sizeLine; decide, ?_⟩
    refine we_ix hr.u ?_
    refine we_ix hr.u ?_
    refine we_name 0 rfl ?_
    refine we_str ?_
    first | refine ixK rfl hall_rooms ?_ | refine ixK rfl hall_doors ?_ | refine ixK rfl hall_stones ?_ | refine ixK rfl hall_walkers ?_
    refine we_name 2 rfl ?_
    refine ixK rfl (gval_doors hx fit.doorsN) ?_
    refine addT (xs := [.str x.name]) (ys := [.str x.one, .str x.other, .str x.way, .tup (x.rows.map Row.d)]) (by rw [sizeLine_eq]; simp) ?_
    exact ⟨rfl, rfl⟩
  skip
  refine wss_one ?_
  refine ws_ret ?_
  skip
  refine WO.we ?_
  refine wo_make cHall hr (by decide) ?_
  refine wa_cons ?_
  refine WO.we ?_
  refine wo_ty B.list ?_
  refine wa_cons ?_
  refine we_ix hr.u ?_
  refine we_name 0 rfl ?_
  refine we_str ?_
  first | refine ixK rfl hall_rooms ?_ | refine ixK rfl hall_doors ?_ | refine ixK rfl hall_stones ?_ | refine ixK rfl hall_walkers ?_
  refine wa_nil ?_
  first | refine cf_list rfl ?_ | refine cf_listD rfl rfl ?_
  refine ⟨trivial, ?_⟩
  refine wa_cons ?_
  refine we_name 1 rfl ?_
  refine wa_cons ?_
  refine WO.we ?_
  refine wo_listItems B.list ?_
  refine we_ix hr.u ?_
  refine we_name 0 rfl ?_
  refine we_str ?_
  first | refine ixK rfl hall_rooms ?_ | refine ixK rfl hall_doors ?_ | refine ixK rfl hall_stones ?_ | refine ixK rfl hall_walkers ?_
  refine ⟨_, rfl, ?_⟩
  refine ⟨trivial, ?_⟩
  refine wa_cons ?_
  refine WO.we ?_
  refine wo_ty B.list ?_
  refine wa_cons ?_
  refine we_ix hr.u ?_
  refine we_name 0 rfl ?_
  refine we_str ?_
  first | refine ixK rfl hall_rooms ?_ | refine ixK rfl hall_doors ?_ | refine ixK rfl hall_stones ?_ | refine ixK rfl hall_walkers ?_
  refine wa_nil ?_
  first | refine cf_list rfl ?_ | refine cf_listD rfl rfl ?_
  refine ⟨trivial, ?_⟩
  refine wa_nil ?_
  refine ⟨?_, hh, _, _, _, _, rfl, rfl, ⟨hh.rooms, hh.doors.map fun x => ⟨x, x.one, x.other, .tup (x.rows.map Row.d)⟩, hh.stones, .inl rfl, .refl _, .inl (by rw [List.map_map]; rfl), List.Perm.of_eq (by rw [List.map_map]; exact List.map_id _), ?_, .inl (by rw [stonesK, List.map_map]; rfl), .refl _, .inl rfl⟩, fit, rfl, _, rfl, rfl, ?_, trivial, ?_⟩
  · show (ownLts 0 (hh.rooms.map D.str) && (ownLts 0 (hh.doors.map _) && (ownLts 0 ((stonesK hh.stones).map pairD) && (ownLts 0 (hh.walkers.map Wlk.d) && true)))) = true
    rw [noOwns_strs, ownLts_map (f := fun x : Door => DoorT.d ⟨x, x.one, x.other, .tup (x.rows.map Row.d)⟩) fun x => ?_, show ownLts 0 ((stonesK hh.stones).map pairD) = true by rw [stonesK, List.map_map]; exact ownLts_map fun _ => rfl, ownLts_map (f := Wlk.d) fun _ => rfl]
    · rfl
    · show (true && (true && (true && (true && (ownLts 0 (x.rows.map Row.d) && true))))) = true
      rw [noOwns_rows]; rfl
  · intro t ht
    obtain ⟨x, hx, rfl⟩ := List.mem_map.mp ht
    exact ⟨.inl ⟨rfl, rfl⟩, x.rows, .inr rfl, .refl _⟩
  · exact ownLt_o (n := 0) C hh
  exact ⟨ownLt_o C hh, rfl, k⟩
  ) fun _ _ _ _ _ _ us hl => match us, hl with | [_], _ => rfl
end
end DL
namespace DL
open PySem PySem.Spec PyProof.Rows L2 RZ PySem.Calls
section
variable {P : Program} {w : World} {K : PySem.W.Frag} {mg : Str → Option Value} {base : Heap}
abbrev s_law_wish : Stmt := top 28
theorem sc_law_wish : FnScope ["pen", "hall", "room", "folk", "one", "some", "stone"] ["pen", "hall"] (defScope s_law_wish) := ⟨rfl, rfl, rfl, by decide +kernel, rfl, by decide +kernel, by decide +kernel⟩
theorem ok_law_wish (d0 : Dn K mg "_law_wish" s_law_wish) (B : Bn mg) (cd : Cal P w K mg base "_law_draw" 1 [] sp_law_draw) (cp : Cal P w K mg base "_law_pick" 2 [] sp_law_pick) : Cal P w K mg base "_law_wish" 3 [] sp_law_wish := d0.cal (ps := ["pen", "hall"]) (fun f fd F => fn_body F sc_law_wish (fun args mu Φ ε h => by obtain ⟨_, _, rfl, _⟩ := h; rfl) fun cdv A outer s H E hr args mu Φ ε h => by
  have nd := sc_law_wish.nd
  obtain ⟨h, n, rfl, rfl, fw, n1, k⟩ := h
  have l1 := fw.rooms; have l2 := fw.doors; have l3 := fw.stones; have l4 := fw.walkers
  have m1 := fw.rooms1; have m4 := fw.walkers1
  refine WSs.penUp (n + 8) ?_
  refine wss_cons ?_
  refine ws_par (i := 2) (j := 3) ?_
  refine wa_cons ?_
  refine we_pick cp hr (by decide) 0 rfl ?_
  refine we_ix hr.u ?_
  refine we_name 1 rfl ?_
  refine we_str ?_
  first | refine ixK rfl hall_rooms ?_ | refine ixK rfl hall_doors ?_ | refine ixK rfl hall_stones ?_ | refine ixK rfl hall_walkers ?_
  refine ⟨_, _, _, rfl, noOwns_strs, rfl, by rw [List.length_map]; omega, by rw [List.length_map]; omega, by omega, fun p1 z1 p1b hz1 => ?_⟩
  obtain ⟨room, hroom, rfl⟩ := pick_map hz1
  refine wa_cons ?_
  refine WO.we ?_
  refine wo_lc (is := [4]) [("one", 4)] ?_
  refine lcA (α := Wlk) ?_
  refine wit_seq ?_
  refine we_ix hr.u ?_
  refine we_name 1 rfl ?_
  refine we_str ?_
  first | refine ixK rfl hall_rooms ?_ | refine ixK rfl hall_doors ?_ | refine ixK rfl hall_stones ?_ | refine ixK rfl hall_walkers ?_
  refine ⟨_, rfl, ?_⟩
  refine ⟨h.walkers, fun x => .one x.d, fun x => .str x.name, by rw [List.map_map]; rfl, by rw [sizeLine_eq]; omega, fun a ha => ?_, ?_⟩
  · intro s1 H1 C1 cl1 fp1
    refine wg_name 4 ?_
    refine ⟨rfl, fun s2 H2 C2 cl2 fp2 => ?_⟩
    refine we_ix hr.u ?_
    refine we_name 4 rfl ?_
    refine we_int ?_
    first | refine ixT rfl (atI_pos (by decide) rfl) ?_ | refine ixL rfl (atI_pos (by decide) rfl) ?_
    exact ⟨rfl, rfl⟩
  refine ⟨trivial, ?_⟩
  refine wa_nil ?_
  refine ⟨_, _, rfl, ?_⟩
  rw [show h.walkers.map (fun x => D.str x.name) = h.folk.map .str by rw [Hall.folk, List.map_map]; rfl]
  have fl : h.folk.length = h.walkers.length := by simp [Hall.folk]
  refine wss_cons ?_
  refine ws_set 5 ?_
  skip
  refine WO.mut ?_
  refine wo_lst ?_
  refine wa_cons ?_
  refine we_tup ?_
  refine wa_cons ?_
  refine we_str ?_
  refine wa_cons ?_
  refine we_pick cp hr (by decide) 0 rfl ?_
  refine we_name 3 rfl ?_
  refine ⟨_, _, _, rfl, noOwns_strs, rfl, by rw [List.length_map]; omega, by rw [List.length_map]; omega, by omega, fun p2 z2 p2b hz2 => ?_⟩
  obtain ⟨w2, hw2, rfl⟩ := pick_map hz2
  refine wa_cons ?_
  refine we_name 2 rfl ?_
  refine wa_nil ?_
  refine ⟨by show 3 ≤ sizeLine; decide, ?_⟩
  refine wa_cons ?_
  refine we_tup ?_
  refine wa_cons ?_
  refine we_str ?_
  refine wa_cons ?_
  refine we_pick cp hr (by decide) 0 rfl ?_
  refine we_name 3 rfl ?_
  refine ⟨_, _, _, rfl, noOwns_strs, rfl, by rw [List.length_map]; omega, by rw [List.length_map]; omega, by omega, fun p3 z3 p3b hz3 => ?_⟩
  obtain ⟨w3, hw3, rfl⟩ := pick_map hz3
  refine wa_cons ?_
  refine we_name 2 rfl ?_
  refine wa_nil ?_
  refine ⟨by show 3 ≤ sizeLine; decide, ?_⟩
  refine wa_nil ?_
  refine ⟨by show 2 ≤ sizeLine; decide, ?_⟩
  refine wss_cons ?_
  refine ws_expr ?_
  refine we_bm PySem.F.plainAttrs_list PySem.F.slot_list_append PySem.F.type_list_append ?_
  refine we_name 5 rfl ?_
  refine ⟨rfl, ?_⟩
  refine wa_cons ?_
  refine we_tup ?_
  refine wa_cons ?_
  refine we_str ?_
  refine wa_cons ?_
  refine we_name 2 rfl ?_
  refine wa_cons ?_
  refine we_ix hr.u ?_
  refine we_lst ?_
  refine wa_csts rfl ?_
  refine ⟨by show 5 ≤ sizeLine; decide, ?_⟩
  refine we_draw cd hr (by decide) 0 rfl ?_
  refine we_int ?_
  refine ⟨_, _, _, rfl, rfl, by omega, by omega, by omega, fun r4 r4a r4b => ?_⟩
  obtain ⟨v, ev, hv⟩ := one_int (ns := [0, 1, 2, 5, 9999999]) (p := fun v => decide (v ∈ [(0 : Int), 1, 2, 5, 9999999])) r4a (by simpa using r4b) (by decide)
  refine ixL rfl ev ?_
  refine wa_nil ?_
  refine ⟨by show 3 ≤ sizeLine; decide, ?_⟩
  refine wa_nil ?_
  refine mt_app rfl (by rw [sizeLine_eq]; simp) ?_
  refine wss_cons ?_
  refine ws_expr ?_
  refine we_bm PySem.F.plainAttrs_list PySem.F.slot_list_append PySem.F.type_list_append ?_
  refine we_name 5 rfl ?_
  refine ⟨rfl, ?_⟩
  refine wa_cons ?_
  refine we_tup ?_
  refine wa_cons ?_
  refine we_str ?_
  refine wa_cons ?_
  refine we_pick cp hr (by decide) 0 rfl ?_
  refine we_bin ?_
  refine WO.we ?_
  refine wo_bf B.sorted ?_
  refine wa_cons ?_
  refine we_ix hr.u ?_
  refine we_name 1 rfl ?_
  refine we_str ?_
  first | refine ixK rfl hall_rooms ?_ | refine ixK rfl hall_doors ?_ | refine ixK rfl hall_stones ?_ | refine ixK rfl hall_walkers ?_
  refine wa_nil ?_
  refine cf_sortedDE rfl rfl (doorsK_keys h.doors) fw.sd ?_
  refine ⟨trivial, ?_⟩
  refine we_lst ?_
  refine wa_cons ?_
  refine we_str ?_
  refine wa_nil ?_
  refine ⟨by show 1 ≤ sizeLine; decide, ?_⟩
  refine addL rfl rfl (by rw [sizeLine_eq]; simp; omega) ?_
  refine ⟨_, _, _, rfl, ?_, rfl, ?_, ?_, by omega, fun p5 z5 p5b hz5 => ?_⟩
  · show ownLts 0 ((h.doors.map (·.name)).map D.str ++ [D.str "nodoor"]) = true
    rw [ownLts_append, noOwns_strs]; rfl
  · simp
  · simp; omega
  obtain ⟨w5, hw5, rfl⟩ : ∃ w5 : Str, w5 ∈ h.doors.map (·.name) ++ (["nodoor"] : List Str) ∧ z5 = .str w5 := pick_map (l := h.doors.map (·.name) ++ (["nodoor"] : List Str)) (f := D.str) (by rw [List.map_append]; exact hz5)
  have ok5 : (Wish.open w5).Ok h := by
    rcases List.mem_append.mp hw5 with e | e
    · exact .inl e
    · exact .inr (by simpa using e)
  refine wa_nil ?_
  refine ⟨by show 2 ≤ sizeLine; decide, ?_⟩
  refine wa_nil ?_
  refine mt_app rfl (by rw [sizeLine_eq]; simp) ?_
  obtain ⟨ws, hws, hwl, hwo⟩ : ∃ ws : List Wish, [D.tup [.str "at", .str w2, .str room], .tup [.str "at", .str w3, .str room]] ++ [.tup [.str "bears", .str room, .int v]] ++ [.tup [.str "open", .str w5]] = ws.map Wish.d ∧ ws.length = 4 ∧ ∀ x, x ∈ ws → x.Ok h :=
    ⟨[.at w2 room, .at w3 room, .bears room v, .open w5], rfl, rfl, fun x hx => by
      simp only [List.mem_cons, List.not_mem_nil, or_false] at hx
      rcases hx with rfl | rfl | rfl | rfl
      · exact ⟨hw2, hroom⟩
      · exact ⟨hw3, hroom⟩
      · exact ⟨hroom, of_decide_eq_true hv⟩
      · exact ok5⟩
  refine wss_cons ?_
  refine ws_for (is := [6]) ?_ (passes_of rfl)
  refine wit_seq ?_
  refine we_slice ?_
  refine WO.we ?_
  refine wo_bf B.sorted ?_
  refine wa_cons ?_
  refine we_ix hr.u ?_
  refine we_name 1 rfl ?_
  refine we_str ?_
  first | refine ixK rfl hall_rooms ?_ | refine ixK rfl hall_doors ?_ | refine ixK rfl hall_stones ?_ | refine ixK rfl hall_walkers ?_
  refine wa_nil ?_
  refine cf_sortedDE rfl rfl (stonesK_keys h.stones) fw.ss ?_
  refine ⟨trivial, ?_⟩
  refine wp_none ?_
  refine wp_some ?_
  refine we_int ?_
  refine ⟨_, rfl, ?_⟩
  refine slL rfl ?_
  rw [cutL_take _ _ (by decide), ← List.map_take]
  refine ⟨_, rfl, ?_⟩
  rw [show List.map Yd.one (List.map D.str ((h.stones.map (·.1)).take (Int.toNat 2))) = ((h.stones.map (·.1)).take 2).map (fun x => .one (.str x)) from List.map_map]
  refine loopL (fun l1 l2 d m => ∃ (us : List Wish) (n' : Nat) (s4 s6 : Sl), d = [some (.own 0), some h.d, some (.str room), some (.lst (h.folk.map .str)), s4, some (.own 1), s6] ∧ m = [.pen n', .lst (us.map Wish.d)] ∧ n' ≤ n + 5 + l1.length ∧ us.length = 4 + 2 * l1.length ∧ ∀ x, x ∈ us → x.Ok h) ?_ ?_ ?_
  · exact ⟨ws, n + 1 + 1 + 1 + 1 + 1, _, _, rfl, by rw [← hws]; rfl, by simp, by simp [hwl], hwo⟩
  · rintro j1 a j2 d m he ⟨us, n', s4, s6, rfl, rfl, hn', hul, huo⟩
    have jl : j1.length < 2 := by have := congrArg List.length he; simp at this; omega
    have ha : a ∈ h.stones.map (·.1) := List.mem_of_mem_take (by rw [he]; simp)
    refine wg_name 6 ?_
    refine wss_one ?_
    refine ws_expr ?_
    refine we_bm PySem.F.plainAttrs_list PySem.F.slot_list_extend PySem.F.type_list_extend ?_
    refine we_name 5 rfl ?_
    refine ⟨rfl, ?_⟩
    refine wa_cons ?_
    refine we_lst ?_
    refine wa_cons ?_
    refine we_tup ?_
    refine wa_cons ?_
    refine we_str ?_
    refine wa_cons ?_
    refine we_name 6 rfl ?_
    refine wa_cons ?_
    refine we_name 2 rfl ?_
    refine wa_nil ?_
    refine ⟨by show 3 ≤ sizeLine; decide, ?_⟩
    refine wa_cons ?_
    refine we_tup ?_
    refine wa_cons ?_
    refine we_str ?_
    refine wa_cons ?_
    refine we_name 6 rfl ?_
    refine wa_cons ?_
    refine we_pick cp hr (by decide) 0 rfl ?_
    refine we_name 3 rfl ?_
    refine ⟨_, _, _, rfl, noOwns_strs, rfl, by rw [List.length_map]; omega, by rw [List.length_map]; omega, by omega, fun p6 z6 p6b hz6 => ?_⟩
    obtain ⟨w6, hw6, rfl⟩ := pick_map hz6
    refine wa_nil ?_
    refine ⟨by show 3 ≤ sizeLine; decide, ?_⟩
    refine wa_nil ?_
    refine ⟨by show 2 ≤ sizeLine; decide, ?_⟩
    refine wa_nil ?_
    refine mt_ext rfl rfl (by rw [sizeLine_eq]; simp; omega) ?_
    refine ⟨us ++ [.lies a room, .held a w6], n' + 1, _, _, rfl, by rw [List.map_append]; rfl, by simp; omega, by simp; omega, fun x hx => ?_⟩
    rcases List.mem_append.mp hx with e | e
    · exact huo x e
    · simp only [List.mem_cons, List.not_mem_nil, or_false] at e
      rcases e with rfl | rfl
      · exact ⟨ha, hroom⟩
      · exact ⟨ha, hw6⟩
  · rintro d m ⟨us, n', s4, s6, rfl, rfl, hn', hul, huo⟩
    have tl : ((h.stones.map (·.1)).take 2).length ≤ 2 := List.length_take_le _ _
    refine WSs.melt 1 (mo := .lst (us.map Wish.d)) rfl trivial ?_
    refine wss_one ?_
    refine ws_ret ?_
    skip
    refine we_pick cp hr (by decide) 0 rfl ?_
    refine we_name 5 rfl ?_
    refine ⟨us.length, n', [.gone], ?_, noOwns_wishes, rfl, by omega, by omega, by omega, fun p7 z7 p7b hz7 => ?_⟩
    · show some (us.map Wish.d).length = some us.length
      rw [List.length_map]
    obtain ⟨x, hx, rfl⟩ := pick_map hz7
    exact ⟨n' + 1, _, rfl, by omega, noOwn_wish x, rfl, k x (huo x hx)⟩
  ) fun _ _ _ _ _ _ us hl => match us, hl with | [_, _], _ => rfl
end
end DL
namespace DL
open PySem PySem.Spec PyProof.Rows L2 RZ PySem.Calls
section
variable {P : Program} {w : World} {K : PySem.W.Frag} {mg : Str → Option Value} {base : Heap}
abbrev s_is_whole : Stmt := top 10
theorem sc_is_whole : FnScope ["thing"] ["thing"] (defScope s_is_whole) := ⟨rfl, rfl, rfl, by decide +kernel, rfl, by decide +kernel, by decide +kernel⟩
theorem ok_is_whole (d0 : Dn K mg "is_whole" s_is_whole) (B : Bn mg)  : Cal P w K mg base "is_whole" 1 [] sp_is_wholeX := d0.cal (ps := ["thing"]) (fun f fd F => fn_body F sc_is_whole (fun args mu Φ ε h => by obtain ⟨_, rfl, _⟩ := h; rfl) fun cdv A outer s H E hr args mu Φ ε h => by
  have nd := sc_is_whole.nd
  obtain ⟨d, rfl, rfl, od, k⟩ := h
  refine wss_one ?_
  refine ws_ret ?_
  refine we_and ?_
  refine we_bf B.isinstance ?_
  refine wa_cons ?_
  refine we_name 0 rfl ?_
  refine wa_cons ?_
  refine we_blt B.int ?_
  refine wa_nil ?_
  refine cf_isi (b := isIntB d) (by rw [od.rd]; exact od.ty.1) (by rw [od.rd]; exact od.tyI) ?_
  refine ⟨_, rfl, fun q => ?_, fun q => ?_⟩
  rotate_left
  · have e : wholeB d = false := by cases d <;> first | rfl | cases q
    rw [e] at k
    exact ⟨rfl, rfl, k⟩
  refine we_one ?_
  refine we_not ?_
  refine we_bf B.isinstance ?_
  refine wa_cons ?_
  refine we_name 0 rfl ?_
  refine wa_cons ?_
  refine we_blt B.bool ?_
  refine wa_nil ?_
  refine cf_isi (b := isBl d) (by rw [od.rd]; exact od.ty.1) (by rw [od.rd]; exact od.tyBl) ?_
  refine ⟨_, rfl, rfl, rfl, ?_⟩
  have e : wholeB d = !isBl d := by cases d <;> first | rfl | cases q
  rw [e] at k
  exact k
  ) fun _ _ _ _ _ _ us hl => match us, hl with | [_], _ => rfl
end
end DL
namespace DL
open PySem PySem.Spec PyProof.Rows L2 RZ PySem.Calls
section
variable {P : Program} {w : World} {K : PySem.W.Frag} {mg : Str → Option Value} {base : Heap}
abbrev s_is_from : Stmt := top 11
theorem sc_is_from : FnScope ["thing", "least", "most"] ["thing", "least", "most"] (defScope s_is_from) := ⟨rfl, rfl, rfl, by decide +kernel, rfl, by decide +kernel, by decide +kernel⟩
theorem ok_is_from (d0 : Dn K mg "is_from" s_is_from) (B : Bn mg) (c_is_whole : Cal P w K mg base "is_whole" 1 [] sp_is_wholeX) : Cal P w K mg base "is_from" 2 [] sp_is_fromX := d0.cal (ps := ["thing", "least", "most"]) (fun f fd F => fn_body F sc_is_from (fun args mu Φ ε h => by obtain ⟨_, _, _, rfl, _⟩ := h; rfl) fun cdv A outer s H E hr args mu Φ ε h => by
  have nd := sc_is_from.nd
  obtain ⟨d, a, b, rfl, rfl, od, k⟩ := h
  refine wss_one ?_
  refine ws_ret ?_
  refine we_and ?_
  refine we_call c_is_whole 0 hr (by decide) ?_
  refine wa_cons ?_
  refine we_name 0 rfl ?_
  refine wa_nil ?_
  refine ⟨by simp, rfl, (by show (ownLt 0 d && true) = true; rw [od.own]; rfl), d, rfl, rfl, od, ?_⟩
  refine ⟨_, rfl, fun q => ?_, fun q => ?_⟩
  rotate_left
  · have e : fromB d a b = false := by cases d <;> first | rfl | cases q
    rw [e] at k
    exact ⟨rfl, rfl, k⟩
  obtain ⟨i, rfl⟩ : ∃ i, d = .int i := by cases d <;> first | exact ⟨_, rfl⟩ | cases q
  have k : Φ (.bl (decide (a ≤ i) && decide (i ≤ b))) [] := k
  refine we_one ?_
  refine we_chain ?_
  refine we_name 1 rfl ?_
  refine we_name 0 rfl ?_
  refine leI ?_
  refine ⟨_, rfl, fun q => ?_, fun q => ?_⟩
  · refine we_name 2 rfl ?_
    refine leI ?_
    have q : decide (a ≤ i) = true := q
    exact ⟨rfl, rfl, by rw [q, Bool.true_and] at k; exact k⟩
  · have q : decide (a ≤ i) = false := q
    exact ⟨rfl, rfl, by rw [q, Bool.false_and] at k; exact k⟩
  ) fun _ _ _ _ _ _ us hl => match us, hl with | [_, _, _], _ => rfl
end
end DL
namespace DL
open PySem PySem.Spec PyProof.Rows L2 RZ PySem.Calls
section
variable {P : Program} {w : World} {K : PySem.W.Frag} {mg : Str → Option Value} {base : Heap}
abbrev s_is_name : Stmt := top 12
theorem sc_is_name : FnScope ["thing", "letter"] ["thing"] (defScope s_is_name) := ⟨rfl, rfl, rfl, by decide +kernel, rfl, by decide +kernel, by decide +kernel⟩
theorem ok_is_name (d0 : Dn K mg "is_name" s_is_name) (B : Bn mg) (gL : GlS mg "LETTERS" "abcdefghijklmnopqrstuvwxyz") : Cal P w K mg base "is_name" 1 [] sp_is_nameO := d0.cal (ps := ["thing"]) (fun f fd F => fn_body F sc_is_name (fun args mu Φ ε h => by obtain ⟨_, rfl, _⟩ := h; rfl) fun cdv A outer s H E hr args mu Φ ε h => by
  have nd := sc_is_name.nd
  obtain ⟨d, rfl, rfl, sd, k⟩ := h
  have od := sd.ok
  have rd : ∀ mu : List MO, rdD mu d = d := fun mu => okE.rd od
  refine wss_one ?_
  refine ws_ret ?_
  refine we_and ?_
  refine we_bf B.isinstance ?_
  refine wa_cons ?_
  refine we_name 0 rfl ?_
  refine wa_cons ?_
  refine we_blt B.str ?_
  refine wa_nil ?_
  rcases okE_strE od sd.le with ⟨x, rfl, sx, lx⟩ | ⟨h0, h1, h2⟩
  · refine cf_isi (b := true) (by show ("str" : String) ≠ ""; decide) rfl ?_
    refine ⟨_, rfl, fun _ => ?_, fun q => (by cases q)⟩
    have xl : x.cps.toList.length = x.length := by simp [Str.length]
    have nb : nameB (.str x) = (decide (1 ≤ x.length) && decide (x.length ≤ 8) && x.cps.toList.all fun c => decide (97 ≤ c) && decide (c ≤ 122)) := rfl
    refine we_and ?_
    refine we_chain ?_
    refine we_int ?_
    refine we_bf B.len ?_
    refine wa_cons ?_
    refine we_name 0 rfl ?_
    refine wa_nil ?_
    refine cf_len (n := x.length) (by show (if x.length ≤ sizeLine then some x.length else none) = _; rw [if_pos (by rw [sizeLine_eq]; omega)]) ?_
    refine ltI ?_
    refine ⟨_, rfl, fun q => ?_, fun q => ?_⟩
    rotate_left
    · refine ⟨_, rfl, fun z => (by cases z), fun _ => ?_⟩
      have q' := of_decide_eq_false q
      rw [nb, decide_eq_false (show ¬ 1 ≤ x.length from fun z => q' (by omega))] at k
      exact ⟨rfl, rfl, k⟩
    have q1 := of_decide_eq_true q
    refine we_int ?_
    refine ltI ?_
    refine ⟨_, rfl, fun q2 => ?_, fun q2 => ?_⟩
    rotate_left
    · have q' := of_decide_eq_false q2
      rw [nb, decide_eq_false (show ¬ x.length ≤ 8 from fun z => q' (by omega)), Bool.and_false, Bool.false_and] at k
      exact ⟨rfl, rfl, k⟩
    have q2 := of_decide_eq_true q2
    rw [nb, decide_eq_true (show 1 ≤ x.length by omega), decide_eq_true (show x.length ≤ 8 by omega), Bool.true_and, Bool.true_and] at k
    refine we_one ?_
    refine we_bf B.all ?_
    refine wa_cons ?_
    refine WO.we ?_
    refine wo_lc (is := [1]) [("letter", 1)] ?_
    refine lcA (α := Nat) ?_
    refine wit_str ?_
    refine we_name 0 rfl ?_
    refine ⟨_, rfl, ?_⟩
    refine ⟨x.cps.toList, fun c => .one (.str ⟨#[c]⟩), fun c => .bl (decide (97 ≤ c) && decide (c ≤ 122)), rfl, by rw [sizeLine_eq, xl]; omega, fun c hc => ?_, ?_⟩
    · intro s1 H1 C1 cl1 fp1
      refine wg_name 1 ?_
      refine ⟨rfl, fun s2 H2 C2 cl2 fp2 => ?_⟩
      refine we_cmp ?_ rfl
      refine we_name 1 rfl ?_
      refine we_globS gL ?_
      refine wop_in hr.u ?_
      refine ⟨rfl, ?_⟩
      rw [inS_sign]
      exact congrArg D.bl letter_iff
    refine ⟨trivial, ?_⟩
    refine wa_nil ?_
    refine cf_all rfl (bs := x.cps.toList.map fun c => decide (97 ≤ c) && decide (c ≤ 122)) (by rw [List.map_map]; rfl) ?_
    rw [List.all_map]
    exact ⟨rfl, rfl, k⟩
  · refine cf_isi (T := "str") (b := false) (by rw [rd]; exact h0) (by rw [rd]; exact h1) ?_
    refine ⟨_, rfl, fun q => (by cases q), fun _ => ?_⟩
    have : nameB d = false := by
      cases d with
      | str x => exact absurd rfl (h2 x)
      | _ => rfl
    rw [this] at k
    exact ⟨rfl, rfl, k⟩
  ) fun _ _ _ _ _ _ us hl => match us, hl with | [_], _ => rfl
end
end DL
namespace DL
open PySem PySem.Spec PyProof.Rows L2 RZ PySem.Calls
section
variable {P : Program} {w : World} {K : PySem.W.Frag} {mg : Str → Option Value} {base : Heap}
abbrev s_law_is_whole : Stmt := top 29
theorem sc_law_is_whole : FnScope ["thing", "least", "upto"] ["thing", "least", "upto"] (defScope s_law_is_whole) := ⟨rfl, rfl, rfl, by decide +kernel, rfl, by decide +kernel, by decide +kernel⟩
theorem ok_law_is_whole (d0 : Dn K mg "_law_is_whole" s_law_is_whole) (B : Bn mg)  : Cal P w K mg base "_law_is_whole" 1 [] sp_law_is_whole := d0.cal (ps := ["thing", "least", "upto"]) (fun f fd F => fn_body F sc_law_is_whole (fun args mu Φ ε h => by obtain ⟨_, _, _, rfl, _⟩ := h; rfl) fun cdv A outer s H E hr args mu Φ ε h => by
  have nd := sc_law_is_whole.nd
  obtain ⟨d, a, b, rfl, rfl, od, k⟩ := h
  refine wss_one ?_
  refine ws_ret ?_
  refine we_and ?_
  refine we_bf B.isinstance ?_
  refine wa_cons ?_
  refine we_name 0 rfl ?_
  refine wa_cons ?_
  refine we_blt B.int ?_
  refine wa_nil ?_
  refine cf_isi (b := isIntB d) (by rw [od.rd]; exact od.ty.1) (by rw [od.rd]; exact od.tyI) ?_
  refine ⟨_, rfl, fun q => ?_, fun q => ?_⟩
  rotate_left
  · have e : fromB d a b = false := by cases d <;> first | rfl | cases q
    rw [e] at k
    exact ⟨rfl, rfl, k⟩
  refine we_and ?_
  refine we_not ?_
  refine we_bf B.isinstance ?_
  refine wa_cons ?_
  refine we_name 0 rfl ?_
  refine wa_cons ?_
  refine we_blt B.bool ?_
  refine wa_nil ?_
  refine cf_isi (b := isBl d) (by rw [od.rd]; exact od.ty.1) (by rw [od.rd]; exact od.tyBl) ?_
  refine ⟨_, rfl, _, rfl, fun q2 => ?_, fun q2 => ?_⟩
  rotate_left
  · have q2 : (!isBl d) = false := q2
    have e : fromB d a b = false := by cases d <;> first | rfl | (cases q2; done) | (cases q; done)
    rw [e] at k
    exact ⟨rfl, rfl, k⟩
  have q2 : (!isBl d) = true := q2
  obtain ⟨i, rfl⟩ : ∃ i, d = .int i := by cases d <;> first | exact ⟨_, rfl⟩ | (cases q; done) | (cases q2; done)
  have k : Φ (.bl (decide (a ≤ i) && decide (i ≤ b))) [] := k
  refine we_one ?_
  refine we_chain ?_
  refine we_name 1 rfl ?_
  refine we_name 0 rfl ?_
  refine leI ?_
  refine ⟨_, rfl, fun q => ?_, fun q => ?_⟩
  · refine we_name 2 rfl ?_
    refine leI ?_
    have q : decide (a ≤ i) = true := q
    exact ⟨rfl, rfl, by rw [q, Bool.true_and] at k; exact k⟩
  · have q : decide (a ≤ i) = false := q
    exact ⟨rfl, rfl, by rw [q, Bool.false_and] at k; exact k⟩
  ) fun _ _ _ _ _ _ us hl => match us, hl with | [_, _, _], _ => rfl
end
end DL
namespace DL
open PySem PySem.Spec PyProof.Rows L2 RZ PySem.Calls
section
variable {P : Program} {w : World} {K : PySem.W.Frag} {mg : Str → Option Value} {base : Heap}
abbrev s_law_all_names : Stmt := top 30
theorem sc_law_all_names : FnScope ["hall", "found", "one"] ["hall"] (defScope s_law_all_names) := ⟨rfl, rfl, rfl, by decide +kernel, rfl, by decide +kernel, by decide +kernel⟩
theorem ok_law_all_names (d0 : Dn K mg "_law_all_names" s_law_all_names) (B : Bn mg)  : Cal P w K mg base "_law_all_names" 1 [] sp_law_all_names := d0.cal (ps := ["hall"]) (fun f fd F => fn_body F sc_law_all_names (fun args mu Φ ε h => by obtain ⟨_, rfl, _⟩ := h; rfl) fun cdv A outer s H E hr args mu Φ ε h => by
  have nd := sc_law_all_names.nd
  obtain ⟨hh, rfl, rfl, few, k⟩ := h
  have fit := few.fit
  have f1 := few.rooms
  have f2 := few.doors
  have f3 := few.stones
  have f4 := few.walkers
  refine wss_cons ?_
  refine ws_set 1 ?_
  skip
  refine we_bin ?_
  refine we_bin ?_
  refine we_ix hr.u ?_
  refine we_name 0 rfl ?_
  refine we_str ?_
  first | refine ixK rfl hall_rooms ?_ | refine ixK rfl hall_doors ?_ | refine ixK rfl hall_stones ?_ | refine ixK rfl hall_walkers ?_
  refine WO.we ?_
  refine wo_bf B.sorted ?_
  refine wa_cons ?_
  refine we_ix hr.u ?_
  refine we_name 0 rfl ?_
  refine we_str ?_
  first | refine ixK rfl hall_rooms ?_ | refine ixK rfl hall_doors ?_ | refine ixK rfl hall_stones ?_ | refine ixK rfl hall_walkers ?_
  refine wa_nil ?_
  refine cf_sortedDE rfl rfl (ks := hh.doors.map (·.name)) (doorsK_keys _) fit.doors ?_
  refine ⟨trivial, ?_⟩
  refine addL rfl rfl (by rw [sizeLine_eq, List.length_map, List.length_map, List.length_map]; omega) ?_
  refine WO.we ?_
  refine wo_bf B.sorted ?_
  refine wa_cons ?_
  refine we_ix hr.u ?_
  refine we_name 0 rfl ?_
  refine we_str ?_
  first | refine ixK rfl hall_rooms ?_ | refine ixK rfl hall_doors ?_ | refine ixK rfl hall_stones ?_ | refine ixK rfl hall_walkers ?_
  refine wa_nil ?_
  refine cf_sortedDE rfl rfl (ks := hh.stones.map (·.1)) (by simp [stonesK]) fit.stones ?_
  refine ⟨trivial, ?_⟩
  refine addL rfl rfl (by rw [sizeLine_eq, List.length_append, List.length_map, List.length_map, List.length_map, List.length_map, List.length_map]; omega) ?_
  refine wss_one ?_
  refine ws_ret ?_
  skip
  refine we_bin ?_
  refine we_name 1 rfl ?_
  refine WO.we ?_
  refine wo_lc (is := [2]) [("one", 2)] ?_
  refine lcA (α := Wlk) ?_
  refine wit_seq ?_
  refine we_ix hr.u ?_
  refine we_name 0 rfl ?_
  refine we_str ?_
  first | refine ixK rfl hall_rooms ?_ | refine ixK rfl hall_doors ?_ | refine ixK rfl hall_stones ?_ | refine ixK rfl hall_walkers ?_
  refine ⟨_, rfl, ?_⟩
  refine ⟨hh.walkers, fun x => .one x.d, fun x => .str x.name, by rw [List.map_map]; rfl, by rw [sizeLine_eq]; omega, fun x hx => ?_, ?_⟩
  · intro s1 H1 C1 cl1 fp1
    refine wg_name 2 ?_
    refine ⟨rfl, fun s2 H2 C2 cl2 fp2 => ?_⟩
    refine we_ix hr.u ?_
    refine we_name 2 rfl ?_
    refine we_int ?_
    first | refine ixT rfl (atI_pos (by decide) rfl) ?_ | refine ixL rfl (atI_pos (by decide) rfl) ?_
    exact ⟨rfl, rfl⟩
  skip
  refine ⟨trivial, ?_⟩
  refine addL rfl rfl (by rw [sizeLine_eq]; simp only [List.length_append, List.length_map]; omega) ?_
  have e : hh.rooms.map D.str ++ (hh.doors.map (·.name)).map D.str ++ (hh.stones.map (·.1)).map D.str ++ hh.walkers.map (fun x => D.str x.name) = (allN hh).map D.str := by
    unfold allN Hall.folk
    simp only [List.map_append, List.map_map, List.append_assoc]
    rfl
  exact ⟨by rw [e]; exact noOwns_strs, rfl, by rw [e]; exact k⟩
  ) fun _ _ _ _ _ _ us hl => match us, hl with | [_], _ => rfl
end
end DL
namespace DL
open PySem PySem.Spec PyProof.Rows L2 RZ PySem.Calls
section
variable {P : Program} {w : World} {K : PySem.W.Frag} {mg : Str → Option Value} {base : Heap}
abbrev s_is_part : Stmt := top 15
theorem sc_is_part : FnScope ["hall", "sort", "name", "known"] ["hall", "sort", "name"] (defScope s_is_part) := ⟨rfl, rfl, rfl, by decide +kernel, rfl, by decide +kernel, by decide +kernel⟩
theorem ok_is_part {C : Addr} (hC : HallC K C) (d0 : Dn K mg "is_part" s_is_part) (B : Bn mg) (c_Hall_rooms : CalM P w K mg base C "rooms" 1 (sp_Hall_rooms C)) (c_Hall_stones : CalM P w K mg base C "stones" 1 (sp_Hall_stones C)) (c_Hall_walkers : CalM P w K mg base C "walkers" 1 (sp_Hall_walkers C)) : Cal P w K mg base "is_part" 2 [] (sp_is_part C) := d0.cal (ps := ["hall", "sort", "name"]) (fun f fd F => fn_body F sc_is_part (fun args mu Φ ε h => by obtain ⟨_, _, _, rfl, _⟩ := h; rfl) fun cdv A outer s H E hr args mu Φ ε h => by
  have nd := sc_is_part.nd
  obtain ⟨hh, srt, d, rfl, rfl, few, hs, od, k⟩ := h
  refine wss_cons ?_
  refine ws_set 3 ?_
  skip
  refine WO.we ?_
  refine wo_disp ?_
  refine wpr_cons ?_
  refine we_str ?_
  refine we_meth0 hC.cls c_Hall_rooms 0 hr (by decide) ?_
  refine we_name 0 rfl ?_
  refine ⟨_, rfl, rfl, by simp, rfl, ownLt_o1 _ _, _, rfl, rfl, ?_⟩
  refine wpr_cons ?_
  refine we_str ?_
  refine we_meth0 hC.cls c_Hall_stones 0 hr (by decide) ?_
  refine we_name 0 rfl ?_
  refine ⟨_, rfl, rfl, by simp, rfl, ownLt_o1 _ _, _, rfl, rfl, ?_⟩
  refine wpr_cons ?_
  refine we_str ?_
  refine we_meth0 hC.cls c_Hall_walkers 0 hr (by decide) ?_
  refine we_name 0 rfl ?_
  refine ⟨_, rfl, rfl, by simp, rfl, ownLt_o1 _ _, _, rfl, rfl, ?_⟩
  refine wpr_nil ?_
  refine ⟨[(.inr "room", _), (.inr "stone", _), (.inr "walker", _)], rfl, Nat.le_of_ble_eq_true rfl, ?_⟩
  refine ⟨trivial, ?_⟩
  refine wss_one ?_
  refine ws_ret ?_
  refine we_and ?_
  refine we_bf B.isinstance ?_
  refine wa_cons ?_
  refine we_name 2 rfl ?_
  refine wa_cons ?_
  refine we_blt B.str ?_
  refine wa_nil ?_
  refine cf_isi (b := isStr d) (by rw [okE.rd od]; exact (okE.ty od).1) (by rw [okE.rd od]; exact (okE.ty od).2) ?_
  refine ⟨_, rfl, fun q => ?_, fun q => ?_⟩
  rotate_left
  · have e : txtIn (partL hh srt) d = false := by cases d <;> first | rfl | cases q
    rw [e] at k
    exact ⟨rfl, rfl, k⟩
  refine we_one ?_
  refine we_cmp ?_ rfl
  refine we_name 2 rfl ?_
  refine we_ix hr.u ?_
  refine we_name 3 rfl ?_
  refine we_name 1 rfl ?_
  rcases hs with rfl | rfl | rfl
  · refine ixK rfl rfl ?_
    refine wop_inTxt hr.u (n := 50) (by rw [okE.rd od]; exact od) rfl ?_
    rw [okE.rd od]
    exact ⟨rfl, rfl, k⟩
  · refine ixK rfl rfl ?_
    refine wop_inTxt (l := hh.stones.map (·.1)) hr.u (n := 50) (by rw [okE.rd od]; exact od) (by show D.lst (hh.stones.map fun x => D.str x.1) = _; rw [List.map_map]; rfl) ?_
    rw [okE.rd od]
    exact ⟨rfl, rfl, k⟩
  · refine ixK rfl rfl ?_
    refine wop_inTxt hr.u (n := 50) (by rw [okE.rd od]; exact od) rfl ?_
    rw [okE.rd od]
    exact ⟨rfl, rfl, k⟩
  ) fun _ _ _ _ _ _ us hl => match us, hl with | [_, _, _], _ => rfl
end
end DL
namespace DL
open PySem PySem.Spec PyProof.Rows L2 RZ PySem.Calls
section
variable {P : Program} {w : World} {K : PySem.W.Frag} {mg : Str → Option Value} {base : Heap}
abbrev s_is_wish : Stmt := top 16
theorem sc_is_wish : FnScope ["hall", "thing", "word", "rest", "sort", "name"] ["hall", "thing"] (defScope s_is_wish) := ⟨rfl, rfl, rfl, by decide +kernel, rfl, by decide +kernel, by decide +kernel⟩
theorem ok_is_wish {C : Addr} (hC : HallC K C) (d0 : Dn K mg "is_wish" s_is_wish) (B : Bn mg) (c_is_name : Cal P w K mg base "is_name" 1 [] sp_is_nameO) (c_is_part : Cal P w K mg base "is_part" 2 [] (sp_is_part C)) (c_is_from : Cal P w K mg base "is_from" 2 [] sp_is_fromX) (gMOST_HEFT : GlI mg "MOST_HEFT" 9999999) (gWORDS : GlD K P w mg "WORDS" wordsK) (nWORDS : GlN mg "WORDS") : Cal P w K mg base "is_wish" 4 [] (sp_is_wish C) := d0.cal (ps := ["hall", "thing"]) (fun f fd F => fn_body F sc_is_wish (fun args mu Φ ε h => by obtain ⟨_, _, rfl, _⟩ := h; rfl) fun cdv A outer s H E hr args mu Φ ε h => by
  have nd := sc_is_wish.nd
  obtain ⟨hh, d, rfl, rfl, few, sd, k⟩ := h
  have od := sd.ok
  refine wss_cons ?_
  refine ws_if ?_
  refine WT.two (fun m => m = [] ∧ wishB hh d = false) (fun m => m = [] ∧ ∃ wd r, d = .tup (.str wd :: r)) ?_ ?_
  · refine WW.wt ?_
    refine ww_or ?_
    refine wt_not ?_
    refine wt_truth ?_
    refine we_bf B.isinstance ?_
    refine wa_cons ?_
    refine we_name 1 rfl ?_
    refine wa_cons ?_
    refine we_blt B.tuple ?_
    refine wa_nil ?_
    refine cf_isi (b := isTup d) (by rw [okE.rd od]; exact (okE.ty od).1) (by rw [okE.rd od]; exact okE.tyT od) ?_
    first | refine truB ?_ | refine truI ?_ | refine truL rfl ?_ | refine truT rfl ?_
    refine ⟨fun o1 => ?_, fun o1 => ?_⟩
    · exact ⟨fun _ => ⟨rfl, wish_tup (by simpa using o1)⟩, fun q => (by cases q)⟩
    refine ww_or ?_
    refine wt_cmp ?_ rfl
    refine we_name 1 rfl ?_
    refine we_tup ?_
    refine wa_nil ?_
    refine ⟨by show 0 ≤ sizeLine; decide, ?_⟩
    obtain ⟨xs, rfl⟩ := isTup_of (show isTup d = true by
      have o1 : (!isTup d) = false := o1
      simpa using o1)
    refine wop_eqNil hr.u rfl ?_
    refine ⟨_, rfl, ?_⟩
    refine ⟨fun o2 => ?_, fun o2 => ?_⟩
    · exact ⟨fun _ => ⟨rfl, (by rw [List.isEmpty_iff.mp o2]; rfl)⟩, fun q => (by cases q)⟩
    refine ww_or1 ?_
    refine wt_not ?_
    refine wt_truth ?_
    refine we_bf B.isinstance ?_
    refine wa_cons ?_
    refine we_ix hr.u ?_
    refine we_name 1 rfl ?_
    refine we_int ?_
    obtain ⟨a, r, rfl⟩ : ∃ a r, xs = a :: r := by
      cases xs with
      | nil => cases o2
      | cons a r => exact ⟨a, r, rfl⟩
    obtain ⟨m, em, ox⟩ := okE_tup od
    have oa := okEs_nth ox a (by simp)
    refine ixT rfl (atI_pos (by decide) rfl) ?_
    refine wa_cons ?_
    refine we_blt B.str ?_
    refine wa_nil ?_
    refine cf_isi (b := isStr a) (by rw [okE.rd oa]; exact (okE.ty oa).1) (by rw [okE.rd oa]; exact (okE.ty oa).2) ?_
    first | refine truB ?_ | refine truI ?_ | refine truL rfl ?_ | refine truT rfl ?_
    refine ⟨fun q => ⟨rfl, wish_str (by simpa using q)⟩, fun q => ⟨rfl, ?_⟩⟩
    obtain ⟨wd, rfl⟩ := isStr_of' (show isStr a = true by simpa using q)
    exact ⟨wd, r, rfl⟩
  refine ⟨fun m h => ?_, fun m h => ?_⟩
  · obtain ⟨rfl, e⟩ := h
    refine wss_one ?_
    refine ws_ret ?_
    skip
    refine we_bl ?_
    exact ⟨rfl, rfl, by rw [e] at k; exact k⟩
  · refine wss_nil ?_
    obtain ⟨rfl, wd, r, rfl⟩ := h
    obtain ⟨m, em, ox⟩ := okE_tup od
    have sl : eB (.str wd) + 2 + eBs r + 3 ≤ 1000000 := sd.le
    have hor : okEs m r = true := by
      have : (okE m (.str wd) && okEs m r) = true := ox
      rw [Bool.and_eq_true] at this; exact this.2
    have lr := eBs_len r
    refine wss_cons ?_
    refine ws_asg (is := [2, 3]) ?_
    refine we_name 1 rfl ?_
    refine wg_star (i := 1) rfl (by show 1 ≤ r.length + 1; omega) ?_
    refine wgs_cons (is := [2]) (js := [3]) ?_
    refine wg_name 2 ?_
    refine wgs_star (is := [3]) (js := []) ?_
    refine wg_name 3 ?_
    refine wgs_nil ?_
    refine wss_cons ?_
    refine ws_if ?_
    refine wt_cmp ?_ rfl
    refine we_name 2 rfl ?_
    refine we_str ?_
    first | refine eqI hr.u64 ?_ | refine eqS hr.u64 ?_ | refine eqB hr.u64 ?_
    refine ⟨_, rfl, ?_⟩
    refine ⟨fun h => ?_, fun h => ?_⟩
    · have ew : wd = "open" := by simpa using h
      subst ew
      refine wss_one ?_
      refine ws_ret ?_
      refine we_and ?_
      refine we_cmp ?_ rfl
      refine we_bf B.len ?_
      refine wa_cons ?_
      refine we_name 3 rfl ?_
      refine wa_nil ?_
      refine cf_len (n := r.length) rfl ?_
      refine we_int ?_
      refine eqI hr.u64 ?_
      refine ⟨_, rfl, fun q => ?_, fun q => ?_⟩
      rotate_left
      · have q : (((r.length : Nat) : Int) == (1 : Int)) = false := q
        have e : wishB hh (.tup (.str "open" :: r)) = false := by
          rw [wish_open]
          rcases r with _ | ⟨x, _ | ⟨y, z⟩⟩
          · rfl
          · simp at q
          · rfl
        rw [e] at k
        exact ⟨rfl, rfl, k⟩
      have q : (((r.length : Nat) : Int) == (1 : Int)) = true := q
      obtain ⟨x, rfl⟩ : ∃ x, r = [x] := by
        rcases r with _ | ⟨x, _ | ⟨y, z⟩⟩
        · simp at q
        · exact ⟨x, rfl⟩
        · simp at q; omega
      refine we_one ?_
      refine we_call c_is_name 0 hr (by decide) ?_
      refine wa_cons ?_
      refine we_ix hr.u ?_
      refine we_name 3 rfl ?_
      refine we_int ?_
      refine ixL rfl (atI_pos (by decide) rfl) ?_
      refine wa_nil ?_
      have ox1 := okEs_nth hor x (by simp)
      have ex1 : eB x ≤ 1000000 := by
        have : eBs [x] = eB x + 2 + 0 := rfl
        omega
      refine ⟨by simp, rfl, (by show (ownLt 0 x && true) = true; rw [okE.own 0 _ _ ox1]; rfl), x, rfl, rfl, ⟨okE_le ox1 (by omega), ex1⟩, ?_⟩
      exact ⟨rfl, rfl, k⟩
    · refine wss_nil ?_
      have hw : wd ≠ "open" := by simpa using h
      refine wss_cons ?_
      refine ws_if ?_
      refine wt_cmp ?_ rfl
      refine we_bf B.len ?_
      refine wa_cons ?_
      refine we_name 3 rfl ?_
      refine wa_nil ?_
      refine cf_len (n := r.length) rfl ?_
      refine we_int ?_
      first | refine neI hr.u64 ?_ | refine neS hr.u64 ?_ | refine neB hr.u64 ?_
      refine ⟨_, rfl, ?_⟩
      refine ⟨fun h => ?_, fun h => ?_⟩
      · refine wss_one ?_
        refine ws_ret ?_
        skip
        refine we_bl ?_
        have hl : r.length ≠ 2 := by
          intro e
          have h : (((r.length : Nat) : Int) != (2 : Int)) = true := h
          rw [e] at h; cases h
        exact ⟨rfl, rfl, by rw [wish_not2 hw hl] at k; exact k⟩
      · refine wss_nil ?_
        obtain ⟨a, b, rfl⟩ : ∃ a b, r = [a, b] := by
          have h : (((r.length : Nat) : Int) != (2 : Int)) = false := h
          rcases r with _ | ⟨x, _ | ⟨y, _ | ⟨z, t⟩⟩⟩
          · cases h
          · cases h
          · exact ⟨x, y, rfl⟩
          · simp at h; omega
        have oa := okEs_nth hor a (by simp)
        have ob := okEs_nth hor b (by simp)
        rw [wish_two hw] at k
        refine wss_cons ?_
        refine ws_if ?_
        refine wt_cmp ?_ rfl
        refine we_name 2 rfl ?_
        refine we_str ?_
        first | refine eqI hr.u64 ?_ | refine eqS hr.u64 ?_ | refine eqB hr.u64 ?_
        refine ⟨_, rfl, ?_⟩
        refine ⟨fun h => ?_, fun h => ?_⟩
        · have ew : wd = "bears" := by simpa using h
          subst ew
          rw [if_pos rfl] at k
          refine wss_one ?_
          refine ws_ret ?_
          refine we_and ?_
          refine we_call c_is_part 0 hr (by decide) ?_
          refine wa_cons ?_
          refine we_name 0 rfl ?_
          refine wa_cons ?_
          refine we_str ?_
          refine wa_cons ?_
          refine we_ix hr.u ?_
          refine we_name 3 rfl ?_
          refine we_int ?_
          refine ixL rfl (atI_pos (by decide) rfl) ?_
          refine wa_nil ?_
          refine ⟨by simp, rfl, (by show (ownLt 0 (hh.o C) && (true && (ownLt 0 a && true))) = true; rw [ownLt_o, okE.own 0 _ _ oa]; rfl), hh, "room", a, rfl, rfl, few, .inl rfl, okE_le oa (by omega), ?_⟩
          refine ⟨_, rfl, fun q => ?_, fun q => ?_⟩
          rotate_left
          · have q : txtIn hh.rooms a = false := q
            rw [q, Bool.false_and] at k
            exact ⟨rfl, rfl, k⟩
          have q : txtIn hh.rooms a = true := q
          rw [q, Bool.true_and] at k
          refine we_one ?_
          refine we_call c_is_from 0 hr (by decide) ?_
          refine wa_cons ?_
          refine we_ix hr.u ?_
          refine we_name 3 rfl ?_
          refine we_int ?_
          refine ixL rfl (atI_pos (by decide) rfl) ?_
          refine wa_cons ?_
          refine we_int ?_
          refine wa_cons ?_
          refine we_globI gMOST_HEFT ?_
          refine wa_nil ?_
          refine ⟨by simp, rfl, (by show (ownLt 0 b && (true && (true && true))) = true; rw [okE.own 0 _ _ ob]; rfl), b, 0, 9999999, rfl, rfl, .inl (okE_le ob (by omega)), ?_⟩
          exact ⟨rfl, rfl, k⟩
        · refine wss_nil ?_
          have hb : wd ≠ "bears" := by simpa using h
          rw [if_neg hb] at k
          refine wss_one ?_
          refine ws_ret ?_
          refine we_and ?_
          refine we_globIn gWORDS nWORDS ?_
          refine we_name 2 rfl ?_
          refine ⟨wd, rfl, _, rfl, fun q => ?_, fun q => ?_⟩
          rotate_left
          · have n1 : wd ≠ "at" := fun e => by subst e; cases q
            have n2 : wd ≠ "lies" := fun e => by subst e; cases q
            have n3 : wd ≠ "held" := fun e => by subst e; cases q
            rw [if_neg n1, if_neg n2, if_neg n3] at k
            exact ⟨rfl, rfl, k⟩
          obtain ⟨s1, s2, hv, i1, i2, ek⟩ : ∃ s1 s2 : Str, gval wordsK (.inr wd) = some (.tup (([s1, s2] : List Str).map .str)) ∧ isSort s1 ∧ isSort s2 ∧ (if wd = "at" then txtIn hh.folk a && txtIn hh.rooms b else if wd = "lies" then txtIn (hh.stones.map (·.1)) a && txtIn hh.rooms b else if wd = "held" then txtIn (hh.stones.map (·.1)) a && txtIn hh.folk b else false) = (txtIn (partL hh s1) a && txtIn (partL hh s2) b) := by
            by_cases e1 : wd = "at"
            · subst e1; exact ⟨"walker", "room", rfl, .inr (.inr rfl), .inl rfl, rfl⟩
            by_cases e2 : wd = "lies"
            · subst e2; exact ⟨"stone", "room", rfl, .inr (.inl rfl), .inl rfl, rfl⟩
            by_cases e3 : wd = "held"
            · subst e3; exact ⟨"stone", "walker", rfl, .inr (.inl rfl), .inr (.inr rfl), rfl⟩
            exfalso
            have : gval wordsK (.inr wd) = none := by
              unfold wordsK
              simp only [gval]
              simp [Ne.symm e1, Ne.symm e2, Ne.symm e3]
            rw [this] at q; cases q
          rw [ek] at k
          refine we_one ?_
          refine we_bf B.all ?_
          refine wa_cons ?_
          refine WO.we ?_
          refine wo_lc (is := [4, 5]) [("sort", 4), ("name", 5)] ?_
          refine lcA (α := Str × D) ?_
          refine wit_zipN B.zip ?_
          refine we_globIx gWORDS ?_
          refine we_name 2 rfl ?_
          refine ⟨wd, _, rfl, hv, ?_⟩
          refine we_name 3 rfl ?_
          refine ⟨_, _, rfl, rfl, ?_⟩
          refine ⟨[(s1, a), (s2, b)], fun q => .many [.str q.1, q.2], fun q => .bl (txtIn (partL hh q.1) q.2), rfl, by show 2 ≤ sizeLine; decide, fun q hq => ?_, ?_⟩
          · have hq2 : isSort q.1 ∧ okE m q.2 = true := by
              simp only [List.mem_cons, List.not_mem_nil, or_false] at hq
              rcases hq with rfl | rfl
              · exact ⟨i1, oa⟩
              · exact ⟨i2, ob⟩
            intro s1 H1 C1 cl1 fp1
            first | refine wg_tup rfl rfl ?_ | refine wg_unl rfl ?_
            refine wgs_cons (is := [4]) (js := [5]) ?_
            refine wg_name 4 ?_
            refine wgs_cons (is := [5]) (js := []) ?_
            refine wg_name 5 ?_
            refine wgs_nil ?_
            refine ⟨rfl, fun s2 H2 C2 cl2 fp2 => ?_⟩
            refine we_call c_is_part 0 hr (by decide) ?_
            refine wa_cons ?_
            refine we_name 0 rfl ?_
            refine wa_cons ?_
            refine we_name 4 rfl ?_
            refine wa_cons ?_
            refine we_name 5 rfl ?_
            refine wa_nil ?_
            refine ⟨by simp, rfl, (by show (ownLt 0 (hh.o C) && (true && (ownLt 0 q.2 && true))) = true; rw [ownLt_o, okE.own 0 _ _ hq2.2]; rfl), hh, q.1, q.2, rfl, rfl, few, hq2.1, okE_le hq2.2 (by omega), ?_⟩
            exact ⟨rfl, rfl⟩
          refine ⟨trivial, ?_⟩
          refine wa_nil ?_
          refine cf_all rfl (bs := [txtIn (partL hh s1) a, txtIn (partL hh s2) b]) rfl ?_
          refine ⟨rfl, rfl, ?_⟩
          show Φ (.bl (txtIn (partL hh s1) a && (txtIn (partL hh s2) b && true))) []
          rw [Bool.and_true]; exact k
  ) fun _ _ _ _ _ _ us hl => match us, hl with | [_, _], _ => rfl
end
end DL
namespace DL
open PySem PySem.Spec PyProof.Rows L2 RZ PySem.Calls
section
variable {P : Program} {w : World} {K : PySem.W.Frag} {mg : Str → Option Value} {base : Heap}
abbrev s_need_goal : Stmt := top 17
theorem sc_need_goal : FnScope ["hall", "thing", "at", "wish"] ["hall", "thing"] (defScope s_need_goal) := ⟨rfl, rfl, rfl, by decide +kernel, rfl, by decide +kernel, by decide +kernel⟩
theorem ok_need_goal {C : Addr} (hC : HallC K C) (d0 : Dn K mg "need_goal" s_need_goal) (B : Bn mg) {CG : Addr} (c_NoGoal : ExK K mg base P w "NoGoal" "at" CG) (c_is_wish : Cal P w K mg base "is_wish" 4 [] (sp_is_wish C)) (gMOST_WISHES : GlI mg "MOST_WISHES" 8) : Cal P w K mg base "need_goal" 6 [] (sp_need_goal C CG) := d0.cal (ps := ["hall", "thing"]) (fun f fd F => fn_body F sc_need_goal (fun args mu Φ ε h => by obtain ⟨_, _, rfl, _⟩ := h; rfl) fun cdv A outer s H E hr args mu Φ ε h => by
  have nd := sc_need_goal.nd
  obtain ⟨hh, d, rfl, rfl, few, sd, k, ke⟩ := h
  have od := sd.ok
  refine wss_cons ?_
  refine ws_if ?_
  refine WT.two (fun m => m = [] ∧ goalAt hh d = some none) (fun m => m = [] ∧ ∃ xs, d = .tup xs ∧ xs.length ≤ 8) ?_ ?_
  · refine WW.wt ?_
    refine ww_or ?_
    refine wt_not ?_
    refine wt_truth ?_
    refine we_bf B.isinstance ?_
    refine wa_cons ?_
    refine we_name 1 rfl ?_
    refine wa_cons ?_
    refine we_blt B.tuple ?_
    refine wa_nil ?_
    refine cf_isi (b := isTup d) (by rw [okE.rd od]; exact (okE.ty od).1) (by rw [okE.rd od]; exact okE.tyT od) ?_
    first | refine truB ?_ | refine truI ?_ | refine truL rfl ?_ | refine truT rfl ?_
    refine ⟨fun o1 => ?_, fun o1 => ?_⟩
    · exact ⟨fun _ => ⟨rfl, goal_tup (by simpa using o1)⟩, fun q => (by cases q)⟩
    refine ww_or1 ?_
    refine wt_cmp ?_ rfl
    refine we_bf B.len ?_
    refine wa_cons ?_
    refine we_name 1 rfl ?_
    refine wa_nil ?_
    obtain ⟨xs, rfl⟩ := isTup_of (show isTup d = true by
      have o1 : (!isTup d) = false := o1
      simpa using o1)
    refine cf_len (n := xs.length) rfl ?_
    refine we_globI gMOST_WISHES ?_
    first | refine gtI ?_ | refine gtX ?_
    refine ⟨_, rfl, ?_⟩
    exact ⟨fun q => ⟨rfl, if_neg (by have := of_decide_eq_true q; omega)⟩, fun q => ⟨rfl, xs, rfl, by have := of_decide_eq_false q; omega⟩⟩
  refine ⟨fun m h => ?_, fun m h => ?_⟩
  · obtain ⟨rfl, e⟩ := h
    refine wss_one ?_
    refine ws_raise c_NoGoal hr (by decide) ?_
    refine we_non ?_
    exact ⟨rfl, rfl, ke none e⟩
  · refine wss_nil ?_
    obtain ⟨rfl, xs, rfl, hl⟩ := h
    obtain ⟨m, em, ox⟩ := okE_tup od
    have sl : eBs xs + 3 ≤ 1000000 := sd.le
    refine wss_one ?_
    refine ws_for (is := [2, 3]) ?_ (passes_of rfl)
    refine wit_enumT B.enumerate ?_
    refine we_name 1 rfl ?_
    refine ⟨_, rfl, ?_⟩
    rw [show enY xs = xs.zipIdx.map (fun p => .many [.int (p.2 : Nat), p.1]) from rfl]
    refine loopL (fun l1 l2 d m => ∃ (s2 s3 : Sl), (∀ z, z ∈ l1 → wishB hh z.1 = true) ∧ d = [some (hh.o C), some (.tup xs), s2, s3] ∧ m = []) ?_ ?_ ?_
    · exact ⟨_, _, by simp, rfl, rfl⟩
    · rintro l1 q l2 d m eq ⟨s2, s3, good, rfl, rfl⟩
      have hq : q.1 ∈ xs := by
        have : q ∈ xs.zipIdx := by rw [eq]; simp
        obtain ⟨a, b⟩ := q
        exact (List.mem_zipIdx' this).2 ▸ List.getElem_mem _
      have oq := okEs_nth ox _ hq
      have eq1 := eBs_mem hq
      first | refine wg_tup rfl rfl ?_ | refine wg_unl rfl ?_
      refine wgs_cons (is := [2]) (js := [3]) ?_
      refine wg_name 2 ?_
      refine wgs_cons (is := [3]) (js := []) ?_
      refine wg_name 3 ?_
      refine wgs_nil ?_
      refine wss_one ?_
      refine ws_if ?_
      refine wt_not ?_
      refine wt_truth ?_
      refine we_call c_is_wish 0 hr (by decide) ?_
      refine wa_cons ?_
      refine we_name 0 rfl ?_
      refine wa_cons ?_
      refine we_name 3 rfl ?_
      refine wa_nil ?_
      refine ⟨by simp, rfl, (by show (ownLt 0 (hh.o C) && (ownLt 0 q.1 && true)) = true; rw [ownLt_o, okE.own 0 _ _ oq]; rfl), hh, q.1, rfl, rfl, few, ⟨okE_le oq (by omega), by omega⟩, ?_⟩
      first | refine truB ?_ | refine truI ?_ | refine truL rfl ?_ | refine truT rfl ?_
      refine ⟨fun h => ?_, fun h => ?_⟩
      · refine wss_one ?_
        refine ws_raise c_NoGoal hr (by decide) ?_
        refine we_name 2 rfl ?_
        have hb : wishB hh q.1 = false := by simpa using h
        exact ⟨rfl, rfl, ke (some q.2) (by show (if xs.length ≤ 8 then _ else _) = _; rw [if_pos hl, badW_first eq good hb]; rfl)⟩
      · refine wss_nil ?_
        have hb : wishB hh q.1 = true := by simpa using h
        refine ⟨_, _, fun z hz => ?_, rfl, rfl⟩
        rcases List.mem_append.mp hz with hz | hz
        · exact good z hz
        · rw [List.mem_singleton.mp hz]; exact hb
    · rintro d m ⟨s2, s3, good, rfl, rfl⟩
      have bn : badW hh xs = [] := badW_none fun x hx => by
        obtain ⟨i, hi⟩ := List.getElem?_of_mem hx
        exact good (x, i) (List.mem_of_getElem? (i := i) (by rw [List.getElem?_zipIdx, hi]; simp))
      exact ⟨rfl, rfl, k (by show (if xs.length ≤ 8 then _ else _) = _; rw [if_pos hl, bn]; rfl)⟩
  ) fun _ _ _ _ _ _ us hl => match us, hl with | [_, _], _ => rfl
end
end DL
namespace DL
open PySem PySem.Spec PyProof.Rows L2 RZ PySem.Calls
section
variable {P : Program} {w : World} {K : PySem.W.Frag} {mg : Str → Option Value} {base : Heap}
abbrev s_law_is_wish : Stmt := top 31
theorem sc_law_is_wish : FnScope ["hall", "thing", "folk", "stones", "one", "word", "known", "pair"] ["hall", "thing"] (defScope s_law_is_wish) := ⟨rfl, rfl, rfl, by decide +kernel, rfl, by decide +kernel, by decide +kernel⟩
theorem ok_law_is_wish (d0 : Dn K mg "_law_is_wish" s_law_is_wish) (B : Bn mg) (c_law_is_whole : Cal P w K mg base "_law_is_whole" 1 [] sp_law_is_whole) : Cal P w K mg base "_law_is_wish" 2 [] sp_law_is_wish23 := d0.cal (ps := ["hall", "thing"]) (fun f fd F => fn_body F sc_law_is_wish (fun args mu Φ ε h => by obtain ⟨_, _, rfl, _⟩ := h; rfl) fun cdv A outer s H E hr args mu Φ ε h => by
  have nd := sc_law_is_wish.nd
  obtain ⟨hh, d, rfl, rfl, few, sd, k⟩ := h
  have od := sd.ok
  have fit := few.fit
  have f1 := few.rooms
  have f4 := few.walkers
  refine wss_cons ?_
  refine ws_par (i := 2) (j := 3) ?_
  refine wa_cons ?_
  refine WO.we ?_
  refine wo_lc (is := [4]) [("one", 4)] ?_
  refine lcA (α := Wlk) ?_
  refine wit_seq ?_
  refine we_ix hr.u ?_
  refine we_name 0 rfl ?_
  refine we_str ?_
  first | refine ixK rfl hall_rooms ?_ | refine ixK rfl hall_doors ?_ | refine ixK rfl hall_stones ?_ | refine ixK rfl hall_walkers ?_ | refine ixK rfl rfl ?_
  refine ⟨_, rfl, ?_⟩
  refine ⟨hh.walkers, fun x => .one x.d, fun x => .str x.name, by rw [List.map_map]; rfl, by rw [sizeLine_eq]; omega, fun x hx => ?_, ?_⟩
  · intro s1 H1 C1 cl1 fp1
    refine wg_name 4 ?_
    refine ⟨rfl, fun s2 H2 C2 cl2 fp2 => ?_⟩
    refine we_ix hr.u ?_
    refine we_name 4 rfl ?_
    refine we_int ?_
    first | refine ixT rfl (atI_pos (by decide) rfl) ?_ | refine ixL rfl (atI_pos (by decide) rfl) ?_
    exact ⟨rfl, rfl⟩
  skip
  refine ⟨trivial, ?_⟩
  refine wa_cons ?_
  refine WO.we ?_
  refine wo_bf B.sorted ?_
  refine wa_cons ?_
  refine we_ix hr.u ?_
  refine we_name 0 rfl ?_
  refine we_str ?_
  first | refine ixK rfl hall_rooms ?_ | refine ixK rfl hall_doors ?_ | refine ixK rfl hall_stones ?_ | refine ixK rfl hall_walkers ?_ | refine ixK rfl rfl ?_
  refine wa_nil ?_
  refine cf_sortedDE rfl rfl (ks := hh.stones.map (·.1)) (by simp [stonesK]) fit.stones ?_
  refine ⟨trivial, ?_⟩
  refine wa_nil ?_
  refine ⟨_, _, rfl, ?_⟩
  rw [show hh.walkers.map (fun x => D.str x.name) = hh.folk.map .str by rw [Hall.folk, List.map_map]; rfl]
  refine wss_cons ?_
  refine ws_if ?_
  refine WT.two (fun m => m = [] ∧ wishB hh d = false) (fun m => m = [] ∧ ∃ wd r, d = .tup (.str wd :: r)) ?_ ?_
  · refine WW.wt ?_
    refine ww_or ?_
    refine wt_not ?_
    refine wt_truth ?_
    refine we_bf B.isinstance ?_
    refine wa_cons ?_
    refine we_name 1 rfl ?_
    refine wa_cons ?_
    refine we_blt B.tuple ?_
    refine wa_nil ?_
    refine cf_isi (b := isTup d) (by rw [okE.rd od]; exact (okE.ty od).1) (by rw [okE.rd od]; exact okE.tyT od) ?_
    first | refine truB ?_ | refine truI ?_ | refine truL rfl ?_ | refine truT rfl ?_
    refine ⟨fun o1 => ?_, fun o1 => ?_⟩
    · exact ⟨fun _ => ⟨rfl, wish_tup (by simpa using o1)⟩, fun q => (by cases q)⟩
    refine ww_or ?_
    refine wt_cmp ?_ rfl
    refine we_name 1 rfl ?_
    refine we_tup ?_
    refine wa_nil ?_
    refine ⟨by show 0 ≤ sizeLine; decide, ?_⟩
    obtain ⟨xs, rfl⟩ := isTup_of (show isTup d = true by
      have o1 : (!isTup d) = false := o1
      simpa using o1)
    refine wop_eqNil hr.u rfl ?_
    refine ⟨_, rfl, ?_⟩
    refine ⟨fun o2 => ?_, fun o2 => ?_⟩
    · exact ⟨fun _ => ⟨rfl, (by rw [List.isEmpty_iff.mp o2]; rfl)⟩, fun q => (by cases q)⟩
    refine ww_or1 ?_
    refine wt_not ?_
    refine wt_truth ?_
    refine we_bf B.isinstance ?_
    refine wa_cons ?_
    refine we_ix hr.u ?_
    refine we_name 1 rfl ?_
    refine we_int ?_
    obtain ⟨a, r, rfl⟩ : ∃ a r, xs = a :: r := by
      cases xs with
      | nil => cases o2
      | cons a r => exact ⟨a, r, rfl⟩
    obtain ⟨m, em, ox⟩ := okE_tup od
    have oa := okEs_nth ox a (by simp)
    refine ixT rfl (atI_pos (by decide) rfl) ?_
    refine wa_cons ?_
    refine we_blt B.str ?_
    refine wa_nil ?_
    refine cf_isi (b := isStr a) (by rw [okE.rd oa]; exact (okE.ty oa).1) (by rw [okE.rd oa]; exact (okE.ty oa).2) ?_
    first | refine truB ?_ | refine truI ?_ | refine truL rfl ?_ | refine truT rfl ?_
    refine ⟨fun q => ⟨rfl, wish_str (by simpa using q)⟩, fun q => ⟨rfl, ?_⟩⟩
    obtain ⟨wd, rfl⟩ := isStr_of' (show isStr a = true by simpa using q)
    exact ⟨wd, r, rfl⟩
  refine ⟨fun m h => ?_, fun m h => ?_⟩
  · obtain ⟨rfl, e⟩ := h
    refine wss_one ?_
    refine ws_ret ?_
    skip
    refine we_bl ?_
    exact ⟨rfl, rfl, by rw [e] at k; exact k⟩
  · refine wss_nil ?_
    obtain ⟨rfl, wd, r, rfl⟩ := h
    obtain ⟨m, em, ox⟩ := okE_tup od
    have sl : eB (.str wd) + 2 + eBs r + 3 ≤ 1000000 := sd.le
    have hor : okEs m r = true := by
      have : (okE m (.str wd) && okEs m r) = true := ox
      rw [Bool.and_eq_true] at this; exact this.2
    have lr := eBs_len r
    refine wss_cons ?_
    refine ws_if ?_
    refine wt_cmp ?_ rfl
    refine we_ix hr.u ?_
    refine we_name 1 rfl ?_
    refine we_int ?_
    refine ixT rfl (atI_pos (by decide) rfl) ?_
    refine we_str ?_
    first | refine eqI hr.u64 ?_ | refine eqS hr.u64 ?_ | refine eqB hr.u64 ?_
    refine ⟨_, rfl, ?_⟩
    refine ⟨fun h => ?_, fun h => ?_⟩
    · have ew : wd = "open" := by simpa using h
      subst ew
      refine wss_cons ?_
      refine ws_set 5 ?_
      refine we_ifExp ?_
      refine WT.val (match r with | [x] => isStr x | _ => false) ?_ ?_
      · refine WW.wt ?_
        refine ww_and ?_
        refine wt_cmp ?_ rfl
        refine we_bf B.len ?_
        refine wa_cons ?_
        refine we_name 1 rfl ?_
        refine wa_nil ?_
        refine cf_len (n := r.length + 1) rfl ?_
        refine we_int ?_
        refine eqI hr.u64 ?_
        refine ⟨_, rfl, ?_⟩
        refine and_swap ⟨fun o3 => ?_, fun o3 => ?_⟩
        · have o3 : ((((r.length + 1 : Nat) : Int)) == (2 : Int)) = false := o3
          refine ⟨rfl, ?_⟩
          rcases r with _ | ⟨x, _ | ⟨y, z⟩⟩
          · rfl
          · simp at o3
          · rfl
        have o3 : ((((r.length + 1 : Nat) : Int)) == (2 : Int)) = true := o3
        obtain ⟨x, rfl⟩ : ∃ x, r = [x] := by
          rcases r with _ | ⟨x, _ | ⟨y, z⟩⟩
          · simp at o3
          · exact ⟨x, rfl⟩
          · simp at o3; omega
        have ox1 := okEs_nth hor x (by simp)
        refine ww_and1 ?_
        refine wt_truth ?_
        refine we_bf B.isinstance ?_
        refine wa_cons ?_
        refine we_ix hr.u ?_
        refine we_name 1 rfl ?_
        refine we_int ?_
        refine ixT rfl (atI_pos (by decide) rfl) ?_
        refine wa_cons ?_
        refine we_blt B.str ?_
        refine wa_nil ?_
        refine cf_isi (b := isStr x) (by rw [okE.rd ox1]; exact (okE.ty ox1).1) (by rw [okE.rd ox1]; exact (okE.ty ox1).2) ?_
        refine truB ?_
        exact ⟨rfl, rfl⟩
      refine ifExp_join (fun z => ∃ n : Str, z = .str n ∧ n.length ≤ 1000000 ∧ wishB hh (.tup (.str "open" :: r)) = nameOk n) (fun q => ?_) (fun q => ?_) (fun z hz => ?_)
      · obtain ⟨n, rfl⟩ : ∃ n : Str, r = [.str n] := by
          rcases r with _ | ⟨x, _ | ⟨y, z⟩⟩
          · cases q
          · obtain ⟨n, rfl⟩ := isStr_of' q
            exact ⟨n, rfl⟩
          · cases q
        refine we_ix hr.u ?_
        refine we_name 1 rfl ?_
        refine we_int ?_
        refine ixT rfl (atI_pos (by decide) rfl) ?_
        have : eBs [D.str n] = 10 * n.length + 2 + 2 + 0 := rfl
        exact ⟨rfl, n, rfl, by omega, rfl⟩
      · refine we_str ?_
        refine ⟨rfl, "", rfl, by decide, ?_⟩
        rw [wish_open]
        rcases r with _ | ⟨x, _ | ⟨y, z⟩⟩
        · rfl
        · cases x <;> first | rfl | cases q
        · rfl
      obtain ⟨n, rfl, ln, en⟩ := hz
      rw [en] at k
      have kk : ∀ b, nameOk n = b → Φ (.bl b) [] := fun b hb => by rw [hb] at k; exact k
      refine wss_one ?_
      refine ws_ret ?_
      refine we_and ?_
      refine we_chain ?_
      refine we_int ?_
      refine we_bf B.len ?_
      refine wa_cons ?_
      refine we_name 5 rfl ?_
      refine wa_nil ?_
      refine cf_len (n := n.length) (by show (if n.length ≤ sizeLine then some n.length else none) = some n.length; rw [if_pos (by rw [sizeLine_eq]; omega)]) ?_
      refine ltI ?_
      refine ⟨_, rfl, fun q => ?_, fun q => ?_⟩
      rotate_left
      · refine ⟨_, rfl, fun z => (by cases z), fun _ => ?_⟩
        have q' := of_decide_eq_false q
        have hn : nameOk n = false := by
          unfold nameOk
          rw [decide_eq_false (show ¬ 1 ≤ n.length from fun z => q' (by omega))]; rfl
        exact ⟨rfl, rfl, kk false hn⟩
      have q1 := of_decide_eq_true q
      refine we_int ?_
      refine ltI ?_
      refine ⟨_, rfl, fun q2 => ?_, fun q2 => ?_⟩
      rotate_left
      · have q' := of_decide_eq_false q2
        have hn : nameOk n = false := by
          unfold nameOk
          rw [decide_eq_false (show ¬ n.length ≤ 8 from fun z => q' (by omega)), Bool.and_false, Bool.false_and]
        exact ⟨rfl, rfl, kk false hn⟩
      have q2 := of_decide_eq_true q2
      have nb : nameOk n = (n.cps.toList.all fun c => decide (97 ≤ c) && decide (c ≤ 122)) := by
        unfold nameOk
        rw [decide_eq_true (show 1 ≤ n.length by omega), decide_eq_true (show n.length ≤ 8 by omega)]; rfl
      refine we_one ?_
      refine we_cmp ?_ rfl
      refine WO.we ?_
      refine wo_lc (is := [4]) [("one", 4)] ?_
      refine lcM (α := Nat) ?_
      refine wit_str ?_
      refine we_name 5 rfl ?_
      refine ⟨_, rfl, ?_⟩
      refine ⟨n.cps.toList, fun c => .one (.str ⟨#[c]⟩), fun c => !(decide (97 ≤ c) && decide (c ≤ 122)), fun c => .str ⟨#[c]⟩, rfl, by rw [sizeLine_eq]; show n.cps.toList.length ≤ _; have e : n.cps.toList.length = n.length := (by simp [Str.length]); rw [e]; omega, fun c hc => ?_, ?_⟩
      · intro s1 H1 C1 cl1 fp1
        refine wg_name 4 ?_
        refine ⟨rfl, fun s2 H2 C2 cl2 fp2 => ?_⟩
        refine wts_one ?_
        refine wt_cmp ?_ rfl
        refine we_name 4 rfl ?_
        refine we_str ?_
        refine wop_notin hr.u ?_
        refine ⟨_, rfl, ?_⟩
        refine ⟨rfl, ?_, fun hb s3 H3 C3 cl3 fp3 => ?_⟩
        · rw [inS_sign]; exact congrArg (!·) letter_iff
        refine we_name 4 rfl ?_
        exact ⟨rfl, rfl⟩
      refine ⟨trivial, ?_⟩
      refine we_lst ?_
      refine wa_nil ?_
      refine ⟨by show 0 ≤ sizeLine; decide, ?_⟩
      refine wop_eqNilL hr.u rfl ?_
      have e : ((n.cps.toList.filter fun c => !(decide (97 ≤ c) && decide (c ≤ 122))).map fun c => D.str ⟨#[c]⟩).isEmpty = nameOk n := by
        rw [filt_nil, nb]
        congr 1; funext c
        rw [Bool.not_not]
      exact ⟨rfl, rfl, by rw [e]; exact kk _ rfl⟩
    · refine wss_nil ?_
      have hw : wd ≠ "open" := by simpa using h
      refine wss_cons ?_
      refine ws_if ?_
      refine wt_cmp ?_ rfl
      refine we_bf B.len ?_
      refine wa_cons ?_
      refine we_name 1 rfl ?_
      refine wa_nil ?_
      refine cf_len (n := r.length + 1) rfl ?_
      refine we_int ?_
      first | refine neI hr.u64 ?_ | refine neS hr.u64 ?_ | refine neB hr.u64 ?_
      refine ⟨_, rfl, ?_⟩
      refine ⟨fun h => ?_, fun h => ?_⟩
      · refine wss_one ?_
        refine ws_ret ?_
        skip
        refine we_bl ?_
        have hl : r.length ≠ 2 := by
          intro e
          have h : ((((r.length + 1 : Nat) : Int)) != (3 : Int)) = true := h
          rw [e] at h; cases h
        exact ⟨rfl, rfl, by rw [wish_not2 hw hl] at k; exact k⟩
      · refine wss_nil ?_
        obtain ⟨a, b, rfl⟩ : ∃ a b, r = [a, b] := by
          have h : ((((r.length + 1 : Nat) : Int)) != (3 : Int)) = false := h
          rcases r with _ | ⟨x, _ | ⟨y, _ | ⟨z, t⟩⟩⟩
          · cases h
          · cases h
          · exact ⟨x, y, rfl⟩
          · simp at h; omega
        have oa := okEs_nth hor a (by simp)
        have ob := okEs_nth hor b (by simp)
        rw [wish_two hw] at k
        refine wss_cons ?_
        refine ws_if ?_
        refine wt_cmp ?_ rfl
        refine we_ix hr.u ?_
        refine we_name 1 rfl ?_
        refine we_int ?_
        refine ixT rfl (atI_pos (by decide) rfl) ?_
        refine we_str ?_
        first | refine eqI hr.u64 ?_ | refine eqS hr.u64 ?_ | refine eqB hr.u64 ?_
        refine ⟨_, rfl, ?_⟩
        refine ⟨fun h => ?_, fun h => ?_⟩
        · have ew : wd = "bears" := by simpa using h
          subst ew
          rw [if_pos rfl] at k
          refine wss_one ?_
          refine ws_ret ?_
          refine we_and ?_
          refine we_cmp ?_ rfl
          refine we_ix hr.u ?_
          refine we_name 1 rfl ?_
          refine we_int ?_
          refine ixT rfl (atI_pos (by decide) rfl) ?_
          refine we_ix hr.u ?_
          refine we_name 0 rfl ?_
          refine we_str ?_
          refine ixK rfl hall_rooms ?_
          refine wop_inTxt hr.u (n := 50) (by rw [okE.rd oa]; exact okE_le oa (by omega)) rfl ?_
          rw [okE.rd oa]
          refine ⟨_, rfl, fun q => ?_, fun q => ?_⟩
          rotate_left
          · rw [q, Bool.false_and] at k
            exact ⟨rfl, rfl, k⟩
          rw [q, Bool.true_and] at k
          refine we_one ?_
          refine we_call c_law_is_whole 0 hr (by decide) ?_
          refine wa_cons ?_
          refine we_ix hr.u ?_
          refine we_name 1 rfl ?_
          refine we_int ?_
          refine ixT rfl (atI_pos (by decide) rfl) ?_
          refine wa_csts rfl ?_
          refine ⟨by simp, rfl, (by show (ownLt 0 b && (true && (true && true))) = true; rw [okE.own 0 _ _ ob]; rfl), b, 0, 9999999, rfl, rfl, .inl (okE_le ob (by omega)), ?_⟩
          exact ⟨rfl, rfl, k⟩
        · refine wss_nil ?_
          have hb : wd ≠ "bears" := by simpa using h
          rw [if_neg hb] at k
          refine wss_cons ?_
          refine ws_set 6 ?_
          skip
          refine WO.we ?_
          refine wo_disp ?_
          refine wpr_cons ?_
          refine we_str ?_
          refine we_lst ?_
          refine wa_cons ?_
          refine we_name 2 rfl ?_
          refine wa_cons ?_
          refine we_ix hr.u ?_
          refine we_name 0 rfl ?_
          refine we_str ?_
          first | refine ixK rfl hall_rooms ?_ | refine ixK rfl hall_doors ?_ | refine ixK rfl hall_stones ?_ | refine ixK rfl hall_walkers ?_ | refine ixK rfl rfl ?_
          refine wa_nil ?_
          refine ⟨by show 2 ≤ sizeLine; decide, ?_⟩
          refine wpr_cons ?_
          refine we_str ?_
          refine we_lst ?_
          refine wa_cons ?_
          refine we_name 3 rfl ?_
          refine wa_cons ?_
          refine we_ix hr.u ?_
          refine we_name 0 rfl ?_
          refine we_str ?_
          first | refine ixK rfl hall_rooms ?_ | refine ixK rfl hall_doors ?_ | refine ixK rfl hall_stones ?_ | refine ixK rfl hall_walkers ?_ | refine ixK rfl rfl ?_
          refine wa_nil ?_
          refine ⟨by show 2 ≤ sizeLine; decide, ?_⟩
          refine wpr_cons ?_
          refine we_str ?_
          refine we_lst ?_
          refine wa_cons ?_
          refine we_name 3 rfl ?_
          refine wa_cons ?_
          refine we_name 2 rfl ?_
          refine wa_nil ?_
          refine ⟨by show 2 ≤ sizeLine; decide, ?_⟩
          refine wpr_nil ?_
          refine ⟨[(.inr "at", _), (.inr "lies", _), (.inr "held", _)], rfl, Nat.le_of_ble_eq_true rfl, ?_⟩
          refine ⟨trivial, ?_⟩
          refine wss_cons ?_
          refine ws_set 7 ?_
          skip
          refine we_get2 hr.u1 ?_
          refine we_name 6 rfl ?_
          refine ⟨⟨_, rfl⟩, ?_⟩
          refine we_ix hr.u ?_
          refine we_name 1 rfl ?_
          refine we_int ?_
          refine ixT rfl (atI_pos (by decide) rfl) ?_
          refine we_lst ?_
          refine wa_cons ?_
          refine we_lst ?_
          refine wa_nil ?_
          refine ⟨by show 0 ≤ sizeLine; decide, ?_⟩
          refine wa_cons ?_
          refine we_lst ?_
          refine wa_nil ?_
          refine ⟨by show 0 ≤ sizeLine; decide, ?_⟩
          refine wa_nil ?_
          refine ⟨by show 2 ≤ sizeLine; decide, ?_⟩
          refine ⟨_, _, rfl, rfl, ?_⟩
          obtain ⟨l1, l2, hv, ek⟩ : ∃ l1 l2 : List Str, (gval [((.inr "at" : Key), D.lst [.lst (hh.folk.map .str), .lst (hh.rooms.map .str)]), (.inr "lies", .lst [.lst ((hh.stones.map (·.1)).map .str), .lst (hh.rooms.map .str)]), (.inr "held", .lst [.lst ((hh.stones.map (·.1)).map .str), .lst (hh.folk.map .str)])] (.inr wd)).getD (.lst [.lst [], .lst []]) = .lst [.lst (l1.map .str), .lst (l2.map .str)] ∧ (if wd = "at" then txtIn hh.folk a && txtIn hh.rooms b else if wd = "lies" then txtIn (hh.stones.map (·.1)) a && txtIn hh.rooms b else if wd = "held" then txtIn (hh.stones.map (·.1)) a && txtIn hh.folk b else false) = (txtIn l1 a && txtIn l2 b) := by
            by_cases e1 : wd = "at"
            · subst e1; exact ⟨_, _, rfl, rfl⟩
            by_cases e2 : wd = "lies"
            · subst e2; exact ⟨_, _, rfl, rfl⟩
            by_cases e3 : wd = "held"
            · subst e3; exact ⟨_, _, rfl, rfl⟩
            refine ⟨[], [], ?_, ?_⟩
            · simp only [gval]
              simp [Ne.symm e1, Ne.symm e2, Ne.symm e3]
            · rw [if_neg e1, if_neg e2, if_neg e3]
              cases a <;> rfl
          rw [ek] at k
          refine wss_one ?_
          refine ws_ret ?_
          refine we_and ?_
          refine we_cmp ?_ rfl
          refine we_ix hr.u ?_
          refine we_name 1 rfl ?_
          refine we_int ?_
          refine ixT rfl (atI_pos (by decide) rfl) ?_
          refine we_ix hr.u ?_
          refine we_name 7 rfl ?_
          refine we_int ?_
          refine ixL (xs := [.lst (l1.map .str), .lst (l2.map .str)]) (congrArg (rdD _) hv) (atI_pos (by decide) rfl) ?_
          refine wop_inTxt hr.u (n := 50) (by rw [okE.rd oa]; exact okE_le oa (by omega)) rfl ?_
          rw [okE.rd oa]
          refine ⟨_, rfl, fun q => ?_, fun q => ?_⟩
          rotate_left
          · rw [q, Bool.false_and] at k
            exact ⟨rfl, rfl, k⟩
          rw [q, Bool.true_and] at k
          refine we_one ?_
          refine we_cmp ?_ rfl
          refine we_ix hr.u ?_
          refine we_name 1 rfl ?_
          refine we_int ?_
          refine ixT rfl (atI_pos (by decide) rfl) ?_
          refine we_ix hr.u ?_
          refine we_name 7 rfl ?_
          refine we_int ?_
          refine ixL (xs := [.lst (l1.map .str), .lst (l2.map .str)]) (congrArg (rdD _) hv) (atI_pos (by decide) rfl) ?_
          refine wop_inTxt hr.u (n := 50) (by rw [okE.rd ob]; exact okE_le ob (by omega)) rfl ?_
          rw [okE.rd ob]
          exact ⟨rfl, rfl, k⟩
  ) fun _ _ _ _ _ _ us hl => match us, hl with | [_, _], _ => rfl
end
end DL
namespace DL
open PySem PySem.Spec PyProof.Rows L2 RZ PySem.Calls
section
variable {P : Program} {w : World} {K : PySem.W.Frag} {mg : Str → Option Value} {base : Heap}
abbrev s_law_due : Stmt := top 32
theorem sc_law_due : FnScope ["hall", "thing", "at"] ["hall", "thing"] (defScope s_law_due) := ⟨rfl, rfl, rfl, by decide +kernel, rfl, by decide +kernel, by decide +kernel⟩
theorem ok_law_due (d0 : Dn K mg "_law_due" s_law_due) (B : Bn mg) (c_law_is_wish : Cal P w K mg base "_law_is_wish" 2 [] sp_law_is_wish23) : Cal P w K mg base "_law_due" 3 [] sp_law_due23 := d0.cal (ps := ["hall", "thing"]) (fun f fd F => fn_body F sc_law_due (fun args mu Φ ε h => by obtain ⟨_, _, rfl, _⟩ := h; rfl) fun cdv A outer s H E hr args mu Φ ε h => by
  have nd := sc_law_due.nd
  obtain ⟨hh, d, rfl, rfl, few, sd, k⟩ := h
  have od := sd.ok
  have oh : ∀ k : Nat, ownLt k hh.d = true := fun k => ownLt_hall hh
  refine wss_cons ?_
  refine ws_if ?_
  refine WT.two (fun m => m = [] ∧ goalAt hh d = some none) (fun m => m = [] ∧ ∃ xs, d = .tup xs ∧ xs.length ≤ 8) ?_ ?_
  · refine WW.wt ?_
    refine ww_or ?_
    refine wt_not ?_
    refine wt_truth ?_
    refine we_bf B.isinstance ?_
    refine wa_cons ?_
    refine we_name 1 rfl ?_
    refine wa_cons ?_
    refine we_blt B.tuple ?_
    refine wa_nil ?_
    refine cf_isi (b := isTup d) (by rw [okE.rd od]; exact (okE.ty od).1) (by rw [okE.rd od]; exact okE.tyT od) ?_
    first | refine truB ?_ | refine truI ?_ | refine truL rfl ?_ | refine truT rfl ?_
    refine ⟨fun o1 => ?_, fun o1 => ?_⟩
    · exact ⟨fun _ => ⟨rfl, goal_tup (by simpa using o1)⟩, fun q => (by cases q)⟩
    refine ww_or1 ?_
    refine wt_cmp ?_ rfl
    refine we_bf B.len ?_
    refine wa_cons ?_
    refine we_name 1 rfl ?_
    refine wa_nil ?_
    obtain ⟨xs, rfl⟩ := isTup_of (show isTup d = true by
      have o1 : (!isTup d) = false := o1
      simpa using o1)
    refine cf_len (n := xs.length) rfl ?_
    refine we_int ?_
    first | refine gtI ?_ | refine gtX ?_
    refine ⟨_, rfl, ?_⟩
    exact ⟨fun q => ⟨rfl, if_neg (by have := of_decide_eq_true q; omega)⟩, fun q => ⟨rfl, xs, rfl, by have := of_decide_eq_false q; omega⟩⟩
  refine ⟨fun m h => ?_, fun m h => ?_⟩
  · obtain ⟨rfl, e⟩ := h
    refine wss_one ?_
    refine ws_ret ?_
    skip
    refine we_lst ?_
    refine wa_cons ?_
    refine we_non ?_
    refine wa_nil ?_
    refine ⟨by show 1 ≤ sizeLine; decide, ?_⟩
    exact ⟨rfl, rfl, by unfold dueL at k; rw [e] at k; exact k⟩
  · refine wss_nil ?_
    obtain ⟨rfl, xs, rfl, hl⟩ := h
    obtain ⟨m, em, ox⟩ := okE_tup od
    have sl : eBs xs + 3 ≤ 1000000 := sd.le
    refine wss_one ?_
    refine ws_ret ?_
    skip
    refine we_slice ?_
    refine WO.we ?_
    refine wo_lc (is := [2]) [("at", 2)] ?_
    refine lcM (α := Nat) ?_
    refine wit_range1 B.range ?_
    refine we_bf B.len ?_
    refine wa_cons ?_
    refine we_name 1 rfl ?_
    refine wa_nil ?_
    refine cf_len (n := xs.length) rfl ?_
    refine ⟨_, rfl, by first | omega | (rw [List.length_map]; omega), ?_⟩
    refine ⟨List.range xs.length, fun i => .one (.int (0 + (i : Nat))), fun i => !wishB hh (xs.getD i .non), fun i => .int (0 + (i : Nat)), rfl, by rw [sizeLine_eq, List.length_range]; omega, fun i hi => ?_, ?_⟩
    · intro s1 H1 C1 cl1 fp1
      refine wg_name 2 ?_
      refine ⟨rfl, fun s2 H2 C2 cl2 fp2 => ?_⟩
      refine wts_one ?_
      refine wt_not ?_
      refine wt_truth ?_
      refine we_call c_law_is_wish 0 hr (by decide) ?_
      refine wa_cons ?_
      refine we_name 0 rfl ?_
      refine wa_cons ?_
      refine we_ix hr.u ?_
      refine we_name 1 rfl ?_
      refine we_name 2 rfl ?_
      have hi2 := List.mem_range.mp hi
      have hx : xs[i]? = some (xs.getD i .non) := by rw [List.getD_eq_getElem?_getD, List.getElem?_eq_getElem hi2]; rfl
      have hxm := List.mem_of_getElem? hx
      have oq := okEs_nth ox _ hxm
      have eq1 := eBs_mem hxm
      refine ixT rfl (atI_pos (by omega) (by rw [show (0 + (i : Int)).toNat = i by omega]; exact hx)) ?_
      refine wa_nil ?_
      refine ⟨by simp, rfl, (by show (ownLt 0 hh.d && (ownLt 0 (xs.getD i .non) && true)) = true; rw [oh, okE.own 0 _ _ oq]; rfl), hh, xs.getD i .non, rfl, rfl, few, ⟨okE_le oq (by omega), by omega⟩, ?_⟩
      first | refine truB ?_ | refine truI ?_ | refine truL rfl ?_ | refine truT rfl ?_
      refine ⟨rfl, ?_, fun hb s3 H3 C3 cl3 fp3 => ?_⟩
      · rfl
      refine we_name 2 rfl ?_
      exact ⟨rfl, rfl⟩
    skip
    refine ⟨trivial, ?_⟩
    refine wp_none ?_
    refine wp_some ?_
    refine we_int ?_
    refine ⟨_, rfl, ?_⟩
    refine slL rfl ?_
    rw [cutL_take _ _ (by decide)]
    have e : List.take (1 : Int).toNat (((List.range xs.length).filter fun i => !wishB hh (xs.getD i .non)).map fun i => D.int (0 + (i : Nat))) = dueL hh (.tup xs) := by
      unfold dueL
      show _ = match (if xs.length ≤ 8 then (badW hh xs).head?.map some else some none) with | none => [] | some o => [optN o]
      rw [if_pos hl]
      show List.take 1 ((badW hh xs).map fun i => D.int (0 + (i : Nat))) = _
      cases badW hh xs with
      | nil => rfl
      | cons a r => simp [optN]
    have no : noOwns (dueL hh (.tup xs)) = true := by
      unfold dueL
      split
      · rfl
      · rename_i o _; cases o <;> rfl
    exact ⟨by rw [e]; exact no, rfl, by rw [e]; exact k⟩
  ) fun _ _ _ _ _ _ us hl => match us, hl with | [_, _], _ => rfl
end
end DL
namespace DL
open PySem PySem.Spec PyProof.Rows L2 RZ PySem.Calls
section
variable {P : Program} {w : World} {K : PySem.W.Frag} {mg : Str → Option Value} {base : Heap}
abbrev s_law_bent_wish : Stmt := top 33
theorem sc_law_bent_wish : FnScope ["pen", "hall", "wish", "names", "odd", "some", "at", "cut"] ["pen", "hall", "wish"] (defScope s_law_bent_wish) := ⟨rfl, rfl, rfl, by decide +kernel, rfl, by decide +kernel, by decide +kernel⟩
theorem ok_law_bent_wish (d0 : Dn K mg "_law_bent_wish" s_law_bent_wish) (B : Bn mg) (cd : Cal P w K mg base "_law_draw" 1 [] sp_law_draw) (cp : Cal P w K mg base "_law_pick" 2 [] sp_law_pick) (c_law_all_names : Cal P w K mg base "_law_all_names" 1 [] sp_law_all_names) : Cal P w K mg base "_law_bent_wish" 3 [] sp_law_bent_wish := d0.cal (ps := ["pen", "hall", "wish"]) (fun f fd F => fn_body F sc_law_bent_wish (fun args mu Φ ε h => by obtain ⟨_, _, _, _, _, rfl, _⟩ := h; rfl) fun cdv A outer s H E hr args mu Φ ε h => by
  have nd := sc_law_bent_wish.nd
  obtain ⟨hh, xs, n, kk, b, rfl, rfl, few, hn, hne, ox, sl, hb, k⟩ := h
  have oh : ∀ k : Nat, ownLt k hh.d = true := fun k => ownLt_hall hh
  have nl := allN_len few
  have nok := allN_ok few
  obtain ⟨x0, r0, e0⟩ : ∃ x0 r0, allN hh = x0 :: r0 := by
    have f1 := few.rooms1
    unfold allN
    cases e : hh.rooms with
    | nil => rw [e] at f1; simp at f1
    | cons a r => exact ⟨_, _, rfl⟩
  have hx0 : nameOk x0 = true := nok x0 (by rw [e0]; simp)
  have e0' : ((allN hh).map D.str)[0]? = some (.str x0) := by rw [e0]; rfl
  have lx1 : 1 ≤ xs.length := by
    cases xs with
    | nil => exact absurd rfl hne
    | cons a r => simp
  have lx2 := eBs_len xs
  refine wss_cons ?_
  refine ws_set 3 ?_
  skip
  refine we_call c_law_all_names 0 hr (by decide) ?_
  refine wa_cons ?_
  refine we_name 1 rfl ?_
  refine wa_nil ?_
  refine ⟨by simp, rfl, (by show (ownLt 0 hh.d && true) = true; rw [oh]; rfl), hh, rfl, rfl, few, ?_⟩
  refine wss_cons ?_
  refine ws_set 4 ?_
  skip
  refine we_lst ?_
  refine wa_cons ?_
  refine we_str ?_
  refine wa_cons ?_
  refine we_str ?_
  refine wa_cons ?_
  refine we_str ?_
  refine wa_cons ?_
  refine we_str ?_
  refine wa_cons ?_
  refine we_str ?_
  refine wa_cons ?_
  refine we_str ?_
  refine wa_cons ?_
  refine we_str ?_
  refine wa_cons ?_
  refine we_str ?_
  refine wa_cons ?_
  refine we_str ?_
  refine wa_cons ?_
  refine we_str ?_
  refine wa_cons ?_
  refine we_int ?_
  refine wa_cons ?_
  refine we_neg ?_
  refine we_int ?_
  refine ⟨_, rfl, ?_⟩
  refine wa_cons ?_
  refine we_int ?_
  refine wa_cons ?_
  refine we_int ?_
  refine wa_cons ?_
  refine we_bl ?_
  refine wa_nil ?_
  refine ⟨by show 15 ≤ sizeLine; decide, ?_⟩
  refine wss_cons ?_
  refine ws_set 4 ?_
  skip
  refine we_bin ?_
  refine we_name 4 rfl ?_
  refine we_lst ?_
  refine wa_cons ?_
  refine we_non ?_
  refine wa_cons ?_
  refine we_tup ?_
  refine wa_nil ?_
  refine ⟨by show 0 ≤ sizeLine; decide, ?_⟩
  refine wa_cons ?_
  refine we_lst ?_
  refine wa_nil ?_
  refine ⟨by show 0 ≤ sizeLine; decide, ?_⟩
  refine wa_cons ?_
  refine we_bin ?_
  refine we_int ?_
  refine we_int ?_
  refine powI ⟨by decide, by decide, by decide⟩ ?_
  refine wa_cons ?_
  refine we_str ?_
  refine wa_cons ?_
  refine we_bl ?_
  refine wa_cons ?_
  refine we_tup ?_
  refine wa_cons ?_
  refine we_ix hr.u ?_
  refine we_name 3 rfl ?_
  refine we_int ?_
  refine ixL rfl (atI_pos (by decide) e0') ?_
  refine wa_nil ?_
  refine ⟨by show 1 ≤ sizeLine; decide, ?_⟩
  refine wa_cons ?_
  refine we_lst ?_
  refine wa_cons ?_
  refine we_ix hr.u ?_
  refine we_name 3 rfl ?_
  refine we_int ?_
  refine ixL rfl (atI_pos (by decide) e0') ?_
  refine wa_nil ?_
  refine ⟨by show 1 ≤ sizeLine; decide, ?_⟩
  refine wa_cons ?_
  refine WO.we ?_
  refine wo_dict0 ?_
  refine ⟨trivial, ?_⟩
  refine wa_nil ?_
  refine ⟨by show 9 ≤ sizeLine; decide, ?_⟩
  refine addL rfl rfl (by show 15 + 9 ≤ sizeLine; decide) ?_
  refine wss_cons ?_
  refine ws_par (i := 5) (j := 6) ?_
  refine wa_cons ?_
  refine WO.mut ?_
  refine wo_ty B.list ?_
  refine wa_cons ?_
  refine we_name 2 rfl ?_
  refine wa_nil ?_
  first | refine cf_list rfl ?_ | refine cf_listD rfl rfl ?_
  refine wa_cons ?_
  refine we_draw cd hr (by decide) 0 rfl ?_
  refine we_bf B.len ?_
  refine wa_cons ?_
  refine we_name 2 rfl ?_
  refine wa_nil ?_
  refine cf_len (n := xs.length) rfl ?_
  refine ⟨_, _, _, rfl, rfl, by omega, by omega, by omega, fun r1 r1a r1b => ?_⟩
  refine wa_nil ?_
  refine ⟨_, _, rfl, ?_⟩
  refine wss_cons ?_
  refine ws_asg (is := []) ?_
  refine we_pick cp hr (by decide) 0 rfl ?_
  refine we_pick cp hr (by decide) 0 rfl ?_
  refine we_lst ?_
  refine wa_cons ?_
  refine we_name 4 rfl ?_
  refine wa_cons ?_
  refine we_name 3 rfl ?_
  refine wa_cons ?_
  refine we_name 3 rfl ?_
  refine wa_cons ?_
  refine we_name 4 rfl ?_
  refine wa_nil ?_
  refine ⟨by show 4 ≤ sizeLine; decide, ?_⟩
  refine ⟨4, _, _, rfl, (by show ((true && (ownLts 0 ((allN hh).map D.str) && (ownLts 0 ((allN hh).map D.str) && (true && true)))) = true); rw [noOwns_strs]; rfl), rfl, by decide, by decide, by omega, fun p z pb hz => ?_⟩
  obtain ⟨L, hL, hL1, hL2, no, hall⟩ : ∃ L, pkL z = some L ∧ 1 ≤ L ∧ L ≤ 300 ∧ noOwn z = true ∧ ∀ r w, pickD z r = some w → ShwE 2 200 w := by
    have nm : ∃ L, pkL (.lst ((allN hh).map .str)) = some L ∧ 1 ≤ L ∧ L ≤ 300 ∧ noOwn (.lst ((allN hh).map .str)) = true ∧ ∀ r w, pickD (.lst ((allN hh).map .str)) r = some w → ShwE 2 200 w := ⟨(allN hh).length, by show some ((allN hh).map D.str).length = _; rw [List.length_map], by rw [e0]; simp, by omega, noOwns_strs, fun r w e => by
      obtain ⟨x, hx, rfl⟩ := pick_map e
      have := name_str (nok x hx)
      exact ⟨okE_le (n := 0) (by simpa [okE] using this.1) (Nat.zero_le _), by show 10 * x.length + 2 ≤ 200; have := this.2; omega⟩⟩
    have od : ∃ L, pkL (.lst (oddP x0)) = some L ∧ 1 ≤ L ∧ L ≤ 300 ∧ noOwn (.lst (oddP x0)) = true ∧ ∀ r w, pickD (.lst (oddP x0)) r = some w → ShwE 2 200 w := ⟨24, rfl, by decide, by decide, rfl, fun r w e => oddP_ok hx0 w (List.mem_of_getElem? e)⟩
    have hp : p = 0 ∨ p = 1 ∨ p = 2 ∨ p = 3 := by omega
    rcases hp with rfl | rfl | rfl | rfl
    · obtain rfl := Option.some.inj hz
      exact od
    · obtain rfl := Option.some.inj hz
      exact nm
    · obtain rfl := Option.some.inj hz
      exact nm
    · obtain rfl := Option.some.inj hz
      exact od
  refine ⟨L, _, _, hL, no, rfl, hL1, by omega, by omega, fun p2 v p2b hz2 => ?_⟩
  have sv := hall _ _ hz2
  refine wg_sub hr.u1 ?_
  refine we_name 5 rfl ?_
  refine we_name 6 rfl ?_
  refine .inl ⟨xs, r1, r1.toNat, rfl, rfl, ixn_pos r1a r1b, ?_⟩
  obtain ⟨ys, hys⟩ : ∃ ys, ys = xs.set r1.toNat v := ⟨_, rfl⟩
  have oy : okEs (kk + 2) ys = true := by rw [hys]; exact okEs_set (okEs_le ox (by omega)) (okE_le sv.ok (by omega))
  have ly : eBs ys ≤ b + 202 := by
    have := eBs_set (v := v) xs r1.toNat
    have := sv.le
    rw [hys]; omega
  have yv : ys[r1.toNat]? = some v := by rw [hys]; exact List.getElem?_set_self (by omega)
  have ll : ys.length = xs.length := by rw [hys, List.length_set]
  show WSs _ _ _ [MO.pen (n + 1 + 1 + 1), .lst (xs.set r1.toNat v)] _
  rw [← hys]
  refine WSs.slotsTo [some (.own 0), none, some (.tup xs), none, none, some (.own 1), some (.int r1), none] ⟨rfl, rfl, rfl, rfl, trivial⟩ ?_
  refine WSs.meltTo (dl' := [some (.own 0), none, some (.tup xs), none, none, some (.lst ys), some (.int r1), none]) (mu' := [.pen (n + 1 + 1 + 1), .gone]) 1 rfl trivial (by show [_, none, some (meltD 1 _ (.tup xs)), none, none, _, _, none] = _; rw [melt_id (show ownLt 0 (.tup xs) = true from okEs.own 0 _ _ ox)]; rfl) rfl ?_
  refine wss_cons ?_
  refine ws_set 7 ?_
  skip
  refine we_ix hr.u ?_
  refine we_lst ?_
  refine wa_cons ?_
  refine we_name 5 rfl ?_
  refine wa_cons ?_
  refine we_bin ?_
  refine WO.we ?_
  refine wo_ty B.list ?_
  refine wa_cons ?_
  refine we_name 2 rfl ?_
  refine wa_nil ?_
  first | refine cf_list rfl ?_ | refine cf_listD rfl rfl ?_
  refine ⟨trivial, ?_⟩
  refine we_slice ?_
  refine we_name 5 rfl ?_
  refine wp_some ?_
  refine we_neg ?_
  refine we_int ?_
  refine ⟨_, rfl, ?_⟩
  refine ⟨_, rfl, ?_⟩
  refine wp_none ?_
  refine slL rfl ?_
  obtain ⟨c1, c2⟩ := cutL_ok oy (some (-1)) none
  have l1 := eBs_len (cutL ys (some (-1)) none)
  refine addL rfl rfl (by rw [sizeLine_eq]; omega) ?_
  refine wa_cons ?_
  refine we_slice ?_
  refine WO.we ?_
  refine wo_ty B.list ?_
  refine wa_cons ?_
  refine we_name 2 rfl ?_
  refine wa_nil ?_
  first | refine cf_list rfl ?_ | refine cf_listD rfl rfl ?_
  refine ⟨trivial, ?_⟩
  refine wp_none ?_
  refine wp_some ?_
  refine we_neg ?_
  refine we_int ?_
  refine ⟨_, rfl, ?_⟩
  refine ⟨_, rfl, ?_⟩
  refine slL rfl ?_
  obtain ⟨c3, c4⟩ := cutL_ok ox none (some (-1))
  refine wa_cons ?_
  refine we_name 5 rfl ?_
  refine wa_cons ?_
  refine we_name 5 rfl ?_
  refine wa_nil ?_
  refine ⟨by show 5 ≤ sizeLine; decide, ?_⟩
  refine we_draw cd hr (by decide) 0 rfl ?_
  refine we_int ?_
  refine ⟨_, _, _, rfl, rfl, by omega, by omega, by omega, fun r4 r4a r4b => ?_⟩
  obtain ⟨c, hc, oc, lc⟩ : ∃ c, L2.atI [D.lst ys, .lst (xs ++ cutL ys (some (-1)) none), .lst (cutL xs none (some (-1))), .lst ys, .lst ys] r4 = some (.lst c) ∧ okEs (kk + 2) c = true ∧ eBs c ≤ 2 * b + 250 := by
    have ha : okEs (kk + 2) (xs ++ cutL ys (some (-1)) none) = true := by rw [okEs_app, okEs_le ox (show kk + 1 ≤ kk + 2 by omega), c1]; rfl
    have hb2 : eBs (xs ++ cutL ys (some (-1)) none) ≤ 2 * b + 250 := by rw [eBs_app]; omega
    have hr : r4 = 0 ∨ r4 = 1 ∨ r4 = 2 ∨ r4 = 3 ∨ r4 = 4 := by omega
    rcases hr with rfl | rfl | rfl | rfl | rfl
    · exact ⟨ys, rfl, oy, by omega⟩
    · exact ⟨_, rfl, ha, hb2⟩
    · exact ⟨_, rfl, okEs_le c3 (by omega), by omega⟩
    · exact ⟨ys, rfl, oy, by omega⟩
    · exact ⟨ys, rfl, oy, by omega⟩
  refine ixL rfl hc ?_
  refine wss_one ?_
  refine ws_ret ?_
  skip
  refine we_pick cp hr (by decide) 0 rfl ?_
  refine we_lst ?_
  refine wa_cons ?_
  refine we_ty B.tuple ?_
  refine wa_cons ?_
  refine we_name 7 rfl ?_
  refine wa_nil ?_
  refine cf_tuple rfl ?_
  refine wa_cons ?_
  refine we_ty B.tuple ?_
  refine wa_cons ?_
  refine we_name 7 rfl ?_
  refine wa_nil ?_
  refine cf_tuple rfl ?_
  refine wa_cons ?_
  refine we_ty B.tuple ?_
  refine wa_cons ?_
  refine we_name 7 rfl ?_
  refine wa_nil ?_
  refine cf_tuple rfl ?_
  refine wa_cons ?_
  refine we_name 7 rfl ?_
  refine wa_cons ?_
  refine we_ix hr.u ?_
  refine we_name 5 rfl ?_
  refine we_name 6 rfl ?_
  refine ixL rfl (atI_pos r1a yv) ?_
  refine wa_nil ?_
  refine ⟨by show 5 ≤ sizeLine; decide, ?_⟩
  have hw : ∀ w, w ∈ [D.tup c, .tup c, .tup c, .lst c, v] → ShwE (kk + 3) (2 * b + 300) w := fun w hw => by
    simp only [List.mem_cons, List.not_mem_nil, or_false] at hw
    rcases hw with rfl | rfl | rfl | rfl | rfl
    · exact ⟨oc, by show eBs c + 3 ≤ _; omega⟩
    · exact ⟨oc, by show eBs c + 3 ≤ _; omega⟩
    · exact ⟨oc, by show eBs c + 3 ≤ _; omega⟩
    · exact ⟨oc, by show eBs c + 3 ≤ _; omega⟩
    · exact sv.up (by omega) (by omega)
  refine ⟨5, _, _, rfl, okEs.own 0 (kk + 3) _ (okEs_all fun w hw' => (hw w hw').ok), rfl, by decide, by decide, by omega, fun p5 w p5b hz5 => ?_⟩
  have sw := hw w (List.mem_of_getElem? hz5)
  exact ⟨okE.own 0 _ _ sw.ok, rfl, k _ sw⟩
  ) fun _ _ _ _ _ _ us hl => match us, hl with | [_, _, _], _ => rfl
end
end DL
namespace DL
open PySem PySem.Spec PyProof.Rows L2 RZ PySem.Calls
section
variable {P : Program} {w : World} {K : PySem.W.Frag} {mg : Str → Option Value} {base : Heap}
abbrev s_law_bent : Stmt := top 34
theorem sc_law_bent : FnScope ["pen", "hall", "goal", "found", "k", "at", "wish"] ["pen", "hall", "goal"] (defScope s_law_bent) := ⟨rfl, rfl, rfl, by decide +kernel, rfl, by decide +kernel, by decide +kernel⟩
theorem ok_law_bent (d0 : Dn K mg "_law_bent" s_law_bent) (B : Bn mg) (cd : Cal P w K mg base "_law_draw" 1 [] sp_law_draw) (cp : Cal P w K mg base "_law_pick" 2 [] sp_law_pick) (c_law_bent_wish : Cal P w K mg base "_law_bent_wish" 3 [] sp_law_bent_wish) : Cal P w K mg base "_law_bent" 4 [] sp_law_bent23 := d0.cal (ps := ["pen", "hall", "goal"]) (fun f fd F => fn_body F sc_law_bent (fun args mu Φ ε h => by obtain ⟨_, _, _, rfl, _⟩ := h; rfl) fun cdv A outer s H E hr args mu Φ ε h => by
  have nd := sc_law_bent.nd
  obtain ⟨hh, xs, n, rfl, rfl, few, hn, lx, hxs, k⟩ := h
  have oh : ∀ k : Nat, ownLt k hh.d = true := fun k => ownLt_hall hh
  have oxs : okEs 3 xs = true := okEs_all fun x hx => (hxs x hx).ok
  refine wss_cons ?_
  refine ws_set 3 ?_
  skip
  refine WO.mut ?_
  refine wo_ty B.list ?_
  refine wa_cons ?_
  refine we_name 2 rfl ?_
  refine wa_nil ?_
  first | refine cf_list rfl ?_ | refine cf_listD rfl rfl ?_
  refine wss_cons ?_
  refine ws_for (is := [4]) ?_ (passes_of rfl)
  refine wit_range1 B.range ?_
  refine we_bin ?_
  refine we_int ?_
  refine we_draw cd hr (by decide) 0 rfl ?_
  refine we_int ?_
  refine ⟨_, _, _, rfl, rfl, by omega, by omega, by omega, fun r1 r1a r1b => ?_⟩
  first | refine addI ?_ | refine addS (by first | decide | (rw [sizeLine_eq]; simp; omega)) ?_ | refine addT (by first | decide | (rw [sizeLine_eq]; simp; omega)) ?_ | refine addL rfl rfl (by first | decide | (rw [sizeLine_eq]; simp; omega)) ?_
  refine ⟨_, rfl, by first | omega | (rw [List.length_map]; omega), ?_⟩
  refine loopN (fun j d m => ∃ (ys : List D) (n' : Nat) (s4 s5 s6 : Sl), d = [some (.own 0), some hh.d, some (.tup xs), some (.own 1), s4, s5, s6] ∧ m = [.pen n', .lst ys] ∧ n' ≤ n + 1 + 6 * j ∧ ys.length = xs.length ∧ ∀ y, y ∈ ys → ShwE (3 + 2 * j) (1000 + 1400 * j + 1400 * (j * j)) y) ?_ ?_ ?_
  · exact ⟨xs, _, _, _, _, rfl, rfl, by omega, rfl, fun y hy => (hxs y hy).up (by omega) (by omega)⟩
  · rintro j d m hj ⟨ys, n', s4, s5, s6, rfl, rfl, hn', ly, hys⟩
    have hj2 : j ≤ 1 := by omega
    refine wg_name 4 ?_
    refine wss_one ?_
    refine ws_if ?_
    refine wt_cmp ?_ rfl
    refine we_name 3 rfl ?_
    refine we_lst ?_
    refine wa_nil ?_
    refine ⟨by show 0 ≤ sizeLine; decide, ?_⟩
    refine wop_neNilL hr.u rfl ?_
    refine ⟨_, rfl, ?_⟩
    refine ⟨fun h => ?_, fun h => ?_⟩
    · have h : (!ys.isEmpty) = true := h
      have ly1 : 1 ≤ ys.length := by
        cases ys with
        | nil => cases h
        | cons a r => simp
      refine wss_cons ?_
      refine ws_set 5 ?_
      skip
      refine we_draw cd hr (by decide) 0 rfl ?_
      refine we_bf B.len ?_
      refine wa_cons ?_
      refine we_name 3 rfl ?_
      refine wa_nil ?_
      refine cf_len (n := ys.length) rfl ?_
      refine ⟨_, _, _, rfl, rfl, by omega, by omega, by omega, fun r2 r2a r2b => ?_⟩
      obtain ⟨y, hy⟩ : ∃ y, ys[r2.toNat]? = some y := ⟨_, List.getElem?_eq_getElem (by omega)⟩
      have hym := List.mem_of_getElem? hy
      have sy := hys y hym
      have oy := sy.ok
      obtain ⟨bj, hbj⟩ : ∃ bj, bj = 1000 + 1400 * j + 1400 * (j * j) := ⟨_, rfl⟩
      have hbb : bj ≤ 4000 ∧ 2 * bj + 310 ≤ 1000 + 1400 * (j + 1) + 1400 * ((j + 1) * (j + 1)) := by
        have : j = 0 ∨ j = 1 := by omega
        rcases this with rfl | rfl <;> (subst hbj; decide)
      rw [← hbj] at hys sy
      refine wss_cons ?_
      refine ws_set 6 ?_
      refine we_ifExp ?_
      refine WT.val (isTup y && !(itT y).isEmpty) ?_ ?_
      · refine WW.wt ?_
        refine ww_and ?_
        refine wt_truth ?_
        refine we_bf B.isinstance ?_
        refine wa_cons ?_
        refine we_ix hr.u ?_
        refine we_name 3 rfl ?_
        refine we_name 5 rfl ?_
        refine ixL rfl (atI_pos r2a hy) ?_
        refine wa_cons ?_
        refine we_blt B.tuple ?_
        refine wa_nil ?_
        refine cf_isi (b := isTup y) (by rw [okE.rd oy]; exact (okE.ty oy).1) (by rw [okE.rd oy]; exact okE.tyT oy) ?_
        refine truB ?_
        refine and_swap ⟨fun o1 => ?_, fun o1 => ?_⟩
        · exact ⟨rfl, by rw [o1]; rfl⟩
        obtain ⟨ws, rfl⟩ := isTup_of o1
        refine ww_and1 ?_
        refine wt_cmp ?_ rfl
        refine we_ix hr.u ?_
        refine we_name 3 rfl ?_
        refine we_name 5 rfl ?_
        refine ixL rfl (atI_pos r2a hy) ?_
        refine we_tup ?_
        refine wa_nil ?_
        refine ⟨by show 0 ≤ sizeLine; decide, ?_⟩
        refine wop_neNil hr.u rfl ?_
        exact ⟨_, rfl, rfl, rfl⟩
      refine ifExp_join (fun z => ∃ (ws : List D) (kk : Nat), z = .tup ws ∧ ws ≠ [] ∧ okEs (kk + 1) ws = true ∧ eBs ws ≤ bj ∧ kk + 3 ≤ 5 + 2 * j) (fun q => ?_) (fun q => ?_) (fun z hz => ?_)
      · rw [Bool.and_eq_true] at q
        obtain ⟨ws, rfl⟩ := isTup_of q.1
        refine we_ix hr.u ?_
        refine we_name 3 rfl ?_
        refine we_name 5 rfl ?_
        refine ixL rfl (atI_pos r2a hy) ?_
        obtain ⟨m, em, ow⟩ := okE_tup oy
        have q2 : (!ws.isEmpty) = true := q.2
        exact ⟨rfl, ws, 1 + 2 * j, rfl, (fun e => by rw [e] at q2; cases q2), (by rw [show 1 + 2 * j + 1 = m by omega]; exact ow), (by have : eBs ws + 3 ≤ bj := sy.le; omega), by omega⟩
      · refine we_tup ?_
        refine wa_csts rfl ?_
        refine ⟨by show 2 ≤ sizeLine; decide, ?_⟩
        exact ⟨rfl, [.str "open", .str "x"], 0, rfl, by simp, by show (okE 1 (.str "open") && (okE 1 (.str "x") && true)) = true; rw [sok1 "open" 1, sok1 "x" 1]; rfl, (by have e : eBs [D.str "open", .str "x"] = 58 := rfl; omega), by omega⟩
      obtain ⟨ws, kk, rfl, hne, ow, lw, hk⟩ := hz
      refine wss_one ?_
      refine ws_asg (is := []) ?_
      refine we_call c_law_bent_wish 1 hr (by decide) ?_
      refine wa_cons ?_
      refine we_name 0 rfl ?_
      refine wa_cons ?_
      refine we_name 1 rfl ?_
      refine wa_cons ?_
      refine we_name 6 rfl ?_
      refine wa_nil ?_
      refine ⟨by simp, rfl, (by show (true && (ownLt 1 hh.d && (ownLts 1 ws && true))) = true; rw [oh, okEs.own 1 _ _ ow]; rfl), hh, ws, n' + 1, kk, bj, rfl, rfl, few, by omega, hne, ow, lw, by omega, fun v sv => ?_⟩
      refine wg_sub hr.u1 ?_
      refine we_name 3 rfl ?_
      refine we_name 5 rfl ?_
      refine .inl ⟨ys, r2, r2.toNat, rfl, rfl, ixn_pos r2a r2b, ?_⟩
      refine ⟨ys.set r2.toNat v, _, _, _, _, rfl, rfl, by omega, by rw [List.length_set, ly], fun z hz => ?_⟩
      rcases List.mem_or_eq_of_mem_set hz with q | q
      · exact (hys z q).up (by omega) (by omega)
      · rw [q]; exact sv.up (by omega) (by omega)
    · refine wss_nil ?_
      exact ⟨ys, _, _, _, _, rfl, rfl, by omega, ly, fun y hy => (hys y hy).up (by omega) (by have : j = 0 ∨ j = 1 := (by omega); rcases this with rfl | rfl <;> decide)⟩
  · rintro d m ⟨ys, n', s4, s5, s6, rfl, rfl, hn', ly, hys⟩
    have hys2 : ∀ y, y ∈ ys → ShwE 7 10000 y := fun y hy => (hys y hy).up (by omega) (by have : r1 = 0 ∨ r1 = 1 := (by omega); rcases this with rfl | rfl <;> decide)
    have oys : okEs 7 ys = true := okEs_all fun y hy => (hys2 y hy).ok
    have lys : eBs ys ≤ 100000 := by
      have := eBs_le (b := 10000) (xs := ys) fun y hy => (hys2 y hy).le
      have : ys.length * (10000 + 2) ≤ 9 * (10000 + 2) := Nat.mul_le_mul_right _ (by omega)
      omega
    refine WSs.slotsTo [some (.own 0), none, none, some (.own 1), none, none, none] ⟨rfl, rfl, trivial⟩ ?_
    refine WSs.meltTo (dl' := [some (.own 0), none, none, some (.lst ys), none, none, none]) (mu' := [.pen n', .gone]) 1 rfl trivial rfl rfl ?_
    refine wss_one ?_
    refine ws_ret ?_
    skip
    refine we_pick cp hr (by decide) 0 rfl ?_
    refine we_lst ?_
    refine wa_cons ?_
    refine we_ty B.tuple ?_
    refine wa_cons ?_
    refine we_name 3 rfl ?_
    refine wa_nil ?_
    refine cf_tuple rfl ?_
    refine wa_cons ?_
    refine we_ty B.tuple ?_
    refine wa_cons ?_
    refine we_name 3 rfl ?_
    refine wa_nil ?_
    refine cf_tuple rfl ?_
    refine wa_cons ?_
    refine we_ty B.tuple ?_
    refine wa_cons ?_
    refine we_name 3 rfl ?_
    refine wa_nil ?_
    refine cf_tuple rfl ?_
    refine wa_cons ?_
    refine we_name 3 rfl ?_
    refine wa_cons ?_
    refine we_non ?_
    refine wa_cons ?_
    refine we_str ?_
    refine wa_cons ?_
    refine we_int ?_
    refine wa_cons ?_
    refine we_bl ?_
    refine wa_cons ?_
    refine WO.we ?_
    refine wo_dict0 ?_
    refine ⟨trivial, ?_⟩
    refine wa_nil ?_
    refine ⟨by show 9 ≤ sizeLine; decide, ?_⟩
    have hw : ∀ w, w ∈ [D.tup ys, .tup ys, .tup ys, .lst ys, .non, .str "at", .int 7, .bl true, .dct []] → ShwE 45 1000000 w := fun w hw => by
      have tt : ShwE 45 1000000 (.tup ys) := ⟨okE_le (n := 8) oys (by decide), by show eBs ys + 3 ≤ _; omega⟩
      simp only [List.mem_cons, List.not_mem_nil, or_false] at hw
      rcases hw with rfl | rfl | rfl | rfl | rfl | rfl | rfl | rfl | rfl
      · exact tt
      · exact tt
      · exact tt
      · exact ⟨tt.ok, tt.le⟩
      · exact ⟨rfl, by decide⟩
      · exact (sok_lit "at" 200 (by decide)).up (by decide) (by decide)
      · exact ⟨rfl, by decide⟩
      · exact ⟨rfl, by decide⟩
      · exact ⟨rfl, by decide⟩
    refine ⟨9, _, _, rfl, okEs.own 0 45 _ (okEs_all fun w hw' => (hw w hw').ok), rfl, by decide, by decide, by omega, fun p5 w p5b hz5 => ?_⟩
    have sw := hw w (List.mem_of_getElem? hz5)
    exact ⟨okE.own 0 _ _ sw.ok, rfl, k _ _ sw (by omega)⟩
  ) fun _ _ _ _ _ _ us hl => match us, hl with | [_, _, _], _ => rfl
end
end DL
namespace DL
open PySem PySem.Spec PyProof.Rows L2 RZ PySem.Calls
section
variable {P : Program} {w : World} {K : PySem.W.Frag} {mg : Str → Option Value} {base : Heap}
abbrev s_law : Stmt := top 35
theorem sc_law : FnScope ["script", "pen", "bout", "hall", "made", "goal", "k", "thing", "kept", "caught", "found", "e", "due"] ["script"] (defScope s_law) := ⟨rfl, rfl, rfl, by decide +kernel, rfl, by decide +kernel, by decide +kernel⟩
theorem ok_law {f : Addr} {fd : FuncData} (F : Fun K "law" "law" s_law f fd) (B : Bn mg) {CG : Addr} (cd : Cal P w K mg base "_law_draw" 1 [] sp_law_draw) (cp : Cal P w K mg base "_law_pick" 2 [] sp_law_pick) (c_law_pen : CalO P w K mg base "_law_pen" 1 [] sp_law_pen) (c_law_hall : Cal P w K mg base "_law_hall" 5 [] sp_law_hall) (c_law_made : Cal P w K mg base "_law_made" 5 [] (sp_law_made C)) (c_law_wish : Cal P w K mg base "_law_wish" 3 [] sp_law_wish) (c_law_bent : Cal P w K mg base "_law_bent" 4 [] sp_law_bent23) (c_need_goal : Cal P w K mg base "need_goal" 6 [] (sp_need_goal C CG)) (c_law_due : Cal P w K mg base "_law_due" 3 [] sp_law_due23) (mCG : mg "NoGoal" = some (.ref CG)) (xCG : PySem.W.exmOne K (.ref CG) (.ref CG) = some true) (fCG : XfK K CG "at") : FnG P w K mg base 8 f fd ["script"] (conc K (lawSp 63)) := fn_body F sc_law (fun args mu Φ ε h => by obtain ⟨_, _, rfl, _⟩ := h; rfl) fun cdv A outer s H E hr args mu Φ ε h => by
  have nd := sc_law.nd
  obtain ⟨ns, l1, rfl, rfl, k⟩ := h
  refine wss_cons ?_
  refine ws_set 1 ?_
  skip
  refine WO.mut ?_
  refine wo_call c_law_pen 0 hr (by decide) ?_
  refine wa_cons ?_
  refine we_name 0 rfl ?_
  refine wa_nil ?_
  refine ⟨by simp, rfl, rfl, ns, by rw [sizeLine_eq]; omega, rfl, rfl, ?_⟩
  refine wss_cons ?_
  refine ws_for (is := [2]) ?_ (passes_of rfl)
  refine wit_range1 B.range ?_
  refine we_bin ?_
  refine we_int ?_
  refine we_bf B.min ?_
  refine wa_cons ?_
  refine we_int ?_
  refine wa_cons ?_
  refine we_bf B.len ?_
  refine wa_cons ?_
  refine we_name 0 rfl ?_
  refine wa_nil ?_
  first | refine cf_lenM rfl ?_ | refine cf_lenMT rfl ?_ | refine cf_len rfl ?_
  refine wa_nil ?_
  refine cf_min2 rfl ?_
  first | refine addI ?_ | refine addS (by first | decide | (rw [sizeLine_eq]; simp; omega)) ?_ | refine addT (by first | decide | (rw [sizeLine_eq]; simp; omega)) ?_ | refine addL rfl rfl (by first | decide | (rw [sizeLine_eq]; simp; omega)) ?_
  refine ⟨_, rfl, by first | omega | (rw [List.length_map]; omega), ?_⟩
  refine loopN (fun i d m => ∃ (n : Nat) (s2 s3 s4 s5 s6 s7 s8 s9 s10 s11 s12 : Sl), d = [some (.scr ns), some (.own 0), s2, s3, s4, s5, s6, s7, s8, s9, s10, s11, s12] ∧ m = [.pen n] ∧ n ≤ 1000 * i) ?_ ?_ ?_
  · exact ⟨0, _, _, _, _, _, _, _, _, _, _, _, rfl, rfl, by omega⟩
  · rintro i d m hi ⟨n, s2, s3, s4, s5, s6, s7, s8, s9, s10, s11, s12, rfl, rfl, hn⟩
    refine wg_name 2 ?_
    refine wss_cons ?_
    refine ws_set 3 ?_
    skip
    refine we_call c_law_hall 1 hr (by decide) ?_
    refine wa_cons ?_
    refine we_name 1 rfl ?_
    refine wa_cons ?_
    refine we_tup ?_
    refine wa_csts rfl ?_
    refine ⟨by show 4 ≤ sizeLine; decide, ?_⟩
    refine wa_nil ?_
    refine ⟨by simp, rfl, rfl, 4, 5, 3, 3, n, rfl, rfl, by decide, by decide, by decide, by unfold hallN; omega, fun hl ok => ?_⟩
    obtain ⟨n1, hn1⟩ : ∃ n1, n1 = n + 20 + hallN 4 5 3 3 := ⟨_, rfl⟩
    rw [← hn1]
    have hn1b : n1 ≤ n + 200 := by rw [hn1]; unfold hallN; omega
    have fw := ok.few (by decide)
    have oh : ∀ k : Nat, ownLt k hl.d = true := fun k => ownLt_hall hl
    refine wss_cons ?_
    refine ws_set 4 ?_
    skip
    refine we_call c_law_made 0 hr (by decide) ?_
    refine wa_cons ?_
    refine we_name 3 rfl ?_
    refine wa_nil ?_
    refine ⟨by simp, rfl, (by show (ownLt 0 hl.d && true) = true; rw [oh]; rfl), hl, rfl, rfl, fw, ?_⟩
    refine wss_cons ?_
    refine ws_set 5 ?_
    skip
    refine we_ty B.tuple ?_
    refine wa_cons ?_
    refine WO.we ?_
    refine wo_lc (is := [6]) [("k", 6)] ?_
    refine lcP (α := Nat) 8 (fun _ z => ∃ x : Wish, x.Ok hl ∧ z = x.d) ?_
    refine wit_range1 B.range ?_
    refine we_pick cp hr (by decide) 1 rfl ?_
    refine we_lst ?_
    refine wa_csts rfl ?_
    refine ⟨by show 7 ≤ sizeLine; decide, ?_⟩
    refine ⟨7, _, _, rfl, rfl, rfl, by decide, by decide, by omega, fun p z pb hz => ?_⟩
    obtain ⟨v, rfl, v0, v9⟩ : ∃ v : Int, z = .int v ∧ 0 ≤ v ∧ v ≤ 9 := by
      have hp : p = 0 ∨ p = 1 ∨ p = 2 ∨ p = 3 ∨ p = 4 ∨ p = 5 ∨ p = 6 := by omega
      rcases hp with rfl | rfl | rfl | rfl | rfl | rfl | rfl
      · exact ⟨0, (Option.some.inj hz).symm, by decide, by decide⟩
      · exact ⟨1, (Option.some.inj hz).symm, by decide, by decide⟩
      · exact ⟨2, (Option.some.inj hz).symm, by decide, by decide⟩
      · exact ⟨3, (Option.some.inj hz).symm, by decide, by decide⟩
      · exact ⟨7, (Option.some.inj hz).symm, by decide, by decide⟩
      · exact ⟨8, (Option.some.inj hz).symm, by decide, by decide⟩
      · exact ⟨9, (Option.some.inj hz).symm, by decide, by decide⟩
    refine ⟨_, rfl, by first | omega | (rw [List.length_map]; omega), ?_⟩
    refine ⟨List.range v.toNat, fun i => .one (.int (0 + (i : Nat))), n1 + 1, [], rfl, by rw [sizeLine_eq, List.length_range]; omega, rfl, fun a n2 ha hn2 => ?_, ?_⟩
    · intro s1 H1 C1 cl1 fp1
      refine wg_name 6 ?_
      refine ⟨rfl, fun s2 H2 C2 cl2 fp2 => ?_⟩
      refine we_call c_law_wish 1 hr (by decide) ?_
      refine wa_cons ?_
      refine we_name 1 rfl ?_
      refine wa_cons ?_
      refine we_name 3 rfl ?_
      refine wa_nil ?_
      rw [List.length_range] at hn2
      refine ⟨by simp, rfl, (by show (ownLt 1 hl.d && true) = true; rw [oh]; rfl), hl, n2, rfl, rfl, fw, by omega, fun x hx => ?_⟩
      exact ⟨n2 + 8, by omega, rfl, x, hx, rfl⟩
    intro zs n3 hn3 pr
    obtain ⟨ws, rfl, wok, wl⟩ := paired_ex pr
    rw [List.length_range] at hn3 wl
    refine ⟨trivial, ?_⟩
    refine wa_nil ?_
    refine cf_tuple rfl ?_
    have sw : ∀ x, x ∈ ws.map Wish.d → ShwE 3 1000 x := fun x hx => by
      obtain ⟨y, hy, rfl⟩ := List.mem_map.mp hx
      exact wish_shw fw (wok y hy)
    have ow : ∀ k (l : List Wish), ownLts k (l.map Wish.d) = true := fun k l => noOwns_wishes
    refine wss_one ?_
    refine ws_for (is := [7]) ?_ (passes_of rfl)
    refine wit_seq ?_
    refine we_lst ?_
    refine wa_cons ?_
    refine we_name 5 rfl ?_
    refine wa_cons ?_
    refine we_call c_law_bent 1 hr (by decide) ?_
    refine wa_cons ?_
    refine we_name 1 rfl ?_
    refine wa_cons ?_
    refine we_name 3 rfl ?_
    refine wa_cons ?_
    refine we_name 5 rfl ?_
    refine wa_nil ?_
    refine ⟨by simp, rfl, (by show (true && (ownLt 1 hl.d && (ownLts 1 (ws.map Wish.d) && true))) = true; rw [oh, ow]; rfl), hl, ws.map Wish.d, n3, rfl, rfl, fw, by omega, by rw [List.length_map]; omega, sw, fun y n4 sy hn4 => ?_⟩
    refine wa_cons ?_
    refine we_call c_law_bent 1 hr (by decide) ?_
    refine wa_cons ?_
    refine we_name 1 rfl ?_
    refine wa_cons ?_
    refine we_name 3 rfl ?_
    refine wa_cons ?_
    refine we_slice ?_
    refine we_name 5 rfl ?_
    refine wp_none ?_
    refine wp_some ?_
    refine we_int ?_
    refine ⟨_, rfl, ?_⟩
    refine slT (d := .non) rfl ?_
    rw [cutL_take _ _ (by decide), ← List.map_take]
    refine wa_nil ?_
    refine ⟨by simp, rfl, (by show (true && (ownLt 1 hl.d && (ownLts 1 ((ws.take (3 : Int).toNat).map Wish.d) && true))) = true; rw [oh, ow]; rfl), hl, (ws.take (3 : Int).toNat).map Wish.d, n4, rfl, rfl, fw, by omega, by rw [List.length_map]; exact Nat.le_trans (List.length_take_le _ _) (by decide), fun x hx => sw x (by rw [List.map_take] at hx; exact List.mem_of_mem_take hx), fun y2 n5 sy2 hn5 => ?_⟩
    refine wa_nil ?_
    refine ⟨by show 3 ≤ sizeLine; decide, ?_⟩
    refine ⟨_, rfl, ?_⟩
    have st : ∀ t, t ∈ [D.tup (ws.map Wish.d), y, y2] → ShwE 50 1000000 t := fun t ht => by
      simp only [List.mem_cons, List.not_mem_nil, or_false] at ht
      rcases ht with rfl | rfl | rfl
      · have := ShwE.tup (m := 9) (xs := ws.map Wish.d) sw (by rw [List.length_map]; omega)
        exact this.up (by decide) (by decide)
      · exact sy.up (by decide) (by decide)
      · exact sy2.up (by decide) (by decide)
    refine loopL (fun t1 t2 d m => ∃ (s6 s7 s8 s9 s10 s11 s12 : Sl), d = [some (.scr ns), some (.own 0), some (.int (0 + (i : Int))), some hl.d, some (hl.o C), some (.tup (ws.map Wish.d)), s6, s7, s8, s9, s10, s11, s12] ∧ m = [.pen n5]) ?_ ?_ ?_
    · exact ⟨_, _, _, _, _, _, _, rfl, rfl⟩
    · rintro t1 t t2 d m eqt ⟨s6, s7, s8, s9, s10, s11, s12, rfl, rfl⟩
      have mt : t ∈ t1 ++ t :: t2 := by simp
      have stt := st t (by rw [← eqt] at mt; exact mt)
      have ot := stt.ok
      refine wg_name 7 ?_
      refine wss_cons ?_
      refine ws_par3 (i := 8) (j := 9) (l := 10) ?_
      refine wa_cons ?_
      refine we_bf B.repr ?_
      refine wa_cons ?_
      refine we_name 7 rfl ?_
      refine wa_nil ?_
      refine cf_reprE (b := 1000000) hr.gd hr.u64 (by rw [okE.rd ot]; exact stt.up (by decide) (Nat.le_refl _)) (by rw [sizeLine_eq]; decide) ?_
      rw [okE.rd ot]
      refine wa_cons ?_
      refine we_non ?_
      refine wa_cons ?_
      refine we_int ?_
      refine wa_nil ?_
      refine ⟨_, _, _, rfl, ?_⟩
      refine wss_mid (fun d m => ∃ (s11 : Sl) (c f : D), d = [some (.scr ns), some (.own 0), some (.int (0 + (i : Int))), some hl.d, some (hl.o C), some (.tup (ws.map Wish.d)), s6, some t, some (.str (shE t)), some c, some f, s11, s12] ∧ m = [.pen n5] ∧ ((c = .non ∧ f = .non ∧ goalAt hl t = none) ∨ ∃ o, c = .exn CG [("at", optN o)] ∧ f = .int 0 ∧ goalAt hl t = some o)) ?_ ?_
      · refine ws_try_x 11 ⟨rfl, by decide, .inl mCG⟩ (fun pn xe => ?_)
        refine wss_one ?_
        refine ws_set 10 ?_
        refine we_call c_need_goal 0 hr (by decide) ?_
        refine wa_cons ?_
        refine we_name 4 rfl ?_
        refine wa_cons ?_
        refine we_name 7 rfl ?_
        refine wa_nil ?_
        refine ⟨by simp, rfl, (by show (ownLt 0 (hl.o C) && (ownLt 0 t && true)) = true; rw [ownLt_o, okE.own 0 _ _ ot]; rfl), hl, t, rfl, rfl, fw, stt, fun e => ?_, fun o e => ?_⟩
        · exact ⟨_, _, _, rfl, rfl, .inl ⟨rfl, rfl, e⟩⟩
        · refine ⟨true, xCG, fun _ => ⟨CG, rfl, fun a pn' => ?_⟩, fun e => (by cases e)⟩
          refine wss_one ?_
          refine ws_set 9 ?_
          refine we_name 11 rfl ?_
          exact ⟨_, _, _, rfl, rfl, .inr ⟨o, rfl, rfl, e⟩⟩
      rintro d m ⟨s11, c, f, rfl, rfl, hcf⟩
      refine wss_cons ?_
      refine ws_set 12 ?_
      skip
      refine we_call c_law_due 0 hr (by decide) ?_
      refine wa_cons ?_
      refine we_name 3 rfl ?_
      refine wa_cons ?_
      refine we_name 7 rfl ?_
      refine wa_nil ?_
      refine ⟨by simp, rfl, (by show (ownLt 0 hl.d && (ownLt 0 t && true)) = true; rw [oh, okE.own 0 _ _ ot]; rfl), hl, t, rfl, rfl, fw, stt, ?_⟩
      rcases hcf with ⟨rfl, rfl, e⟩ | ⟨o, rfl, rfl, e⟩
      · have ed : dueL hl t = [] := by unfold dueL; rw [e]
        rw [ed]
        refine wss_cons ?_
        refine ws_if ?_
        refine WT.val false ?_ ?_
        · refine WW.wt ?_
          refine ww_or ?_
          refine wt_cmp ?_ rfl
          refine we_cmp ?_ rfl
          refine we_name 9 rfl ?_
          refine we_non ?_
          refine wop_is ?_
          refine we_cmp ?_ rfl
          refine we_name 12 rfl ?_
          refine we_lst ?_
          refine wa_nil ?_
          refine ⟨by show 0 ≤ sizeLine; decide, ?_⟩
          refine wop_eqNilL hr.u rfl ?_
          refine neB hr.u64 ?_
          refine ⟨_, rfl, ?_⟩
          refine ⟨fun o1 => absurd (show false = true from o1) (by decide), fun o1 => ?_⟩
          refine ww_or ?_
          refine WW.wt ?_
          refine ww_and ?_
          refine wt_cmp ?_ rfl
          refine we_name 9 rfl ?_
          refine we_non ?_
          refine wop_is ?_
          refine ⟨_, rfl, ?_⟩
          refine and_swap ⟨fun o2 => absurd (show true = false from o2) (by decide), fun o2 => ?_⟩
          refine ww_and1 ?_
          refine wt_cmp ?_ rfl
          refine we_name 10 rfl ?_
          refine we_non ?_
          refine wop_isnot ?_
          refine ⟨_, rfl, ?_⟩
          refine ⟨fun o3 => absurd (show false = true from o3) (by decide), fun _ => ?_⟩
          refine ww_or1 ?_
          refine wt_cmp ?_ rfl
          refine we_bf B.repr ?_
          refine wa_cons ?_
          refine we_name 7 rfl ?_
          refine wa_nil ?_
          refine cf_reprE (b := 1000000) hr.gd hr.u64 (by rw [okE.rd ot]; exact stt.up (by decide) (Nat.le_refl _)) (by rw [sizeLine_eq]; decide) ?_
          rw [okE.rd ot]
          refine we_name 8 rfl ?_
          refine neS hr.u64 ?_
          exact ⟨_, rfl, rfl, by simp⟩
        refine ⟨fun h => (by cases h), fun _ => ?_⟩
        refine wss_nil ?_
        refine wss_one ?_
        refine ws_if ?_
        refine WT.val false ?_ ?_
        · refine WW.wt ?_
          refine ww_and ?_
          refine wt_cmp ?_ rfl
          refine we_name 9 rfl ?_
          refine we_non ?_
          refine wop_isnot ?_
          refine ⟨_, rfl, ?_⟩
          exact and_swap ⟨fun o2 => ⟨rfl, rfl⟩, fun o2 => absurd (show false = true from o2) (by decide)⟩
        refine ⟨fun h => (by cases h), fun _ => ?_⟩
        refine wss_nil ?_
        exact ⟨_, _, _, _, _, _, _, rfl, rfl⟩
      · have ed : dueL hl t = [optN o] := by unfold dueL; rw [e]
        rw [ed]
        have os := optN_shw e
        refine wss_cons ?_
        refine ws_if ?_
        refine WT.val false ?_ ?_
        · refine WW.wt ?_
          refine ww_or ?_
          refine wt_cmp ?_ rfl
          refine we_cmp ?_ rfl
          refine we_name 9 rfl ?_
          refine we_non ?_
          refine wop_is ?_
          refine we_cmp ?_ rfl
          refine we_name 12 rfl ?_
          refine we_lst ?_
          refine wa_nil ?_
          refine ⟨by show 0 ≤ sizeLine; decide, ?_⟩
          refine wop_eqNilL hr.u rfl ?_
          refine neB hr.u64 ?_
          refine ⟨_, rfl, ?_⟩
          refine ⟨fun o1 => absurd (show false = true from o1) (by decide), fun o1 => ?_⟩
          refine ww_or ?_
          refine WW.wt ?_
          refine ww_and ?_
          refine wt_cmp ?_ rfl
          refine we_name 9 rfl ?_
          refine we_non ?_
          refine wop_is ?_
          refine ⟨_, rfl, ?_⟩
          refine and_swap ⟨fun o2 => ?_, fun o2 => absurd (show false = true from o2) (by decide)⟩
          refine ⟨fun o3 => absurd (show false = true from o3) (by decide), fun _ => ?_⟩
          refine ww_or1 ?_
          refine wt_cmp ?_ rfl
          refine we_bf B.repr ?_
          refine wa_cons ?_
          refine we_name 7 rfl ?_
          refine wa_nil ?_
          refine cf_reprE (b := 1000000) hr.gd hr.u64 (by rw [okE.rd ot]; exact stt.up (by decide) (Nat.le_refl _)) (by rw [sizeLine_eq]; decide) ?_
          rw [okE.rd ot]
          refine we_name 8 rfl ?_
          refine neS hr.u64 ?_
          exact ⟨_, rfl, rfl, by simp⟩
        refine ⟨fun h => (by cases h), fun _ => ?_⟩
        refine wss_nil ?_
        refine wss_one ?_
        refine ws_if ?_
        refine WT.val false ?_ ?_
        · refine WW.wt ?_
          refine ww_and ?_
          refine wt_cmp ?_ rfl
          refine we_name 9 rfl ?_
          refine we_non ?_
          refine wop_isnot ?_
          refine ⟨_, rfl, ?_⟩
          refine and_swap ⟨fun o2 => absurd (show true = false from o2) (by decide), fun o2 => ?_⟩
          refine ww_and1 ?_
          refine wt_cmp ?_ rfl
          refine we_bf B.repr ?_
          refine wa_cons ?_
          refine we_lst ?_
          refine wa_cons ?_
          refine we_xfld fCG ?_
          refine we_name 9 rfl ?_
          refine ⟨_, _, rfl, rfl, ?_⟩
          refine wa_nil ?_
          refine ⟨by show 1 ≤ sizeLine; decide, ?_⟩
          refine wa_nil ?_
          refine cf_reprE (b := 100) hr.gd hr.u64 os (by rw [sizeLine_eq]; decide) ?_
          refine we_bf B.repr ?_
          refine wa_cons ?_
          refine we_name 12 rfl ?_
          refine wa_nil ?_
          refine cf_reprE (b := 100) hr.gd hr.u64 os (by rw [sizeLine_eq]; decide) ?_
          refine neS hr.u64 ?_
          refine ⟨_, rfl, rfl, ?_⟩
          show (shE (.lst [optN o]) != shE (.lst [optN o])) = false
          simp
        refine ⟨fun h => (by cases h), fun _ => ?_⟩
        refine wss_nil ?_
        exact ⟨_, _, _, _, _, _, _, rfl, rfl⟩
    · rintro d m ⟨s6, s7, s8, s9, s10, s11, s12, rfl, rfl⟩
      exact ⟨_, _, _, _, _, _, _, _, _, _, _, _, rfl, rfl, by omega⟩
  · rintro d m ⟨n, s2, s3, s4, s5, s6, s7, s8, s9, s10, s11, s12, rfl, rfl, hn⟩
    refine wss_one ?_
    refine ws_ret ?_
    skip
    refine we_bl ?_
    exact ⟨rfl, rfl, k⟩
end
end DL
namespace DL
open PySem PySem.Spec PyProof.Rows L2 RZ PySem.Calls
theorem all_mk {l : PySem.W.OpenLaw} {w : World} {K : PySem.W.Frag} {h : Heap} {mg : Str → Option Value} {fa : Addr} (XX : K.In h) (G : h.Ns mainGlobals mg) (hfa : mg "law" = some (.ref fa)) (hb : ∃ (bm : Addr) (ob : Obj), mg "__builtins__" = some (.ref bm) ∧ bm ≠ builtinsNs ∧ h.get? bm = some ob ∧ ob.cls = .type "module" ∧ ob.dict = some builtinsNs ∧ ob.data = .plain)
    {C f0 f1 f2 f3 f4 f5 f6 f7 f8 f9 f10 f11 f12 f13 f14 f15 f16 f17 f18 f19 f20 f21 f22 f23 f24 f25 f26 f27 : Addr} {od0 an0 od1 an1 od2 an2 od3 an3 od4 an4 od5 an5 od6 an6 od7 an7 od8 an8 od9 an9 od10 an10 od11 an11 od12 an12 od13 an13 od14 an14 od15 an15 od16 an16 od17 an17 od18 an18 od19 an19 od20 an20 od21 an21 od22 an22 od23 an23 od24 an24 od25 an25 od26 an26 od27 an27 : Option Addr} {sl0 sl1 sl2 sl3 sl4 sl5 sl6 sl7 sl8 sl9 sl10 sl11 sl12 sl13 sl14 sl15 sl16 sl17 sl18 sl19 sl20 sl21 sl22 sl23 sl24 sl25 sl26 sl27 : Array (Option Value)} {oc0 kV0 dc0 pm0 cd0 ct0 oc1 kV1 dc1 pm1 cd1 ct1 oc2 kV2 dc2 pm2 cd2 ct2 oc3 kV3 dc3 pm3 cd3 ct3 oc4 kV4 dc4 pm4 cd4 ct4 oc5 kV5 dc5 pm5 cd5 ct5 oc6 kV6 dc6 pm6 cd6 ct6 oc7 kV7 dc7 pm7 cd7 ct7 oc8 kV8 dc8 pm8 ct8 oc9 kV9 dc9 pm9 cd9 ct9 oc10 kV10 dc10 pm10 cd10 ct10 oc11 kV11 dc11 pm11 cd11 ct11 oc12 kV12 dc12 pm12 cd12 ct12 oc13 kV13 dc13 pm13 cd13 ct13 oc14 kV14 dc14 pm14 cd14 ct14 oc15 kV15 dc15 pm15 cd15 ct15 oc16 kV16 dc16 pm16 cd16 ct16 oc17 kV17 dc17 pm17 cd17 ct17 oc18 kV18 dc18 pm18 cd18 ct18 oc19 kV19 dc19 pm19 cd19 ct19 oc20 kV20 dc20 pm20 cd20 ct20 oc21 kV21 dc21 pm21 cd21 ct21 oc22 kV22 dc22 pm22 cd22 ct22 oc23 kV23 dc23 pm23 cd23 ct23 oc24 kV24 dc24 pm24 cd24 ct24 oc25 kV25 dc25 pm25 cd25 ct25 oc26 kV26 dc26 pm26 cd26 ct26 oc27 kV27 dc27 pm27 cd27 ct27 : Value}
    {cc8 : Addr}
    (aC : PySem.W.nsIn K mainGlobals "Hall" = some (some (.ref C))) (Cpg : PySem.W.plainGet K C Str.empty = true) (Chd : PySem.W.hasDictIn K C = true) (Cpo : PySem.W.plainOver K C = true) (Csa : PySem.W.findIn K (.ref C) "__setattr__" = some (some (.builtin "object.__setattr__")))
    (nC_chambers : PySem.W.findIn K (.ref C) "chambers" = some none) (nC_gates : PySem.W.findIn K (.ref C) "gates" = some none) (nC_weights : PySem.W.findIn K (.ref C) "weights" = some none) (nC_folk : PySem.W.findIn K (.ref C) "folk" = some none) (nC_bodies : PySem.W.findIn K (.ref C) "bodies" = some none) (Cmk : PySem.W.makesIn K C = true) (Ckp : PySem.W.keepIn K (.ref C) = true)
    (a0 : PySem.W.nsIn K mainGlobals "_law_draw" = some (some (.ref f0))) (l0 : K.lookup f0 = some ⟨oc0, od0, .func (PySem.W.fnOf "_law_draw" "_law_draw" (defArgs s_law_draw) (defBody s_law_draw) (defScope s_law_draw) .none kV0 dc0 pm0 an0 cd0 ct0), sl0⟩) (c0 : PySem.W.codeIn K cd0 "_law_draw" = true) (k0 : PySem.W.keepIn K (.ref f0) = true)
    (a1 : PySem.W.nsIn K mainGlobals "_law_pick" = some (some (.ref f1))) (l1 : K.lookup f1 = some ⟨oc1, od1, .func (PySem.W.fnOf "_law_pick" "_law_pick" (defArgs s_law_pick) (defBody s_law_pick) (defScope s_law_pick) .none kV1 dc1 pm1 an1 cd1 ct1), sl1⟩) (c1 : PySem.W.codeIn K cd1 "_law_pick" = true) (k1 : PySem.W.keepIn K (.ref f1) = true)
    (a2 : PySem.W.nsIn K mainGlobals "_law_pen" = some (some (.ref f2))) (l2 : K.lookup f2 = some ⟨oc2, od2, .func (PySem.W.fnOf "_law_pen" "_law_pen" (defArgs s_law_pen) (defBody s_law_pen) (defScope s_law_pen) .none kV2 dc2 pm2 an2 cd2 ct2), sl2⟩) (c2 : PySem.W.codeIn K cd2 "_law_pen" = true) (k2 : PySem.W.keepIn K (.ref f2) = true)
    (a3 : PySem.W.nsIn K mainGlobals "_law_names" = some (some (.ref f3))) (l3 : K.lookup f3 = some ⟨oc3, od3, .func (PySem.W.fnOf "_law_names" "_law_names" (defArgs s_law_names) (defBody s_law_names) (defScope s_law_names) .none kV3 dc3 pm3 an3 cd3 ct3), sl3⟩) (c3 : PySem.W.codeIn K cd3 "_law_names" = true) (k3 : PySem.W.keepIn K (.ref f3) = true)
    (a4 : PySem.W.nsIn K mainGlobals "_law_heft" = some (some (.ref f4))) (l4 : K.lookup f4 = some ⟨oc4, od4, .func (PySem.W.fnOf "_law_heft" "_law_heft" (defArgs s_law_heft) (defBody s_law_heft) (defScope s_law_heft) .none kV4 dc4 pm4 an4 cd4 ct4), sl4⟩) (c4 : PySem.W.codeIn K cd4 "_law_heft" = true) (k4 : PySem.W.keepIn K (.ref f4) = true)
    (a5 : PySem.W.nsIn K mainGlobals "_law_rows" = some (some (.ref f5))) (l5 : K.lookup f5 = some ⟨oc5, od5, .func (PySem.W.fnOf "_law_rows" "_law_rows" (defArgs s_law_rows) (defBody s_law_rows) (defScope s_law_rows) .none kV5 dc5 pm5 an5 cd5 ct5), sl5⟩) (c5 : PySem.W.codeIn K cd5 "_law_rows" = true) (k5 : PySem.W.keepIn K (.ref f5) = true)
    (a6 : PySem.W.nsIn K mainGlobals "_law_hall_of" = some (some (.ref f6))) (l6 : K.lookup f6 = some ⟨oc6, od6, .func (PySem.W.fnOf "_law_hall_of" "_law_hall_of" (defArgs s_law_hall_of) (defBody s_law_hall_of) (defScope s_law_hall_of) .none kV6 dc6 pm6 an6 cd6 ct6), sl6⟩) (c6 : PySem.W.codeIn K cd6 "_law_hall_of" = true) (k6 : PySem.W.keepIn K (.ref f6) = true)
    (a7 : PySem.W.nsIn K mainGlobals "_law_hall" = some (some (.ref f7))) (l7 : K.lookup f7 = some ⟨oc7, od7, .func (PySem.W.fnOf "_law_hall" "_law_hall" (defArgs s_law_hall) (defBody s_law_hall) (defScope s_law_hall) .none kV7 dc7 pm7 an7 cd7 ct7), sl7⟩) (c7 : PySem.W.codeIn K cd7 "_law_hall" = true) (k7 : PySem.W.keepIn K (.ref f7) = true)
    (a8 : PySem.W.nsIn K mainGlobals "door_kept" = some (some (.ref f8))) (l8 : K.lookup f8 = some ⟨oc8, od8, .func (PySem.W.fnOf "door_kept" "door_kept" (defArgs s_door_kept) (defBody s_door_kept) (defScope s_door_kept) .none kV8 dc8 pm8 an8 (.ref cc8) ct8), sl8⟩) (c8 : PySem.W.codeIn K (.ref cc8) "door_kept" = true) (k8 : PySem.W.keepIn K (.ref f8) = true)
    (a9 : PySem.W.findIn K (.ref C) "__init__" = some (some (.ref f9))) (i9 : PySem.W.isFn K (.ref f9) = true) (l9 : K.lookup f9 = some ⟨oc9, od9, .func (PySem.W.fnOf "__init__" "Hall.__init__" (defArgs s_Hall_init) (defBody s_Hall_init) (defScope s_Hall_init) .none kV9 dc9 pm9 an9 cd9 ct9), sl9⟩) (c9 : PySem.W.codeIn K cd9 "Hall.__init__" = true) (k9 : PySem.W.keepIn K (.ref f9) = true)
    (a10 : PySem.W.nsIn K mainGlobals "_law_made" = some (some (.ref f10))) (l10 : K.lookup f10 = some ⟨oc10, od10, .func (PySem.W.fnOf "_law_made" "_law_made" (defArgs s_law_made) (defBody s_law_made) (defScope s_law_made) .none kV10 dc10 pm10 an10 cd10 ct10), sl10⟩) (c10 : PySem.W.codeIn K cd10 "_law_made" = true) (k10 : PySem.W.keepIn K (.ref f10) = true)
    (a11 : PySem.W.nsIn K mainGlobals "_law_wish" = some (some (.ref f11))) (l11 : K.lookup f11 = some ⟨oc11, od11, .func (PySem.W.fnOf "_law_wish" "_law_wish" (defArgs s_law_wish) (defBody s_law_wish) (defScope s_law_wish) .none kV11 dc11 pm11 an11 cd11 ct11), sl11⟩) (c11 : PySem.W.codeIn K cd11 "_law_wish" = true) (k11 : PySem.W.keepIn K (.ref f11) = true)
    (a12 : PySem.W.nsIn K mainGlobals "_law_all_names" = some (some (.ref f12))) (l12 : K.lookup f12 = some ⟨oc12, od12, .func (PySem.W.fnOf "_law_all_names" "_law_all_names" (defArgs s_law_all_names) (defBody s_law_all_names) (defScope s_law_all_names) .none kV12 dc12 pm12 an12 cd12 ct12), sl12⟩) (c12 : PySem.W.codeIn K cd12 "_law_all_names" = true) (k12 : PySem.W.keepIn K (.ref f12) = true)
    (a13 : PySem.W.nsIn K mainGlobals "_law_bent_wish" = some (some (.ref f13))) (l13 : K.lookup f13 = some ⟨oc13, od13, .func (PySem.W.fnOf "_law_bent_wish" "_law_bent_wish" (defArgs s_law_bent_wish) (defBody s_law_bent_wish) (defScope s_law_bent_wish) .none kV13 dc13 pm13 an13 cd13 ct13), sl13⟩) (c13 : PySem.W.codeIn K cd13 "_law_bent_wish" = true) (k13 : PySem.W.keepIn K (.ref f13) = true)
    (a14 : PySem.W.nsIn K mainGlobals "_law_bent" = some (some (.ref f14))) (l14 : K.lookup f14 = some ⟨oc14, od14, .func (PySem.W.fnOf "_law_bent" "_law_bent" (defArgs s_law_bent) (defBody s_law_bent) (defScope s_law_bent) .none kV14 dc14 pm14 an14 cd14 ct14), sl14⟩) (c14 : PySem.W.codeIn K cd14 "_law_bent" = true) (k14 : PySem.W.keepIn K (.ref f14) = true)
    (a15 : PySem.W.nsIn K mainGlobals "is_name" = some (some (.ref f15))) (l15 : K.lookup f15 = some ⟨oc15, od15, .func (PySem.W.fnOf "is_name" "is_name" (defArgs s_is_name) (defBody s_is_name) (defScope s_is_name) .none kV15 dc15 pm15 an15 cd15 ct15), sl15⟩) (c15 : PySem.W.codeIn K cd15 "is_name" = true) (k15 : PySem.W.keepIn K (.ref f15) = true)
    (a16 : PySem.W.findIn K (.ref C) "rooms" = some (some (.ref f16))) (i16 : PySem.W.isFn K (.ref f16) = true) (l16 : K.lookup f16 = some ⟨oc16, od16, .func (PySem.W.fnOf "rooms" "Hall.rooms" (defArgs s_Hall_rooms) (defBody s_Hall_rooms) (defScope s_Hall_rooms) .none kV16 dc16 pm16 an16 cd16 ct16), sl16⟩) (c16 : PySem.W.codeIn K cd16 "Hall.rooms" = true) (k16 : PySem.W.keepIn K (.ref f16) = true)
    (a17 : PySem.W.findIn K (.ref C) "stones" = some (some (.ref f17))) (i17 : PySem.W.isFn K (.ref f17) = true) (l17 : K.lookup f17 = some ⟨oc17, od17, .func (PySem.W.fnOf "stones" "Hall.stones" (defArgs s_Hall_stones) (defBody s_Hall_stones) (defScope s_Hall_stones) .none kV17 dc17 pm17 an17 cd17 ct17), sl17⟩) (c17 : PySem.W.codeIn K cd17 "Hall.stones" = true) (k17 : PySem.W.keepIn K (.ref f17) = true)
    (a18 : PySem.W.findIn K (.ref C) "walkers" = some (some (.ref f18))) (i18 : PySem.W.isFn K (.ref f18) = true) (l18 : K.lookup f18 = some ⟨oc18, od18, .func (PySem.W.fnOf "walkers" "Hall.walkers" (defArgs s_Hall_walkers) (defBody s_Hall_walkers) (defScope s_Hall_walkers) .none kV18 dc18 pm18 an18 cd18 ct18), sl18⟩) (c18 : PySem.W.codeIn K cd18 "Hall.walkers" = true) (k18 : PySem.W.keepIn K (.ref f18) = true)
    (a19 : PySem.W.nsIn K mainGlobals "is_part" = some (some (.ref f19))) (l19 : K.lookup f19 = some ⟨oc19, od19, .func (PySem.W.fnOf "is_part" "is_part" (defArgs s_is_part) (defBody s_is_part) (defScope s_is_part) .none kV19 dc19 pm19 an19 cd19 ct19), sl19⟩) (c19 : PySem.W.codeIn K cd19 "is_part" = true) (k19 : PySem.W.keepIn K (.ref f19) = true)
    (a20 : PySem.W.nsIn K mainGlobals "is_whole" = some (some (.ref f20))) (l20 : K.lookup f20 = some ⟨oc20, od20, .func (PySem.W.fnOf "is_whole" "is_whole" (defArgs s_is_whole) (defBody s_is_whole) (defScope s_is_whole) .none kV20 dc20 pm20 an20 cd20 ct20), sl20⟩) (c20 : PySem.W.codeIn K cd20 "is_whole" = true) (k20 : PySem.W.keepIn K (.ref f20) = true)
    (a21 : PySem.W.nsIn K mainGlobals "is_from" = some (some (.ref f21))) (l21 : K.lookup f21 = some ⟨oc21, od21, .func (PySem.W.fnOf "is_from" "is_from" (defArgs s_is_from) (defBody s_is_from) (defScope s_is_from) .none kV21 dc21 pm21 an21 cd21 ct21), sl21⟩) (c21 : PySem.W.codeIn K cd21 "is_from" = true) (k21 : PySem.W.keepIn K (.ref f21) = true)
    (a22 : PySem.W.nsIn K mainGlobals "is_wish" = some (some (.ref f22))) (l22 : K.lookup f22 = some ⟨oc22, od22, .func (PySem.W.fnOf "is_wish" "is_wish" (defArgs s_is_wish) (defBody s_is_wish) (defScope s_is_wish) .none kV22 dc22 pm22 an22 cd22 ct22), sl22⟩) (c22 : PySem.W.codeIn K cd22 "is_wish" = true) (k22 : PySem.W.keepIn K (.ref f22) = true)
    (a23 : PySem.W.nsIn K mainGlobals "need_goal" = some (some (.ref f23))) (l23 : K.lookup f23 = some ⟨oc23, od23, .func (PySem.W.fnOf "need_goal" "need_goal" (defArgs s_need_goal) (defBody s_need_goal) (defScope s_need_goal) .none kV23 dc23 pm23 an23 cd23 ct23), sl23⟩) (c23 : PySem.W.codeIn K cd23 "need_goal" = true) (k23 : PySem.W.keepIn K (.ref f23) = true)
    (a24 : PySem.W.nsIn K mainGlobals "_law_is_whole" = some (some (.ref f24))) (l24 : K.lookup f24 = some ⟨oc24, od24, .func (PySem.W.fnOf "_law_is_whole" "_law_is_whole" (defArgs s_law_is_whole) (defBody s_law_is_whole) (defScope s_law_is_whole) .none kV24 dc24 pm24 an24 cd24 ct24), sl24⟩) (c24 : PySem.W.codeIn K cd24 "_law_is_whole" = true) (k24 : PySem.W.keepIn K (.ref f24) = true)
    (a25 : PySem.W.nsIn K mainGlobals "_law_is_wish" = some (some (.ref f25))) (l25 : K.lookup f25 = some ⟨oc25, od25, .func (PySem.W.fnOf "_law_is_wish" "_law_is_wish" (defArgs s_law_is_wish) (defBody s_law_is_wish) (defScope s_law_is_wish) .none kV25 dc25 pm25 an25 cd25 ct25), sl25⟩) (c25 : PySem.W.codeIn K cd25 "_law_is_wish" = true) (k25 : PySem.W.keepIn K (.ref f25) = true)
    (a26 : PySem.W.nsIn K mainGlobals "_law_due" = some (some (.ref f26))) (l26 : K.lookup f26 = some ⟨oc26, od26, .func (PySem.W.fnOf "_law_due" "_law_due" (defArgs s_law_due) (defBody s_law_due) (defScope s_law_due) .none kV26 dc26 pm26 an26 cd26 ct26), sl26⟩) (c26 : PySem.W.codeIn K cd26 "_law_due" = true) (k26 : PySem.W.keepIn K (.ref f26) = true)
    (a27 : PySem.W.nsIn K mainGlobals "law" = some (some (.ref f27))) (l27 : K.lookup f27 = some ⟨oc27, od27, .func (PySem.W.fnOf "law" "law" (defArgs s_law) (defBody s_law) (defScope s_law) .none kV27 dc27 pm27 an27 cd27 ct27), sl27⟩) (c27 : PySem.W.codeIn K cd27 "law" = true) (k27 : PySem.W.keepIn K (.ref f27) = true)
    (hc8 : PySem.W.codeHdIn K cc8 tP_door_kept = true) (u8 : K.lookup tP_door_kept = none) (t8 : h.get? tP_door_kept = some (PySem.W.tabObj #[]))
    {CG fi_CG N_CG : Addr} {nm_CG q_CG : Str} {bs_CG sn_CG sub_CG} {ab_CG : Bool} {col_CG : Option Bool} {dd_CG : Option Addr} {m0_CG m1_CG m2_CG m3_CG m5_CG : Option Value}
    {oc_CG kV_CG dc_CG pm_CG cd_CG ct_CG : Value} {od_CG an_CG : Option Addr} {sl_CG : Array (Option Value)}
    (aX_CG : PySem.W.nsIn K mainGlobals "NoGoal" = some (some (.ref CG))) (xL_CG : K.lookup CG = some (excClassObj nm_CG q_CG CG N_CG bs_CG [.type "ValueError", .type "Exception", .type "BaseException", .type "object"] true sn_CG sub_CG ab_CG col_CG dd_CG m0_CG m1_CG m2_CG m3_CG m5_CG "ValueError.__new__"))
    (sa_CG : PySem.W.findIn K (.ref CG) "__setattr__" = some (some (.builtin "object.__setattr__"))) (ga_CG : PySem.W.findIn K (.ref CG) "__getattribute__" = some (some (.builtin "BaseException.__getattribute__"))) (gg_CG : PySem.W.findIn K (.ref CG) "__getattr__" = some none) (n_at_CG : PySem.W.findIn K (.ref CG) "at" = some none)
    (iC_CG : PySem.W.findIn K (.ref CG) "__init__" = some (some (.ref fi_CG))) (tI_CG : PySem.W.typeIn K (.ref fi_CG) = some (.type "function")) (lI_CG : K.lookup fi_CG = some ⟨oc_CG, od_CG, .func (PySem.W.fnOf "__init__" "NoGoal.__init__" (defArgs s_NoGoal_init) (defBody s_NoGoal_init) (defScope s_NoGoal_init) .none kV_CG dc_CG pm_CG an_CG cd_CG ct_CG), sl_CG⟩) (cI_CG : PySem.W.codeIn K cd_CG "NoGoal.__init__" = true) (kI_CG : PySem.W.keepIn K (.ref fi_CG) = true)
    (kC_CG : PySem.W.keepIn K (.ref CG) = true) (eC_CG : PySem.W.subIn K (.ref CG) (.type "BaseException") = some true) (tC_CG : PySem.W.typeIn K (.ref CG) = some (.type "type")) (hC_CG : PySem.W.hasDictIn K CG = true) (ic_CG : PySem.W.isClsIn K CG = true) (sC_CG : PySem.W.subIn K (.ref CG) (.ref CG) = some true)
    {gk_LETTERS : Tok} (aG_LETTERS : PySem.W.nsIn K mainGlobals "LETTERS" = some (some (.str "abcdefghijklmnopqrstuvwxyz" gk_LETTERS)))
    {gk_MOST_HEFT : Tok} (aG_MOST_HEFT : PySem.W.nsIn K mainGlobals "MOST_HEFT" = some (some (.int 9999999 gk_MOST_HEFT)))
    {gk_MOST_WISHES : Tok} (aG_MOST_WISHES : PySem.W.nsIn K mainGlobals "MOST_WISHES" = some (some (.int 8 gk_MOST_WISHES)))
    {ga_WORDS : Addr} {gh0_WORDS gh1_WORDS gh2_WORDS : Int} {gk0_WORDS gk1_WORDS gk2_WORDS : Tok} {gv0_WORDS gv1_WORDS gv2_WORDS : Addr} {gm0_WORDS gm1_WORDS gm2_WORDS gn_WORDS : Nat} {gs0_WORDS gs1_WORDS gs2_WORDS : Array (Option Value)} {gt0_0_WORDS gt0_1_WORDS gt1_0_WORDS gt1_1_WORDS gt2_0_WORDS gt2_1_WORDS : Tok}
    (aG_WORDS : PySem.W.nsIn K mainGlobals "WORDS" = some (some (.ref ga_WORDS))) (lG_WORDS : K.lookup ga_WORDS = some ⟨.type "dict", none, .dict #[⟨gh0_WORDS, .str "at" gk0_WORDS, .ref gv0_WORDS⟩, ⟨gh1_WORDS, .str "lies" gk1_WORDS, .ref gv1_WORDS⟩, ⟨gh2_WORDS, .str "held" gk2_WORDS, .ref gv2_WORDS⟩] gn_WORDS, #[]⟩) (hh0_WORDS : gh0_WORDS = hashStr w "at") (hh1_WORDS : gh1_WORDS = hashStr w "lies") (hh2_WORDS : gh2_WORDS = hashStr w "held")
    (lV0_WORDS : K.lookup gv0_WORDS = some ⟨.type "tuple", none, .seq #[.str "walker" gt0_0_WORDS, .str "room" gt0_1_WORDS] gm0_WORDS, gs0_WORDS⟩) (lV1_WORDS : K.lookup gv1_WORDS = some ⟨.type "tuple", none, .seq #[.str "stone" gt1_0_WORDS, .str "room" gt1_1_WORDS] gm1_WORDS, gs1_WORDS⟩) (lV2_WORDS : K.lookup gv2_WORDS = some ⟨.type "tuple", none, .seq #[.str "stone" gt2_0_WORDS, .str "walker" gt2_1_WORDS] gm2_WORDS, gs2_WORDS⟩)
    (sM_WORDS : (ga_WORDS == sysModules) = false)
    (z_len : PySem.W.nsIn K mainGlobals "len" = some none) (z_sorted : PySem.W.nsIn K mainGlobals "sorted" = some none) (z_any : PySem.W.nsIn K mainGlobals "any" = some none) (z_all : PySem.W.nsIn K mainGlobals "all" = some none) (z_sum : PySem.W.nsIn K mainGlobals "sum" = some none) (z_repr : PySem.W.nsIn K mainGlobals "repr" = some none) (z_isinstance : PySem.W.nsIn K mainGlobals "isinstance" = some none) (z_abs : PySem.W.nsIn K mainGlobals "abs" = some none) (z_max : PySem.W.nsIn K mainGlobals "max" = some none) (z_min : PySem.W.nsIn K mainGlobals "min" = some none) (z_list : PySem.W.nsIn K mainGlobals "list" = some none) (z_tuple : PySem.W.nsIn K mainGlobals "tuple" = some none) (z_int : PySem.W.nsIn K mainGlobals "int" = some none) (z_bool : PySem.W.nsIn K mainGlobals "bool" = some none) (z_str : PySem.W.nsIn K mainGlobals "str" = some none) (z_dict : PySem.W.nsIn K mainGlobals "dict" = some none) (z_set : PySem.W.nsIn K mainGlobals "set" = some none) (z_range : PySem.W.nsIn K mainGlobals "range" = some none) (z_enumerate : PySem.W.nsIn K mainGlobals "enumerate" = some none) (z_zip : PySem.W.nsIn K mainGlobals "zip" = some none) :
    ∃ (fd : FuncData) (cs : List (Addr × Addr)), TabHd K mg h cs ∧ (∀ (s : Shared) (v : Value), BindsTo s fd ⟨[v], []⟩ [("script", v)]) ∧ ∀ base : Heap, K.In base → base.Ns mainGlobals mg → (∀ p ∈ cs, LamX.TabB base mg p.1 p.2) → FnG l.prog w K mg base 8 fa fd ["script"] (conc K (lawSp 63)) := by
  have e := hfa.symm.trans (PySem.W.mg_of XX G a27)
  cases e
  have B : Bn mg := ⟨PySem.W.mg_none_of XX G z_len, PySem.W.mg_none_of XX G z_sorted, PySem.W.mg_none_of XX G z_any, PySem.W.mg_none_of XX G z_all, PySem.W.mg_none_of XX G z_sum, PySem.W.mg_none_of XX G z_repr, PySem.W.mg_none_of XX G z_isinstance, PySem.W.mg_none_of XX G z_abs, PySem.W.mg_none_of XX G z_max, PySem.W.mg_none_of XX G z_min, PySem.W.mg_none_of XX G z_list, PySem.W.mg_none_of XX G z_tuple, PySem.W.mg_none_of XX G z_int, PySem.W.mg_none_of XX G z_bool, PySem.W.mg_none_of XX G z_str, PySem.W.mg_none_of XX G z_dict, PySem.W.mg_none_of XX G z_set, PySem.W.mg_none_of XX G z_range, PySem.W.mg_none_of XX G z_enumerate, PySem.W.mg_none_of XX G z_zip⟩
  have hC : HallC K C := ⟨⟨Cpg, Chd, Cpo, Csa⟩, nC_chambers, nC_gates, nC_weights, nC_folk, nC_bodies⟩
  have T_CG : OexC K CG := ⟨⟨nm_CG, q_CG, N_CG, bs_CG, _, sn_CG, sub_CG, ab_CG, col_CG, dd_CG, m0_CG, m1_CG, m2_CG, m3_CG, m5_CG, xL_CG, by decide +kernel⟩, sa_CG, eC_CG, tC_CG, kC_CG⟩
  have FI_CG := fun_mk (st := s_NoGoal_init) lI_CG cI_CG kI_CG
  have g_em_CG := PySem.W.mg_of XX G aX_CG
  have g_ex_CG := fun (base : Heap) => ok_NoGoal_init (P := l.prog) (w := w) (base := base) FI_CG g_em_CG T_CG iC_CG tI_CG n_at_CG
  have g_ey_CG := exm_own eC_CG ic_CG tC_CG sC_CG
  have g_ef_CG_at : XfK K CG "at" := ⟨⟨ga_CG, gg_CG, eC_CG, hC_CG⟩, n_at_CG⟩
  have g_LETTERS : GlS mg "LETTERS" "abcdefghijklmnopqrstuvwxyz" := ⟨gk_LETTERS, PySem.W.mg_of XX G aG_LETTERS⟩
  have g_MOST_HEFT : GlI mg "MOST_HEFT" 9999999 := ⟨gk_MOST_HEFT, PySem.W.mg_of XX G aG_MOST_HEFT⟩
  have g_MOST_WISHES : GlI mg "MOST_WISHES" 8 := ⟨gk_MOST_WISHES, PySem.W.mg_of XX G aG_MOST_WISHES⟩
  have g_WORDS : GlD K l.prog w mg "WORDS" wordsK := gld_of (ds := [("at", .tup ((["walker", "room"] : List Str).map .str)), ("lies", .tup ((["stone", "room"] : List Str).map .str)), ("held", .tup ((["stone", "walker"] : List Str).map .str))]) (ws := [("at", .ref gv0_WORDS), ("lies", .ref gv1_WORDS), ("held", .ref gv2_WORDS)]) (kvs := [("at", .ref gv0_WORDS), ("lies", .ref gv1_WORDS), ("held", .ref gv2_WORDS)]) (PySem.W.mg_of XX G aG_WORDS) lG_WORDS (.cons hh0_WORDS (.cons hh1_WORDS (.cons hh2_WORDS (.nil)))) (by show ([("at" : Str), ("lies" : Str), ("held" : Str)] : List Str).Nodup; decide +kernel) (.cons ⟨rfl, rfl⟩ (.cons ⟨rfl, rfl⟩ (.cons ⟨rfl, rfl⟩ (.nil)))) (fun F as => ⟨_, _, rfl, ⟨gv0_WORDS, (["walker", "room"] : List Str).map V.str, rfl, .inr ⟨_, _, gm0_WORDS, lV0_WORDS, rfl, rfl, rfl, (by rw [sizeLine_eq]; show 2 ≤ _; decide), .cons ⟨_, rfl⟩ (.cons ⟨_, rfl⟩ (.nil))⟩, RpL.mapStr⟩, ⟨_, _, rfl, ⟨gv1_WORDS, (["stone", "room"] : List Str).map V.str, rfl, .inr ⟨_, _, gm1_WORDS, lV1_WORDS, rfl, rfl, rfl, (by rw [sizeLine_eq]; show 2 ≤ _; decide), .cons ⟨_, rfl⟩ (.cons ⟨_, rfl⟩ (.nil))⟩, RpL.mapStr⟩, ⟨_, _, rfl, ⟨gv2_WORDS, (["stone", "walker"] : List Str).map V.str, rfl, .inr ⟨_, _, gm2_WORDS, lV2_WORDS, rfl, rfl, rfl, (by rw [sizeLine_eq]; show 2 ≤ _; decide), .cons ⟨_, rfl⟩ (.cons ⟨_, rfl⟩ (.nil))⟩, RpL.mapStr⟩, rfl⟩⟩⟩)
  have g_nn_WORDS : GlN mg "WORDS" := ⟨fun a e => by rw [PySem.W.mg_of XX G aG_WORDS] at e; cases e; exact sM_WORDS⟩
  have F0 := fun_mk (st := s_law_draw) l0 c0 k0
  have d_law_draw : Dn K mg "_law_draw" s_law_draw := ⟨_, _, PySem.W.mg_of XX G a0, F0⟩
  have F1 := fun_mk (st := s_law_pick) l1 c1 k1
  have d_law_pick : Dn K mg "_law_pick" s_law_pick := ⟨_, _, PySem.W.mg_of XX G a1, F1⟩
  have F2 := fun_mk (st := s_law_pen) l2 c2 k2
  have d_law_pen : Dn K mg "_law_pen" s_law_pen := ⟨_, _, PySem.W.mg_of XX G a2, F2⟩
  have F3 := fun_mk (st := s_law_names) l3 c3 k3
  have d_law_names : Dn K mg "_law_names" s_law_names := ⟨_, _, PySem.W.mg_of XX G a3, F3⟩
  have F4 := fun_mk (st := s_law_heft) l4 c4 k4
  have d_law_heft : Dn K mg "_law_heft" s_law_heft := ⟨_, _, PySem.W.mg_of XX G a4, F4⟩
  have F5 := fun_mk (st := s_law_rows) l5 c5 k5
  have d_law_rows : Dn K mg "_law_rows" s_law_rows := ⟨_, _, PySem.W.mg_of XX G a5, F5⟩
  have F6 := fun_mk (st := s_law_hall_of) l6 c6 k6
  have d_law_hall_of : Dn K mg "_law_hall_of" s_law_hall_of := ⟨_, _, PySem.W.mg_of XX G a6, F6⟩
  have F7 := fun_mk (st := s_law_hall) l7 c7 k7
  have d_law_hall : Dn K mg "_law_hall" s_law_hall := ⟨_, _, PySem.W.mg_of XX G a7, F7⟩
  have F8 := fun_mkC (st := s_door_kept) l8 c8 k8
  have d_door_kept : DnC K mg "door_kept" s_door_kept cc8 := ⟨_, _, PySem.W.mg_of XX G a8, F8⟩
  have F9 := fun_mk (st := s_Hall_init) l9 c9 k9
  have d_Hall_init : DnI K mg C "Hall" "Hall.__init__" s_Hall_init := ⟨_, _, PySem.W.mg_of XX G aC, ⟨Cmk, a9, i9, Ckp⟩, F9⟩
  have F10 := fun_mk (st := s_law_made) l10 c10 k10
  have d_law_made : Dn K mg "_law_made" s_law_made := ⟨_, _, PySem.W.mg_of XX G a10, F10⟩
  have F11 := fun_mk (st := s_law_wish) l11 c11 k11
  have d_law_wish : Dn K mg "_law_wish" s_law_wish := ⟨_, _, PySem.W.mg_of XX G a11, F11⟩
  have F12 := fun_mk (st := s_law_all_names) l12 c12 k12
  have d_law_all_names : Dn K mg "_law_all_names" s_law_all_names := ⟨_, _, PySem.W.mg_of XX G a12, F12⟩
  have F13 := fun_mk (st := s_law_bent_wish) l13 c13 k13
  have d_law_bent_wish : Dn K mg "_law_bent_wish" s_law_bent_wish := ⟨_, _, PySem.W.mg_of XX G a13, F13⟩
  have F14 := fun_mk (st := s_law_bent) l14 c14 k14
  have d_law_bent : Dn K mg "_law_bent" s_law_bent := ⟨_, _, PySem.W.mg_of XX G a14, F14⟩
  have F15 := fun_mk (st := s_is_name) l15 c15 k15
  have d_is_name : Dn K mg "is_name" s_is_name := ⟨_, _, PySem.W.mg_of XX G a15, F15⟩
  have F16 := fun_mk (st := s_Hall_rooms) l16 c16 k16
  have d_Hall_rooms : DnM K C "rooms" "Hall.rooms" s_Hall_rooms := ⟨_, _, ⟨a16, i16, k16⟩, F16⟩
  have F17 := fun_mk (st := s_Hall_stones) l17 c17 k17
  have d_Hall_stones : DnM K C "stones" "Hall.stones" s_Hall_stones := ⟨_, _, ⟨a17, i17, k17⟩, F17⟩
  have F18 := fun_mk (st := s_Hall_walkers) l18 c18 k18
  have d_Hall_walkers : DnM K C "walkers" "Hall.walkers" s_Hall_walkers := ⟨_, _, ⟨a18, i18, k18⟩, F18⟩
  have F19 := fun_mk (st := s_is_part) l19 c19 k19
  have d_is_part : Dn K mg "is_part" s_is_part := ⟨_, _, PySem.W.mg_of XX G a19, F19⟩
  have F20 := fun_mk (st := s_is_whole) l20 c20 k20
  have d_is_whole : Dn K mg "is_whole" s_is_whole := ⟨_, _, PySem.W.mg_of XX G a20, F20⟩
  have F21 := fun_mk (st := s_is_from) l21 c21 k21
  have d_is_from : Dn K mg "is_from" s_is_from := ⟨_, _, PySem.W.mg_of XX G a21, F21⟩
  have F22 := fun_mk (st := s_is_wish) l22 c22 k22
  have d_is_wish : Dn K mg "is_wish" s_is_wish := ⟨_, _, PySem.W.mg_of XX G a22, F22⟩
  have F23 := fun_mk (st := s_need_goal) l23 c23 k23
  have d_need_goal : Dn K mg "need_goal" s_need_goal := ⟨_, _, PySem.W.mg_of XX G a23, F23⟩
  have F24 := fun_mk (st := s_law_is_whole) l24 c24 k24
  have d_law_is_whole : Dn K mg "_law_is_whole" s_law_is_whole := ⟨_, _, PySem.W.mg_of XX G a24, F24⟩
  have F25 := fun_mk (st := s_law_is_wish) l25 c25 k25
  have d_law_is_wish : Dn K mg "_law_is_wish" s_law_is_wish := ⟨_, _, PySem.W.mg_of XX G a25, F25⟩
  have F26 := fun_mk (st := s_law_due) l26 c26 k26
  have d_law_due : Dn K mg "_law_due" s_law_due := ⟨_, _, PySem.W.mg_of XX G a26, F26⟩
  have F27 := fun_mk (st := s_law) l27 c27 k27
  have d_law : Dn K mg "law" s_law := ⟨_, _, PySem.W.mg_of XX G a27, F27⟩
  refine ⟨PySem.W.fnOf "law" "law" (defArgs s_law) (defBody s_law) (defScope s_law) .none kV27 dc27 pm27 an27 cd27 ct27, [(cc8, tP_door_kept)], ⟨(fun P hP => by
    simp only [tabA, tabT, List.map_cons, List.map_nil, List.mem_cons, List.not_mem_nil, or_false] at hP
    rcases hP with rfl
    · exact ⟨t8, u8⟩), (fun P hP => by
    simp only [tabA, tabT, List.map_cons, List.map_nil, List.mem_cons, List.not_mem_nil, or_false] at hP
    rcases hP with rfl
    · exact ⟨cc8, .head _⟩), (fun p hp => by
    simp only [List.mem_cons, List.not_mem_nil, or_false] at hp
    rcases hp with rfl
    · exact ⟨by simp [tabA, tabT], PySem.W.codeHd_of_K XX hc8⟩), hb⟩, fun s v => .of_eq rfl, fun base _ _ tb => ?_⟩
  have c_law_draw := ok_law_draw d_law_draw B (P := l.prog) (w := w) (base := base) 
  have c_law_pick := ok_law_pick d_law_pick B (P := l.prog) (w := w) (base := base) c_law_draw
  have c_law_pen := ok_law_pen d_law_pen B (P := l.prog) (w := w) (base := base) 
  have c_law_names := ok_law_names d_law_names B (P := l.prog) (w := w) (base := base) c_law_draw c_law_pick
  have c_law_heft := ok_law_heft d_law_heft B (P := l.prog) (w := w) (base := base) c_law_draw
  have c_law_rows := ok_law_rows d_law_rows B (P := l.prog) (w := w) (base := base) c_law_draw c_law_pick
  have c_law_hall_of := ok_law_hall_of d_law_hall_of B (P := l.prog) (w := w) (base := base) c_law_draw c_law_heft c_law_rows
  have c_law_hall := ok_law_hall d_law_hall B (P := l.prog) (w := w) (base := base) (c_law_names.up (by decide)) c_law_hall_of
  have c_door_kept := ok_door_kept d_door_kept (tb (cc8, tP_door_kept) (by simp)) B (P := l.prog) (w := w) (base := base) 
  have c_Hall_init := ok_Hall_init hC d_Hall_init B (P := l.prog) (w := w) (base := base) c_door_kept
  have c_law_made := ok_law_made hC d_law_made B (P := l.prog) (w := w) (base := base) c_Hall_init
  have c_law_wish := ok_law_wish d_law_wish B (P := l.prog) (w := w) (base := base) c_law_draw c_law_pick
  have c_law_all_names := ok_law_all_names d_law_all_names B (P := l.prog) (w := w) (base := base) 
  have c_law_bent_wish := ok_law_bent_wish d_law_bent_wish B (P := l.prog) (w := w) (base := base) c_law_draw c_law_pick c_law_all_names
  have c_law_bent := ok_law_bent d_law_bent B (P := l.prog) (w := w) (base := base) c_law_draw c_law_pick c_law_bent_wish
  have c_is_name := ok_is_name d_is_name B (P := l.prog) (w := w) (base := base) g_LETTERS
  have c_Hall_rooms := ok_Hall_rooms hC d_Hall_rooms B (P := l.prog) (w := w) (base := base) 
  have c_Hall_stones := ok_Hall_stones hC d_Hall_stones B (P := l.prog) (w := w) (base := base) 
  have c_Hall_walkers := ok_Hall_walkers hC d_Hall_walkers B (P := l.prog) (w := w) (base := base) 
  have c_is_part := ok_is_part hC d_is_part B (P := l.prog) (w := w) (base := base) c_Hall_rooms c_Hall_stones c_Hall_walkers
  have c_is_whole := ok_is_whole d_is_whole B (P := l.prog) (w := w) (base := base) 
  have c_is_from := ok_is_from d_is_from B (P := l.prog) (w := w) (base := base) c_is_whole
  have c_is_wish := ok_is_wish hC d_is_wish B (P := l.prog) (w := w) (base := base) c_is_name c_is_part c_is_from g_MOST_HEFT g_WORDS g_nn_WORDS
  have c_need_goal := ok_need_goal hC d_need_goal B (P := l.prog) (w := w) (base := base) (g_ex_CG base) c_is_wish g_MOST_WISHES
  have c_law_is_whole := ok_law_is_whole d_law_is_whole B (P := l.prog) (w := w) (base := base) 
  have c_law_is_wish := ok_law_is_wish d_law_is_wish B (P := l.prog) (w := w) (base := base) c_law_is_whole
  have c_law_due := ok_law_due d_law_due B (P := l.prog) (w := w) (base := base) c_law_is_wish
  exact ok_law F27 B c_law_draw c_law_pick c_law_pen c_law_hall c_law_made c_law_wish c_law_bent c_need_goal c_law_due g_em_CG g_ey_CG g_ef_CG_at
theorem walk {l : PySem.W.OpenLaw} {q : Program} {loose : List Str} {XP : (Str → Option Value) → Heap → Prop} {YP : World → Heap → Prop} {d : DefRec} {K : Params → PySem.W.Frag} (hn : l.most = some 63) (hdf : d.params.defaults = []) (hY : ∀ (w : World) (h : Heap), YP w h → (K w.params).In h)
    (F : ∀ (w : World) (mg : Str → Option Value) (fa : Addr) (h : Heap), YP w h → (K w.params).In h → h.Ns mainGlobals mg → mg d.name = some (.ref fa) → (∃ (bm : Addr) (ob : Obj), mg "__builtins__" = some (.ref bm) ∧ bm ≠ builtinsNs ∧ h.get? bm = some ob ∧ ob.cls = .type "module" ∧ ob.dict = some builtinsNs ∧ ob.data = .plain) → ∃ (fd : FuncData) (cs : List (Addr × Addr)), TabHd (K w.params) mg h cs ∧ (∀ (s : Shared) (u : Value), BindsTo s fd ⟨[u], []⟩ [("script", u)]) ∧ ∀ base : Heap, (K w.params).In base → base.Ns mainGlobals mg → (∀ p ∈ cs, LamX.TabB base mg p.1 p.2) → FnG l.prog w (K w.params) mg base 8 fa fd ["script"] (conc (K w.params) (lawSp 63))) :
    PySem.W.WalkO q loose XP YP l.row.toRowW d [] (fun f vs => PySem.call f vs) :=
  walkG (n := 63) (k := 8) (x := "script") (sp := fun w => conc (K w.params) (lawSp 63)) hn (by decide) hdf ⟨⟨rfl, by decide, by decide⟩, rfl⟩ hY F (fun _ _ a ns hl hO hH hS => lawSp_of hl hO hH hS) fun w H s e s' z => nocx z
end DL
open PySem PySem.W PyProof.Rows
set_option maxRecDepth 100000 in
set_option maxHeartbeats 0 in
theorem PySem.Challenge.cw_weighdoors_k23_goals_or_not_holds : PySem.Challenge.rw_weighdoors_k23_goals_or_not.Holds := by
  w_on; o_law; k_head; (case hw => w_witness2)
  k_fill
  refine DL.walk (l := PySem.Challenge.rw_weighdoors_k23_goals_or_not) rfl rfl (fun w h Y => by first | exact PySem.W.kIn_of Y | exact PySem.W.km_in_of Y) ?F
  case F =>
    intro w mg fa h YY KX G hmg hbm
    refine' DL.all_mk KX G hmg hbm ?aC ?Cpg ?Chd ?Cpo ?Csa ?nC_chambers ?nC_gates ?nC_weights ?nC_folk ?nC_bodies ?Cmk ?Ckp ?a0 ?l0 ?c0 ?k0 ?a1 ?l1 ?c1 ?k1 ?a2 ?l2 ?c2 ?k2 ?a3 ?l3 ?c3 ?k3 ?a4 ?l4 ?c4 ?k4 ?a5 ?l5 ?c5 ?k5 ?a6 ?l6 ?c6 ?k6 ?a7 ?l7 ?c7 ?k7 ?a8 ?l8 ?c8 ?k8 ?a9 ?i9 ?l9 ?c9 ?k9 ?a10 ?l10 ?c10 ?k10 ?a11 ?l11 ?c11 ?k11 ?a12 ?l12 ?c12 ?k12 ?a13 ?l13 ?c13 ?k13 ?a14 ?l14 ?c14 ?k14 ?a15 ?l15 ?c15 ?k15 ?a16 ?i16 ?l16 ?c16 ?k16 ?a17 ?i17 ?l17 ?c17 ?k17 ?a18 ?i18 ?l18 ?c18 ?k18 ?a19 ?l19 ?c19 ?k19 ?a20 ?l20 ?c20 ?k20 ?a21 ?l21 ?c21 ?k21 ?a22 ?l22 ?c22 ?k22 ?a23 ?l23 ?c23 ?k23 ?a24 ?l24 ?c24 ?k24 ?a25 ?l25 ?c25 ?k25 ?a26 ?l26 ?c26 ?k26 ?a27 ?l27 ?c27 ?k27 ?hc8 ?u8 ?t8 ?aX_CG ?xL_CG ?sa_CG ?ga_CG ?gg_CG ?n_at_CG ?iC_CG ?tI_CG ?lI_CG ?cI_CG ?kI_CG ?kC_CG ?eC_CG ?tC_CG ?hC_CG ?ic_CG ?sC_CG ?aG_LETTERS ?aG_MOST_HEFT ?aG_MOST_WISHES ?aG_WORDS ?lG_WORDS ?hh0_WORDS ?hh1_WORDS ?hh2_WORDS ?lV0_WORDS ?lV1_WORDS ?lV2_WORDS ?sM_WORDS ?z_len ?z_sorted ?z_any ?z_all ?z_sum ?z_repr ?z_isinstance ?z_abs ?z_max ?z_min ?z_list ?z_tuple ?z_int ?z_bool ?z_str ?z_dict ?z_set ?z_range ?z_enumerate ?z_zip
    (case aC => k_is)
    (case Cpg => k_is)
    (case Chd => k_is)
    (case Cpo => k_is)
    (case Csa => k_is)
    (case nC_chambers => k_is)
    (case nC_gates => k_is)
    (case nC_weights => k_is)
    (case nC_folk => k_is)
    (case nC_bodies => k_is)
    (case Cmk => k_is)
    (case Ckp => k_is)
    (case a0 => k_is)
    (case l0 => k_is)
    (case c0 => k_is)
    (case k0 => k_is)
    (case a1 => k_is)
    (case l1 => k_is)
    (case c1 => k_is)
    (case k1 => k_is)
    (case a2 => k_is)
    (case l2 => k_is)
    (case c2 => k_is)
    (case k2 => k_is)
    (case a3 => k_is)
    (case l3 => k_is)
    (case c3 => k_is)
    (case k3 => k_is)
    (case a4 => k_is)
    (case l4 => k_is)
    (case c4 => k_is)
    (case k4 => k_is)
    (case a5 => k_is)
    (case l5 => k_is)
    (case c5 => k_is)
    (case k5 => k_is)
    (case a6 => k_is)
    (case l6 => k_is)
    (case c6 => k_is)
    (case k6 => k_is)
    (case a7 => k_is)
    (case l7 => k_is)
    (case c7 => k_is)
    (case k7 => k_is)
    (case a8 => k_is)
    (case l8 => k_is)
    (case c8 => k_is)
    (case k8 => k_is)
    (case a9 => k_is)
    (case i9 => k_is)
    (case l9 => k_is)
    (case c9 => k_is)
    (case k9 => k_is)
    (case a10 => k_is)
    (case l10 => k_is)
    (case c10 => k_is)
    (case k10 => k_is)
    (case a11 => k_is)
    (case l11 => k_is)
    (case c11 => k_is)
    (case k11 => k_is)
    (case a12 => k_is)
    (case l12 => k_is)
    (case c12 => k_is)
    (case k12 => k_is)
    (case a13 => k_is)
    (case l13 => k_is)
    (case c13 => k_is)
    (case k13 => k_is)
    (case a14 => k_is)
    (case l14 => k_is)
    (case c14 => k_is)
    (case k14 => k_is)
    (case a15 => k_is)
    (case l15 => k_is)
    (case c15 => k_is)
    (case k15 => k_is)
    (case a16 => k_is)
    (case i16 => k_is)
    (case l16 => k_is)
    (case c16 => k_is)
    (case k16 => k_is)
    (case a17 => k_is)
    (case i17 => k_is)
    (case l17 => k_is)
    (case c17 => k_is)
    (case k17 => k_is)
    (case a18 => k_is)
    (case i18 => k_is)
    (case l18 => k_is)
    (case c18 => k_is)
    (case k18 => k_is)
    (case a19 => k_is)
    (case l19 => k_is)
    (case c19 => k_is)
    (case k19 => k_is)
    (case a20 => k_is)
    (case l20 => k_is)
    (case c20 => k_is)
    (case k20 => k_is)
    (case a21 => k_is)
    (case l21 => k_is)
    (case c21 => k_is)
    (case k21 => k_is)
    (case a22 => k_is)
    (case l22 => k_is)
    (case c22 => k_is)
    (case k22 => k_is)
    (case a23 => k_is)
    (case l23 => k_is)
    (case c23 => k_is)
    (case k23 => k_is)
    (case a24 => k_is)
    (case l24 => k_is)
    (case c24 => k_is)
    (case k24 => k_is)
    (case a25 => k_is)
    (case l25 => k_is)
    (case c25 => k_is)
    (case k25 => k_is)
    (case a26 => k_is)
    (case l26 => k_is)
    (case c26 => k_is)
    (case k26 => k_is)
    (case a27 => k_is)
    (case l27 => k_is)
    (case c27 => k_is)
    (case k27 => k_is)
    (case hc8 => kernel_rfl)
    (case u8 => kernel_rfl)
    (case t8 => exact PySem.W.km_tabs_of YY _ (by simp))
    (case aX_CG => k_is)
    (case xL_CG => k_is)
    (case sa_CG => k_is)
    (case ga_CG => k_is)
    (case gg_CG => k_is)
    (case n_at_CG => k_is)
    (case iC_CG => k_is)
    (case tI_CG => k_is)
    (case lI_CG => k_is)
    (case cI_CG => k_is)
    (case kI_CG => k_is)
    (case kC_CG => k_is)
    (case eC_CG => k_is)
    (case tC_CG => k_is)
    (case hC_CG => k_is)
    (case ic_CG => k_is)
    (case sC_CG => k_is)
    (case aG_LETTERS => k_is)
    (case aG_MOST_HEFT => k_is)
    (case aG_MOST_WISHES => k_is)
    (case aG_WORDS => k_is)
    (case lG_WORDS => k_is)
    (case hh0_WORDS => exact rfl)
    (case hh1_WORDS => exact rfl)
    (case hh2_WORDS => exact rfl)
    (case lV0_WORDS => k_is)
    (case lV1_WORDS => k_is)
    (case lV2_WORDS => k_is)
    (case sM_WORDS => exact rfl)
    (case z_len => k_is)
    (case z_sorted => k_is)
    (case z_any => k_is)
    (case z_all => k_is)
    (case z_sum => k_is)
    (case z_repr => k_is)
    (case z_isinstance => k_is)
    (case z_abs => k_is)
    (case z_max => k_is)
    (case z_min => k_is)
    (case z_list => k_is)
    (case z_tuple => k_is)
    (case z_int => k_is)
    (case z_bool => k_is)
    (case z_str => k_is)
    (case z_dict => k_is)
    (case z_set => k_is)
    (case z_range => k_is)
    (case z_enumerate => k_is)
    (case z_zip => k_is)
