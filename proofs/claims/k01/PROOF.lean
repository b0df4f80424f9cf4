import PyProof.Rows.All
import Wide.All
import OpenK.AllK
import Wide.FinOn
import HandS.ForMost
import HandS.ForExc
import HandS.CallSlots
import HandS.Defaults
import HandS.SortKw
import HandS.DictTup
import HandS.Strs
import HandS.Deep
import HandS.TupAny
import HandS.TupLe
import HandS.IsInst
import HandS.Wide
import HandS.Zip
import HandS.Style
import HandS.Conv
import HandS.Flow
import HandS.Lambda
import KE.KDictKeyed
import KE.KeyNested
import KE.KDictWalk
import HandS.TupLen
import HandS.Small
import KE.SortData
import KE.KDictSum
import KE.KDictCopyH
import PyProof.ListCopy
import HandS.ExcOwn
import KE.GoesEnum
import KE.GoesMore
import HandS.Codes
import HandS.TupSets
import HandS.SetFor
import HandS.Ends
import HandS.HeadEnd
import KE.SortKeyHeap
import KE.KSortKey
import HandS.More
import HandS.HeadWalk
import HandS.HeadHook4
import HandS.ExcIs
import HandS.ExcField
import HandS.TryOnly
import HandS.OwnEq
import HandS.Nested
import HandS.NestedK
import KE.KStateDown
import Lean
import HandS.Base
import HandS.Call
import HandS.Words
import HandS.WordsExc
import HandS.Head0
import HandS.Head1
import HandS.Head2
import HandS.HeadHook1
import HandS.HeadHook2
import HandS.HeadHook3
import PySem.Challenge.RW_calmblanks_k01_whole_contents_patterns_v
set_option Elab.async false
set_option linter.all false
section
set_option maxRecDepth 100000
set_option maxHeartbeats 4000000
namespace Cb
open PySem PySem.Spec PyProof.Rows L2

/-- pure data: what a value says, all told; nothing of it changes any more -/
inductive W where
  | non | bl (b : Bool) | int (i : Int) | str (s : Str)
  | tup (ws : List W) | lst (ws : List W)
  | dK (kvs : List (Key × W)) | dW (kvs : List (W × W))
  | obj (c : Str) (fs : List (Str × W))
  | scr (ns : List Int)
  | fn (x : Str)
  | rng (lo hi : Int)

/-- the program's facts: the written part and where its classes stand -/
structure Gc where
  K : PySem.W.Frag
  cm : Str → Option Addr
  w : World

/-! ### dicts whose keys are tuples: the very object is known -/
mutual
/-- a key as the library knows it -/
def nkW : W → Option NestedKey
  | .non => some .none
  | .bl b => some (.num (if b = true then 1 else 0))
  | .int i => some (.num i)
  | .str x => some (.text x)
  | .tup ws => match nkWs ws with
    | some ks => some (.tup ks)
    | none => none
  | _ => none
def nkWs : List W → Option (List NestedKey)
  | [] => some []
  | w :: ws => match nkW w, nkWs ws with
    | some k, some ks => some (k :: ks)
    | _, _ => none
end
/-- the object at a is o -/
def DO (a : Addr) (o : Obj) : HO := .ext fun h => h.get? a = some o
abbrev Ent := NestedKey × Addr × Value
def entN (w : World) (x : Ent) : DictEntry := ⟨x.1.hash w, .ref x.2.1, x.2.2⟩
/-- o is a dict of the entries xs, that stands at a -/
def DictX (w : World) (a : Addr) (o : Obj) (xs : List Ent) : Prop := (a == sysModules) = false ∧ xs.length ≤ sizeLine ∧ o.ExactDict ∧ ∃ es ep, o.data = .dict es ep ∧ es.toList = xs.map (entN w) ∧ (xs.map (·.1)).Nodup

abbrev AS := Addr → Prop

/-- the script: a locked list, or one of the written part -/
def Sc (K : PySem.W.Frag) (H : Hp) (a : Addr) (xs : List V) : Prop := (∃ o, H a = some (.frz o (.lst xs))) ∨
  ∃ (o : Obj) (its : Array Value) (n : Nat), K.lookup a = some o ∧ o.cls = .type "list" ∧ o.dict = none ∧ o.data = .seq its n ∧ its.size ≤ sizeLine ∧ Vals xs its.toList
theorem Sc.sq {K : PySem.W.Frag} {H : Hp} {a : Addr} {xs : List V} (h : Sc K H a xs) : SqL K H a xs := h.imp (fun h => .inr h) id
/-- an object of the content u that changes no more: its address is in S -/
def Fz (S : AS) (H : Hp) (a : Addr) (u : HO) : Prop := S a ∧ H a = some u

mutual
def Rp (G : Gc) (S : AS) (H : Hp) : W → V → Prop
  | .non, v => v = .non
  | .bl b, v => v = .bl b
  | .int i, v => v = .int i
  | .str s, v => v = .str s
  | .scr ns, v => ∃ a, v = .ref a ∧ (Sc G.K H a (ns.map V.int) ∨ Fz S H a (.lst (ns.map V.int)))
  | .rng lo hi, v => ∃ a, v = .ref a ∧ H a = some (.rng lo hi)
  | .tup ws, v => ∃ a vs, v = .ref a ∧ SqT G.K H a vs ∧ Rps G S H ws vs
  | .lst ws, v => ∃ a vs, v = .ref a ∧ Fz S H a (.lst vs) ∧ Rps G S H ws vs
  | .dK kvs, v => ∃ a vs, v = .ref a ∧ Fz S H a (.dK vs) ∧ Rpk G S H kvs vs
  | .dW kvs, v => ∃ a o xs, v = .ref a ∧ Fz S H a (DO a o) ∧ DictX G.w a o xs ∧ Rpd G S H kvs xs
  | .fn x, v => ∃ a, v = .ref a ∧ G.cm x = some a
  | .obj c fs, v => ∃ a C dx vs, v = .ref a ∧ G.cm c = some C ∧ Fz S H a (.ins C dx vs) ∧ Rpf G S H fs vs
def Rps (G : Gc) (S : AS) (H : Hp) : List W → List V → Prop
  | [], vs => vs = []
  | w :: ws, vs => ∃ v r, vs = v :: r ∧ Rp G S H w v ∧ Rps G S H ws r
def Rpk (G : Gc) (S : AS) (H : Hp) : List (Key × W) → List (Key × V) → Prop
  | [], vs => vs = []
  | (k, w) :: ws, vs => ∃ v r, vs = (k, v) :: r ∧ Rp G S H w v ∧ Rpk G S H ws r
def Rpd (G : Gc) (S : AS) (H : Hp) : List (W × W) → List Ent → Prop
  | [], xs => xs = []
  | (k, w) :: ws, xs => ∃ nk b u v r, xs = (nk, b, u) :: r ∧ nkW k = some nk ∧ nk.depth ≤ 8 ∧ Rp G S H k (.ref b) ∧ Rp G S H w v ∧ RelV v u ∧ Rpd G S H ws r
def Rpf (G : Gc) (S : AS) (H : Hp) : List (Str × W) → List (Str × V) → Prop
  | [], vs => vs = []
  | (k, w) :: ws, vs => ∃ v r, vs = (k, v) :: r ∧ Rp G S H w v ∧ Rpf G S H ws r
end

/-- what may be owned -/
def Mu : Option HO → Prop
  | some (.lst _) => True
  | some (.dK _) => True
  | some (.dT _) => True
  | some (.set _ _) => True
  | some (.ins _ _ _) => True
  | some (.ext φ) => ∃ (a : Addr) (o : Obj) (es : Array DictEntry) (ep : Nat), o.data = .dict es ep ∧ φ = fun h => h.get? a = some o
  | _ => False
theorem Mu.mut {o : Option HO} (h : Mu o) : Mut o := by
  cases o with
  | none => exact h
  | some u => cases u <;> first | exact h | trivial
theorem mu_do {w : World} {a : Addr} {o : Obj} {xs : List Ent} (h : DictX w a o xs) : Mu (some (DO a o)) := by
  obtain ⟨_, _, _, es, ep, e, _⟩ := h
  exact ⟨a, o, es, ep, e, rfl⟩
/-- a code object is none of these -/
theorem codeO_nmu {c : Addr} {q : Str} : ¬ Mu (some (LamX.CodeO c q)) := fun h => by
  obtain ⟨a, o, es, ep, e, f⟩ := h
  let h1 : Heap := { objs := Array.replicate (a + 1) o }
  have g : ∀ b, h1.get? b = if b < a + 1 then some o else none := fun b => by
    unfold Heap.get?
    by_cases hb : b < a + 1
    · have e1 : h1.objs[b]? = some o := by simp [h1, hb]
      rw [e1, if_pos hb]
      obtain ⟨c1, d1, dt, sl⟩ := o
      have e : dt = .dict es ep := e
      subst e
      rfl
    · have e1 : h1.objs[b]? = none := Array.getElem?_eq_none (by show (Array.replicate (a + 1) o).size ≤ b; rw [Array.size_replicate]; exact Nat.le_of_not_lt hb)
      rw [e1, if_neg hb]
  have t : h1.get? a = some o := by rw [g, if_pos (Nat.lt_succ_self a)]
  have f1 := congrFun f h1
  have q1 := f1.symm.mp t
  obtain ⟨oc, vs, tk, k1, k2, _⟩ := q1
  rw [g] at k1
  split at k1
  · cases k1
    rw [e] at k2; cases k2
  · cases k1
/-- a table of code objects: lambdas write it -/
def NoT (o : HO) : Prop := ∀ ps, o ≠ .tbl ps
theorem NoT.mu {o : HO} (h : Mu (some o)) : NoT o := fun ps e => by subst e; exact h
/-- a caught error: where it stands, its slot from behind, its dict, its fields -/
structure ErI where
  a : Addr
  pos : Nat
  d : Option Addr
  fs : List (Str × W)
/-- a lambda that was handed on: which one, where it stands, what it captured -/
structure CloI where
  id : Str
  f : Addr
  c : Addr
  q : Str
  vs : List V
/-- the tables of code objects -/
class Tb where
  T : List (Addr × Str)
  er : Option ErI
  clo : Option CloI
/-- where nothing is said of tables -/
instance noTables : Tb := ⟨[], none, none⟩
/-- what is settled in H stands in H' -/
def Kp (S : AS) (H H' : Hp) : Prop := ∀ a o, H a = some o → (S a ∨ ¬ Mu (some o)) → NoT o → H' a = some o
theorem Kp.refl (S : AS) (H : Hp) : Kp S H H := fun _ _ h _ _ => h
theorem not_tup {xs : List V} : NoT (.tup xs) := fun _ e => by cases e
theorem not_frz {o : Obj} {u : HO} : NoT (.frz o u) := fun _ e => by cases e

section
variable {G : Gc} {S S' : AS} {H H' : Hp}
theorem Kp.sqT (k : Kp S H H') {a : Addr} {xs : List V} (h : SqT G.K H a xs) : SqT G.K H' a xs := by
  rcases h with (h | ⟨o, h⟩) | h
  · exact .inl (.inl (k _ _ h (.inr id) not_tup))
  · exact .inl (.inr ⟨o, k _ _ h (.inr id) not_frz⟩)
  · exact .inr h
theorem Kp.fz (k : Kp S H H') (hs : ∀ a, S a → S' a) {a : Addr} {u : HO} (h : Fz S H a u) (hu : NoT u := by intro _ z; cases z) : Fz S' H' a u := by
  exact ⟨hs a h.1, k _ _ h.2 (.inl h.1) hu⟩
theorem Kp.sc (k : Kp S H H') {K : PySem.W.Frag} {a : Addr} {xs : List V} (h : Sc K H a xs) : Sc K H' a xs := by
  rcases h with ⟨o, h⟩ | h
  · exact .inl ⟨o, k _ _ h (.inr id) not_frz⟩
  · exact .inr h

mutual
theorem Rp.mono (k : Kp S H H') (hs : ∀ a, S a → S' a) : ∀ {w : W} {v : V}, Rp G S H w v → Rp G S' H' w v
  | .non, _, h => by unfold Rp at *; exact h
  | .bl _, _, h => by unfold Rp at *; exact h
  | .int _, _, h => by unfold Rp at *; exact h
  | .str _, _, h => by unfold Rp at *; exact h
  | .scr ns, _, h => by
    unfold Rp at *
    obtain ⟨a, e, h1⟩ := h
    exact ⟨a, e, h1.imp k.sc fun h => k.fz hs h⟩
  | .rng lo hi, _, h => by
    unfold Rp at *
    obtain ⟨a, e, h1⟩ := h
    exact ⟨a, e, k _ _ h1 (.inr id) fun _ z => nomatch z⟩
  | .tup ws, _, h => by
    unfold Rp at *
    obtain ⟨a, vs, e, h1, h2⟩ := h
    exact ⟨a, vs, e, k.sqT h1, Rps.mono k hs h2⟩
  | .lst ws, _, h => by
    unfold Rp at *
    obtain ⟨a, vs, e, h1, h2⟩ := h
    exact ⟨a, vs, e, k.fz hs h1, Rps.mono k hs h2⟩
  | .dK ws, _, h => by
    unfold Rp at *
    obtain ⟨a, vs, e, h1, h2⟩ := h
    exact ⟨a, vs, e, k.fz hs h1, Rpk.mono k hs h2⟩
  | .dW ws, _, h => by
    unfold Rp at *
    obtain ⟨a, o, xs, e, h1, h2, h3⟩ := h
    exact ⟨a, o, xs, e, k.fz hs h1, h2, Rpd.mono k hs h3⟩
  | .fn x, _, h => by unfold Rp at *; exact h
  | .obj c ws, _, h => by
    unfold Rp at *
    obtain ⟨a, C, dx, vs, e, hc, h1, h2⟩ := h
    exact ⟨a, C, dx, vs, e, hc, k.fz hs h1, Rpf.mono k hs h2⟩
theorem Rps.mono (k : Kp S H H') (hs : ∀ a, S a → S' a) : ∀ {ws : List W} {vs : List V}, Rps G S H ws vs → Rps G S' H' ws vs
  | [], _, h => by unfold Rps at *; exact h
  | w :: ws, _, h => by
    unfold Rps at *
    obtain ⟨v, r, e, h1, h2⟩ := h
    exact ⟨v, r, e, Rp.mono k hs h1, Rps.mono k hs h2⟩
theorem Rpk.mono (k : Kp S H H') (hs : ∀ a, S a → S' a) : ∀ {ws : List (Key × W)} {vs : List (Key × V)}, Rpk G S H ws vs → Rpk G S' H' ws vs
  | [], _, h => by unfold Rpk at *; exact h
  | (_, w) :: ws, _, h => by
    unfold Rpk at *
    obtain ⟨v, r, e, h1, h2⟩ := h
    exact ⟨v, r, e, Rp.mono k hs h1, Rpk.mono k hs h2⟩
theorem Rpd.mono (k : Kp S H H') (hs : ∀ a, S a → S' a) : ∀ {ws : List (W × W)} {vs : List Ent}, Rpd G S H ws vs → Rpd G S' H' ws vs
  | [], _, h => by unfold Rpd at *; exact h
  | (_, w) :: ws, _, h => by
    unfold Rpd at *
    obtain ⟨nk, b, u, v, r, e, h1, h2, h3, h4, h5, h6⟩ := h
    exact ⟨nk, b, u, v, r, e, h1, h2, Rp.mono k hs h3, Rp.mono k hs h4, h5, Rpd.mono k hs h6⟩
theorem Rpf.mono (k : Kp S H H') (hs : ∀ a, S a → S' a) : ∀ {ws : List (Str × W)} {vs : List (Str × V)}, Rpf G S H ws vs → Rpf G S' H' ws vs
  | [], _, h => by unfold Rpf at *; exact h
  | (_, w) :: ws, _, h => by
    unfold Rpf at *
    obtain ⟨v, r, e, h1, h2⟩ := h
    exact ⟨v, r, e, Rp.mono k hs h1, Rpf.mono k hs h2⟩
end

/-! ### lists of values -/
theorem Rps.length : ∀ {ws : List W} {vs : List V}, Rps G S H ws vs → vs.length = ws.length
  | [], _, h => by unfold Rps at h; subst h; rfl
  | w :: ws, _, h => by
    unfold Rps at h
    obtain ⟨v, r, e, h1, h2⟩ := h
    subst e
    simp [Rps.length h2]
theorem Rps.nil : Rps G S H [] [] := by unfold Rps; rfl
theorem Rps.cons {w : W} {ws : List W} {v : V} {vs : List V} (h : Rp G S H w v) (t : Rps G S H ws vs) : Rps G S H (w :: ws) (v :: vs) := by
  unfold Rps; exact ⟨v, vs, rfl, h, t⟩
theorem Rps.one {w : W} {v : V} (h : Rp G S H w v) : Rps G S H [w] [v] := .cons h .nil
theorem Rps.inv {w : W} {ws : List W} {vs : List V} (h : Rps G S H (w :: ws) vs) : ∃ v r, vs = v :: r ∧ Rp G S H w v ∧ Rps G S H ws r := by
  unfold Rps at h; exact h
theorem Rps.inv0 {vs : List V} (h : Rps G S H [] vs) : vs = [] := by
  unfold Rps at h; exact h
theorem Rps.append : ∀ {ws us : List W} {vs ys : List V}, Rps G S H ws vs → Rps G S H us ys → Rps G S H (ws ++ us) (vs ++ ys)
  | [], _, _, _, h, h' => by rw [h.inv0]; exact h'
  | w :: ws, _, _, _, h, h' => by
    obtain ⟨v, r, e, h1, h2⟩ := h.inv
    subst e
    exact .cons h1 (Rps.append h2 h')
theorem Rps.get : ∀ {ws : List W} {vs : List V} {i : Nat} {w : W}, Rps G S H ws vs → ws[i]? = some w → ∃ v, vs[i]? = some v ∧ Rp G S H w v
  | [], _, _, _, h, e => by simp at e
  | w :: ws, _, 0, _, h, e => by
    obtain ⟨v, r, q, h1, h2⟩ := h.inv
    subst q
    simp at e; subst e
    exact ⟨v, rfl, h1⟩
  | w :: ws, _, i + 1, _, h, e => by
    obtain ⟨v, r, q, h1, h2⟩ := h.inv
    subst q
    simpa using Rps.get (i := i) h2 (by simpa using e)
theorem Rps.take : ∀ {ws : List W} {vs : List V} (n : Nat), Rps G S H ws vs → Rps G S H (ws.take n) (vs.take n)
  | _, _, 0, _ => by simp; exact .nil
  | [], _, n + 1, h => by rw [h.inv0]; exact .nil
  | w :: ws, _, n + 1, h => by
    obtain ⟨v, r, q, h1, h2⟩ := h.inv
    subst q
    exact .cons h1 (Rps.take n h2)
theorem Rps.drop : ∀ {ws : List W} {vs : List V} (n : Nat), Rps G S H ws vs → Rps G S H (ws.drop n) (vs.drop n)
  | _, _, 0, h => by simpa using h
  | [], _, n + 1, h => by rw [h.inv0]; exact .nil
  | w :: ws, _, n + 1, h => by
    obtain ⟨v, r, q, h1, h2⟩ := h.inv
    subst q
    exact Rps.drop n h2
theorem Rps.set : ∀ {ws : List W} {vs : List V} {w : W} {v : V} (n : Nat), Rps G S H ws vs → Rp G S H w v → Rps G S H (ws.set n w) (vs.set n v)
  | [], _, _, _, n, h, _ => by rw [h.inv0]; simp; exact .nil
  | x :: ws, _, _, _, 0, h, k => by
    obtain ⟨v, r, q, h1, h2⟩ := h.inv
    subst q
    exact .cons k h2
  | x :: ws, _, _, _, n + 1, h, k => by
    obtain ⟨v, r, q, h1, h2⟩ := h.inv
    subst q
    exact .cons h1 (Rps.set n h2 k)
end

/-! ### owned values: a list, a dict, an object that one name alone holds -/
inductive Z where
  | w (x : W)
  | L (ws : List W)
  | dK (kvs : List (Key × W)) | dW (kvs : List (W × W))
  | obj (c : Str) (fs : List (Str × W))
  | err
  | clo (id : Str) (caps : List W)
/-- handed on: it changes no more -/
def frz : Z → W
  | .w x => x
  | .L ws => .lst ws
  | .dK kvs => .dK kvs
  | .dW kvs => .dW kvs
  | .obj c fs => .obj c fs
  | .err => .non
  | .clo _ _ => .non

def RZ (G : Gc) (S : AS) (H : Hp) : Z → V → List Addr → Prop
  | .w x, v, B => Rp G S H x v ∧ B = []
  | .L ws, v, B => ∃ a vs, v = .ref a ∧ H a = some (.lst vs) ∧ Rps G S H ws vs ∧ B = [a]
  | .dK kvs, v, B => ∃ a vs, v = .ref a ∧ H a = some (.dK vs) ∧ Rpk G S H kvs vs ∧ B = [a]
  | .dW kvs, v, B => ∃ a o xs, v = .ref a ∧ H a = some (DO a o) ∧ DictX G.w a o xs ∧ Rpd G S H kvs xs ∧ B = [a]
  | .obj c fs, v, B => ∃ a C dx vs, v = .ref a ∧ G.cm c = some C ∧ H a = some (.ins C dx vs) ∧ Rpf G S H fs vs ∧ B = [a]
  | .err, _, _ => False
  | .clo _ _, _, _ => False

section
variable {G : Gc} {S S' : AS} {H H' : Hp}
theorem RZ.mono (k : Kp S H H') (hs : ∀ a, S a → S' a) {z : Z} {v : V} {B : List Addr} (h : RZ G S H z v B) (hB : ∀ a ∈ B, ∀ o, H a = some o → H' a = some o) : RZ G S' H' z v B := by
  cases z with
  | w x => exact ⟨h.1.mono k hs, h.2⟩
  | L ws =>
    obtain ⟨a, vs, e, h1, h2, rfl⟩ := h
    exact ⟨a, vs, e, hB a (by simp) _ h1, h2.mono k hs, rfl⟩
  | dK ws =>
    obtain ⟨a, vs, e, h1, h2, rfl⟩ := h
    exact ⟨a, vs, e, hB a (by simp) _ h1, h2.mono k hs, rfl⟩
  | dW ws =>
    obtain ⟨a, o, xs, e, h1, h2, h3, rfl⟩ := h
    exact ⟨a, o, xs, e, hB a (by simp) _ h1, h2, h3.mono k hs, rfl⟩
  | obj c ws =>
    obtain ⟨a, C, dx, vs, e, hc, h1, h2, rfl⟩ := h
    exact ⟨a, C, dx, vs, e, hc, hB a (by simp) _ h1, h2.mono k hs, rfl⟩
  | err => exact h.elim
  | clo _ _ => exact h.elim
/-- freezing: its address goes into S -/
theorem RZ.freeze {z : Z} {v : V} {B : List Addr} (h : RZ G S H z v B) : Rp G (fun a => S a ∨ a ∈ B) H (frz z) v := by
  have hs : ∀ a, S a → S a ∨ a ∈ B := fun a h => .inl h
  have k := Kp.refl S H
  cases z with
  | w x => exact h.1.mono k hs
  | L ws =>
    obtain ⟨a, vs, e, h1, h2, rfl⟩ := h
    unfold frz Rp
    exact ⟨a, vs, e, ⟨.inr (by simp), h1⟩, h2.mono k hs⟩
  | dK ws =>
    obtain ⟨a, vs, e, h1, h2, rfl⟩ := h
    unfold frz Rp
    exact ⟨a, vs, e, ⟨.inr (by simp), h1⟩, h2.mono k hs⟩
  | dW ws =>
    obtain ⟨a, o, xs, e, h1, h2, h3, rfl⟩ := h
    unfold frz Rp
    exact ⟨a, o, xs, e, ⟨.inr (by simp), h1⟩, h2, h3.mono k hs⟩
  | obj c ws =>
    obtain ⟨a, C, dx, vs, e, hc, h1, h2, rfl⟩ := h
    unfold frz Rp
    exact ⟨a, C, dx, vs, e, hc, ⟨.inr (by simp), h1⟩, h2.mono k hs⟩
  | err => exact h.elim
  | clo _ _ => exact h.elim
theorem RZ.mut {z : Z} {v : V} {B : List Addr} (h : RZ G S H z v B) : B.Nodup ∧ ∀ a ∈ B, Mu (H a) := by
  cases z with
  | w x => obtain ⟨_, rfl⟩ := h; simp
  | L ws => obtain ⟨a, vs, e, h1, h2, rfl⟩ := h; simp [h1, Mu]
  | dK ws => obtain ⟨a, vs, e, h1, h2, rfl⟩ := h; simp [h1, Mu]
  | dW ws =>
    obtain ⟨a, o, xs, e, h1, h2, h3, rfl⟩ := h
    refine ⟨by simp, fun b hb => ?_⟩
    obtain rfl : b = a := by simpa using hb
    rw [h1]; exact mu_do h2
  | obj c ws => obtain ⟨a, C, dx, vs, e, hc, h1, h2, rfl⟩ := h; simp [h1, Mu]
  | err => exact h.elim
  | clo _ _ => exact h.elim

/-! ### a frame's slots -/
abbrev Env := List (Option Z)
def XdR (G : Gc) (S : AS) (H : Hp) (fs : List (Str × W)) (d : Option Addr) : Prop := (fs = [] ∧ d = none) ∨ ∃ a vs, d = some a ∧ H a = some (.xd vs) ∧ Rpf G S H fs vs
theorem XdR.mono (k : Kp S H H') (hs : ∀ a, S a → S' a) {fs : List (Str × W)} {d : Option Addr} (h : XdR G S H fs d) : XdR G S' H' fs d := by
  rcases h with h | ⟨a, vs, e, h1, h2⟩
  · exact .inl h
  · exact .inr ⟨a, vs, e, k _ _ h1 (.inr id) (fun _ z => nomatch z), h2.mono k hs⟩
def ErOk [Tb] (G : Gc) (S : AS) (H : Hp) (n : Nat) (o : Option V) : Prop := ∀ i, Tb.er = some i → i.pos = n → o = some (.ref i.a) ∧ XdR G S H i.fs i.d
def ClOk [Tb] (G : Gc) (S : AS) (H : Hp) (id : Str) (caps : List W) (o : Option V) : Prop := ∃ i, Tb.clo = some i ∧ i.id = id ∧ o = some (.ref i.f) ∧ Rps G S H caps i.vs ∧ H i.c = some (LamX.CodeO i.c i.q)
inductive EnvR [Tb] (G : Gc) (S : AS) (H : Hp) : Env → List (Option V) → List Addr → Prop
  | nil : EnvR G S H [] [] []
  | off {env σ A o} : EnvR G S H env σ A → EnvR G S H (none :: env) (o :: σ) A
  | on {z v B env σ A} : RZ G S H z v B → EnvR G S H env σ A → EnvR G S H (some z :: env) (some v :: σ) (B ++ A)
  | er {env σ A o} : ErOk G S H σ.length o → EnvR G S H env σ A → EnvR G S H (some .err :: env) (o :: σ) A
  | cl {env σ A o id caps} : ClOk G S H id caps o → EnvR G S H env σ A → EnvR G S H (some (.clo id caps) :: env) (o :: σ) A
variable [Tb]
theorem EnvR.length {env : Env} {σ : List (Option V)} {A : List Addr} (h : EnvR G S H env σ A) : σ.length = env.length := by
  induction h with
  | nil => rfl
  | off _ ih => simp [ih]
  | on _ _ ih => simp [ih]
  | er _ _ ih => simp [ih]
  | cl _ _ ih => simp [ih]
theorem EnvR.mono (k : Kp S H H') (hs : ∀ a, S a → S' a) {env : Env} {σ : List (Option V)} {A : List Addr} (h : EnvR G S H env σ A) (hA : ∀ a ∈ A, ∀ o, H a = some o → H' a = some o) : EnvR G S' H' env σ A := by
  induction h with
  | nil => exact .nil
  | off _ ih => exact .off (ih hA)
  | on r _ ih => exact .on (r.mono k hs fun a ha => hA a (List.mem_append_left _ ha)) (ih fun a ha => hA a (List.mem_append_right _ ha))
  | er q _ ih => exact .er (fun i e p => ⟨(q i e p).1, (q i e p).2.mono k hs⟩) (ih hA)
  | cl q _ ih => exact .cl (by obtain ⟨i, h1, h2, h3, h4, h5⟩ := q; exact ⟨i, h1, h2, h3, h4.mono k hs, k _ _ h5 (.inr codeO_nmu) LamX.codeO_ne⟩) (ih hA)
/-- slot i told apart -/
theorem EnvR.get {env : Env} {σ : List (Option V)} {A : List Addr} (h : EnvR G S H env σ A) : ∀ {i : Nat} {z : Z}, env[i]? = some (some z) → z ≠ .err → (∀ a b, z ≠ .clo a b) →
    ∃ v B R, σ[i]? = some (some v) ∧ RZ G S H z v B ∧ A.Perm (B ++ R) ∧ EnvR G S H (env.set i none) σ R := by
  induction h with
  | nil => intro i z e; simp at e
  | @off env σ A o _ ih =>
    intro i z e ne nc
    cases i with
    | zero => simp at e
    | succ i =>
      obtain ⟨v, B, R, h1, h2, h3, h4⟩ := ih (i := i) (by simpa using e) ne nc
      exact ⟨v, B, R, by simpa using h1, h2, h3, by simpa using EnvR.off h4⟩
  | @on z' v' B' env σ A r t ih =>
    intro i z e ne nc
    cases i with
    | zero =>
      simp at e; subst e
      exact ⟨v', B', A, rfl, r, List.Perm.refl _, by simpa using EnvR.off t⟩
    | succ i =>
      obtain ⟨v, B, R, h1, h2, h3, h4⟩ := ih (i := i) (by simpa using e) ne nc
      refine ⟨v, B, B' ++ R, by simpa using h1, h2, ?_, by simpa using EnvR.on r h4⟩
      refine (List.Perm.append_left B' h3).trans ?_
      rw [← List.append_assoc, ← List.append_assoc]
      exact List.Perm.append_right R List.perm_append_comm
  | @er env σ A o k t ih =>
    intro i z e ne nc
    cases i with
    | zero =>
      simp at e
      exact absurd e.symm ne
    | succ i =>
      obtain ⟨v, B, R, h1, h2, h3, h4⟩ := ih (i := i) (by simpa using e) ne nc
      exact ⟨v, B, R, by simpa using h1, h2, h3, by simpa using EnvR.er k h4⟩
  | @cl env σ A o id caps k t ih =>
    intro i z e ne nc
    cases i with
    | zero =>
      simp at e
      exact absurd e.symm (nc _ _)
    | succ i =>
      obtain ⟨v, B, R, h1, h2, h3, h4⟩ := ih (i := i) (by simpa using e) ne nc
      exact ⟨v, B, R, by simpa using h1, h2, h3, by simpa using EnvR.cl k h4⟩
/-- slot i forgotten -/
theorem EnvR.drop {env : Env} {σ : List (Option V)} {A : List Addr} (h : EnvR G S H env σ A) (i : Nat) : ∃ R, EnvR G S H (env.set i none) σ R ∧ List.Sublist R A := by
  induction h generalizing i with
  | nil => exact ⟨[], by simpa using EnvR.nil, .slnil⟩
  | @off env σ A o t ih =>
    cases i with
    | zero => exact ⟨A, by simpa using EnvR.off t, List.Sublist.refl _⟩
    | succ i =>
      obtain ⟨R, h1, h2⟩ := ih i
      exact ⟨R, by simpa using EnvR.off h1, h2⟩
  | @on z v B env σ A r t ih =>
    cases i with
    | zero => exact ⟨A, by simpa using EnvR.off t, List.sublist_append_right _ _⟩
    | succ i =>
      obtain ⟨R, h1, h2⟩ := ih i
      exact ⟨B ++ R, by simpa using EnvR.on r h1, List.Sublist.append_left h2 B⟩
  | @er env σ A o k t ih =>
    cases i with
    | zero => exact ⟨A, by simpa using EnvR.off t, List.Sublist.refl _⟩
    | succ i =>
      obtain ⟨R, h1, h2⟩ := ih i
      exact ⟨R, by simpa using EnvR.er k h1, h2⟩
  | @cl env σ A o id caps k t ih =>
    cases i with
    | zero => exact ⟨A, by simpa using EnvR.off t, List.Sublist.refl _⟩
    | succ i =>
      obtain ⟨R, h1, h2⟩ := ih i
      exact ⟨R, by simpa using EnvR.cl k h1, h2⟩
/-- slot i laid -/
theorem EnvR.put {env : Env} {σ : List (Option V)} {R : List Addr} {i : Nat} {z : Z} {v : V} {B : List Addr} (h : EnvR G S H (env.set i none) σ R) (hi : i < env.length) (r : RZ G S H z v B) :
    ∃ A, EnvR G S H (env.set i (some z)) (σ.set i (some v)) A ∧ A.Perm (B ++ R) := by
  induction i generalizing env σ R with
  | zero =>
    cases env with
    | nil => simp at hi
    | cons e env =>
      simp at h
      cases h with
      | off t => exact ⟨B ++ R, by simpa using EnvR.on r t, List.Perm.refl _⟩
  | succ i ih =>
    cases env with
    | nil => simp at hi
    | cons e env =>
      simp at h
      cases h with
      | off t =>
        obtain ⟨A, h1, h2⟩ := ih t (by simpa using hi)
        exact ⟨A, by simpa using EnvR.off h1, h2⟩
      | @on z' v' B' _ _ A0 r' t =>
        obtain ⟨A, h1, h2⟩ := ih t (by simpa using hi)
        refine ⟨B' ++ A, by simpa using EnvR.on r' h1, (List.Perm.append_left B' h2).trans ?_⟩
        rw [← List.append_assoc, ← List.append_assoc]
        exact List.Perm.append_right A0 List.perm_append_comm
      | er k t =>
        obtain ⟨A, h1, h2⟩ := ih t (by simpa using hi)
        exact ⟨A, by simpa using EnvR.er (by simpa using k) h1, h2⟩
      | cl k t =>
        obtain ⟨A, h1, h2⟩ := ih t (by simpa using hi)
        exact ⟨A, by simpa using EnvR.cl k h1, h2⟩
/-- the same address again in the slot (σ as it is) -/
theorem EnvR.put' {env : Env} {σ : List (Option V)} {R : List Addr} {i : Nat} {z : Z} {v : V} {B : List Addr} (h : EnvR G S H (env.set i none) σ R) (hi : i < env.length) (hσ : σ[i]? = some (some v)) (r : RZ G S H z v B) :
    ∃ A, EnvR G S H (env.set i (some z)) σ A ∧ A.Perm (B ++ R) := by
  have e : σ.set i (some v) = σ := by
    apply List.ext_getElem?
    intro j
    rw [List.getElem?_set]
    by_cases hj : i = j
    · subst hj
      simp [hσ]
      exact (List.getElem?_eq_some_iff.mp hσ).1
    · simp [hj]
  have q := h.put hi r
  rwa [e] at q
end

/-! ### what stays -/
/-- tables and code objects stay: so do the tables' facts -/
theorem tabs_keep {T : List (Addr × Str)} {H H' : Hp} (t : LamX.Tabs T H) (k : ∀ b o, H b = some o → ¬ Mu (some o) → H' b = some o) : LamX.Tabs T H' := fun p hp => by
  obtain ⟨ps, h1, h2, h3⟩ := t p hp
  refine ⟨ps, k _ _ h1 id, h2, fun pos cv hc => ?_⟩
  obtain ⟨c, e1, e2⟩ := h3 pos cv hc
  exact ⟨c, e1, k _ _ e2 codeO_nmu⟩
/-- S and A are told of H: settled and owned -/
structure Ok [Tb] (S : AS) (H : Hp) (A : List Addr) : Prop where
  nd : A.Nodup
  own : ∀ a ∈ A, ¬ S a ∧ Mu (H a)
  dom : ∀ a, S a → ∃ o, H a = some o
  tab : LamX.Tabs Tb.T H
/-- from (S, H, A) to (S', H', A'): only the owned was changed, what is owned or settled anew was owned or is new -/
structure Fr (S : AS) (H : Hp) (A : List Addr) (S' : AS) (H' : Hp) (A' : List Addr) : Prop where
  keep : ∀ a o, H a = some o → a ∉ A → NoT o → H' a = some o
  up : ∀ a, S a → S' a
  back : ∀ a, S' a → S a ∨ a ∈ A ∨ H a = none
  own : ∀ a ∈ A', a ∈ A ∨ H a = none
  dom : ∀ a o, H a = some o → ∃ o', H' a = some o'

section
variable [Tb] {G : Gc} {S S' S1 S2 : AS} {H H' H1 H2 : Hp} {A A' A1 A2 B B1 B2 : List Addr}
theorem mut_some {o : Option HO} (h : Mu o) : ∃ u, o = some u := by
  cases o with
  | none => exact h.elim
  | some u => exact ⟨u, rfl⟩
theorem Ok.perm (h : Ok S H A) (p : A'.Perm A) : Ok S H A' := ⟨p.nodup_iff.mpr h.nd, fun a ha => h.own a (p.mem_iff.mp ha), h.dom, h.tab⟩
theorem Ok.sub (h : Ok S H A) (p : List.Sublist A' A) : Ok S H A' := ⟨h.nd.sublist p, fun a ha => h.own a (p.subset ha), h.dom, h.tab⟩
theorem Ok.left (h : Ok S H (A ++ B)) : Ok S H A := h.sub (List.sublist_append_left _ _)
theorem Ok.right (h : Ok S H (A ++ B)) : Ok S H B := h.sub (List.sublist_append_right _ _)
theorem Ok.nil (h : Ok S H A) : Ok S H [] := h.sub (List.nil_sublist _)
theorem Ok.dis (h : Ok S H (A ++ B)) {a : Addr} (ha : a ∈ A) (hb : a ∈ B) : False := (List.nodup_append.mp h.nd).2.2 a ha a hb rfl
/-- freezing B -/
theorem Ok.freeze (h : Ok S H (A ++ B)) : Ok (fun a => S a ∨ a ∈ B) H A := ⟨h.left.nd, fun a ha => ⟨fun z => z.elim (h.left.own a ha).1 fun hb => h.dis ha hb, (h.left.own a ha).2⟩,
  fun a ha => ha.elim (h.dom a) fun hb => mut_some (h.right.own a hb).2, h.tab⟩
theorem Fr.refl (o : Ok S H A) : Fr S H A S H A := ⟨fun _ _ h _ _ => h, fun _ h => h, fun _ h => .inl h, fun _ h => .inl h, fun _ o h => ⟨o, h⟩⟩
theorem Fr.kp (f : Fr S H A S' H' A') (o : Ok S H A) : Kp S H H' := fun a u e h nt => f.keep a u e (fun ha => by
  have := o.own a ha
  rcases h with h | h
  · exact this.1 h
  · rw [e] at this; exact h this.2) nt
theorem Fr.non (f : Fr S H A S' H' A') {a : Addr} (h : H' a = none) : H a = none := by
  cases e : H a with
  | none => rfl
  | some o => obtain ⟨o', e'⟩ := f.dom a o e; rw [h] at e'; cases e'
theorem Fr.trans (f : Fr S H A S1 H1 A1) (g : Fr S1 H1 A1 S2 H2 A2) : Fr S H A S2 H2 A2 where
  keep := fun a o e n nt => g.keep a o (f.keep a o e n nt) (fun h => by
    rcases f.own a h with h | h
    · exact n h
    · rw [e] at h; cases h) nt
  up := fun a h => g.up a (f.up a h)
  back := fun a h => by
    rcases g.back a h with h | h | h
    · exact f.back a h
    · exact .inr (f.own a h)
    · exact .inr (.inr (f.non h))
  own := fun a h => by
    rcases g.own a h with h | h
    · exact f.own a h
    · exact .inr (f.non h)
  dom := fun a o e => by
    obtain ⟨o', e'⟩ := f.dom a o e
    exact g.dom a o' e'
theorem Fr.wide (f : Fr S H A S' H' A') (h : ∀ a ∈ A, a ∈ B) : Fr S H B S' H' A' := ⟨fun a o e n => f.keep a o e (fun z => n (h a z)), f.up, fun a z => (f.back a z).imp id (Or.imp (h a) id), fun a z => (f.own a z).imp (h a) id, f.dom⟩
theorem Fr.less (f : Fr S H A S' H' A') (h : ∀ a ∈ B, a ∈ A') : Fr S H A S' H' B := ⟨f.keep, f.up, f.back, fun a z => f.own a (h a z), f.dom⟩
/-- what was owned elsewhere is carried over -/
theorem Fr.off (f : Fr S H A S' H' A') (o : Ok S H (A ++ B)) (o' : Ok S' H' A') : Ok S' H' (A' ++ B) where
  nd := List.nodup_append.mpr ⟨o'.nd, o.right.nd, fun a ha b hb e => by
    subst e
    rcases f.own a ha with h | h
    · exact o.dis h hb
    · have := (o.right.own a hb).2
      rw [h] at this; exact this⟩
  own := fun a ha => by
    rcases List.mem_append.mp ha with ha | ha
    · exact o'.own a ha
    · have m := (o.right.own a ha)
      obtain ⟨u, e⟩ := mut_some m.2
      refine ⟨fun z => ?_, ?_⟩
      · rcases f.back a z with h | h | h
        · exact m.1 h
        · exact o.dis h ha
        · rw [e] at h; cases h
      · rw [f.keep a u e (fun h => o.dis h ha) (NoT.mu (e ▸ m.2)), ← e]; exact m.2
  dom := o'.dom
  tab := o'.tab
theorem Fr.offK (f : Fr S H A S' H' A') (o : Ok S H (A ++ B)) : ∀ a ∈ B, ∀ u, H a = some u → H' a = some u := fun a ha u e => f.keep a u e (fun h => o.dis h ha) (NoT.mu (e ▸ (o.right.own a ha).2))
/-- freezing is a step -/
theorem Fr.frz (o : Ok S H (A ++ B)) : Fr S H (A ++ B) (fun a => S a ∨ a ∈ B) H A := ⟨fun _ _ h _ _ => h, fun _ h => .inl h, fun _ h => h.imp id fun z => .inl (List.mem_append_right _ z), fun _ h => .inl (List.mem_append_left _ h), fun _ o h => ⟨o, h⟩⟩
/-- a new object -/
theorem Fr.new {p : Addr} {u : HO} (o : Ok S H A) (hp : H p = none) : Fr S H A S (upd H p u) A :=
  ⟨fun a x e _ _ => by rw [upd_ne (ne_of_none e hp)]; exact e, fun _ h => h, fun _ h => .inl h, fun _ h => .inl h, fun a x e => ⟨x, by rw [upd_ne (ne_of_none e hp)]; exact e⟩⟩
theorem Ok.new {p : Addr} {u : HO} (o : Ok S H A) (hp : H p = none) : Ok S (upd H p u) A := ⟨o.nd, fun a ha => by
    have m := o.own a ha
    obtain ⟨x, e⟩ := mut_some m.2
    rw [upd_ne (ne_of_none e hp)]; exact m, fun a ha => by
    obtain ⟨x, e⟩ := o.dom a ha
    exact ⟨x, by rw [upd_ne (ne_of_none e hp)]; exact e⟩, tabs_keep o.tab fun b x e _ => by rw [upd_ne (ne_of_none e hp)]; exact e⟩
/-- a new object, owned -/
theorem Fr.newO {p : Addr} {u : HO} (o : Ok S H A) (hp : H p = none) : Fr S H A S (upd H p u) (A ++ [p]) :=
  ⟨fun a x e _ _ => by rw [upd_ne (ne_of_none e hp)]; exact e, fun _ h => h, fun _ h => .inl h, fun a h => (List.mem_append.mp h).imp id fun z => by rw [List.mem_singleton.mp z]; exact hp, fun a x e => ⟨x, by rw [upd_ne (ne_of_none e hp)]; exact e⟩⟩
theorem Ok.newO {p : Addr} {u : HO} (o : Ok S H A) (hp : H p = none) (hm : Mu (some u)) : Ok S (upd H p u) (A ++ [p]) := by
  have q := o.new (u := u) hp
  refine ⟨List.nodup_append.mpr ⟨o.nd, by simp, fun a ha b hb e => ?_⟩, fun a ha => ?_, q.dom, q.tab⟩
  · rw [List.mem_singleton] at hb
    subst e; subst hb
    have := (o.own a ha).2
    rw [hp] at this; exact this
  · rcases List.mem_append.mp ha with ha | ha
    · exact q.own a ha
    · rw [List.mem_singleton] at ha
      subst ha
      refine ⟨fun z => ?_, by rw [upd_same]; exact hm⟩
      obtain ⟨x, e⟩ := o.dom a z
      rw [hp] at e; cases e
/-- an owned object is changed -/
theorem Fr.mutate {p : Addr} {u : HO} (hp : p ∈ A) (o : Ok S H A) : Fr S H A S (upd H p u) A :=
  ⟨fun a x e n _ => by rw [upd_ne (show a ≠ p from fun z => n (by rw [z]; exact hp))]; exact e, fun _ h => h, fun _ h => .inl h, fun _ h => .inl h, fun a x e => by
    by_cases z : a = p
    · subst z; exact ⟨u, upd_same⟩
    · exact ⟨x, by rw [upd_ne z]; exact e⟩⟩
theorem Ok.mutate {p : Addr} {u : HO} (hp : p ∈ A) (o : Ok S H A) (hm : Mu (some u)) : Ok S (upd H p u) A := ⟨o.nd, fun a ha => by
    refine ⟨(o.own a ha).1, ?_⟩
    by_cases z : a = p
    · subst z; rw [upd_same]; exact hm
    · rw [upd_ne z]; exact (o.own a ha).2, fun a ha => by
    obtain ⟨x, e⟩ := o.dom a ha
    by_cases z : a = p
    · subst z; exact ⟨u, upd_same⟩
    · exact ⟨x, by rw [upd_ne z]; exact e⟩, tabs_keep o.tab fun b x e nm => by
    have m := (o.own p hp).2
    rw [upd_ne (fun z => nm (by rw [z] at e; rw [← e]; exact m))]; exact e⟩
end
end Cb

end
section
set_option maxRecDepth 100000
set_option maxHeartbeats 4000000
/-! the plain language: its terms, what they mean -/
namespace Cb
open PySem L2

/-! ### equality and order of data -/
mutual
def eqW : W → W → Bool
  | .non, .non => true
  | .bl a, .bl b => a == b
  | .bl a, .int b => (if a then 1 else 0) == b
  | .int a, .bl b => a == (if b then 1 else 0)
  | .int a, .int b => a == b
  | .str a, .str b => decide (a = b)
  | .tup a, .tup b => eqWs a b
  | .lst a, .lst b => eqWs a b
  | _, _ => false
def eqWs : List W → List W → Bool
  | [], [] => true
  | a :: r, b :: s => eqW a b && eqWs r s
  | _, _ => false
end
/-! data that == reads: no dict, no object -/
mutual
def plainW : W → Bool
  | .non => true
  | .bl _ => true
  | .int _ => true
  | .str x => PyData.strOk x
  | .tup a => plainWs a
  | .lst a => plainWs a
  | _ => false
def plainWs : List W → Bool
  | [] => true
  | a :: r => plainW a && plainWs r
end
mutual
def depW : W → Nat
  | .tup a => depWs a + 1
  | .lst a => depWs a + 1
  | _ => 0
def depWs : List W → Nat
  | [] => 0
  | a :: r => max (depW a) (depWs r)
end
/-! what a dict's key may be: a tuple of data, not deep -/
mutual
def keyW : W → Bool
  | .non => true
  | .bl _ => true
  | .int _ => true
  | .str _ => true
  | .tup ws => keyWs ws
  | _ => false
def keyWs : List W → Bool
  | [] => true
  | w :: ws => keyW w && keyWs ws
end
def tkW : W → Bool
  | .tup ws => keyWs ws && decide (depWs ws ≤ 7)
  | _ => false
/-- what stands at k -/
def dgetN (k : W) : List (W × W) → Option W
  | [] => none
  | (a, b) :: r => if eqW a k then some b else dgetN k r
/-- in its place, or at the end -/
def dputN (k v : W) (kvs : List (W × W)) : List (W × W) :=
  if (kvs.any fun kv => eqW kv.1 k) = true then kvs.map (fun kv => if eqW kv.1 k = true then (kv.1, v) else kv) else kvs ++ [(k, v)]
def shW (a : W) : Bool := plainW a && decide (depW a ≤ 60)
def shWs (a : List W) : Bool := plainWs a && decide (depWs a ≤ 60)
/-! what < is asked of: ints, or tuples whose items can be compared place by place -/
mutual
def cmpW : W → W → Bool
  | .int _, .int _ => true
  | .tup a, .tup b => cmpWs a b
  | _, _ => false
def cmpWs : List W → List W → Bool
  | [], _ => true
  | _ :: _, [] => true
  | a :: r, b :: s => cmpW a b && cmpWs r s
end
mutual
def ltW : W → W → Bool
  | .int a, .int b => decide (a < b)
  | .tup a, .tup b => ltWs a b
  | _, _ => false
def ltWs : List W → List W → Bool
  | [], [] => false
  | [], _ :: _ => true
  | _ :: _, [] => false
  | a :: r, b :: s => if eqW a b then ltWs r s else ltW a b
end
/-- what is sorted: any two of them can be compared -/
def sortable (ws : List W) : Bool := shWs ws && ws.all fun a => ws.all (cmpW a)

/-! ### outcomes -/
/-- an error: its class, its fields -/
structure Ex where
  c : Str
  fs : List (Str × W)
inductive R (α : Type) where
  | ok (a : α) (e : Env)
  | ex (x : Ex) (e : Env)
  | bad
def R.bind {α β : Type} (r : R α) (k : α → Env → R β) : R β := match r with
  | .ok a e => k a e
  | .ex x e => .ex x e
  | .bad => .bad
/-- what a call gives: its value, the arguments as they stand behind it -/
inductive MR where
  | ok (z : Z) (back : List Z)
  | ex (x : Ex) (back : List Z)
  | bad
abbrev Mean := List Z → MR
inductive SR where
  | nx (e : Env) | rt (z : Z) (e : Env) | bk (e : Env) | ct (e : Env) | ex (x : Ex) (e : Env) | bad
/-- an operand: a value, or a slot that is read when the operation runs -/
inductive Od where
  | w (x : W) | s (i : Nat)

/-! ### terms -/
inductive Ty where
  | int | bool | tuple | list | dict | str | own (c : Str)
/-- operations on operands; the Python that they stand for is told by mPr -/
inductive Pr where
  | add | sub | mul | fdiv | mod | pow | shl | shr | band
  | eq | ne | lt | le | gt | ge | inn | nin | isNon | notNon | isBl (b : Bool)
  | ix | sl (lo hi : Option Int) | slFrom | slTo | fld (cs : List Str) (f : Str)
  | len | all | any | abs | int | min | max | sum | sorted | list | tuple | neg
  | isinst (ts : List Ty) | sortedLen (x : Str) (n : Int)
  | sset | get | index | count | sortK | sortLT | isB | notB | rev | lset
/-- what a loop walks -/
inductive Itk where
  | val | rng1 | rng2 | enum | zip | enT | rgv
inductive Tg where
  | nm (i : Nat) | tup (is : List Nat)
/-- methods that change their object -/
inductive Mt where
  | append | extend | pop0 | pop1 | clear
mutual
inductive E where
  | var (i : Nat)
  | c (w : W)
  | gl (x : Str) (w : W)
  | tup (es : Es) | lst (es : Es) | dic (ks : List Str) (es : Es)
  | pr (p : Pr) (es : Es)
  | and (es : Es) | or (es : Es) | not (e : E) | ite (c a b : E)
  | chain (es : Es)
  | call (nm : Str) (m : Mean) (es : Es)
  | mk (cls : Str) (m : Mean) (es : Es)
  | mut (t : Mt) (i : Nat) (es : Es)
  | lc (own : List (Str × Nat)) (tg : Tg) (k : Itk) (ies : Es) (ifs : Es) (el : E)
inductive Es where
  | nil | cons (e : E) (es : Es)
end
mutual
inductive S where
  | set (i : Nat) (e : E)
  | setT (is : List Nat) (e : E)
  | par (is : List Nat) (es : Es)
  | setSub (i : Nat) (k e : E)
  | setFld (i : Nat) (f : Str) (e : E)
  | aug (i : Nat) (p : Pr) (e : E)
  | ex (e : E)
  | ite (c : E) (a b : Ss)
  | for_ (tg : Tg) (k : Itk) (es : Es) (b : Ss)
  | while_ (fuel : Env → Nat) (c : E) (b : Ss)
  | ret (e : E) | retv (i : Nat) | retN
  | pass | bk | ct
  | never
inductive Ss where
  | nil | cons (s : S) (ss : Ss)
end

/-! ### operations -/
def asInts : List W → Option (List Int)
  | [] => some []
  | .int i :: r => (asInts r).map (i :: ·)
  | _ => none
def asBls : List W → Option (List Bool)
  | [] => some []
  | .bl i :: r => (asBls r).map (i :: ·)
  | _ => none
/-- insertion, stable: behind all that are not above -/
def insW (lt : W → W → Bool) (x : W) : List W → List W
  | [] => [x]
  | y :: r => if lt y x then y :: insW lt x r else x :: y :: r
def sortW (lt : W → W → Bool) : List W → List W
  | [] => []
  | x :: r => insW lt x (sortW lt r)
def bnd (n : Int) : Bool := decide (-(2 ^ 62) ≤ n) && decide (n < 2 ^ 62)
def kOf : W → Option Key
  | .int i => some (.inl i)
  | .str x => some (.inr x)
  | _ => none
def isKit : W → Bool
  | .obj _ _ => false
  | .rng _ _ => false
  | .dW _ => false
  | .fn _ => false
  | _ => true
def isTy : Ty → W → Bool
  | .int, .int _ => true
  | .int, .bl _ => true
  | .bool, .bl _ => true
  | .tuple, .tup _ => true
  | .list, .lst _ => true
  | .list, .scr _ => true
  | .dict, .dK _ => true
  | .dict, .dW _ => true
  | .str, .str _ => true
  | .own c, .obj d _ => decide (c = d)
  | _, _ => false
def small (i : Int) : Bool := decide (-(2 ^ 64) < i) && decide (i < 2 ^ 64)
def mulOk (i j : Int) : Bool := small i || small j || decide (i.natAbs.log2 + j.natAbs.log2 < 1000000)
def sizeOk (n : Nat) : Bool := decide (n ≤ 16777216)
/-- in its place, or at the end -/
def dput (k : Key) (v : W) (kvs : List (Key × W)) : List (Key × W) :=
  if (kvs.any fun kv => decide (kv.1 = k)) = true then kvs.map (fun kv => if kv.1 = k then (kv.1, v) else kv) else kvs ++ [(k, v)]
def dgetW (k : Key) : List (Key × W) → Option W
  | [] => none
  | (a, b) :: r => if a = k then some b else dgetW k r
def dedup : List Int → List Int
  | [] => []
  | x :: r => if x ∈ r then dedup r else x :: dedup r
def isNonW : W → Bool
  | .non => true
  | _ => false
def isBlW (b : Bool) : W → Option Bool
  | .bl c => some (decide (c = b))
  | _ => none
/-! what the operations give, of the operands as they are seen -/
def p_add : List W → Option Z
  | [.int i, .int j] => some (.w (.int (i + j)))
  | [.tup a, .tup b] => if sizeOk (a.length + b.length) then some (.w (.tup (a ++ b))) else none
  | [.lst a, .lst b] => if sizeOk (a.length + b.length) then some (.L (a ++ b)) else none
  | _ => none
def p_sub : List W → Option Z
  | [.int i, .int j] => some (.w (.int (i - j)))
  | _ => none
def p_mul : List W → Option Z
  | [.int i, .int j] => if mulOk i j then some (.w (.int (i * j))) else none
  | [.lst a, .int k] => if bnd k && decide (a.length * k.toNat ≤ 16777216) then some (.L (List.replicate k.toNat a).flatten) else none
  | _ => none
/-- x is y of bools -/
def p_isB : List W → Option Z
  | [.bl a, .bl b] => some (.w (.bl (decide (a = b))))
  | _ => none
def p_notB : List W → Option Z
  | [.bl a, .bl b] => some (.w (.bl (!decide (a = b))))
  | _ => none
def p_fdiv : List W → Option Z
  | [.int i, .int j] => if decide (0 < j) && decide (j.natAbs.log2 < 9000) then some (.w (.int (i / j))) else none
  | _ => none
def p_mod : List W → Option Z
  | [.int i, .int j] => if decide (0 < j) then some (.w (.int (i % j))) else none
  | _ => none
def p_pow : List W → Option Z
  | [.int i, .int j] => if small i && decide (0 ≤ j) && decide (j ≤ 1000000) then some (.w (.int (i ^ j.toNat))) else none
  | _ => none
def p_shl : List W → Option Z
  | [.int i, .int j] => if small i && decide (0 ≤ j) && decide (j ≤ 1000000) then some (.w (.int (i * 2 ^ j.toNat))) else none
  | _ => none
def p_shr : List W → Option Z
  | [.int i, .int j] => if decide (0 ≤ j) then some (.w (.int (i / 2 ^ j.toNat))) else none
  | _ => none
def p_band : List W → Option Z
  | [.int i, .int j] => some (.w (.int (Builtin.bitAnd i j)))
  | _ => none
/-- xs[::-1] -/
def p_rev : List W → Option Z
  | [.tup a] => if sizeOk a.length then some (.w (.tup a.reverse)) else none
  | [.lst a] => some (.L a.reverse)
  | _ => none
def p_neg : List W → Option Z
  | [.int i] => some (.w (.int (-i)))
  | _ => none
def p_eq : List W → Option Z
  | [a, b] => if shW a && shW b then some (.w (.bl (eqW a b))) else none
  | _ => none
def p_ne : List W → Option Z
  | [a, b] => if shW a && shW b then some (.w (.bl (!eqW a b))) else none
  | _ => none
def p_lt : List W → Option Z
  | [.int i, .int j] => some (.w (.bl (decide (i < j))))
  | [.tup a, .tup b] => if cmpWs a b && shWs a && shWs b then some (.w (.bl (ltWs a b))) else none
  | _ => none
def p_le : List W → Option Z
  | [.int i, .int j] => some (.w (.bl (decide (i ≤ j))))
  | _ => none
def p_gt : List W → Option Z
  | [.int i, .int j] => some (.w (.bl (decide (j < i))))
  | _ => none
def p_ge : List W → Option Z
  | [.int i, .int j] => some (.w (.bl (decide (j ≤ i))))
  | _ => none
def p_inn : List W → Option Z
  | [a, .tup b] => if shW a && shWs b then some (.w (.bl (b.any fun x => eqW x a))) else none
  | [a, .lst b] => if shW a && shWs b then some (.w (.bl (b.any fun x => eqW x a))) else none
  | [a, .dK b] => (match kOf a with
    | some k => some (.w (.bl (dgetW k b).isSome))
    | none => if tkW a && b.isEmpty then some (.w (.bl false)) else none)
  | [a, .dW b] => if tkW a then some (.w (.bl (b.any fun kv => eqW kv.1 a))) else none
  | _ => none
def p_nin : List W → Option Z
  | [a, .tup b] => if shW a && shWs b then some (.w (.bl (!b.any fun x => eqW x a))) else none
  | [a, .lst b] => if shW a && shWs b then some (.w (.bl (!b.any fun x => eqW x a))) else none
  | [a, .dK b] => (match kOf a with
    | some k => some (.w (.bl (!(dgetW k b).isSome)))
    | none => if tkW a && b.isEmpty then some (.w (.bl true)) else none)
  | [a, .dW b] => if tkW a then some (.w (.bl (!(b.any fun kv => eqW kv.1 a)))) else none
  | _ => none
def p_isNon : List W → Option Z
  | [a] => some (.w (.bl (isNonW a)))
  | _ => none
def p_notNon : List W → Option Z
  | [a] => some (.w (.bl (!isNonW a)))
  | _ => none
def p_isBl (b : Bool) : List W → Option Z
  | [a] => (isBlW b a).map fun c => .w (.bl c)
  | _ => none
def p_ix : List W → Option Z
  | [.lst a, .int i] => (atI a i).map .w
  | [.tup a, .int i] => (atI a i).map .w
  | [.dK a, k] => (kOf k).bind fun k => (dgetW k a).map .w
  | [.dW a, k] => if tkW k then (dgetN k a).map .w else none
  | _ => none
/-- d.get(k, x) -/
def p_get : List W → Option Z
  | [.dK a, k, x] => (match kOf k with
    | some k => some (.w ((dgetW k a).getD x))
    | none => if tkW k && a.isEmpty then some (.w x) else none)
  | [.dW a, k, x] => if tkW k then some (.w ((dgetN k a).getD x)) else none
  | _ => none
def p_sl (lo : Option Int) (hi : Option Int) : List W → Option Z
  | [.tup a] => some (.w (.tup ((a.drop (HT.sIx a.length 0 lo)).take (HT.sIx a.length a.length hi - HT.sIx a.length 0 lo))))
  | [.lst a] => some (.L ((a.drop (HT.sIx a.length 0 lo)).take (HT.sIx a.length a.length hi - HT.sIx a.length 0 lo)))
  | [.scr a] => some (.L (((a.drop (HT.sIx a.length 0 lo)).take (HT.sIx a.length a.length hi - HT.sIx a.length 0 lo)).map .int))
  | _ => none
def p_slFrom : List W → Option Z
  | [.lst a, .int i] => some (.L ((a.drop (HT.sIx a.length 0 (some i))).take (a.length - HT.sIx a.length 0 (some i))))
  | [.tup a, .int i] => some (.w (.tup ((a.drop (HT.sIx a.length 0 (some i))).take (a.length - HT.sIx a.length 0 (some i)))))
  | _ => none
def p_fld (cs : List Str) (f : Str) : List W → Option Z
  | [.obj c fs] => if cs.contains c then (fs.lookup f).map .w else none
  | _ => none
def p_len : List W → Option Z
  | [.tup a] => some (.w (.int a.length))
  | [.lst a] => some (.w (.int a.length))
  | [.dK a] => some (.w (.int a.length))
  | [.dW a] => some (.w (.int a.length))
  | _ => none
def p_all : List W → Option Z
  | [.lst a] => (asBls a).map fun bs => .w (.bl (bs.all id))
  | _ => none
def p_any : List W → Option Z
  | [.lst a] => (asBls a).map fun bs => .w (.bl (bs.any id))
  | _ => none
def p_abs : List W → Option Z
  | [.int i] => some (.w (.int (if i < 0 then -i else i)))
  | _ => none
def p_int : List W → Option Z
  | [.int i] => some (.w (.int i))
  | _ => none
def p_sum : List W → Option Z
  | [.lst a] => (asInts a).map fun ns => .w (.int ns.sum)
  | _ => none
/-- the first of the least -/
def minF : W → List W → W
  | b, [] => b
  | b, x :: r => minF (if ltW x b then x else b) r
def minW : List W → Option W
  | [] => none
  | x :: r => some (minF x r)
def p_min : List W → Option Z
  | [.lst a] => if sortable a then (minW a).map .w else none
  | [.int i, .int j] => some (.w (.int (if j < i then j else i)))
  | _ => none
/-- the first place of an equal one -/
def idxW (a : W) : List W → Option Nat
  | [] => none
  | x :: r => if eqW x a then some 0 else (idxW a r).map fun n => n + 1
def p_index : List W → Option Z
  | [.tup b, a] => if shW a && shWs b then (idxW a b).map fun n => .w (.int (n : Nat)) else none
  | [.lst b, a] => if shW a && shWs b then (idxW a b).map fun n => .w (.int (n : Nat)) else none
  | _ => none
/-- xs.count(a) -/
def p_count : List W → Option Z
  | [.lst b, a] => if shW a && shWs b then some (.w (.int (b.countP fun x => eqW x a : Nat))) else none
  | _ => none
def intKeys : List (Key × W) → Option (List Int)
  | [] => some []
  | (.inl i, _) :: r => (intKeys r).map (i :: ·)
  | _ => none
def p_max : List W → Option Z
  | [.lst a] => (asInts a).bind fun ns => ns.max?.map fun m => .w (.int m)
  | _ => none
def p_list : List W → Option Z
  | [.tup a] => some (.L a)
  | [.lst a] => some (.L a)
  | _ => none
def p_tuple : List W → Option Z
  | [.tup a] => some (.w (.tup a))
  | [.lst a] => some (.w (.tup a))
  | _ => none
def p_sorted : List W → Option Z
  | [.lst a] => if sortable a then some (.L (sortW ltW a)) else none
  | [.tup a] => if sortable a then some (.L (sortW ltW a)) else none
  | _ => none
/-- sorted(d), d with few ints as keys -/
def p_sortK : List W → Option Z
  | [.dK a] => if decide (a.length < 64) then (intKeys a).map fun ks => .L (sortW ltW (ks.map .int)) else none
  | [.dW a] => if sortable (a.map (·.1)) then some (.L (sortW ltW (a.map (·.1)))) else none
  | _ => none
def p_isinst (ts : List Ty) : List W → Option Z
  | [a] => if isKit a then some (.w (.bl (ts.any fun t => isTy t a))) else none
  | _ => none
/-- each once -/
def dedupW : List W → List W
  | [] => []
  | x :: r => if (r.any fun y => eqW y x) then dedupW r else x :: dedupW r
def pairW : W → Option (Int × Int)
  | .tup [.int i, .int j] => if decide (0 ≤ i) && decide (i < 64) && decide (0 ≤ j) && decide (j < 64) then some (i, j) else none
  | _ => none
def pairsW : List W → Option (List (Int × Int))
  | [] => some []
  | w :: ws => match pairW w, pairsW ws with
    | some p, some ps => some (p :: ps)
    | _, _ => none
/-- sorted(set(xs)), xs few ints or few tuples of ints -/
def isI : W → Bool
  | .int _ => true
  | _ => false
def isIT : W → Bool
  | .tup l => (asInts l).isSome
  | _ => false
def p_sset : List W → Option Z
  | [.tup a] => if (a.all isI && decide (a.length < 64) || a.all isIT && decide ((dedupW a).length ≤ 76)) && sortable a then some (.L (sortW ltW (dedupW a))) else none
  | [.lst a] => if a.all isIT && decide ((dedupW a).length ≤ 76) && sortable a then some (.L (sortW ltW (dedupW a))) else none
  | _ => none
/-- len(set(xs)), xs ints -/
def p_lset : List W → Option Z
  | [.tup a] => if a.all isI && decide (a.length < 64) then some (.w (.int (dedupW a).length)) else none
  | _ => none
/-- sorted(xs, key=lambda x: (len(x), x)), xs tuples of ints -/
def keyLW : W → W
  | .tup l => .tup [.int (l.length : Nat), .tup l]
  | w => w
def unKey : W → W
  | .tup [_, w] => w
  | w => w
def p_sortLT : List W → Option Z
  | [.lst a] => if a.all isIT && sortable (a.map keyLW) then some (.L ((sortW ltW (a.map keyLW)).map unKey)) else none
  | _ => none
def prW : Pr → List W → Option Z
  | .add => p_add
  | .sub => p_sub
  | .mul => p_mul
  | .fdiv => p_fdiv
  | .mod => p_mod
  | .pow => p_pow
  | .neg => p_neg
  | .eq => p_eq
  | .ne => p_ne
  | .lt => p_lt
  | .le => p_le
  | .gt => p_gt
  | .ge => p_ge
  | .inn => p_inn
  | .nin => p_nin
  | .isNon => p_isNon
  | .notNon => p_notNon
  | .isBl b => p_isBl b
  | .ix => p_ix
  | .sl lo hi => p_sl lo hi
  | .slFrom => p_slFrom
  | .fld cs f => p_fld cs f
  | .len => p_len
  | .all => p_all
  | .any => p_any
  | .abs => p_abs
  | .int => p_int
  | .sum => p_sum
  | .min => p_min
  | .max => p_max
  | .list => p_list
  | .tuple => p_tuple
  | .sorted => p_sorted
  | .isinst ts => p_isinst ts
  | .sset => p_sset
  | .index => p_index
  | .get => p_get
  | .sortK => p_sortK
  | .sortLT => p_sortLT
  | .isB => p_isB
  | .shl => p_shl
  | .shr => p_shr
  | .band => p_band
  | .rev => p_rev
  | .count => p_count
  | .lset => p_lset
  | .notB => p_notB
  | _ => fun _ => none
def itW : Itk → List W → Option (List W)
  | .val, [.lst a] => some a
  | .val, [.tup a] => some a
  | .rng1, [.int n] => if bnd n then some ((List.range n.toNat).map fun (k : Nat) => .int (k : Int)) else none
  | .rng2, [.int m, .int n] => if bnd m && bnd n then some ((List.range (n - m).toNat).map fun (k : Nat) => .int (m + (k : Int))) else none
  | .rgv, [.rng m n] => if bnd m && bnd n then some ((List.range (n - m).toNat).map fun (k : Nat) => .int (m + (k : Int))) else none
  | .enum, [.lst a] => some (a.zipIdx.map fun p => .tup [.int (p.2 : Int), p.1])
  | .enT, [.tup a] => some (a.zipIdx.map fun p => .tup [.int (p.2 : Int), p.1])
  | .zip, [.lst a, .lst b] => some ((a.zip b).map fun p => .tup [p.1, p.2])
  | .zip, [.tup a, .tup b] => some ((a.zip b).map fun p => .tup [p.1, p.2])
  | _, _ => none
def mtZ : Mt → Z → List W → Option (Z × Z)
  | .append, .L a, [x] => if decide (a.length < 16777216) then some (.w .non, .L (a ++ [x])) else none
  | .extend, .L a, [.lst b] => if sizeOk (a.length + b.length) then some (.w .non, .L (a ++ b)) else none
  | .pop0, .L a, [] => (a[a.length - 1]?).map fun x => (.w x, .L a.dropLast)
  | .pop1, .L a, [.int i] => if bnd i then (seqIndex? i a.length).bind fun k => (a[k]?).map fun x => (.w x, .L (a.eraseIdx k)) else none
  | .clear, .L _, [] => some (.w .non, .L [])
  | _, _, _ => none

/-! ### slots -/
/-- a caught error, a lambda that was handed on, are not read like values -/
def okZ : Option Z → Option Z
  | some .err => none
  | some (.clo _ _) => none
  | o => o
def gets : Env → Nat → Option Z
  | [], _ => none
  | o :: _, 0 => okZ o
  | _ :: r, i + 1 => gets r i
theorem okZ_iff {o : Option Z} {z : Z} : okZ o = some z ↔ o = some z ∧ z ≠ .err ∧ ∀ a b, z ≠ .clo a b := by
  cases o with
  | none => simp [okZ]
  | some y =>
    cases y with
    | err => simp only [okZ]; exact ⟨fun h => (nomatch h), fun ⟨h1, h2, _⟩ => absurd (Option.some.inj h1).symm h2⟩
    | clo a b => simp only [okZ]; exact ⟨fun h => (nomatch h), fun ⟨h1, _, h2⟩ => absurd (Option.some.inj h1).symm (h2 a b)⟩
    | _ => simp only [okZ, Option.some.injEq]; exact ⟨fun h => ⟨h, h ▸ Z.noConfusion, fun a b => h ▸ Z.noConfusion⟩, fun h => h.1⟩
theorem gets_iff : ∀ {env : Env} {i : Nat} {z : Z}, gets env i = some z ↔ env[i]? = some (some z) ∧ z ≠ .err ∧ ∀ a b, z ≠ .clo a b
  | [], _, _ => by simp [gets]
  | o :: r, 0, _ => by simp [gets, okZ_iff]
  | o :: r, i + 1, _ => by simp [gets, gets_iff]
def Od.res (env : Env) : Od → Option Z
  | .w x => some (.w x)
  | .s i => gets env i
def resAll (env : Env) : List Od → Option (List Z)
  | [] => some []
  | o :: r => match o.res env, resAll env r with
    | some z, some zs => some (z :: zs)
    | _, _ => none
def isOwn : Z → Bool
  | .w _ => false
  | _ => true
/-- the slots whose objects a call is lent -/
def lent : List Od → List Z → List Nat
  | .s i :: r, z :: zs => if isOwn z then i :: lent r zs else lent r zs
  | _ :: r, _ :: zs => lent r zs
  | _, _ => []
def putBack : List Od → List Z → List Z → Env → Env
  | .s i :: r, z :: zs, b :: bs, env => putBack r zs bs (if isOwn z then env.set i (some b) else env)
  | _ :: r, _ :: zs, _ :: bs, env => putBack r zs bs env
  | _, _, _, env => env
def nodupB : List Nat → Bool
  | [] => true
  | x :: r => !r.contains x && nodupB r
def callM (m : Mean) (ods : List Od) (env : Env) : R Z := match resAll env ods with
  | none => .bad
  | some zs => if nodupB (lent ods zs) then (match m zs with
    | .ok z back => if back.length = zs.length then .ok z (putBack ods zs back env) else .bad
    | .ex x back => if back.length = zs.length then .ex x (putBack ods zs back env) else .bad
    | .bad => .bad) else .bad
/-- C(..): m is what __init__ means -/
def makeM (c : Str) (m : Mean) (ods : List Od) (env : Env) : R Z := match resAll env ods with
  | none => .bad
  | some zs => if (lent ods zs).isEmpty then (match m (.obj c [] :: zs) with
    | .ok (.w .non) (z :: _) => .ok z env
    | .ex x _ => .ex x env
    | _ => .bad) else .bad
def primM (p : Pr) (ods : List Od) (env : Env) : R Z := match resAll env ods with
  | none => .bad
  | some zs => match prW p (zs.map frz) with
    | some z => .ok z env
    | none => .bad
def isL : Option Z → Bool
  | some (.L _) => true
  | _ => false
def mutM (t : Mt) (i : Nat) (ws : List W) (env : Env) : R Z := match gets env i with
  | some z => (match mtZ t z ws with
    | some (v, z') => .ok v (env.set i (some z'))
    | none => .bad)
  | none => .bad
def setMany : List Nat → List W → Env → SR
  | [], [], env => .nx env
  | i :: is, w :: ws, env => if i < env.length then setMany is ws (env.set i (some (.w w))) else .bad
  | _, _, _ => .bad
def setTg : Tg → W → Env → Option Env
  | .nm i, w, env => if i < env.length then some (env.set i (some (.w w))) else none
  | .tup is, .tup ws, env => (match setMany is ws env with
    | .nx e => some e
    | _ => none)
  | _, _, _ => none
def wipeE (env : Env) : List Nat → Env
  | [] => env
  | v :: vs => (wipeE env vs).set v none
/-- the block's own names again as they were ahead of it (what was owned is given up) -/
def restE (env0 env : Env) : List Nat → Env
  | [] => env
  | v :: vs => (restE env0 env vs).set v (match gets env0 v with
    | some (.w x) => some (.w x)
    | _ => none)
def lcLoop (body : W → Env → R (Option W)) : List W → Env → List W → R (List W)
  | [], env, acc => .ok acc env
  | w :: ws, env, acc => (body w env).bind fun x env => match x with
    | none => lcLoop body ws env acc
    | some y => if acc.length < 16777216 then lcLoop body ws env (acc ++ [y]) else .bad
def asB (z : Z) : Option Bool := match z with
  | .w (.bl b) => some b
  | _ => none
/-! each construct's meaning, from those of its parts -/
abbrev Den (α : Type) := Env → R α
def cVar (i : Nat) : Den Z := fun env => match gets env i with
  | some z => .ok (.w (frz z)) (env.set i (some (.w (frz z))))
  | none => .bad
def cC (w : W) : Den Z := fun env => .ok (.w w) env
def cTup (d : Den (List W)) : Den Z := fun env => (d env).bind fun ws env => if sizeOk ws.length then .ok (.w (.tup ws)) env else .bad
def cLst (d : Den (List W)) : Den Z := fun env => (d env).bind fun ws env => if sizeOk ws.length then .ok (.L ws) env else .bad
def cDic (ks : List Str) (d : Den (List W)) : Den Z := fun env => (d env).bind fun ws env => if decide (ks.length = ws.length) && decide ks.Nodup && sizeOk ws.length then .ok (.dK ((ks.map Sum.inr).zip ws)) env else .bad
def cPr (p : Pr) (d : Den (List Od)) : Den Z := fun env => (d env).bind (primM p)
def cB (d : Den Bool) : Den Z := fun env => (d env).bind fun b env => .ok (.w (.bl b)) env
def cT (d : Den Z) : Den Bool := fun env => (d env).bind fun z env => match asB z with
  | some b => .ok b env
  | none => .bad
def cNot (d : Den Bool) : Den Bool := fun env => (d env).bind fun b env => .ok (!b) env
def cIte {α : Type} (t : Den Bool) (a b : Den α) : Den α := fun env => (t env).bind fun t env => if t then a env else b env
def cAnd (d e : Den Bool) : Den Bool := fun env => (d env).bind fun b env => if b then e env else .ok false env
def cOr (d e : Den Bool) : Den Bool := fun env => (d env).bind fun b env => if b then .ok true env else e env
def cChain (d : Den (List W)) : Den Z := fun env => (d env).bind fun ws env => match ws with
  | [.int i, .int j, .int k] => .ok (.w (.bl (decide (i ≤ j) && decide (j ≤ k)))) env
  | _ => .bad
def cCall (m : Mean) (d : Den (List Od)) : Den Z := fun env => (d env).bind (callM m)
def cMk (c : Str) (m : Mean) (d : Den (List Od)) : Den Z := fun env => (d env).bind (makeM c m)
def cMut (t : Mt) (i : Nat) (d : Den (List W)) : Den Z := fun env => if isL (gets env i) then (d env).bind (mutM t i) else .bad
def lcTurn (vs : List Nat) (tg : Tg) (t : Den Bool) (d : Den Z) (w : W) (env : Env) : R (Option W) := match setTg tg w env with
  | none => .bad
  | some env => (t env).bind fun b env => if b then (d env).bind fun y env => .ok (some (frz y)) (wipeE env vs) else .ok none (wipeE env vs)
def noX {α : Type} (r : R α) : R α := match r with
  | .ex _ _ => .bad
  | r => r
def cIt (k : Itk) (d : Den (List W)) : Den (List W) := fun env => (d env).bind fun zs env => match itW k zs with
  | some items => .ok items env
  | none => .bad
def cLc (vs : List Nat) (tg : Tg) (k : Itk) (di : Den (List W)) (t : Den Bool) (d : Den Z) : Den Z := fun env => (cIt k di env).bind fun items env1 =>
  (noX (lcLoop (lcTurn vs tg t d) items (wipeE env1 vs) [])).bind fun ys env2 => .ok (.L ys) (restE env1 env2 vs)
def cNil {α : Type} : Den (List α) := fun env => .ok [] env
def cCons (d : Den Z) (ds : Den (List W)) : Den (List W) := fun env => (d env).bind fun z env => (ds env).bind fun ws env => .ok (frz z :: ws) env
def cOd (d : Den Z) : Den Od := fun env => (d env).bind fun z env => .ok (.w (frz z)) env
def cOs (i : Nat) : Den Od := fun env => match gets env i with
  | some _ => .ok (.s i) env
  | none => .bad
def cConsO (d : Den Od) (ds : Den (List Od)) : Den (List Od) := fun env => (d env).bind fun z env => (ds env).bind fun ws env => .ok (z :: ws) env
def cTrue : Den Bool := fun env => .ok true env
def cFalse : Den Bool := fun env => .ok false env
mutual
def evE : E → Den Z
  | .var i => cVar i
  | .c w => cC w
  | .gl _ w => cC w
  | .tup es => cTup (evWs es)
  | .lst es => cLst (evWs es)
  | .dic ks es => cDic ks (evWs es)
  | .pr p es => cPr p (evOs es)
  | .and es => cB (evAnd es)
  | .or es => cB (evOr es)
  | .not e => cB (cNot (cT (evE e)))
  | .ite c a b => cIte (cT (evE c)) (evE a) (evE b)
  | .chain es => cChain (evWs es)
  | .call _ m es => cCall m (evOs es)
  | .mk c m es => cMk c m (evOs es)
  | .mut t i es => cMut t i (evWs es)
  | .lc own tg k ies ifs el => cLc (own.map (·.2)) tg k (evWs ies) (evAnd ifs) (evE el)
def evWs : Es → Den (List W)
  | .nil => cNil
  | .cons e es => cCons (evE e) (evWs es)
def evOs : Es → Den (List Od)
  | .nil => cNil
  | .cons e es => cConsO (match e with | .var i => cOs i | e => cOd (evE e)) (evOs es)
def evAnd : Es → Den Bool
  | .nil => cTrue
  | .cons e es => cAnd (cT (evE e)) (evAnd es)
def evOr : Es → Den Bool
  | .nil => cFalse
  | .cons e es => cOr (cT (evE e)) (evOr es)
end

/-! ### statements -/
def evFor (g : W → Env → Option Env) (b : Env → SR) : List W → Env → SR
  | [], env => .nx env
  | w :: ws, env => match g w env with
    | none => .bad
    | some env => match b env with
      | .nx env => evFor g b ws env
      | .ct env => evFor g b ws env
      | .bk env => .nx env
      | r => r
def evWhile (c : Env → R Bool) (b : Env → SR) : Nat → Env → SR
  | 0, _ => .bad
  | n + 1, env => match c env with
    | .ok true env => (match b env with
      | .nx env => evWhile c b n env
      | .ct env => evWhile c b n env
      | .bk env => .nx env
      | r => r)
    | .ok false env => .nx env
    | .ex x env => .ex x env
    | .bad => .bad
def SR.of (r : R SR) : SR := match r with
  | .ok s _ => s
  | .ex x e => .ex x e
  | .bad => .bad
def setSl (i : Nat) (z : Z) (env : Env) : SR := if i < env.length then .nx (env.set i (some z)) else .bad
def setItem (o : Z) (k v : W) : Option Z := match o with
  | .L ws => (match k with
    | .int i => (ixN ws.length i).map fun j => .L (ws.set j v)
    | _ => none)
  | .dK kvs => (match kOf k with
    | some k => if decide (kvs.length < 16777216) then some (.dK (dput k v kvs)) else none
    | none => if tkW k && kvs.isEmpty then some (.dW [(k, v)]) else none)
  | .dW kvs => if tkW k && decide (kvs.length < 16777216) then some (.dW (dputN k v kvs)) else none
  | _ => none
def putFW (f : Str) (v : W) : List (Str × W) → List (Str × W)
  | [] => [(f, v)]
  | (g, b) :: r => if g = f then (f, v) :: r else (g, b) :: putFW f v r
abbrev DenS := Env → SR
def kSet (i : Nat) (d : Den Z) : DenS := fun env => SR.of ((d env).bind fun z env => .ok (setSl i z env) env)
def kSetT (is : List Nat) (d : Den Z) : DenS := fun env => SR.of ((d env).bind fun z env => match frz z with
    | .tup ws => .ok (setMany is ws env) env
    | _ => .bad)
def kPar (is : List Nat) (d : Den (List W)) : DenS := fun env => SR.of ((d env).bind fun ws env => .ok (setMany is ws env) env)
def kSetSub (i : Nat) (dk d : Den Z) : DenS := fun env => SR.of ((d env).bind fun v env => match gets env i with
    | none => .bad
    | some _ => (dk env).bind fun k env => match gets env i with
      | some o => (match setItem o (frz k) (frz v) with
        | some o => .ok (.nx (env.set i (some o))) env
        | none => .bad)
      | none => .bad)
def kSetFld (cs : List Str) (i : Nat) (f : Str) (d : Den Z) : DenS := fun env => SR.of ((d env).bind fun v env => match gets env i with
    | some (.obj c fs) => if cs.contains c && decide (fs.length < 1000) then .ok (.nx (env.set i (some (.obj c (putFW f (frz v) fs))))) env else .bad
    | _ => .bad)
def kAug (i : Nat) (p : Pr) (d : Den Z) : DenS := fun env => SR.of (match gets env i with
    | some (.w (.int a)) => (d env).bind fun z env => match prW p [.int a, frz z] with
      | some (.w w) => .ok (setSl i (.w w) env) env
      | _ => .bad
    | _ => .bad)
def kEx (d : Den Z) : DenS := fun env => SR.of ((d env).bind fun _ env => .ok (.nx env) env)
def kIte (t : Den Bool) (a b : DenS) : DenS := fun env => SR.of ((t env).bind fun t env => .ok (if t then a env else b env) env)
def kFor (tg : Tg) (k : Itk) (d : Den (List W)) (b : DenS) : DenS := fun env => SR.of ((cIt k d env).bind fun items env => .ok (evFor (setTg tg) b items env) env)
def kWhile (f : Env → Nat) (t : Den Bool) (b : DenS) : DenS := fun env => evWhile t b (f env) env
def kRet (d : Den Z) : DenS := fun env => SR.of ((d env).bind fun z env => .ok (.rt z env) env)
def kRetv (i : Nat) : DenS := fun env => match gets env i with
    | some z => .rt z (env.set i none)
    | none => .bad
def kSeq (a b : DenS) : DenS := fun env => match a env with
    | .nx env => b env
    | r => r
mutual
def evS : S → DenS
  | .set i e => kSet i (evE e)
  | .setT is e => kSetT is (evE e)
  | .par is es => kPar is (evWs es)
  | .setSub i k e => kSetSub i (evE k) (evE e)
  | .setFld i f e => kSetFld [] i f (evE e)
  | .aug i p e => kAug i p (evE e)
  | .ex e => kEx (evE e)
  | .ite c a b => kIte (cT (evE c)) (evSs a) (evSs b)
  | .for_ tg k es b => kFor tg k (evWs es) (evSs b)
  | .while_ f c b => kWhile f (cT (evE c)) (evSs b)
  | .ret e => kRet (evE e)
  | .retv i => kRetv i
  | .retN => fun env => .rt (.w .non) env
  | .pass => fun env => .nx env
  | .bk => fun env => .bk env
  | .ct => fun env => .ct env
  | .never => fun _ => .bad
def evSs : Ss → DenS
  | .nil => fun env => .nx env
  | .cons s ss => kSeq (evS s) (evSs ss)
end
/-- a def: its parameters' number, its slots' number, which parameters are never stored -/
structure Df where
  np : Nat
  ns : Nat
  keeps : List Nat
  body : DenS
def backOf (d : Df) (zs : List Z) (env : Env) : Option (List Z) := (List.range d.np).mapM fun i =>
  if d.keeps.contains i then gets env i else (match zs[i]? with
    | some (.w x) => some (.w x)
    | _ => none)
def evD (d : Df) : Mean := fun zs => if zs.length = d.np then (match d.body (zs.map some ++ List.replicate (d.ns - d.np) none) with
  | .nx e => (match backOf d zs e with | some b => .ok (.w .non) b | none => .bad)
  | .rt z e => (match backOf d zs e with | some b => .ok z b | none => .bad)
  | .ex x e => (match backOf d zs e with | some b => .ex x b | none => .bad)
  | _ => .bad) else .bad
end Cb

end
section
set_option maxRecDepth 100000
set_option maxHeartbeats 4000000
/-! what a term's meaning promises of the machine -/
namespace Cb
open PySem PySem.Spec PyProof.Rows L2

/-- an error of the class x.c with these fields -/
def XR (G : Gc) (S : AS) (H : Hp) (x : Ex) (cls : Value) (d : Option Addr) : Prop :=
  ∃ C, G.cm x.c = some C ∧ cls = .ref C ∧ XdR G S H x.fs d
abbrev Rel (α β : Type) := L2.St → AS → Hp → α → β → List Addr → Prop
def Out [Tb] {α β : Type} (G : Gc) (U : L2.WX) (σ : L2.St) (S : AS) (H : Hp) (A : List Addr) (rel : Rel α β) (r : R α) (Q : β → Hp → Prop) : Prop := match r with
  | .ok a e => ∀ b H' S' A' B, EnvR G S' H' e σ A' → rel σ S' H' a b B → Ok S' H' (B ++ A') → Fr S H A S' H' (B ++ A') → Q b H'
  | .ex x e => ∀ cls d H' S' A', XR G S' H' x cls d → EnvR G S' H' e σ A' → Ok S' H' A' → Fr S H A S' H' A' → U cls d σ H'
  | .bad => False
def tD [Tb] {α β : Type} (G : Gc) (U : L2.WX) (rel : Rel α β) (d : Den α) : L2.St → Hp → (β → Hp → Prop) → Prop := fun σ H Q =>
  ∃ env S A, EnvR G S H env σ A ∧ Ok S H A ∧ Out G U σ S H A rel (d env) Q

def rZ (G : Gc) : Rel Z V := fun _ S H z v B => RZ G S H z v B
def rW (G : Gc) : Rel W V := fun _ S H w v B => Rp G S H w v ∧ B = []
def rWs (G : Gc) : Rel (List W) (List V) := fun _ S H w v B => Rps G S H w v ∧ B = []
def OdR (G : Gc) (σ : L2.St) (S : AS) (H : Hp) : Od → V → Prop
  | .w x, v => Rp G S H x v
  | .s i, v => σ[i]? = some (some v)
def rO (G : Gc) : Rel Od V := fun σ S H o v B => OdR G σ S H o v ∧ B = []
def OdRs (G : Gc) (σ : L2.St) (S : AS) (H : Hp) : List Od → List V → Prop
  | [], vs => vs = []
  | o :: os, vs => ∃ v r, vs = v :: r ∧ OdR G σ S H o v ∧ OdRs G σ S H os r
def rOs (G : Gc) : Rel (List Od) (List V) := fun σ S H o v B => OdRs G σ S H o v ∧ B = []
def rB : Rel Bool Bool := fun _ _ _ a b B => a = b ∧ B = []

section
variable [Tb] {G : Gc} {U : L2.WX} {σ : L2.St} {S S1 : AS} {H H1 : Hp} {A A1 : List Addr} {α β γ δ : Type}
theorem Out.mono {rel : Rel α β} {r : R α} {Q Q' : β → Hp → Prop} (h : Out G U σ S H A rel r Q) (hq : ∀ b H', Q b H' → Q' b H') : Out G U σ S H A rel r Q' := by
  cases r with
  | ok a e => exact fun b H' S' A' B h1 h2 h3 h4 => hq _ _ (h b H' S' A' B h1 h2 h3 h4)
  | ex x e => exact h
  | bad => exact h
theorem Out.from {rel : Rel α β} {r : R α} {Q : β → Hp → Prop} (h : Out G U σ S H A rel r Q) (f : Fr S H A S1 H1 A1) : Out G U σ S1 H1 A1 rel r Q := by
  cases r with
  | ok a e => exact fun b H' S' A' B h1 h2 h3 h4 => h b H' S' A' B h1 h2 h3 (f.trans h4)
  | ex x e => exact fun cls d H' S' A' h1 h2 h3 h4 => h cls d H' S' A' h1 h2 h3 (f.trans h4)
  | bad => exact h
/-- the first part has come to a at env1; what follows it -/
structure Nxt [Tb] {α β : Type} (G : Gc) (σ : L2.St) (S : AS) (H : Hp) (A : List Addr) (rel : Rel α β) (r : R α) (b : β) (H1 : Hp) (P : AS → List Addr → α → Env → Prop) : Prop where
  ex : ∃ a env1 S1 A1, r = .ok a env1 ∧ EnvR G S1 H1 env1 σ A1 ∧ Ok S1 H1 A1 ∧ rel σ S1 H1 a b [] ∧ Fr S H A S1 H1 A1 ∧ P S1 A1 a env1
theorem Out.bind {rel : Rel α β} {rel2 : Rel γ δ} {r : R α} {k : α → Env → R γ} {Q : δ → Hp → Prop} (hB : ∀ {S H a b B}, rel σ S H a b B → B = []) (h : Out G U σ S H A rel2 (r.bind k) Q) :
    Out G U σ S H A rel r fun b H1 => Nxt G σ S H A rel r b H1 fun S1 A1 a env1 => Out G U σ S1 H1 A1 rel2 (k a env1) Q := by
  cases r with
  | ok a e =>
    intro b H' S' A' B h1 h2 h3 h4
    obtain rfl := hB h2
    exact ⟨a, e, S', A', rfl, h1, h3, h2, h4, Out.from h h4⟩
  | ex x e => exact h
  | bad => exact h
theorem _root_.L2.PE.imp {X : Cx} {e : Expr} {t t' : TE} (h : PE X e t) (i : ∀ σ H Q, t' σ H Q → t σ H Q) : PE X e t' := ⟨fun pins s σ H Q I q => h.run pins s σ H Q I (i σ H Q q)⟩
theorem _root_.L2.PT.imp {X : Cx} {e : Expr} {t t' : TT} (h : PT X e t) (i : ∀ σ H Q, t' σ H Q → t σ H Q) : PT X e t' := ⟨fun pins s σ H Q I q => h.run pins s σ H Q I (i σ H Q q)⟩
theorem _root_.L2.PA.imp {X : Cx} {e : List Expr} {t t' : TA} (h : PA X e t) (i : ∀ σ H Q, t' σ H Q → t σ H Q) : PA X e t' := ⟨fun pos pins s σ H Q I q => h.run pos pins s σ H Q I (i σ H Q q)⟩
theorem _root_.L2.PS.imp {X : Cx} {e : Stmt} {t t' : TS} (h : PS X e t) (i : ∀ D σ H, t' D σ H → t D σ H) : PS X e t' := ⟨fun pins s σ H D I q => h.run pins s σ H D I (i D σ H q)⟩
theorem _root_.L2.PSs.imp {X : Cx} {e : List Stmt} {t t' : TS} (h : PSs X e t) (i : ∀ D σ H, t' D σ H → t D σ H) : PSs X e t' := ⟨fun pins s σ H D I q => h.run pins s σ H D I (i D σ H q)⟩

/-! ### the frames' small facts -/
theorem Fr.nilB (f : Fr S H A S1 H1 ([] ++ A1)) : Fr S H A S1 H1 A1 := f
theorem OdR.mono {S' : AS} {H' : Hp} {A' : List Addr} (f : Fr S H A S' H' A') (o : Ok S H A) {od : Od} {v : V} (h : OdR G σ S H od v) : OdR G σ S' H' od v := by
  cases od with
  | w x => exact Rp.mono (f.kp o) f.up h
  | s i => exact h
theorem OdRs.mono {S' : AS} {H' : Hp} {A' : List Addr} (f : Fr S H A S' H' A') (o : Ok S H A) : ∀ {od : List Od} {v : List V}, OdRs G σ S H od v → OdRs G σ S' H' od v
  | [], _, h => h
  | _ :: _, _, ⟨v, r, e, h1, h2⟩ => ⟨v, r, e, h1.mono f o, OdRs.mono f o h2⟩
/-- nothing has changed: a step to itself, a value without owned objects -/
theorem Out.here {rel : Rel α β} {a : α} {b : β} {env : Env} {Q : β → Hp → Prop} (h : Out G U σ S H A rel (.ok a env) Q) (en : EnvR G S H env σ A) (ok : Ok S H A) (r : rel σ S H a b []) : Q b H :=
  h b H S A [] en r ok (Fr.refl ok)
/-- freezing what was made -/
def cFz (d : Den Z) : Den W := fun env => (d env).bind fun z env => .ok (frz z) env
theorem Ok.swap {B : List Addr} (h : Ok S H (B ++ A)) : Ok S H (A ++ B) := h.perm List.perm_append_comm
theorem frz_out {r : R Z} {Q : VK} (h : Out G U σ S H A (rW G) (r.bind fun z env => .ok (frz z) env) Q) : Out G U σ S H A (rZ G) r Q := by
  cases r with
  | ok z e =>
    intro v H' S' A' B h1 h2 h3 h4
    have o2 := h3.swap
    refine h v H' (fun a => S' a ∨ a ∈ B) A' [] (h1.mono (Kp.refl S' H') (fun _ h => .inl h) fun _ _ _ e => e) ⟨RZ.freeze h2, rfl⟩ o2.freeze ?_
    have f : Fr S' H' (B ++ A') (fun a => S' a ∨ a ∈ B) H' A' := (Fr.frz o2).wide fun a ha => by
      rcases List.mem_append.mp ha with z | z
      · exact List.mem_append_right _ z
      · exact List.mem_append_left _ z
    exact h4.trans f
  | ex x e => exact h
  | bad => exact h
theorem pe_fz {X : Cx} {e : Expr} {d : Den Z} (h : PE X e (tD G U (rZ G) d)) : PE X e (tD G U (rW G) (cFz d)) := h.imp fun σ H Q ⟨env, S, A, en, ok, o⟩ => ⟨env, S, A, en, ok, frz_out o⟩
end
end Cb

end
section
set_option maxRecDepth 100000
set_option maxHeartbeats 4000000
/-! names, constants, displays, truth -/
namespace Cb
open PySem PySem.Spec PyProof.Rows L2
section
variable [Tb] {G : Gc} {U : L2.WX} {X : Cx}

/-! ### slots -/
theorem EnvR.gets {S : AS} {H : Hp} {env : Env} {σ : L2.St} {A : List Addr} (h : EnvR G S H env σ A) {i : Nat} {z : Z} (e : gets env i = some z) :
    ∃ v B R, σ[i]? = some (some v) ∧ RZ G S H z v B ∧ A.Perm (B ++ R) ∧ EnvR G S H (env.set i none) σ R := h.get (gets_iff.mp e).1 (gets_iff.mp e).2.1 (gets_iff.mp e).2.2
theorem gets_lt {env : Env} {i : Nat} {z : Z} (e : gets env i = some z) : i < env.length := (List.getElem?_eq_some_iff.mp (gets_iff.mp e).1).1
theorem var_out {i : Nat} {env : Env} {S : AS} {A : List Addr} {σ : L2.St} {H : Hp} {Q : VK} (en : EnvR G S H env σ A) (ok : Ok S H A) (o : Out G U σ S H A (rZ G) (cVar i env) Q) : tVar i σ H Q := by
  unfold cVar at o
  cases e : Cb.gets env i with
  | none => rw [e] at o; exact o.elim
  | some z =>
    rw [e] at o
    obtain ⟨v, B, R, hs, rz, pm, er⟩ := en.gets e
    refine ⟨v, hs, ?_⟩
    have ok2 : Ok S H (R ++ B) := ok.perm (List.perm_append_comm.trans pm.symm)
    have er2 : EnvR G (fun a => S a ∨ a ∈ B) H (env.set i none) σ R := er.mono (Kp.refl S H) (fun _ h => .inl h) fun _ _ _ e => e
    obtain ⟨A', h1, h2⟩ := er2.put' (z := .w (frz z)) (B := []) (gets_lt e) hs ⟨RZ.freeze rz, rfl⟩
    have h2' : A'.Perm R := h2
    have f : Fr S H A (fun a => S a ∨ a ∈ B) H A' := ((Fr.frz ok2).wide (B := A) fun a ha => (pm.mem_iff).mpr (by
      rcases List.mem_append.mp ha with z | z
      · exact List.mem_append_right _ z
      · exact List.mem_append_left _ z)).less fun a ha => h2'.mem_iff.mp ha
    exact o v H _ A' [] h1 ⟨RZ.freeze rz, rfl⟩ (ok2.freeze.perm h2') f
theorem sx_var {i : Nat} {e : Expr} (h : PE X e (tVar i)) : PE X e (tD G U (rZ G) (cVar i)) := h.imp fun σ H Q ⟨env, S, A, en, ok, o⟩ => var_out en ok o
/-- the slot is read later -/
theorem sx_slot {i : Nat} {e : Expr} (h : PE X e (tVar i)) : PE X e (tD G U (rO G) (cOs i)) := h.imp fun σ H Q ⟨env, S, A, en, ok, o⟩ => by
  unfold cOs at o
  cases e : Cb.gets env i with
  | none => rw [e] at o; exact o.elim
  | some z =>
    rw [e] at o
    obtain ⟨v, B, R, hs, rz, pm, er⟩ := en.gets e
    exact ⟨v, hs, o v H S A [] en ⟨hs, rfl⟩ ok (Fr.refl ok)⟩

/-! ### constants -/
theorem sx_c {e : Expr} {w : W} {v : V} (h : PE X e (tC v)) (r : ∀ S H, Rp G S H w v) : PE X e (tD G U (rZ G) (cC w)) := h.imp fun σ H Q ⟨env, S, A, en, ok, o⟩ =>
  o v H S A [] en ⟨r S H, rfl⟩ ok (Fr.refl ok)
theorem rp_int (S : AS) (H : Hp) (i : Int) : Rp G S H (.int i) (.int i) := by unfold Rp; rfl
theorem rp_bl (S : AS) (H : Hp) (i : Bool) : Rp G S H (.bl i) (.bl i) := by unfold Rp; rfl
theorem rp_str (S : AS) (H : Hp) (i : Str) : Rp G S H (.str i) (.str i) := by unfold Rp; rfl
theorem rp_non (S : AS) (H : Hp) : Rp G S H .non .non := by unfold Rp; rfl

/-! ### argument lists -/
def Nst (e : Expr) : Prop := ∀ es env, starEach (e :: es) env = (false, eval e env) :: starEach es env
theorem pa_nl : PA X [] (tD G U (rWs G) cNil) := pa_nil.imp fun σ H Q ⟨env, S, A, en, ok, o⟩ => o [] H S A [] en ⟨Rps.nil, rfl⟩ ok (Fr.refl ok)
theorem pa_cs {e : Expr} {es : List Expr} {d : Den Z} {ds : Den (List W)} (ns : Nst e) (he : PE X e (tD G U (rZ G) d)) (hs : PA X es (tD G U (rWs G) ds)) : PA X (e :: es) (tD G U (rWs G) (cCons d ds)) :=
  (pa_cons (pe_fz he) hs (ns es X.env)).imp fun σ H Q ⟨env, S, A, en, ok, o⟩ => by
    refine ⟨env, S, A, en, ok, ?_⟩
    have o1 : Out G U σ S H A (rWs G) ((cFz d env).bind fun w env => (ds env).bind fun ws env => .ok (w :: ws) env) Q := by
      have e : (cFz d env).bind (fun w env => (ds env).bind fun ws env => R.ok (w :: ws) env) = cCons d ds env := by
        unfold cFz cCons
        cases d env <;> rfl
      rw [e]; exact o
    refine (Out.bind (rel := rW G) (fun h => h.2) o1).mono fun x H1 ⟨w, env1, S1, A1, _, en1, ok1, ⟨rw1, _⟩, f1, o2⟩ => ⟨env1, S1, A1, en1, ok1, ?_⟩
    refine (Out.bind (rel := rWs G) (fun h => h.2) o2).mono fun xs H2 ⟨ws, env2, S2, A2, _, en2, ok2, ⟨rw2, _⟩, f2, o3⟩ => ?_
    exact o3 (x :: xs) H2 S2 A2 [] en2 ⟨.cons (rw1.mono (f2.kp ok1) f2.up) rw2, rfl⟩ ok2 (Fr.refl ok2)
theorem pa_nlO : PA X [] (tD G U (rOs G) cNil) := pa_nil.imp fun σ H Q ⟨env, S, A, en, ok, o⟩ => o [] H S A [] en ⟨rfl, rfl⟩ ok (Fr.refl ok)
theorem pe_od {e : Expr} {d : Den Z} (h : PE X e (tD G U (rZ G) d)) : PE X e (tD G U (rO G) (cOd d)) := (pe_fz h).imp fun σ H Q ⟨env, S, A, en, ok, o⟩ => by
  refine ⟨env, S, A, en, ok, ?_⟩
  have o1 : Out G U σ S H A (rO G) ((cFz d env).bind fun w env => .ok (.w w) env) Q := by
    have e : (cFz d env).bind (fun w env => R.ok (Od.w w) env) = cOd d env := by unfold cFz cOd; cases d env <;> rfl
    rw [e]; exact o
  refine (Out.bind (rel := rW G) (fun h => h.2) o1).mono fun x H1 ⟨w, env1, S1, A1, _, en1, ok1, ⟨rw1, _⟩, f1, o2⟩ => ?_
  exact o2 x H1 S1 A1 [] en1 ⟨rw1, rfl⟩ ok1 (Fr.refl ok1)
theorem pa_csO {e : Expr} {es : List Expr} {d : Den Od} {ds : Den (List Od)} (ns : Nst e) (he : PE X e (tD G U (rO G) d)) (hs : PA X es (tD G U (rOs G) ds)) : PA X (e :: es) (tD G U (rOs G) (cConsO d ds)) :=
  (pa_cons he hs (ns es X.env)).imp fun σ H Q ⟨env, S, A, en, ok, o⟩ => by
    refine ⟨env, S, A, en, ok, ?_⟩
    refine (Out.bind (rel := rO G) (fun h => h.2) o).mono fun x H1 ⟨w, env1, S1, A1, _, en1, ok1, ⟨rw1, _⟩, f1, o2⟩ => ⟨env1, S1, A1, en1, ok1, ?_⟩
    refine (Out.bind (rel := rOs G) (fun h => h.2) o2).mono fun xs H2 ⟨ws, env2, S2, A2, _, en2, ok2, ⟨rw2, _⟩, f2, o3⟩ => ?_
    exact o3 (x :: xs) H2 S2 A2 [] en2 ⟨⟨x, xs, rfl, rw1.mono f2 ok1, rw2⟩, rfl⟩ ok2 (Fr.refl ok2)

/-! ### what an operation gives -/
/-- z is made at H: what stood stands, its own objects are new -/
def Res (G : Gc) (S : AS) (H : Hp) (z : Z) (Q : VK) : Prop := ∀ v H' B, (∀ a o, H a = some o → H' a = some o) → RZ G S H' z v B → B.Nodup → (∀ a ∈ B, H a = none ∧ Mu (H' a)) → Q v H'
theorem Res.out {z : Z} {env : Env} {S : AS} {A : List Addr} {σ : L2.St} {H : Hp} {Q : VK} (en : EnvR G S H env σ A) (ok : Ok S H A) (o : Out G U σ S H A (rZ G) (.ok z env) Q) : Res G S H z Q := by
  intro v H' B k rz nd nw
  have kp : Kp S H H' := fun a u e _ _ => k a u e
  refine o v H' S A B (en.mono kp (fun _ h => h) fun a _ u e => k a u e) rz ?_ ?_
  · refine ⟨List.nodup_append.mpr ⟨nd, ok.nd, fun a ha b hb e => ?_⟩, fun a ha => ?_, fun a ha => ?_, tabs_keep ok.tab fun b x e _ => k b x e⟩
    · subst e
      have m := (ok.own a hb).2
      rw [(nw a ha).1] at m; exact m
    · rcases List.mem_append.mp ha with z | z
      · refine ⟨fun s => ?_, (nw a z).2⟩
        obtain ⟨u, e⟩ := ok.dom a s
        rw [(nw a z).1] at e; cases e
      · obtain ⟨u, e⟩ := mut_some (ok.own a z).2
        exact ⟨(ok.own a z).1, by rw [k a u e, ← e]; exact (ok.own a z).2⟩
    · obtain ⟨u, e⟩ := ok.dom a ha
      exact ⟨u, k a u e⟩
  · refine ⟨fun a u e _ _ => k a u e, fun _ h => h, fun _ h => .inl h, fun a ha => ?_, fun a u e => ⟨u, k a u e⟩⟩
    rcases List.mem_append.mp ha with z | z
    · exact .inr (nw a z).1
    · exact .inl z
/-- a value without objects of its own, the heap as it is -/
theorem Res.w {S : AS} {H : Hp} {w : W} {v : V} {Q : VK} (h : Res G S H (.w w) Q) (r : Rp G S H w v) : Q v H := h v H [] (fun _ _ e => e) ⟨r, rfl⟩ List.nodup_nil (fun a ha => absurd ha (by simp))
theorem keep_new {H : Hp} {p : Addr} {u : HO} (hp : H p = none) : ∀ a o, H a = some o → upd H p u a = some o := fun a o e => by rw [upd_ne (ne_of_none e hp)]; exact e
/-- a new tuple -/
theorem Res.tup {S : AS} {H : Hp} {ws : List W} {vs : List V} {Q : VK} (h : Res G S H (.w (.tup ws)) Q) (r : Rps G S H ws vs) : ∀ p, H p = none → Q (.ref p) (upd H p (.tup vs)) := fun p hp => by
  have k := keep_new (u := .tup vs) hp
  refine h _ _ [] k ⟨?_, rfl⟩ List.nodup_nil (fun a ha => absurd ha (by simp))
  unfold Rp
  exact ⟨p, vs, rfl, SqT.of upd_same, r.mono (fun a u e _ _ => k a u e) fun _ h => h⟩
/-- a new list -/
theorem Res.lst {S : AS} {H : Hp} {ws : List W} {vs : List V} {Q : VK} (h : Res G S H (.L ws) Q) (r : Rps G S H ws vs) : ∀ p, H p = none → Q (.ref p) (upd H p (.lst vs)) := fun p hp => by
  have k := keep_new (u := .lst vs) hp
  refine h _ _ [p] k ⟨p, vs, rfl, upd_same, r.mono (fun a u e _ _ => k a u e) fun _ h => h, rfl⟩ (by simp) (fun a ha => ?_)
  obtain rfl : a = p := by simpa using ha
  exact ⟨hp, by rw [upd_same]; trivial⟩
/-- a new dict -/
theorem Res.dK {S : AS} {H : Hp} {ws : List (Key × W)} {vs : List (Key × V)} {Q : VK} (h : Res G S H (.dK ws) Q) (r : Rpk G S H ws vs) : ∀ p, H p = none → Q (.ref p) (upd H p (.dK vs)) := fun p hp => by
  have k := keep_new (u := .dK vs) hp
  refine h _ _ [p] k ⟨p, vs, rfl, upd_same, r.mono (fun a u e _ _ => k a u e) fun _ h => h, rfl⟩ (by simp) (fun a ha => ?_)
  obtain rfl : a = p := by simpa using ha
  exact ⟨hp, by rw [upd_same]; trivial⟩

theorem sizeOk_le {n : Nat} (h : sizeOk n = true) : n ≤ sizeLine := by rw [sizeLine_eq]; exact of_decide_eq_true h
/-! ### displays -/
theorem sx_tup {es : List Expr} {k : Nat} {pos : Pos} {d : Den (List W)} (h : PA X es (tD G U (rWs G) d)) : PE X (.Tuple es k pos) (tD G U (rZ G) (cTup d)) :=
  (pe_tup h).imp fun σ H Q ⟨env, S, A, en, ok, o⟩ => by
    refine ⟨env, S, A, en, ok, ?_⟩
    refine (Out.bind (rel := rWs G) (fun h => h.2) o).mono fun xs H1 ⟨ws, env1, S1, A1, _, en1, ok1, ⟨rw1, _⟩, f1, o2⟩ => ?_
    by_cases hz : sizeOk ws.length = true
    · rw [if_pos hz] at o2
      exact ⟨by rw [rw1.length]; exact sizeOk_le hz, (Res.out en1 ok1 o2).tup rw1⟩
    · rw [if_neg hz] at o2; exact o2.elim
theorem sx_lst {es : List Expr} {pos : Pos} {d : Den (List W)} (h : PA X es (tD G U (rWs G) d)) : PE X (.List es pos) (tD G U (rZ G) (cLst d)) :=
  (pe_lst h).imp fun σ H Q ⟨env, S, A, en, ok, o⟩ => by
    refine ⟨env, S, A, en, ok, ?_⟩
    refine (Out.bind (rel := rWs G) (fun h => h.2) o).mono fun xs H1 ⟨ws, env1, S1, A1, _, en1, ok1, ⟨rw1, _⟩, f1, o2⟩ => ?_
    by_cases hz : sizeOk ws.length = true
    · rw [if_pos hz] at o2
      exact ⟨by rw [rw1.length]; exact sizeOk_le hz, (Res.out en1 ok1 o2).lst rw1⟩
    · rw [if_neg hz] at o2; exact o2.elim

/-! ### truth -/
/-- a test whose value is a bool -/
theorem asB_bl {S : AS} {H : Hp} {z : Z} {v : V} {B : List Addr} {b : Bool} (h : asB z = some b) (r : RZ G S H z v B) : v = .bl b ∧ B = [] := by
  cases z with
  | w x =>
    cases x with
    | bl c =>
      obtain ⟨r, rfl⟩ := r
      unfold Rp at r
      obtain rfl : c = b := Option.some.inj h
      exact ⟨r, rfl⟩
    | _ => cases h
  | _ => cases h
theorem cT_out {env : Env} {S : AS} {A : List Addr} {σ : L2.St} {H : Hp} {d : Den Z} {Q : Bool → Hp → Prop} (o : Out G U σ S H A rB (cT d env) Q) : Out G U σ S H A (rZ G) (d env) fun x H1 => ∃ c, x = .bl c ∧ Q c H1 := by
  unfold cT at o
  cases e : d env with
  | ok z env1 =>
    rw [e] at o
    intro v H' S' A' B h1 h2 h3 h4
    have o2 : Out G U σ S H A rB (match asB z with | some b => R.ok b env1 | none => R.bad) Q := o
    cases q : asB z with
    | none => rw [q] at o2; exact o2.elim
    | some b =>
      rw [q] at o2
      obtain ⟨rfl, rfl⟩ := asB_bl q h2
      exact ⟨b, rfl, o2 b H' S' A' [] h1 ⟨rfl, rfl⟩ h3 h4⟩
  | ex x env1 => rw [e] at o; exact o
  | bad => rw [e] at o; exact o
theorem st_val {e : Expr} {d : Den Z} (h : PE X e (tD G U (rZ G) d)) (he : ∀ whole, isTrue e X.env whole = (do let v ← whole; standAt e.pos; holding [v] (truthy v))) : PT X e (tD G U rB (cT d)) :=
  (pt_val h he).imp fun σ H Q ⟨env, S, A, en, ok, o⟩ => ⟨env, S, A, en, ok, cT_out o⟩
/-- a bool as a value -/
theorem sx_B {e : Expr} {t : TE} {d : Den Bool} (h : PE X e t) (i : ∀ σ H Q, (tD G U rB d σ H fun b H1 => Q (.bl b) H1) → t σ H Q) : PE X e (tD G U (rZ G) (cB d)) := h.imp fun σ H Q ⟨env, S, A, en, ok, o⟩ => by
  refine i σ H Q ⟨env, S, A, en, ok, ?_⟩
  refine (Out.bind (rel := rB) (fun h => h.2) o).mono fun b H1 ⟨c, env1, S1, A1, _, en1, ok1, ⟨e1, _⟩, f1, o2⟩ => ?_
  obtain rfl : c = b := e1
  exact o2 _ H1 S1 A1 [] en1 ⟨rp_bl _ _ _, rfl⟩ ok1 (Fr.refl ok1)
theorem and_out {env : Env} {S : AS} {A : List Addr} {σ : L2.St} {H : Hp} {d e : Den Bool} {Q : Bool → Hp → Prop} (o : Out G U σ S H A rB (cAnd d e env) Q) :
    Out G U σ S H A rB (d env) fun c H1 => if c = true then tD G U rB e σ H1 Q else Q false H1 := by
  refine (Out.bind (rel := rB) (fun h => h.2) o).mono fun b H1 ⟨c, env1, S1, A1, _, en1, ok1, ⟨e1, _⟩, f1, o2⟩ => ?_
  obtain rfl : c = b := e1
  cases c with
  | true => rw [if_pos rfl] at o2 ⊢; exact ⟨env1, S1, A1, en1, ok1, o2⟩
  | false =>
    rw [if_neg Bool.false_ne_true] at o2 ⊢
    exact o2 _ H1 S1 A1 [] en1 ⟨rfl, rfl⟩ ok1 (Fr.refl ok1)
theorem or_out {env : Env} {S : AS} {A : List Addr} {σ : L2.St} {H : Hp} {d e : Den Bool} {Q : Bool → Hp → Prop} (o : Out G U σ S H A rB (cOr d e env) Q) :
    Out G U σ S H A rB (d env) fun c H1 => if c = true then Q true H1 else tD G U rB e σ H1 Q := by
  refine (Out.bind (rel := rB) (fun h => h.2) o).mono fun b H1 ⟨c, env1, S1, A1, _, en1, ok1, ⟨e1, _⟩, f1, o2⟩ => ?_
  obtain rfl : c = b := e1
  cases c with
  | false => rw [if_neg Bool.false_ne_true] at o2 ⊢; exact ⟨env1, S1, A1, en1, ok1, o2⟩
  | true =>
    rw [if_pos rfl] at o2 ⊢
    exact o2 _ H1 S1 A1 [] en1 ⟨rfl, rfl⟩ ok1 (Fr.refl ok1)
theorem not_out {env : Env} {S : AS} {A : List Addr} {σ : L2.St} {H : Hp} {d : Den Bool} {Q : Bool → Hp → Prop} (o : Out G U σ S H A rB (cNot d env) Q) : Out G U σ S H A rB (d env) fun c H1 => Q (!c) H1 := by
  refine (Out.bind (rel := rB) (fun h => h.2) o).mono fun b H1 ⟨c, env1, S1, A1, _, en1, ok1, ⟨e1, _⟩, f1, o2⟩ => ?_
  obtain rfl : c = b := e1
  exact o2 _ H1 S1 A1 [] en1 ⟨rfl, rfl⟩ ok1 (Fr.refl ok1)
theorem ite_out {α β : Type} {rel : Rel α β} {env : Env} {S : AS} {A : List Addr} {σ : L2.St} {H : Hp} {t : Den Bool} {a b : Den α} {Q : β → Hp → Prop} (o : Out G U σ S H A rel (cIte t a b env) Q) :
    Out G U σ S H A rB (t env) fun c H1 => if c = true then tD G U rel a σ H1 Q else tD G U rel b σ H1 Q := by
  refine (Out.bind (rel := rB) (fun h => h.2) o).mono fun b H1 ⟨c, env1, S1, A1, _, en1, ok1, ⟨e1, _⟩, f1, o2⟩ => ?_
  obtain rfl : c = b := e1
  cases c with
  | true => rw [if_pos rfl] at o2 ⊢; exact ⟨env1, S1, A1, en1, ok1, o2⟩
  | false => rw [if_neg Bool.false_ne_true] at o2 ⊢; exact ⟨env1, S1, A1, en1, ok1, o2⟩
theorem sx_ite {c a b : Expr} {pos : Pos} {t : Den Bool} {d e : Den Z} (hc : PT X c (tD G U rB t)) (ha : PE X a (tD G U (rZ G) d)) (hb : PE X b (tD G U (rZ G) e)) : PE X (.IfExp c a b pos) (tD G U (rZ G) (cIte t d e)) :=
  (pe_ifExp hc ha hb).imp fun σ H Q ⟨env, S, A, en, ok, o⟩ => ⟨env, S, A, en, ok, ite_out o⟩
theorem st_not {a : Expr} {pos : Pos} {d : Den Bool} (h : PT X a (tD G U rB d)) : PT X (.UnaryOp .Not a pos) (tD G U rB (cNot d)) := (pt_not h).imp fun σ H Q ⟨env, S, A, en, ok, o⟩ => ⟨env, S, A, en, ok, not_out o⟩
theorem sw_and1 {a : Expr} {pos : Pos} {d : Den Bool} (h : PT X a (tD G U rB d)) : PW X (.BoolOp .And [a] pos) (tD G U rB (cAnd d cTrue)) := ⟨fun wh pins s σ H Q I ⟨env, S, A, en, ok, o⟩ => (pw_and1 h).run wh pins s σ H Q I ⟨env, S, A, en, ok, (and_out o).mono fun b H1 q => by
  cases b with
  | true =>
    rw [if_pos rfl] at q
    obtain ⟨env1, S1, A1, en1, ok1, o1⟩ := q
    exact o1 _ H1 S1 A1 [] en1 ⟨rfl, rfl⟩ ok1 (Fr.refl ok1)
  | false => exact q⟩⟩
theorem sw_and {a b : Expr} {r : List Expr} {pos : Pos} {d e : Den Bool} (h : PT X a (tD G U rB d)) (h2 : PW X (.BoolOp .And (b :: r) pos) (tD G U rB e)) : PW X (.BoolOp .And (a :: b :: r) pos) (tD G U rB (cAnd d e)) :=
  ⟨fun wh pins s σ H Q I ⟨env, S, A, en, ok, o⟩ => (pw_and h h2).run wh pins s σ H Q I ⟨env, S, A, en, ok, and_out o⟩⟩
theorem sw_or1 {a : Expr} {pos : Pos} {d : Den Bool} (h : PT X a (tD G U rB d)) : PW X (.BoolOp .Or [a] pos) (tD G U rB (cOr d cFalse)) := ⟨fun wh pins s σ H Q I ⟨env, S, A, en, ok, o⟩ => (pw_or1 h).run wh pins s σ H Q I ⟨env, S, A, en, ok, (or_out o).mono fun b H1 q => by
  cases b with
  | false =>
    rw [if_neg Bool.false_ne_true] at q
    obtain ⟨env1, S1, A1, en1, ok1, o1⟩ := q
    exact o1 _ H1 S1 A1 [] en1 ⟨rfl, rfl⟩ ok1 (Fr.refl ok1)
  | true => exact q⟩⟩
theorem sw_or {a b : Expr} {r : List Expr} {pos : Pos} {d e : Den Bool} (h : PT X a (tD G U rB d)) (h2 : PW X (.BoolOp .Or (b :: r) pos) (tD G U rB e)) : PW X (.BoolOp .Or (a :: b :: r) pos) (tD G U rB (cOr d e)) :=
  ⟨fun wh pins s σ H Q I ⟨env, S, A, en, ok, o⟩ => (pw_or h h2).run wh pins s σ H Q I ⟨env, S, A, en, ok, or_out o⟩⟩
end
end Cb

end
section
set_option maxRecDepth 100000
set_option maxHeartbeats 4000000
/-! and, or, not as values; operations; calls -/
namespace Cb
open PySem PySem.Spec PyProof.Rows L2
section
variable [Tb] {G : Gc} {U : L2.WX} {X : Cx}
theorem cB_out {env : Env} {S : AS} {A : List Addr} {σ : L2.St} {H : Hp} {d : Den Bool} {Q : VK} (o : Out G U σ S H A (rZ G) (cB d env) Q) : Out G U σ S H A rB (d env) fun b H1 => Q (.bl b) H1 := by
  refine (Out.bind (rel := rB) (fun h => h.2) o).mono fun b H1 ⟨c, env1, S1, A1, _, en1, ok1, ⟨e1, _⟩, f1, o2⟩ => ?_
  obtain rfl : c = b := e1
  exact o2 _ H1 S1 A1 [] en1 ⟨rp_bl _ _ _, rfl⟩ ok1 (Fr.refl ok1)
theorem outB_of {env : Env} {S : AS} {A : List Addr} {σ : L2.St} {H : Hp} {d : Den Bool} {Q : VK} (o : Out G U σ S H A rB (d env) fun b H1 => Q (.bl b) H1) : Out G U σ S H A (rZ G) (cB d env) Q := by
  unfold cB
  cases e : d env with
  | ok b e1 =>
    rw [e] at o
    intro v H' S' A' B h1 h2 h3 h4
    obtain ⟨r, rfl⟩ := h2
    unfold Rp at r
    subst r
    exact o b H' S' A' [] h1 ⟨rfl, rfl⟩ h3 h4
  | ex x e1 => rw [e] at o; exact o
  | bad => rw [e] at o; exact o
theorem sx_one {op : BoolOp} {a : Expr} {pos : Pos} {d : Den Z} {k : Den Bool → Den Bool} (hk : ∀ (σ : L2.St) (H : Hp) (S : AS) (A : List Addr) (env : Env) (Q : Bool → Hp → Prop), Out G U σ S H A rB (k (cT d) env) Q → Out G U σ S H A rB (cT d env) Q)
    (h : PE X a (tD G U (rZ G) d)) : PE X (.BoolOp op [a] pos) (tD G U (rZ G) (cB (k (cT d)))) := (pe_one h).imp fun σ H Q ⟨env, S, A, en, ok, o⟩ => ⟨env, S, A, en, ok, (cT_out (hk _ _ _ _ _ _ (cB_out o))).mono fun x H1 ⟨c, e, q⟩ => by rw [e]; exact q⟩
theorem sx_and1 {a : Expr} {pos : Pos} {d : Den Z} (h : PE X a (tD G U (rZ G) d)) : PE X (.BoolOp .And [a] pos) (tD G U (rZ G) (cB (cAnd (cT d) cTrue))) := sx_one (k := fun t => cAnd t cTrue) (fun σ H S A env Q o => (and_out o).mono fun b H1 q => by
  cases b with
  | true =>
    rw [if_pos rfl] at q
    obtain ⟨env1, S1, A1, en1, ok1, o1⟩ := q
    exact o1 _ H1 S1 A1 [] en1 ⟨rfl, rfl⟩ ok1 (Fr.refl ok1)
  | false => exact q) h
theorem sx_or1 {a : Expr} {pos : Pos} {d : Den Z} (h : PE X a (tD G U (rZ G) d)) : PE X (.BoolOp .Or [a] pos) (tD G U (rZ G) (cB (cOr (cT d) cFalse))) := sx_one (k := fun t => cOr t cFalse) (fun σ H S A env Q o => (or_out o).mono fun b H1 q => by
  cases b with
  | false =>
    rw [if_neg Bool.false_ne_true] at q
    obtain ⟨env1, S1, A1, en1, ok1, o1⟩ := q
    exact o1 _ H1 S1 A1 [] en1 ⟨rfl, rfl⟩ ok1 (Fr.refl ok1)
  | true => exact q) h
theorem sx_and {a b : Expr} {r : List Expr} {pos : Pos} {d : Den Z} {e : Den Bool} (h : PE X a (tD G U (rZ G) d)) (h2 : PE X (.BoolOp .And (b :: r) pos) (tD G U (rZ G) (cB e))) : PE X (.BoolOp .And (a :: b :: r) pos) (tD G U (rZ G) (cB (cAnd (cT d) e))) :=
  (pe_and h h2).imp fun σ H Q ⟨env, S, A, en, ok, o⟩ => by
    refine ⟨env, S, A, en, ok, (cT_out (and_out (cB_out o))).mono fun x H1 ⟨c, ex, q⟩ => ⟨c, ex, ?_⟩⟩
    cases c with
    | true =>
      rw [if_pos rfl] at q ⊢
      obtain ⟨env1, S1, A1, en1, ok1, o1⟩ := q
      exact ⟨env1, S1, A1, en1, ok1, outB_of o1⟩
    | false => exact q
theorem sx_or {a b : Expr} {r : List Expr} {pos : Pos} {d : Den Z} {e : Den Bool} (h : PE X a (tD G U (rZ G) d)) (h2 : PE X (.BoolOp .Or (b :: r) pos) (tD G U (rZ G) (cB e))) : PE X (.BoolOp .Or (a :: b :: r) pos) (tD G U (rZ G) (cB (cOr (cT d) e))) :=
  (pe_or h h2).imp fun σ H Q ⟨env, S, A, en, ok, o⟩ => by
    refine ⟨env, S, A, en, ok, (cT_out (or_out (cB_out o))).mono fun x H1 ⟨c, ex, q⟩ => ⟨c, ex, ?_⟩⟩
    cases c with
    | false =>
      rw [if_neg Bool.false_ne_true] at q ⊢
      obtain ⟨env1, S1, A1, en1, ok1, o1⟩ := q
      exact ⟨env1, S1, A1, en1, ok1, outB_of o1⟩
    | true => exact q
theorem sx_not {a : Expr} {pos : Pos} {d : Den Z} (h : PE X a (tD G U (rZ G) d)) : PE X (.UnaryOp .Not a pos) (tD G U (rZ G) (cB (cNot (cT d)))) := (pe_not h).imp fun σ H Q ⟨env, S, A, en, ok, o⟩ =>
  ⟨env, S, A, en, ok, (cT_out (not_out (cB_out o))).mono fun x H1 ⟨c, e, q⟩ => ⟨c, e, q⟩⟩

/-! ### operands as they are seen -/
/-- w is seen at v: its own object may still be changed by its owner -/
def Vw (G : Gc) (S : AS) (H : Hp) : W → V → Prop
  | .lst ws, v => ∃ a vs, v = .ref a ∧ H a = some (.lst vs) ∧ Rps G S H ws vs
  | .dK kvs, v => ∃ a vs, v = .ref a ∧ H a = some (.dK vs) ∧ Rpk G S H kvs vs
  | .dW kvs, v => ∃ a o xs, v = .ref a ∧ H a = some (DO a o) ∧ DictX G.w a o xs ∧ Rpd G S H kvs xs
  | .obj c fs, v => ∃ a C dx vs, v = .ref a ∧ G.cm c = some C ∧ H a = some (.ins C dx vs) ∧ Rpf G S H fs vs
  | w, v => Rp G S H w v
theorem Rp.vw {S : AS} {H : Hp} {w : W} {v : V} (h : Rp G S H w v) : Vw G S H w v := by
  cases w with
  | lst ws => unfold Rp at h; obtain ⟨a, vs, e, h1, h2⟩ := h; exact ⟨a, vs, e, h1.2, h2⟩
  | dK ws => unfold Rp at h; obtain ⟨a, vs, e, h1, h2⟩ := h; exact ⟨a, vs, e, h1.2, h2⟩
  | dW ws => unfold Rp at h; obtain ⟨a, o, xs, e, h1, h2⟩ := h; exact ⟨a, o, xs, e, h1.2, h2⟩
  | obj c ws => unfold Rp at h; obtain ⟨a, C, dx, vs, e, hc, h1, h2⟩ := h; exact ⟨a, C, dx, vs, e, hc, h1.2, h2⟩
  | _ => exact h
theorem RZ.vw {S : AS} {H : Hp} {z : Z} {v : V} {B : List Addr} (h : RZ G S H z v B) : Vw G S H (frz z) v := by
  cases z with
  | w x => exact h.1.vw
  | L ws => obtain ⟨a, vs, e, h1, h2, _⟩ := h; exact ⟨a, vs, e, h1, h2⟩
  | dK ws => obtain ⟨a, vs, e, h1, h2, _⟩ := h; exact ⟨a, vs, e, h1, h2⟩
  | dW ws => obtain ⟨a, o, xs, e, h1, h2, h3, _⟩ := h; exact ⟨a, o, xs, e, h1, h2, h3⟩
  | obj c ws => obtain ⟨a, C, dx, vs, e, hc, h1, h2, _⟩ := h; exact ⟨a, C, dx, vs, e, hc, h1, h2⟩
  | err => exact h.elim
  | clo _ _ => exact h.elim
def Vws (G : Gc) (S : AS) (H : Hp) : List W → List V → Prop
  | [], vs => vs = []
  | w :: ws, vs => ∃ v r, vs = v :: r ∧ Vw G S H w v ∧ Vws G S H ws r
theorem res_vw {S : AS} {H : Hp} {env : Env} {σ : L2.St} {A : List Addr} (en : EnvR G S H env σ A) : ∀ {ods : List Od} {vs : List V} {zs : List Z}, OdRs G σ S H ods vs → resAll env ods = some zs → Vws G S H (zs.map frz) vs
  | [], vs, zs, h, e => by
    cases e
    exact h
  | o :: os, vs, zs, ⟨v, r, e1, h1, h2⟩, e => by
    subst e1
    unfold resAll at e
    cases q : o.res env with
    | none => rw [q] at e; cases e
    | some z =>
      cases q2 : resAll env os with
      | none => rw [q, q2] at e; cases e
      | some zs' =>
        rw [q, q2] at e
        cases e
        refine ⟨v, r, rfl, ?_, res_vw en h2 q2⟩
        cases o with
        | w x =>
          cases q
          exact Rp.vw h1
        | s i =>
          obtain ⟨v', B, R, hs, rz, _, _⟩ := en.gets (show gets env i = some z from q)
          rw [show σ[i]? = some (some v) from h1] at hs
          cases hs
          exact rz.vw
/-- an operation by its values: r is the reading of the machine's rule -/
def PrOk (G : Gc) (r : List V → Hp → VK → Prop) (f : List W → Option Z) : Prop := ∀ (S : AS) (H : Hp) (ws : List W) (vs : List V) (z : Z) (Q : VK), Vws G S H ws vs → f ws = some z → Res G S H z Q → r vs H Q
theorem prim_out {p : Pr} {r : List V → Hp → VK → Prop} (hp : PrOk G r (prW p)) {ods : List Od} {vs : List V} {env : Env} {S : AS} {A : List Addr} {σ : L2.St} {H : Hp} {Q : VK} (en : EnvR G S H env σ A) (ok : Ok S H A) (h : OdRs G σ S H ods vs)
    (o : Out G U σ S H A (rZ G) (primM p ods env) Q) : r vs H Q := by
  unfold primM at o
  cases e : resAll env ods with
  | none => rw [e] at o; exact o.elim
  | some zs =>
    rw [e] at o
    dsimp only at o
    cases q : prW p (zs.map frz) with
    | none => rw [q] at o; exact o.elim
    | some z =>
      rw [q] at o
      exact hp S H _ vs z Q (res_vw en h e) q (Res.out en ok o)
/-- a built-in function of operands -/
theorem sx_prA {p : Pr} {r : List V → Hp → VK → Prop} (hp : PrOk G r (prW p)) {e : Expr} {es : List Expr} {d : Den (List Od)} (hs : PA X es (tD G U (rOs G) d)) (h : ∀ t, PA X es t → PE X e (tCB r t)) : PE X e (tD G U (rZ G) (cPr p d)) :=
  (h _ hs).imp fun σ H Q ⟨env, S, A, en, ok, o⟩ => ⟨env, S, A, en, ok, (Out.bind (rel := rOs G) (fun h => h.2) o).mono fun vs H1 ⟨os, env1, S1, A1, _, en1, ok1, ⟨r1, _⟩, f1, o2⟩ => prim_out hp en1 ok1 r1 o2⟩
/-- an operator of two operands -/
theorem sx_pr2 {p : Pr} {r : R2} (hp : PrOk G (fun vs H Q => ∃ x y, vs = [x, y] ∧ r x y H Q) (prW p)) {a b e : Expr} {da db : Den Od} (ha : PE X a (tD G U (rO G) da)) (hb : PE X b (tD G U (rO G) db))
    (h : ∀ ta tb, PE X a ta → PE X b tb → PE X e (tOp r ta tb)) : PE X e (tD G U (rZ G) (cPr p (cConsO da (cConsO db cNil)))) :=
  (h _ _ ha hb).imp fun σ H Q ⟨env, S, A, en, ok, o⟩ => by
    refine ⟨env, S, A, en, ok, ?_⟩
    have o1 : Out G U σ S H A (rZ G) ((da env).bind fun a env => (db env).bind fun b env => primM p [a, b] env) Q := by
      have e : ((da env).bind fun a env => (db env).bind fun b env => primM p [a, b] env) = cPr p (cConsO da (cConsO db cNil)) env := by
        unfold cPr cConsO cNil
        cases da env with
        | ok a e1 => dsimp only [R.bind]; cases db e1 <;> rfl
        | _ => rfl
      rw [e]; exact o
    refine (Out.bind (rel := rO G) (fun h => h.2) o1).mono fun x H1 ⟨oa, env1, S1, A1, _, en1, ok1, ⟨r1, _⟩, f1, o2⟩ => ⟨env1, S1, A1, en1, ok1, ?_⟩
    refine (Out.bind (rel := rO G) (fun h => h.2) o2).mono fun y H2 ⟨ob, env2, S2, A2, _, en2, ok2, ⟨r2, _⟩, f2, o3⟩ => ?_
    obtain ⟨x', y', e, q⟩ := prim_out hp (ods := [oa, ob]) (vs := [x, y]) en2 ok2 ⟨x, [y], rfl, r1.mono f2 ok1, y, [], rfl, r2, rfl⟩ o3
    cases e
    exact q
/-- .. of one -/
theorem sx_pr1 {p : Pr} {r : V → Hp → VK → Prop} (hp : PrOk G (fun vs H Q => ∃ x, vs = [x] ∧ r x H Q) (prW p)) {a e : Expr} {da : Den Od} (ha : PE X a (tD G U (rO G) da))
    (h : ∀ ta, PE X a ta → PE X e (tUn r ta)) : PE X e (tD G U (rZ G) (cPr p (cConsO da cNil))) :=
  (h _ ha).imp fun σ H Q ⟨env, S, A, en, ok, o⟩ => by
    refine ⟨env, S, A, en, ok, ?_⟩
    have o1 : Out G U σ S H A (rZ G) ((da env).bind fun a env => primM p [a] env) Q := by
      have e : ((da env).bind fun a env => primM p [a] env) = cPr p (cConsO da cNil) env := by
        unfold cPr cConsO cNil
        cases da env <;> rfl
      rw [e]; exact o
    refine (Out.bind (rel := rO G) (fun h => h.2) o1).mono fun x H1 ⟨oa, env1, S1, A1, _, en1, ok1, ⟨r1, _⟩, f1, o2⟩ => ?_
    obtain ⟨x', e, q⟩ := prim_out hp (ods := [oa]) (vs := [x]) en1 ok1 ⟨x, [], rfl, r1, rfl⟩ o2
    cases e
    exact q
end
end Cb

end
section
set_option maxRecDepth 100000
set_option maxHeartbeats 4000000
/-! calls of defs -/
namespace Cb
open PySem PySem.Spec PyProof.Rows L2
def RZs (G : Gc) (S : AS) (H : Hp) : List Z → List V → List (List Addr) → Prop
  | [], vs, Bs => vs = [] ∧ Bs = []
  | z :: zs, vs, Bs => ∃ v r B Br, vs = v :: r ∧ Bs = B :: Br ∧ RZ G S H z v B ∧ RZs G S H zs r Br
/-- what a def of the meaning m promises -/
def spM [Tb] (G : Gc) (n : Nat) (m : Mean) : Sp := fun vs H Q E => vs.length = n ∧ ∃ zs S Bs, RZs G S H zs vs Bs ∧ Ok S H Bs.flatten ∧ (match m zs with
  | .ok z back => ∀ v H' S' B Bs', RZs G S' H' back vs Bs' → RZ G S' H' z v B → Ok S' H' (B ++ Bs'.flatten) → Fr S H Bs.flatten S' H' (B ++ Bs'.flatten) → Q v H'
  | .ex x back => ∀ cls d H' S' Bs', XR G S' H' x cls d → RZs G S' H' back vs Bs' → Ok S' H' Bs'.flatten → Fr S H Bs.flatten S' H' Bs'.flatten → E cls d H'
  | .bad => False)
def clr : Env → List Nat → Env
  | env, [] => env
  | env, i :: l => clr (env.set i none) l
theorem clr_set {i : Nat} {x : Option Z} : ∀ {l : List Nat} {env : Env}, i ∉ l → (clr env l).set i x = clr (env.set i x) l
  | [], _, _ => rfl
  | j :: l, env, h => by
    have h1 : i ≠ j := fun e => h (by simp [e])
    have h2 : i ∉ l := fun m => h (List.mem_cons_of_mem _ m)
    show (clr (env.set j none) l).set i x = clr ((env.set i x).set j none) l
    rw [clr_set h2, List.set_comm _ _ (Ne.symm h1)]
theorem clr_len : ∀ {l : List Nat} {env : Env}, (clr env l).length = env.length
  | [], _ => rfl
  | j :: l, env => by show (clr (env.set j none) l).length = _; rw [clr_len, List.length_set]
theorem gets_set_ne {i j : Nat} {x : Option Z} (h : i ≠ j) : ∀ {env : Env}, gets (env.set i x) j = gets env j := fun {env} => by
  cases e : gets env j with
  | some z => exact gets_iff.mpr (by rw [List.getElem?_set_ne h]; exact gets_iff.mp e)
  | none =>
    cases q : gets (env.set i x) j with
    | none => rfl
    | some z =>
      have := gets_iff.mp q
      rw [List.getElem?_set_ne h] at this
      rw [gets_iff.mpr this] at e; cases e
theorem nodupB_iff : ∀ {l : List Nat}, nodupB l = true → l.Nodup
  | [], _ => List.nodup_nil
  | x :: r, h => by
    unfold nodupB at h
    simp only [Bool.and_eq_true, Bool.not_eq_true', List.contains_eq_mem, decide_eq_false_iff_not] at h
    exact List.nodup_cons.mpr ⟨h.1, nodupB_iff h.2⟩
theorem res_clear {env : Env} {i : Nat} {z : Z} (hi : gets env i = some z) (ho : isOwn z = true) : ∀ {os : List Od} {zs : List Z}, resAll env os = some zs → i ∉ lent os zs → resAll (env.set i none) os = some zs
  | [], zs, e, _ => e
  | o :: os, zs, e, h => by
    unfold resAll at e ⊢
    cases q : o.res env with
    | none => rw [q] at e; cases e
    | some y =>
      cases q2 : resAll env os with
      | none => rw [q, q2] at e; cases e
      | some ys =>
        rw [q, q2] at e
        cases e
        cases o with
        | w x =>
          have ih := res_clear hi ho q2 (by simpa [lent] using h)
          cases q
          rw [ih]
          rfl
        | s j =>
          have q' : gets env j = some y := q
          by_cases e : i = j
          · subst e
            rw [hi] at q'; cases q'
            exact absurd (show i ∈ lent (.s i :: os) (z :: ys) by unfold lent; rw [if_pos ho]; exact List.mem_cons_self) h
          · have h2 : i ∉ lent os ys := fun m => h (by
              show i ∈ lent (.s j :: os) (y :: ys)
              unfold lent
              split
              · exact List.mem_cons_of_mem _ m
              · exact m)
            have ih := res_clear hi ho q2 h2
            have q3 : gets (env.set i none) j = some y := by rw [gets_set_ne e]; exact q'
            show (match Od.res (env.set i none) (.s j), resAll (env.set i none) os with | some z, some zs => some (z :: zs) | _, _ => none) = _
            rw [ih]
            show (match gets (env.set i none) j, some ys with | some z, some zs => some (z :: zs) | _, _ => none) = _
            rw [q3]
section
variable [Tb] {G : Gc} {U : L2.WX} {X : Cx} {S S' : AS} {H H' : Hp} {σ : L2.St}
theorem RZ.w_nil {x : W} {v : V} {B : List Addr} (h : RZ G S H (.w x) v B) : B = [] := h.2
theorem isOwn_false {z : Z} (h : isOwn z = false) : ∃ x, z = .w x := by cases z with | w x => exact ⟨x, rfl⟩ | _ => cases h
/-- the lent objects taken out of the frame -/
theorem lend : ∀ {ods : List Od} {vs : List V} {zs : List Z} {env : Env} {A : List Addr}, EnvR G S H env σ A → OdRs G σ S H ods vs → resAll env ods = some zs → (lent ods zs).Nodup →
    ∃ Bs R, RZs G S H zs vs Bs ∧ A.Perm (Bs.flatten ++ R) ∧ EnvR G S H (clr env (lent ods zs)) σ R
  | [], vs, zs, env, A, en, h, e, _ => by
    cases e
    exact ⟨[], A, ⟨h, rfl⟩, List.Perm.refl _, en⟩
  | o :: os, vs, zs, env, A, en, ⟨v, r, e1, h1, h2⟩, e, nd => by
    subst e1
    unfold resAll at e
    cases q : o.res env with
    | none => rw [q] at e; cases e
    | some z =>
      cases q2 : resAll env os with
      | none => rw [q, q2] at e; cases e
      | some zs' =>
        rw [q, q2] at e
        cases e
        cases o with
        | w x =>
          cases q
          obtain ⟨Bs, R, k1, k2, k3⟩ := lend en h2 q2 nd
          exact ⟨[] :: Bs, R, ⟨v, r, [], Bs, rfl, rfl, ⟨h1, rfl⟩, k1⟩, k2, k3⟩
        | s i =>
          have q' : gets env i = some z := q
          obtain ⟨v', B, R0, hs, rz, pm, er⟩ := en.gets q'
          rw [show σ[i]? = some (some v) from h1] at hs
          cases hs
          cases ho : isOwn z with
          | false =>
            have e3 : lent (.s i :: os) (z :: zs') = lent os zs' := by
              show (if isOwn z = true then _ else _) = _
              rw [ho]; rfl
            rw [e3] at nd ⊢
            obtain ⟨Bs, R, k1, k2, k3⟩ := lend en h2 q2 nd
            obtain ⟨x, rfl⟩ := isOwn_false ho
            obtain rfl := rz.w_nil
            exact ⟨[] :: Bs, R, ⟨v, r, [], Bs, rfl, rfl, rz, k1⟩, k2, k3⟩
          | true =>
            have e3 : lent (.s i :: os) (z :: zs') = i :: lent os zs' := by
              show (if isOwn z = true then _ else _) = _
              rw [ho]; rfl
            rw [e3] at nd ⊢
            obtain ⟨n1, n2⟩ := List.nodup_cons.mp nd
            obtain ⟨Bs, R, k1, k2, k3⟩ := lend er h2 (res_clear q' ho q2 n1) n2
            refine ⟨B :: Bs, R, ⟨v, r, B, Bs, rfl, rfl, rz, k1⟩, ?_, k3⟩
            rw [List.flatten_cons, List.append_assoc]
            exact pm.trans (List.Perm.append_left B k2)
/-- .. and put back -/
theorem giveBack : ∀ {ods : List Od} {vs : List V} {zs back : List Z} {Bs : List (List Addr)} {env : Env} {R : List Addr}, OdRs G σ S H ods vs → (lent ods zs).Nodup → zs.length = ods.length → (∀ i ∈ lent ods zs, i < env.length) →
    RZs G S' H' back vs Bs → EnvR G S' H' (clr env (lent ods zs)) σ R →
    ∃ A' C, EnvR G S' H' (putBack ods zs back env) σ A' ∧ (Bs.flatten ++ R).Perm (A' ++ C)
  | [], vs, zs, back, Bs, env, R, h, nd, hl, hi, hb, en => by
    have e : vs = [] := h
    subst e
    cases back with
    | nil =>
      obtain ⟨_, rfl⟩ := hb
      cases zs with
      | nil => exact ⟨R, [], en, by simp⟩
      | cons z zs => simp at hl
    | cons b bs => obtain ⟨_, _, _, _, e, _⟩ := hb; cases e
  | o :: os, vs, zs, back, Bs, env, R, ⟨v, r, e1, h1, h2⟩, nd, hl, hi, hb, en => by
    subst e1
    cases zs with
    | nil => simp at hl
    | cons z zs =>
    cases back with
    | nil => obtain ⟨e, _⟩ := hb; cases e
    | cons b bs =>
    obtain ⟨v', r', B, Br, e, rfl, rb, rbs⟩ := hb
    cases e
    have hl' : zs.length = os.length := by simpa using hl
    have skip : (lent (o :: os) (z :: zs) = lent os zs) → (∀ env, putBack (o :: os) (z :: zs) (b :: bs) env = putBack os zs bs env) → ∃ A' C, EnvR G S' H' (putBack (o :: os) (z :: zs) (b :: bs) env) σ A' ∧ ((B :: Br).flatten ++ R).Perm (A' ++ C) := by
      intro e1 e2
      rw [e1] at nd hi en
      rw [e2]
      obtain ⟨A', C, k1, k2⟩ := giveBack h2 nd hl' hi rbs en
      refine ⟨A', C ++ B, k1, ?_⟩
      rw [List.flatten_cons, List.append_assoc]
      refine List.perm_append_comm.trans ?_
      rw [← List.append_assoc]
      exact List.Perm.append_right B k2
    cases o with
    | w x => exact skip rfl fun _ => rfl
    | s i =>
      cases ho : isOwn z with
      | false => exact skip (by show (if isOwn z = true then _ else _) = _; rw [ho]; rfl) (fun env => by show putBack os zs bs (if isOwn z = true then _ else _) = _; rw [ho]; rfl)
      | true =>
        have e3 : lent (.s i :: os) (z :: zs) = i :: lent os zs := by
          show (if isOwn z = true then _ else _) = _
          rw [ho]; rfl
        have e4 : putBack (.s i :: os) (z :: zs) (b :: bs) env = putBack os zs bs (env.set i (some b)) := by
          show putBack os zs bs (if isOwn z = true then _ else _) = _
          rw [ho]; rfl
        rw [e3] at nd hi en
        rw [e4]
        obtain ⟨n1, n2⟩ := List.nodup_cons.mp nd
        have hil : i < env.length := hi i List.mem_cons_self
        have en2 : EnvR G S' H' ((clr (env.set i (some b)) (lent os zs)).set i none) σ R := by
          rw [clr_set n1, List.set_set]
          exact en
        obtain ⟨A1, k1, k2⟩ := en2.put' (z := b) (B := B) (by rw [clr_len, List.length_set]; exact hil) h1 rb
        have e5 : (clr (env.set i (some b)) (lent os zs)).set i (some b) = clr (env.set i (some b)) (lent os zs) := by
          rw [clr_set n1, List.set_set]
        rw [e5] at k1
        obtain ⟨A', C, j1, j2⟩ := giveBack h2 n2 hl' (fun j hj => by rw [List.length_set]; exact hi j (List.mem_cons_of_mem _ hj)) rbs k1
        refine ⟨A', C, j1, List.Perm.trans ?_ j2⟩
        rw [List.flatten_cons]
        refine (List.Perm.append_right R (List.perm_append_comm (l₁ := B) (l₂ := Br.flatten))).trans ?_
        rw [List.append_assoc]
        exact List.Perm.append_left _ k2.symm
theorem res_len : ∀ {ods : List Od} {zs : List Z} {env : Env}, resAll env ods = some zs → zs.length = ods.length
  | [], zs, env, e => by cases e; rfl
  | o :: os, zs, env, e => by
    unfold resAll at e
    cases q : o.res env with
    | none => rw [q] at e; cases e
    | some z =>
      cases q2 : resAll env os with
      | none => rw [q, q2] at e; cases e
      | some zs' =>
        rw [q, q2] at e
        cases e
        simp [res_len q2]
theorem lent_lt : ∀ {ods : List Od} {zs : List Z} {env : Env}, resAll env ods = some zs → ∀ i ∈ lent ods zs, i < env.length
  | [], zs, env, e, i, hi => by cases e; exact absurd hi (by simp [lent])
  | o :: os, zs, env, e, i, hi => by
    unfold resAll at e
    cases q : o.res env with
    | none => rw [q] at e; cases e
    | some z =>
      cases q2 : resAll env os with
      | none => rw [q, q2] at e; cases e
      | some zs' =>
        rw [q, q2] at e
        cases e
        cases o with
        | w x => exact lent_lt q2 i (by simpa [lent] using hi)
        | s j =>
          have hi' : i ∈ (if isOwn z = true then j :: lent os zs' else lent os zs') := hi
          split at hi'
          · rcases List.mem_cons.mp hi' with e | hi'
            · rw [e]; exact gets_lt (show gets env j = some z from q)
            · exact lent_lt q2 i hi'
          · exact lent_lt q2 i hi'
theorem OdRs.len : ∀ {ods : List Od} {vs : List V}, OdRs G σ S H ods vs → vs.length = ods.length
  | [], vs, h => by rw [show vs = [] from h]; rfl
  | _ :: _, vs, ⟨v, r, e, _, h⟩ => by rw [e]; simp [OdRs.len h]
/-- a call's promise, S told -/
def spS [Tb] (G : Gc) (S : AS) (n : Nat) (m : Mean) : Sp := fun vs H Q E => vs.length = n ∧ ∃ zs Bs, RZs G S H zs vs Bs ∧ Ok S H Bs.flatten ∧ (match m zs with
  | .ok z back => ∀ v H' S' B Bs', RZs G S' H' back vs Bs' → RZ G S' H' z v B → Ok S' H' (B ++ Bs'.flatten) → Fr S H Bs.flatten S' H' (B ++ Bs'.flatten) → Q v H'
  | .ex x back => ∀ cls d H' S' Bs', XR G S' H' x cls d → RZs G S' H' back vs Bs' → Ok S' H' Bs'.flatten → Fr S H Bs.flatten S' H' Bs'.flatten → E cls d H'
  | .bad => False)
theorem spS.m {m : Mean} {n : Nat} {vs : List V} {Q : VK} {E : XK} (h : spS G S n m vs H Q E) : spM G n m vs H Q E := by
  obtain ⟨h1, zs, Bs, h2⟩ := h
  exact ⟨h1, zs, S, Bs, h2⟩
/-- a call's promise from what is wanted behind it -/
theorem call_outS {m : Mean} {n : Nat} {ods : List Od} {vs : List V} {env : Env} {A : List Addr} {Q : VK} (hn : ods.length = n) (en : EnvR G S H env σ A) (ok : Ok S H A) (h : OdRs G σ S H ods vs) (o : Out G U σ S H A (rZ G) (callM m ods env) Q) :
    spS G S n m vs H Q fun cls d H' => U cls d σ H' := by
  unfold callM at o
  cases e : resAll env ods with
  | none => rw [e] at o; exact o.elim
  | some zs =>
    rw [e] at o
    dsimp only at o
    cases hnd : nodupB (lent ods zs) with
    | false => rw [hnd, if_neg Bool.false_ne_true] at o; exact o.elim
    | true =>
      rw [hnd, if_pos rfl] at o
      have nd := nodupB_iff hnd
      obtain ⟨Bs, R, k1, k2, k3⟩ := lend en h e nd
      have ok2 : Ok S H (Bs.flatten ++ R) := ok.perm k2.symm
      refine ⟨h.len.trans hn, zs, Bs, k1, ok2.left, ?_⟩
      cases q : m zs with
      | bad => rw [q] at o; exact o.elim
      | ok z back =>
        rw [q] at o
        dsimp only at o ⊢
        by_cases hb : back.length = zs.length
        · rw [if_pos hb] at o
          intro v H' S' B Bs' rb rz ok' f
          have kp : EnvR G S' H' (clr env (lent ods zs)) σ R := k3.mono (f.kp ok2.left) f.up (f.offK ok2)
          obtain ⟨A', C, j1, j2⟩ := giveBack (S := S) (H := H) h nd (res_len e) (lent_lt e) rb kp
          have ok3 : Ok S' H' ((B ++ Bs'.flatten) ++ R) := f.off ok2 ok'
          have pm : (B ++ (A' ++ C)).Perm ((B ++ Bs'.flatten) ++ R) := by
            rw [List.append_assoc]
            exact List.Perm.append_left B j2.symm
          have ok4 : Ok S' H' (B ++ A') := (ok3.perm pm).sub (List.Sublist.append_left (List.sublist_append_left _ _) B)
          refine o v H' S' A' B j1 rz ok4 ⟨fun a u ea na => f.keep a u ea fun hm => na (k2.mem_iff.mpr (List.mem_append_left _ hm)), f.up, fun a ha => ?_, fun a ha => ?_, f.dom⟩
          · rcases f.back a ha with h | h | h
            · exact .inl h
            · exact .inr (.inl (k2.mem_iff.mpr (List.mem_append_left _ h)))
            · exact .inr (.inr h)
          · have hm : a ∈ (B ++ Bs'.flatten) ++ R := pm.mem_iff.mp (by
              rcases List.mem_append.mp ha with h | h
              · exact List.mem_append_left _ h
              · exact List.mem_append_right _ (List.mem_append_left _ h))
            rcases List.mem_append.mp hm with h | h
            · rcases f.own a h with h | h
              · exact .inl (k2.mem_iff.mpr (List.mem_append_left _ h))
              · exact .inr h
            · exact .inl (k2.mem_iff.mpr (List.mem_append_right _ h))
        · rw [if_neg hb] at o; exact o.elim
      | ex x back =>
        rw [q] at o
        dsimp only at o ⊢
        by_cases hb : back.length = zs.length
        · rw [if_pos hb] at o
          intro cls d H' S' Bs' xr rb ok' f
          have kp : EnvR G S' H' (clr env (lent ods zs)) σ R := k3.mono (f.kp ok2.left) f.up (f.offK ok2)
          obtain ⟨A', C, j1, j2⟩ := giveBack (S := S) (H := H) h nd (res_len e) (lent_lt e) rb kp
          have ok3 : Ok S' H' (Bs'.flatten ++ R) := f.off ok2 ok'
          have ok4 : Ok S' H' A' := (ok3.perm j2.symm).sub (List.sublist_append_left _ _)
          refine o cls d H' S' A' xr j1 ok4 ⟨fun a u ea na => f.keep a u ea fun hm => na (k2.mem_iff.mpr (List.mem_append_left _ hm)), f.up, fun a ha => ?_, fun a ha => ?_, f.dom⟩
          · rcases f.back a ha with h | h | h
            · exact .inl h
            · exact .inr (.inl (k2.mem_iff.mpr (List.mem_append_left _ h)))
            · exact .inr (.inr h)
          · have hm : a ∈ Bs'.flatten ++ R := j2.mem_iff.mpr (List.mem_append_left _ ha)
            rcases List.mem_append.mp hm with h | h
            · rcases f.own a h with h | h
              · exact .inl (k2.mem_iff.mpr (List.mem_append_left _ h))
              · exact .inr h
            · exact .inl (k2.mem_iff.mpr (List.mem_append_right _ h))
        · rw [if_neg hb] at o; exact o.elim
theorem call_out {m : Mean} {n : Nat} {ods : List Od} {vs : List V} {env : Env} {A : List Addr} {Q : VK} (hn : ods.length = n) (en : EnvR G S H env σ A) (ok : Ok S H A) (h : OdRs G σ S H ods vs) (o : Out G U σ S H A (rZ G) (callM m ods env) Q) :
    spM G n m vs H Q fun cls d H' => U cls d σ H' := (call_outS hn en ok h o).m
/-- .. whatever the tables' other facts -/
theorem spM_tb {T T' : Tb} {m : Mean} {n : Nat} {vs : List V} {Q : VK} {E : XK} (e : T'.T = T.T) (h : @spM T' G n m vs H Q E) : @spM T G n m vs H Q E := by
  have ok : ∀ {S : AS} {H : Hp} {A : List Addr}, @Ok T' S H A → @Ok T S H A := fun h => @Ok.mk T _ _ _ (@Ok.nd T' _ _ _ h) (@Ok.own T' _ _ _ h) (@Ok.dom T' _ _ _ h) (by rw [← e]; exact @Ok.tab T' _ _ _ h)
  have ok' : ∀ {S : AS} {H : Hp} {A : List Addr}, @Ok T S H A → @Ok T' S H A := fun h => @Ok.mk T' _ _ _ (@Ok.nd T _ _ _ h) (@Ok.own T _ _ _ h) (@Ok.dom T _ _ _ h) (by rw [e]; exact @Ok.tab T _ _ _ h)
  obtain ⟨h1, zs, S, Bs, h2, h3, h4⟩ := h
  refine ⟨h1, zs, S, Bs, h2, ok h3, ?_⟩
  cases q : m zs with
  | ok z back => rw [q] at h4; exact fun v H' S' B Bs' r1 r2 r3 r4 => h4 v H' S' B Bs' r1 r2 (ok' r3) r4
  | ex x back => rw [q] at h4; exact fun cls d H' S' Bs' r1 r2 r3 r4 => h4 cls d H' S' Bs' r1 r2 (ok' r3) r4
  | bad => rw [q] at h4; exact h4
end
end Cb

end
section
set_option maxRecDepth 100000
set_option maxHeartbeats 4000000
/-! statements' outcomes; a def by its body -/
namespace Cb
open PySem PySem.Spec PyProof.Rows L2
/-- slots that are never stored -/
def Agr (K : List Nat) (σ σ' : L2.St) : Prop := ∀ i ∈ K, σ'[i]? = σ[i]?
theorem Agr.refl {K : List Nat} {σ : L2.St} : Agr K σ σ := fun _ _ => rfl
theorem Agr.trans {K : List Nat} {σ σ1 σ2 : L2.St} (a : Agr K σ σ1) (b : Agr K σ1 σ2) : Agr K σ σ2 := fun i h => (b i h).trans (a i h)
theorem Agr.set {K : List Nat} {σ : L2.St} {i : Nat} {x : Option V} (h : i ∉ K) : Agr K σ (σ.set i x) := fun j hj => by
  have ne : i ≠ j := fun e => h (by rw [e]; exact hj)
  exact List.getElem?_set_ne ne
def OutS [Tb] (G : Gc) (U : L2.WX) (K : List Nat) (σ : L2.St) (S : AS) (H : Hp) (A : List Addr) (r : SR) (D : Ends) : Prop := match r with
  | .nx e => ∀ σ' H' S' A', Agr K σ σ' → EnvR G S' H' e σ' A' → Ok S' H' A' → Fr S H A S' H' A' → D.nx σ' H'
  | .bk e => ∀ σ' H' S' A', Agr K σ σ' → EnvR G S' H' e σ' A' → Ok S' H' A' → Fr S H A S' H' A' → D.bk σ' H'
  | .ct e => ∀ σ' H' S' A', Agr K σ σ' → EnvR G S' H' e σ' A' → Ok S' H' A' → Fr S H A S' H' A' → D.ct σ' H'
  | .rt z e => ∀ v σ' H' S' A' B, Agr K σ σ' → EnvR G S' H' e σ' A' → RZ G S' H' z v B → Ok S' H' (B ++ A') → Fr S H A S' H' (B ++ A') → D.rt v H'
  | .ex x e => ∀ cls d σ' H' S' A', XR G S' H' x cls d → Agr K σ σ' → EnvR G S' H' e σ' A' → Ok S' H' A' → Fr S H A S' H' A' → U cls d σ' H'
  | .bad => False
def tS [Tb] (G : Gc) (U : L2.WX) (K : List Nat) (d : DenS) : TS := fun D σ H => ∃ env S A, EnvR G S H env σ A ∧ Ok S H A ∧ OutS G U K σ S H A (d env) D
section
variable [Tb] {G : Gc} {U : L2.WX} {K : List Nat} {X : Cx}
theorem OutS.from {σ σ1 : L2.St} {S S1 : AS} {H H1 : Hp} {A A1 : List Addr} {r : SR} {D : Ends} (h : OutS G U K σ S H A r D) (g : Agr K σ σ1) (f : Fr S H A S1 H1 A1) : OutS G U K σ1 S1 H1 A1 r D := by
  cases r with
  | nx e => exact fun σ' H' S' A' a h1 h2 h3 => h σ' H' S' A' (g.trans a) h1 h2 (f.trans h3)
  | bk e => exact fun σ' H' S' A' a h1 h2 h3 => h σ' H' S' A' (g.trans a) h1 h2 (f.trans h3)
  | ct e => exact fun σ' H' S' A' a h1 h2 h3 => h σ' H' S' A' (g.trans a) h1 h2 (f.trans h3)
  | rt z e => exact fun v σ' H' S' A' B a h1 h2 h3 h4 => h v σ' H' S' A' B (g.trans a) h1 h2 h3 (f.trans h4)
  | ex x e => exact fun cls d σ' H' S' A' h1 a h2 h3 h4 => h cls d σ' H' S' A' h1 (g.trans a) h2 h3 (f.trans h4)
  | bad => exact h
theorem OutS.mono {σ : L2.St} {S : AS} {H : Hp} {A : List Addr} {r : SR} {D D' : Ends} (h : OutS G U K σ S H A r D) (n : ∀ σ H, D.nx σ H → D'.nx σ H) (b : ∀ σ H, D.bk σ H → D'.bk σ H) (c : ∀ σ H, D.ct σ H → D'.ct σ H) (t : ∀ v H, D.rt v H → D'.rt v H) : OutS G U K σ S H A r D' := by
  cases r with
  | nx e => exact fun σ' H' S' A' a h1 h2 h3 => n _ _ (h σ' H' S' A' a h1 h2 h3)
  | bk e => exact fun σ' H' S' A' a h1 h2 h3 => b _ _ (h σ' H' S' A' a h1 h2 h3)
  | ct e => exact fun σ' H' S' A' a h1 h2 h3 => c _ _ (h σ' H' S' A' a h1 h2 h3)
  | rt z e => exact fun v σ' H' S' A' B a h1 h2 h3 h4 => t _ _ (h v σ' H' S' A' B a h1 h2 h3 h4)
  | ex x e => exact h
  | bad => exact h
/-- an expression first, then what is made of its outcome -/
theorem of_bind {α β : Type} {rel : Rel α β} {σ : L2.St} {S : AS} {H : Hp} {A : List Addr} {r : R α} {k : α → Env → R SR} {D : Ends} (hB : ∀ {S H a b B}, rel σ S H a b B → B = []) (h : OutS G U K σ S H A (SR.of (r.bind k)) D) :
    Out G U σ S H A rel r fun b H1 => Nxt G σ S H A rel r b H1 fun S1 A1 a env1 => OutS G U K σ S1 H1 A1 (SR.of (k a env1)) D := by
  cases r with
  | ok a e =>
    intro b H' S' A' B h1 h2 h3 h4
    obtain rfl := hB h2
    exact ⟨a, e, S', A', rfl, h1, h3, h2, h4, OutS.from h Agr.refl h4⟩
  | ex x e => exact fun cls d H' S' A' h1 h2 h3 h4 => h cls d σ H' S' A' h1 Agr.refl h2 h3 h4
  | bad => exact h
/-- .. where the value's own objects are kept -/
theorem of_bindZ {σ : L2.St} {S : AS} {H : Hp} {A : List Addr} {r : R Z} {k : Z → Env → SR} {D : Ends} (h : OutS G U K σ S H A (SR.of (r.bind fun z e => .ok (k z e) e)) D) :
    Out G U σ S H A (rZ G) r fun v H1 => ∃ z env1 S1 A1 B, r = .ok z env1 ∧ EnvR G S1 H1 env1 σ A1 ∧ RZ G S1 H1 z v B ∧ Ok S1 H1 (B ++ A1) ∧ Fr S H A S1 H1 (B ++ A1) ∧ OutS G U K σ S1 H1 (B ++ A1) (k z env1) D := by
  cases r with
  | ok a e =>
    intro b H' S' A' B h1 h2 h3 h4
    exact ⟨a, e, S', A', B, rfl, h1, h2, h3, h4, OutS.from h Agr.refl h4⟩
  | ex x e => exact fun cls d H' S' A' h1 h2 h3 h4 => h cls d σ H' S' A' h1 Agr.refl h2 h3 h4
  | bad => exact h

/-! ### the entry -/
theorem envR_none {S : AS} {H : Hp} : ∀ n : Nat, EnvR G S H (List.replicate n none) (List.replicate n none) []
  | 0 => .nil
  | n + 1 => .off (envR_none n)
theorem envR_start {S : AS} {H : Hp} {n : Nat} : ∀ {zs : List Z} {vs : List V} {Bs : List (List Addr)}, RZs G S H zs vs Bs → EnvR G S H (zs.map some ++ List.replicate n none) (vs.map some ++ List.replicate n none) Bs.flatten
  | [], vs, Bs, ⟨h1, h2⟩ => by subst h1 h2; exact envR_none n
  | z :: zs, vs, Bs, ⟨v, r, B, Br, e1, e2, h1, h2⟩ => by
    subst e1 e2
    exact EnvR.on h1 (envR_start h2)
theorem RZs.len {S : AS} {H : Hp} : ∀ {zs : List Z} {vs : List V} {Bs : List (List Addr)}, RZs G S H zs vs Bs → zs.length = vs.length
  | [], vs, Bs, ⟨h1, h2⟩ => by subst h1; rfl
  | z :: zs, vs, Bs, ⟨v, r, B, Br, e1, e2, h1, h2⟩ => by
    subst e1
    simp [RZs.len h2]
theorem RZs.at {S : AS} {H : Hp} : ∀ {zs : List Z} {vs : List V} {Bs : List (List Addr)} {i : Nat} {z : Z}, RZs G S H zs vs Bs → zs[i]? = some z → ∃ v B, vs[i]? = some v ∧ RZ G S H z v B
  | [], _, _, _, _, _, e => by simp at e
  | z :: zs, vs, Bs, 0, _, ⟨v, r, B, Br, e1, e2, h1, h2⟩, e => by
    subst e1
    simp at e; subst e
    exact ⟨v, B, rfl, h1⟩
  | z :: zs, vs, Bs, i + 1, _, ⟨v, r, B, Br, e1, e2, h1, h2⟩, e => by
    subst e1
    simpa using RZs.at (i := i) h2 (by simpa using e)
/-- the arguments as they stand behind the body -/
theorem back_ok {keeps : List Nat} {zs : List Z} {S : AS} {H : Hp} {vf : Nat → V} : ∀ {l : List Nat} {env e0 : Env} {σ : L2.St} {A : List Addr} {b : List Z}, EnvR G S H env σ A → l.Nodup → (∀ i ∈ l, gets env i = gets e0 i) → (∀ i ∈ l, i ∈ keeps → σ[i]? = some (some (vf i))) →
    (∀ i ∈ l, ∀ x, zs[i]? = some (.w x) → Rp G S H x (vf i)) → (l.mapM fun i => if keeps.contains i then gets e0 i else (match zs[i]? with | some (.w x) => some (.w x) | _ => none)) = some b →
    ∃ Bs R, RZs G S H b (l.map vf) Bs ∧ A.Perm (Bs.flatten ++ R)
  | [], env, e0, σ, A, b, en, _, _, _, _, e => by
    have e' : b = [] := by simpa using e.symm
    subst e'
    exact ⟨[], A, ⟨rfl, rfl⟩, List.Perm.refl _⟩
  | i :: l, env, e0, σ, A, b, en, nd, hg, hσ, hz, e => by
    obtain ⟨n1, n2⟩ := List.nodup_cons.mp nd
    rw [List.mapM_cons] at e
    cases q : (if keeps.contains i then gets e0 i else (match zs[i]? with | some (.w x) => some (.w x) | _ => none)) with
    | none => rw [q] at e; cases e
    | some z =>
      rw [q] at e
      cases q2 : (l.mapM fun i => if keeps.contains i then gets e0 i else (match zs[i]? with | some (.w x) => some (.w x) | _ => none)) with
      | none =>
        have e' : (do let bs ← (l.mapM fun i => if keeps.contains i then gets e0 i else (match zs[i]? with | some (.w x) => some (.w x) | _ => none)); pure (z :: bs)) = some b := e
        rw [q2] at e'; cases e'
      | some bs =>
        have e' : (do let bs ← (l.mapM fun i => if keeps.contains i then gets e0 i else (match zs[i]? with | some (.w x) => some (.w x) | _ => none)); pure (z :: bs)) = some b := e
        rw [q2] at e'
        cases e'
        by_cases hk : keeps.contains i = true
        · rw [if_pos hk] at q
          have hk' : i ∈ keeps := by simpa using hk
          have q' : gets env i = some z := (hg i List.mem_cons_self).trans q
          obtain ⟨v, B, R0, hs, rz, pm, er⟩ := en.gets q'
          rw [hσ i List.mem_cons_self hk'] at hs
          cases hs
          obtain ⟨Bs, R, k1, k2⟩ := back_ok er n2 (fun j hj => by
            rw [gets_set_ne (fun e => n1 (by rw [e]; exact hj))]
            exact hg j (List.mem_cons_of_mem _ hj)) (fun j hj => hσ j (List.mem_cons_of_mem _ hj)) (fun j hj => hz j (List.mem_cons_of_mem _ hj)) q2
          refine ⟨B :: Bs, R, ⟨_, _, B, Bs, rfl, rfl, rz, k1⟩, ?_⟩
          rw [List.flatten_cons, List.append_assoc]
          exact pm.trans (List.Perm.append_left B k2)
        · rw [if_neg hk] at q
          obtain ⟨Bs, R, k1, k2⟩ := back_ok en n2 (fun j hj => hg j (List.mem_cons_of_mem _ hj)) (fun j hj => hσ j (List.mem_cons_of_mem _ hj)) (fun j hj => hz j (List.mem_cons_of_mem _ hj)) q2
          cases q3 : zs[i]? with
          | none => rw [q3] at q; cases q
          | some z' =>
            rw [q3] at q
            cases z' with
            | w x =>
              cases q
              exact ⟨[] :: Bs, R, ⟨_, _, [], Bs, rfl, rfl, ⟨hz i List.mem_cons_self x q3, rfl⟩, k1⟩, k2⟩
            | _ => cases q

/-! ### a def -/
theorem map_range {vs : List V} {d : V} : (List.range vs.length).map (fun i => vs.getD i d) = vs := by
  apply List.ext_getElem?
  intro i
  by_cases h : i < vs.length
  · simp [h]
  · simp [h]
/-- cdv is the def's code object -/
def CodeIs (K' : PySem.W.Frag) (f : Addr) (cdv : Value) : Prop := ∃ (c : Addr) (oc : Value) (od : Option Addr) (fd : FuncData) (osl : Array (Option Value)), cdv = .ref c ∧ K'.lookup f = some ⟨oc, od, .func fd, osl⟩ ∧ fd.code = .ref c
theorem code_ref {K' : PySem.W.Frag} {cd : Value} {q : Str} (h : PySem.W.codeIn K' cd q = true) : ∃ c, cd = .ref c := by
  cases cd with
  | ref c => exact ⟨c, rfl⟩
  | _ => cases h
theorem def_ok {P : Program} {w : World} {K' : PySem.W.Frag} {mg : Str → Option Value} {base : Heap} {x qual : Str} {params : Arguments} {body : List Stmt} {scope : Scope} {dvs : List V} {kws : List (Str × V)} {f : Addr} {fd : FuncData} {N ps : List Str} {k : Nat} (d : Df)
    (F : FunD K' x qual params body scope dvs kws f fd) (Sc : FnScope N ps scope) (hn : ps.length = d.np) (hs : N.length = d.ns) (hk : ∀ i ∈ d.keeps, i < d.np)
    (hb : ∀ (cdv : Value), CodeIs K' f cdv → ∀ (A : Around) (outer : List PySem.Env) (s : Shared) (H : Hp) (E : XK), Room k (A.deeper (envOfC qual scope s.heap.objs.size f cdv)) →
      PSs (cxOf (L2.CX P w) P w K' mg base N qual scope f cdv A outer s H E) body (tS G (fun cls d _ H => E cls d H) d.keeps d.body)) :
    FnOk P w K' mg base (L2.CX P w) (k + 1) f fd ps (spM G d.np (evD d)) := by
  obtain ⟨oc, od, dV, kV, doc, pm, an, cdv, ct, osl, rfl, lk, hcd, _, _⟩ := F.ex
  obtain ⟨c, rfl⟩ := code_ref hcd
  refine fn_of lk hcd Sc (fun vs H Q E h => h.1.trans hn.symm) fun A outer s H vs Q E hr h => ⟨_, hb (.ref c) ⟨c, oc, od, _, osl, rfl, lk, rfl⟩ A outer s H E hr, ?_⟩
  obtain ⟨hl, zs, S, Bs, rz, ok, h⟩ := h
  have hzl : zs.length = d.np := rz.len.trans hl
  unfold evD at h
  rw [if_pos hzl] at h
  have est : L2.start N vs = vs.map some ++ List.replicate (d.ns - d.np) none := by unfold L2.start; rw [hs, hl]
  rw [est]
  have en := envR_start (n := d.ns - d.np) rz
  refine ⟨_, S, Bs.flatten, en, ok, ?_⟩
  -- the arguments behind it
  have bk : ∀ {e : Env} {σ' : L2.St} {H' : Hp} {S' : AS} {A' : List Addr} {b : List Z}, Agr d.keeps (vs.map some ++ List.replicate (d.ns - d.np) none) σ' → EnvR G S' H' e σ' A' → Kp S H H' → (∀ a, S a → S' a) → backOf d zs e = some b →
      ∃ Bs' R, RZs G S' H' b vs Bs' ∧ A'.Perm (Bs'.flatten ++ R) := by
    intro e σ' H' S' A' b ag en' kp up hb
    have z := back_ok (G := G) (vf := fun i => vs.getD i .non) (keeps := d.keeps) (zs := zs) (l := List.range d.np) (e0 := e) en' List.nodup_range (fun _ _ => rfl) (fun i hi hk' => by
      have hi' : i < vs.length := by rw [hl]; exact List.mem_range.mp hi
      rw [ag i hk', List.getElem?_append_left (by simpa using hi'), List.getElem?_map]
      simp [hi']) (fun i hi x q => by
      obtain ⟨v, B, hv, r⟩ := rz.at q
      have e : vs.getD i .non = v := by simp [hv]
      rw [e]
      exact r.1.mono kp up) hb
    rw [← hl, map_range] at z
    exact z
  have fin : ∀ {z : Z} {e : Env} {v : V} {σ' : L2.St} {H' : Hp} {S' : AS} {A' B : List Addr} {b : List Z}, Agr d.keeps (vs.map some ++ List.replicate (d.ns - d.np) none) σ' → EnvR G S' H' e σ' A' → Ok S' H' (B ++ A') → Fr S H Bs.flatten S' H' (B ++ A') → backOf d zs e = some b →
      ∃ Bs', RZs G S' H' b vs Bs' ∧ Ok S' H' (B ++ Bs'.flatten) ∧ Fr S H Bs.flatten S' H' (B ++ Bs'.flatten) := by
    intro z e v σ' H' S' A' B b ag en' ok' f hb
    obtain ⟨Bs', R, k1, k2⟩ := bk ag en' (f.kp ok) f.up hb
    refine ⟨Bs', k1, (ok'.perm (List.Perm.append_left B k2.symm)).sub (List.Sublist.append_left (List.sublist_append_left _ _) B), f.less fun a ha => ?_⟩
    rcases List.mem_append.mp ha with h | h
    · exact List.mem_append_left _ h
    · exact List.mem_append_right _ (k2.mem_iff.mpr (List.mem_append_left _ h))
  cases e : d.body (zs.map some ++ List.replicate (d.ns - d.np) none) with
  | nx e1 =>
    rw [e] at h
    dsimp only at h
    cases q : backOf d zs e1 with
    | none => rw [q] at h; exact h.elim
    | some b =>
      rw [q] at h
      intro σ' H' S' A' ag en' ok' f
      obtain ⟨Bs', k1, k2, k3⟩ := fin (z := .w .non) (v := .non) (B := []) ag en' ok' f q
      exact h .non H' S' [] Bs' k1 ⟨rp_non _ _, rfl⟩ k2 k3
  | rt z e1 =>
    rw [e] at h
    dsimp only at h
    cases q : backOf d zs e1 with
    | none => rw [q] at h; exact h.elim
    | some b =>
      rw [q] at h
      intro v σ' H' S' A' B ag en' rz' ok' f
      obtain ⟨Bs', k1, k2, k3⟩ := fin (z := z) (v := v) ag en' ok' f q
      exact h v H' S' B Bs' k1 rz' k2 k3
  | ex x1 e1 =>
    rw [e] at h
    dsimp only at h
    cases q : backOf d zs e1 with
    | none => rw [q] at h; exact h.elim
    | some b =>
      rw [q] at h
      intro cls dd σ' H' S' A' xr ag en' ok' f
      obtain ⟨Bs', k1, k2, k3⟩ := fin (z := .w .non) (v := .non) (B := []) ag en' ok' f q
      exact h cls dd H' S' Bs' xr k1 k2 k3
  | bk e1 => rw [e] at h; exact h.elim
  | ct e1 => rw [e] at h; exact h.elim
  | bad => rw [e] at h; exact h.elim
end
end Cb

end
section
set_option maxRecDepth 100000
set_option maxHeartbeats 4000000
/-! dicts whose keys are tuples of data -/
namespace Cb
open PySem PySem.Spec PyProof.Rows L2

/-! ### keys -/
mutual
theorem nk_some : ∀ {w : W}, keyW w = true → ∃ k, nkW w = some k ∧ k.depth = depW w
  | .non, _ => ⟨_, rfl, rfl⟩
  | .bl _, _ => ⟨_, rfl, rfl⟩
  | .int _, _ => ⟨_, rfl, rfl⟩
  | .str _, _ => ⟨_, rfl, rfl⟩
  | .tup ws, h => by
    unfold keyW at h
    obtain ⟨ks, e, d⟩ := nks_some h
    refine ⟨.tup ks, by unfold nkW; rw [e], ?_⟩
    simp only [NestedKey.depth, depW, d]
  | .lst _, h => by simp [keyW] at h
  | .dK _, h => by simp [keyW] at h
  | .dW _, h => by simp [keyW] at h
  | .obj _ _, h => by simp [keyW] at h
  | .scr _, h => by simp [keyW] at h
  | .fn _, h => by simp [keyW] at h
  | .rng _ _, h => by simp [keyW] at h
theorem nks_some : ∀ {ws : List W}, keyWs ws = true → ∃ ks, nkWs ws = some ks ∧ NestedKey.depthAll ks = depWs ws
  | [], _ => ⟨[], rfl, rfl⟩
  | w :: ws, h => by
    unfold keyWs at h
    rw [Bool.and_eq_true] at h
    obtain ⟨k, e1, d1⟩ := nk_some h.1
    obtain ⟨ks, e2, d2⟩ := nks_some h.2
    refine ⟨k :: ks, by unfold nkWs; rw [e1, e2], ?_⟩
    simp only [NestedKey.depthAll, depWs, d1, d2]
end
theorem tk_some {w : W} (h : tkW w = true) : ∃ k, nkW w = some k ∧ k.depth ≤ 8 ∧ ∃ ws, w = .tup ws := by
  cases w with
  | tup ws =>
    unfold tkW at h
    rw [Bool.and_eq_true] at h
    obtain ⟨k, e, d⟩ := nk_some (w := .tup ws) (by unfold keyW; exact h.1)
    refine ⟨k, e, ?_, ws, rfl⟩
    have := of_decide_eq_true h.2
    rw [d]; simp only [depW]; omega
  | _ => cases h
theorem int_beq (i j : Int) : (i == j) = decide (i = j) := by
  by_cases h : i = j
  · subst h; simp
  · rw [decide_eq_false h]; exact beq_eq_false_iff_ne.mpr h
mutual
theorem nk_eq : ∀ {a b : W} {x y : NestedKey}, nkW a = some x → nkW b = some y → eqW a b = NestedKey.beq x y
  | .non, b, x, y, ha, hb => by
    cases ha
    cases b with
    | tup ws =>
      unfold nkW at hb
      cases q : nkWs ws with
      | none => rw [q] at hb; cases hb
      | some ks => rw [q] at hb; cases hb; simp [eqW, NestedKey.beq]
    | _ => first | (cases hb; simp [eqW, NestedKey.beq]; done) | (unfold nkW at hb; cases hb)
  | .bl c, b, x, y, ha, hb => by
    cases ha
    cases b with
    | tup ws =>
      unfold nkW at hb
      cases q : nkWs ws with
      | none => rw [q] at hb; cases hb
      | some ks => rw [q] at hb; cases hb; simp [eqW, NestedKey.beq]
    | bl d => cases hb; cases c <;> cases d <;> simp [eqW, NestedKey.beq]
    | int i => cases hb; cases c <;> simp [eqW, NestedKey.beq, int_beq]
    | _ => first | (cases hb; simp [eqW, NestedKey.beq]; done) | (unfold nkW at hb; cases hb)
  | .int i, b, x, y, ha, hb => by
    cases ha
    cases b with
    | tup ws =>
      unfold nkW at hb
      cases q : nkWs ws with
      | none => rw [q] at hb; cases hb
      | some ks => rw [q] at hb; cases hb; simp [eqW, NestedKey.beq]
    | bl d => cases hb; cases d <;> simp [eqW, NestedKey.beq, int_beq]
    | int j => cases hb; simp [eqW, NestedKey.beq, int_beq]
    | _ => first | (cases hb; simp [eqW, NestedKey.beq]; done) | (unfold nkW at hb; cases hb)
  | .str i, b, x, y, ha, hb => by
    cases ha
    cases b with
    | tup ws =>
      unfold nkW at hb
      cases q : nkWs ws with
      | none => rw [q] at hb; cases hb
      | some ks => rw [q] at hb; cases hb; simp [eqW, NestedKey.beq]
    | str j => cases hb; simp [eqW, NestedKey.beq]
    | _ => first | (cases hb; simp [eqW, NestedKey.beq]; done) | (unfold nkW at hb; cases hb)
  | .tup us, b, x, y, ha, hb => by
    unfold nkW at ha
    cases q : nkWs us with
    | none => rw [q] at ha; cases ha
    | some ks =>
      rw [q] at ha
      cases ha
      cases b with
      | tup ws =>
        unfold nkW at hb
        cases q2 : nkWs ws with
        | none => rw [q2] at hb; cases hb
        | some ks2 =>
          rw [q2] at hb; cases hb
          unfold eqW NestedKey.beq
          exact nks_eq q q2
      | _ => first | (cases hb; simp [eqW, NestedKey.beq]; done) | (unfold nkW at hb; cases hb)
  | .lst _, _, _, _, ha, _ => by unfold nkW at ha; cases ha
  | .dK _, _, _, _, ha, _ => by unfold nkW at ha; cases ha
  | .dW _, _, _, _, ha, _ => by unfold nkW at ha; cases ha
  | .obj _ _, _, _, _, ha, _ => by unfold nkW at ha; cases ha
  | .scr _, _, _, _, ha, _ => by unfold nkW at ha; cases ha
  | .fn _, _, _, _, ha, _ => by unfold nkW at ha; cases ha
  | .rng _ _, _, _, _, ha, _ => by unfold nkW at ha; cases ha
theorem nks_eq : ∀ {a b : List W} {x y : List NestedKey}, nkWs a = some x → nkWs b = some y → eqWs a b = NestedKey.beqAll x y
  | [], [], x, y, ha, hb => by cases ha; cases hb; rfl
  | [], b :: bs, x, y, ha, hb => by
    cases ha
    unfold nkWs at hb
    cases q1 : nkW b with
    | none => rw [q1] at hb; cases hb
    | some k =>
      cases q2 : nkWs bs with
      | none => rw [q1, q2] at hb; cases hb
      | some ks => rw [q1, q2] at hb; cases hb; rfl
  | a :: as, [], x, y, ha, hb => by
    cases hb
    unfold nkWs at ha
    cases q1 : nkW a with
    | none => rw [q1] at ha; cases ha
    | some k =>
      cases q2 : nkWs as with
      | none => rw [q1, q2] at ha; cases ha
      | some ks => rw [q1, q2] at ha; cases ha; rfl
  | a :: as, b :: bs, x, y, ha, hb => by
    unfold nkWs at ha hb
    cases q1 : nkW a with
    | none => rw [q1] at ha; cases ha
    | some k =>
      cases q2 : nkWs as with
      | none => rw [q1, q2] at ha; cases ha
      | some ks =>
        rw [q1, q2] at ha; cases ha
        cases q3 : nkW b with
        | none => rw [q3] at hb; cases hb
        | some k' =>
          cases q4 : nkWs bs with
          | none => rw [q3, q4] at hb; cases hb
          | some ks' =>
            rw [q3, q4] at hb; cases hb
            unfold eqWs NestedKey.beqAll
            rw [nk_eq q1 q3, nks_eq q2 q4]
end
theorem nk_eq' {a b : W} {x y : NestedKey} (ha : nkW a = some x) (hb : nkW b = some y) : (eqW a b = true) ↔ x = y := by
  rw [nk_eq ha hb]
  exact ⟨NestedKey.eq_of_beq x y, fun e => by rw [e]; exact NestedKey.beq_self y⟩

/-! ### entries -/
section
variable {G : Gc} {S : AS} {H : Hp}
theorem Rpd.nil : Rpd G S H [] [] := by unfold Rpd; rfl
theorem Rpd.cons {k w : W} {ws : List (W × W)} {nk : NestedKey} {b : Addr} {u : Value} {v : V} {r : List Ent} (h1 : nkW k = some nk) (h2 : nk.depth ≤ 8) (h3 : Rp G S H k (.ref b)) (h4 : Rp G S H w v) (h5 : RelV v u) (h6 : Rpd G S H ws r) : Rpd G S H ((k, w) :: ws) ((nk, b, u) :: r) := by
  unfold Rpd; exact ⟨nk, b, u, v, r, rfl, h1, h2, h3, h4, h5, h6⟩
theorem Rpd.inv {k w : W} {ws : List (W × W)} {xs : List Ent} (h : Rpd G S H ((k, w) :: ws) xs) : ∃ nk b u v r, xs = (nk, b, u) :: r ∧ nkW k = some nk ∧ nk.depth ≤ 8 ∧ Rp G S H k (.ref b) ∧ Rp G S H w v ∧ RelV v u ∧ Rpd G S H ws r := by
  unfold Rpd at h; exact h
theorem Rpd.inv0 {xs : List Ent} (h : Rpd G S H [] xs) : xs = [] := by unfold Rpd at h; exact h
theorem Rpd.len : ∀ {ws : List (W × W)} {xs : List Ent}, Rpd G S H ws xs → xs.length = ws.length
  | [], xs, h => by rw [h.inv0]; rfl
  | (k, w) :: ws, xs, h => by
    obtain ⟨nk, b, u, v, r, rfl, _, _, _, _, _, h6⟩ := h.inv
    simp [h6.len]
theorem Rpd.get {a : W} {k : NestedKey} (ha : nkW a = some k) : ∀ {ws : List (W × W)} {xs : List Ent}, Rpd G S H ws xs →
    (∀ w, dgetN a ws = some w → ∃ p v, atKey xs k = some p ∧ Rp G S H w v ∧ RelV v p.2) ∧ (dgetN a ws = none → atKey xs k = none)
  | [], xs, h => by rw [h.inv0]; exact ⟨fun w e => (nomatch e), fun _ => rfl⟩
  | (j, x) :: ws, xs, h => by
    obtain ⟨nk, b, u, v, r, rfl, h1, h2, h3, h4, h5, h6⟩ := h.inv
    have hj := nk_eq' h1 ha
    unfold dgetN
    by_cases e : eqW j a = true
    · have e2 : nk = k := hj.mp e
      subst e2
      rw [if_pos e]
      refine ⟨fun w q => ⟨(b, u), v, by simp [atKey], Option.some.inj q ▸ h4, h5⟩, fun q => (nomatch q)⟩
    · have e2 : ¬ nk = k := fun z => e (hj.mpr z)
      rw [if_neg e]
      have e3 : atKey ((nk, b, u) :: r) k = atKey r k := by simp [atKey, List.find?_cons, e2]
      rw [e3]
      exact h6.get ha
theorem Rpd.any {a : W} {k : NestedKey} (ha : nkW a = some k) : ∀ {ws : List (W × W)} {xs : List Ent}, Rpd G S H ws xs → (atKey xs k).isSome = ws.any fun kv => eqW kv.1 a
  | [], xs, h => by rw [h.inv0]; rfl
  | (j, x) :: ws, xs, h => by
    obtain ⟨nk, b, u, v, r, rfl, h1, h2, h3, h4, h5, h6⟩ := h.inv
    have hj := nk_eq' h1 ha
    rw [List.any_cons]
    by_cases e : eqW j a = true
    · have e2 : nk = k := hj.mp e
      subst e2
      rw [show eqW (j, x).1 a = true from e]
      simp [atKey]
    · have e2 : ¬ nk = k := fun z => e (hj.mpr z)
      have e3 : atKey ((nk, b, u) :: r) k = atKey r k := by simp [atKey, List.find?_cons, e2]
      rw [e3, h6.any ha, show eqW (j, x).1 a = false by simpa using e]
      rfl
theorem Rpd.putAt {a w : W} {k : NestedKey} {v : V} {u : Value} (ha : nkW a = some k) (r : Rp G S H w v) (ru : RelV v u) : ∀ {ws : List (W × W)} {xs : List Ent}, Rpd G S H ws xs → Rpd G S H (ws.map fun kv => if eqW kv.1 a = true then (kv.1, w) else kv) (xs.map (putAt k u))
  | [], xs, h => by rw [h.inv0]; exact .nil
  | (j, x) :: ws, xs, h => by
    obtain ⟨nk, b, u', v', r', rfl, h1, h2, h3, h4, h5, h6⟩ := h.inv
    have hj := nk_eq' h1 ha
    rw [List.map_cons, List.map_cons]
    by_cases e : eqW j a = true
    · rw [if_pos (show eqW (j, x).1 a = true from e)]
      have e4 : PySem.putAt k u (nk, b, u') = (nk, b, u) := by unfold PySem.putAt; exact if_pos (hj.mp e)
      rw [e4]
      exact .cons h1 h2 h3 r ru (h6.putAt ha r ru)
    · rw [if_neg (show ¬ eqW (j, x).1 a = true from e)]
      have e4 : PySem.putAt k u (nk, b, u') = (nk, b, u') := by unfold PySem.putAt; exact if_neg (fun z => e (hj.mpr z))
      rw [e4]
      exact .cons h1 h2 h3 h4 h5 (h6.putAt ha r ru)
theorem Rpd.snoc {a w : W} {k : NestedKey} {v : V} {u : Value} {b : Addr} (ha : nkW a = some k) (hd : k.depth ≤ 8) (hb : Rp G S H a (.ref b)) (r : Rp G S H w v) (ru : RelV v u) : ∀ {ws : List (W × W)} {xs : List Ent}, Rpd G S H ws xs → Rpd G S H (ws ++ [(a, w)]) (xs ++ [(k, b, u)])
  | [], xs, h => by rw [h.inv0]; exact .cons ha hd hb r ru .nil
  | (j, x) :: ws, xs, h => by
    obtain ⟨nk, b, u', v', r', rfl, h1, h2, h3, h4, h5, h6⟩ := h.inv
    exact .cons h1 h2 h3 h4 h5 (h6.snoc ha hd hb r ru)
theorem Rpd.put {a w : W} {k : NestedKey} {v : V} {u : Value} {b : Addr} {ws : List (W × W)} {xs : List Ent} (h : Rpd G S H ws xs) (ha : nkW a = some k) (hd : k.depth ≤ 8) (hb : Rp G S H a (.ref b)) (r : Rp G S H w v) (ru : RelV v u) : Rpd G S H (dputN a w ws) (storedH xs k b u) := by
  unfold dputN storedH
  rw [h.any ha]
  split
  · exact h.putAt ha r ru
  · exact h.snoc ha hd hb r ru
theorem storedH_len (xs : List Ent) (k : NestedKey) (b : Addr) (u : Value) : (storedH xs k b u).length ≤ xs.length + 1 := by
  unfold storedH
  split <;> simp
end

/-! ### the machine's view -/
section
variable {G : Gc} {X : Cx} {S : AS} {H : Hp} {pins : List (Addr × Obj)} {σ : L2.St} {s : Shared}
mutual
theorem nest_is (hG : G.K = X.K) (I : Inv X pins σ H s) : ∀ {w : W} {nk : NestedKey} {v : V} {u : Value}, nkW w = some nk → Rp G S H w v → RelV v u → NestedIs s.heap nk u
  | .non, _, v, u, e, r, q => by cases e; unfold Rp at r; subst r; cases q; exact .none
  | .bl b, _, v, u, e, r, q => by cases e; unfold Rp at r; subst r; cases q; exact .bool rfl
  | .int i, _, v, u, e, r, q => by cases e; unfold Rp at r; subst r; obtain ⟨t, rfl⟩ := q; exact .int _ _
  | .str i, _, v, u, e, r, q => by cases e; unfold Rp at r; subst r; obtain ⟨t, rfl⟩ := q; exact .text _ _
  | .tup ws, nk, v, u, e, r, q => by
    unfold nkW at e
    cases q1 : nkWs ws with
    | none => rw [q1] at e; cases e
    | some ks =>
      rw [q1] at e; cases e
      unfold Rp at r
      obtain ⟨a, vs, rfl, h1, h2⟩ := r
      obtain rfl : u = Value.ref a := q
      obtain ⟨its, rv, ⟨o, ho, hc, n, hd⟩, hz⟩ := I.tuple (hG ▸ h1)
      exact .tup ho hc hd (by simpa using nest_all hG I q1 h2 rv)
  | .lst _, _, _, _, e, _, _ => by unfold nkW at e; cases e
  | .dK _, _, _, _, e, _, _ => by unfold nkW at e; cases e
  | .dW _, _, _, _, e, _, _ => by unfold nkW at e; cases e
  | .obj _ _, _, _, _, e, _, _ => by unfold nkW at e; cases e
  | .scr _, _, _, _, e, _, _ => by unfold nkW at e; cases e
  | .fn _, _, _, _, e, _, _ => by unfold nkW at e; cases e
  | .rng _ _, _, _, _, e, _, _ => by unfold nkW at e; cases e
theorem nest_all (hG : G.K = X.K) (I : Inv X pins σ H s) : ∀ {ws : List W} {ks : List NestedKey} {vs : List V} {us : List Value}, nkWs ws = some ks → Rps G S H ws vs → Vals vs us → NestedAll s.heap ks us
  | [], ks, vs, us, e, r, q => by
    cases e
    rw [r.inv0] at q
    cases q
    exact .nil
  | w :: ws, ks, vs, us, e, r, q => by
    unfold nkWs at e
    cases q1 : nkW w with
    | none => rw [q1] at e; cases e
    | some k =>
      cases q2 : nkWs ws with
      | none => rw [q1, q2] at e; cases e
      | some ks' =>
        rw [q1, q2] at e; cases e
        obtain ⟨v, r', rfl, h1, h2⟩ := r.inv
        cases q with
        | cons k1 k2 => exact .cons (nest_is hG I q1 h1 k1) (nest_all hG I q2 h2 k2)
end
theorem keys_are (hG : G.K = X.K) (I : Inv X pins σ H s) : ∀ {ws : List (W × W)} {xs : List Ent}, Rpd G S H ws xs → ∀ x ∈ xs, (nestedKind X.prog X.w).is s.heap x.1 x.2.1
  | [], xs, h, x, hx => by rw [h.inv0] at hx; cases hx
  | (j, y) :: ws, xs, h, x, hx => by
    obtain ⟨nk, b, u', v', r', rfl, h1, h2, h3, h4, h5, h6⟩ := h.inv
    rcases List.mem_cons.mp hx with rfl | hx
    · exact ⟨nest_is hG I h1 h3 rfl, h2⟩
    · exact keys_are hG I h6 x hx
theorem do_at (I : Inv X pins σ H s) {a : Addr} {o : Obj} (h : H a = some (DO a o)) : s.heap.get? a = some o := (I.hok a _ h).1
theorem dict_at (hG : G.K = X.K) (hw : G.w = X.w) (I : Inv X pins σ H s) {a : Addr} {o : Obj} {xs : List Ent} {kvs : List (W × W)} (h1 : H a = some (DO a o)) (h2 : DictX G.w a o xs) (h3 : Rpd G S H kvs xs) :
    s.heap.DictOfH (nestedKind X.prog X.w) a xs := by
  obtain ⟨_, _, ex, es, ep, e1, e2, nd⟩ := h2
  rw [hw] at e2
  exact ⟨o, es, ep, do_at I h1, ex, e1, e2, keys_are hG I h3, nd⟩
theorem dict_of {w : World} {P : Program} {h : Heap} {a : Addr} {xs : List Ent} (d : h.DictOfH (nestedKind P w) a xs) (h1 : (a == sysModules) = false) (h2 : xs.length ≤ sizeLine) : ∃ o, h.get? a = some o ∧ DictX w a o xs := by
  obtain ⟨o, es, ep, ho, ex, e1, e2, _, nd⟩ := d
  exact ⟨o, ho, h1, h2, ex, es, ep, e1, e2, nd⟩
theorem do_ok {P : Program} {w : World} {H' : Hp} {h : Heap} {a : Addr} {o : Obj} (e : h.get? a = some o) : ObjOk P w H' h a (DO a o) := ⟨e, ⟨o, e⟩, fun _ _ h1 h2 => h2 _ h1⟩
theorem room9 {A : Around} (h : A.units + 64 < cLine) {P : Program} {w : World} : (nestedKind P w).room A.in1 := by
  show A.in1.units + 8 < cLine
  rw [Around.in1_units]; omega

/-! ### the operations' readings -/
/-- y, a tuple that may be a key, and x, a dict of such keys, as the meaning tells them -/
structure DnK (G : Gc) (S : AS) (H : Hp) (kvs : List (W × W)) (k : W) (x y : V) : Prop where
  d : Vw G S H (.dW kvs) x
  r : Rp G S H k y
  t : tkW k = true
def rInN (G : Gc) (neg : Bool) : R2 := fun y x H Q => ∃ S kvs k, DnK G S H kvs k x y ∧ Q (.bl (if neg then !(kvs.any fun kv => eqW kv.1 k) else kvs.any fun kv => eqW kv.1 k)) H
theorem key_is (hG : G.K = X.K) (I : Inv X pins σ H s) {k : W} {y : V} {u : Value} (t : tkW k = true) (r : Rp G S H k y) (q : RelV y u) : ∃ nk b, nkW k = some nk ∧ nk.depth ≤ 8 ∧ y = .ref b ∧ u = .ref b ∧ (nestedKind X.prog X.w).is s.heap nk b := by
  obtain ⟨nk, e, d, ws, rfl⟩ := tk_some t
  have n := nest_is hG I e r q
  unfold Rp at r
  obtain ⟨a, vs, rfl, _⟩ := r
  obtain rfl : u = Value.ref a := q
  exact ⟨nk, a, e, d, rfl, rfl, n, d⟩
theorem op_inN (hG : G.K = X.K) (hw : G.w = X.w) (hu : X.A.units + 64 < cLine) : OpR X (compareOp .In) (rInN G false) := by
  intro pins s σ H y x u v Q I ry rx h
  obtain ⟨S, kvs, k, ⟨⟨a, o, xs, rfl, h1, h2, h3⟩, rk, t⟩, q⟩ := h
  obtain rfl : v = Value.ref a := rx
  obtain ⟨nk, b, e1, e2, rfl, rfl, n⟩ := key_is hG I t rk ry
  refine wpAny_in_heap (room9 hu) n h2.1 (dict_at hG hw I h1 h2 h3) ?_
  rw [h3.any e1]
  exact ⟨.bl _, H, I.tok _, rfl, q⟩
theorem op_ninN (hG : G.K = X.K) (hw : G.w = X.w) (hu : X.A.units + 64 < cLine) : OpR X (compareOp .NotIn) (rInN G true) := by
  intro pins s σ H y x u v Q I ry rx h
  obtain ⟨S, kvs, k, ⟨⟨a, o, xs, rfl, h1, h2, h3⟩, rk, t⟩, q⟩ := h
  obtain rfl : v = Value.ref a := rx
  obtain ⟨nk, b, e1, e2, rfl, rfl, n⟩ := key_is hG I t rk ry
  show wpAny _ _ (do return Value.bool (!(← contains (.ref a) (.ref b)))) _ _ s
  refine wpAny_bind (wpAny_contains_heap (room9 hu) n h2.1 (dict_at hG hw I h1 h2 h3) (wpAny_pure ?_))
  rw [h3.any e1]
  exact ⟨.bl _, H, I.tok _, rfl, q⟩
def rIxN (G : Gc) : R2 := fun x y H Q => ∃ S kvs k w, DnK G S H kvs k x y ∧ dgetN k kvs = some w ∧ ∀ v, Rp G S H w v → Q v H
theorem dictH_typeIs (hG : G.K = X.K) (hw : G.w = X.w) (I : Inv X pins σ H s) {a : Addr} {o : Obj} {xs : List Ent} {kvs : List (W × W)} (h1 : H a = some (DO a o)) (h2 : DictX G.w a o xs) (h3 : Rpd G S H kvs xs) : s.TypeIs (.ref a) "dict" := (dict_at hG hw I h1 h2 h3).typeIs
theorem ix_N (hG : G.K = X.K) (hw : G.w = X.w) (hu : X.A.units + 64 < cLine) : IxR X (rIxN G) := by
  intro value slice pins s σ H x y v u Q I rx ry h hs
  obtain ⟨S, kvs, k, w, ⟨⟨a, o, xs, rfl, h1, h2, h3⟩, rk, t⟩, hg, q⟩ := h
  obtain rfl : v = Value.ref a := rx
  obtain ⟨nk, b, e1, e2, rfl, rfl, n⟩ := key_is hG I t rk ry
  have hT := dictH_typeIs hG hw I h1 h2 h3
  obtain ⟨p, y, hp, r, rv⟩ := (h3.get e1).1 w hg
  unfold subscriptTail
  refine wpAny_bind ?_
  rw [getitemInPython_of_ne hT.not_modules]
  refine wpAny_bind (wpAny_specialOf hT PySem.F.slot_dict_getitem.lookup ?_)
  have fin : wpAny (model X.prog X.w) X.A (subscripted slice false (.ref a) (.ref b)) (fun r s₃ => wpAny (model X.prog X.w) X.A (letTemporaryGo value (.ref a) r >>= fun _ => pure r) (EP X pins σ Q) X.xe s₃) X.xe s := by
    rw [hs]
    exact wpAny_operating (wpAny_mono (wpAny_getItem_heap (E := X.xe) (room9 hu) n (dict_at hG hw I h1 h2 h3) hp (Q := fun r s3 => EP X pins σ Q r s3) ⟨y, H, I.tok _, rv, q y r⟩) (fun r s₃ h₃ => wpAny_bind (wpAny_letTemporaryGo (wpAny_pure h₃))) fun _ _ x => x)
  first
    | exact wpAny_pure (wpAny_bind fin)
    | exact wpAny_bind (wpAny_pure (wpAny_bind fin))
    | exact wpAny_bind fin
/-- d[k] = v -/
def rSetN (G : Gc) : TSet := fun x i v H Q => ∃ S a o xs kvs k nk b, x = .ref a ∧ H a = some (DO a o) ∧ DictX G.w a o xs ∧ Rpd G S H kvs xs ∧ xs.length < sizeLine ∧ tkW k = true ∧ nkW k = some nk ∧ i = .ref b ∧ Rp G S H k i ∧
  ∀ o' u, RelV v u → DictX G.w a o' (storedH xs nk b u) → Q (upd H a (DO a o'))
theorem set_N (hG : G.K = X.K) (hw : G.w = X.w) (hu : X.A.units + 64 < cLine) : PSet X (rSetN G) := by
  intro pins s σ H x i v ov iv u Q I ro ri rv h
  obtain ⟨S, a, o, xs, kvs, k, nk, b, rfl, h1, h2, h3, hl, t, e1, rfl, rk, q⟩ := h
  obtain rfl : ov = Value.ref a := ro
  obtain ⟨nk', b', e1', e2, eb, rfl, n⟩ := key_is hG I t rk ri
  rw [e1] at e1'
  cases e1'; cases eb
  refine wpAny_setItem_heap (hsz := h2.2.1) (room9 hu) n (dict_at hG hw I h1 h2 h3) fun h' hm sb => ?_
  obtain ⟨o', ho', hx'⟩ := dict_of hm h2.1 (Nat.le_trans (storedH_len xs nk b u) hl)
  rw [← hw] at hx'
  exact ⟨_, d_write I (by rw [h1]; trivial) sb ⟨o', ho'⟩ (do_ok ho'), q o' u rv hx'⟩
/-- d[k] = v, d the empty dict -/
def rSetE (G : Gc) : TSet := fun x i v H Q => ∃ S a k nk b, x = .ref a ∧ H a = some (.dK []) ∧ tkW k = true ∧ nkW k = some nk ∧ i = .ref b ∧ Rp G S H k i ∧
  ∀ o' u, RelV v u → DictX G.w a o' [(nk, b, u)] → Q (upd H a (DO a o'))
theorem empty_at (I : Inv X pins σ H s) {a : Addr} (h1 : L2.Rd H a (.dK [])) : (a == sysModules) = false ∧ s.heap.DictOfH (nestedKind X.prog X.w) a [] := by
  obtain ⟨z, hd, vs, rel, dd⟩ := dk_rd I.hok h1
  cases rel
  obtain ⟨o, es, ep, k1, k2, k3, k4, k5⟩ := dd
  refine ⟨hd, o, es, ep, k1, k2, k3, ?_, fun x hx => absurd hx (by simp), by simp⟩
  have e : es.toList = [] := by cases es with | mk l => cases l with | nil => rfl | cons x l => exact absurd k5.1 (by intro h; cases h)
  rw [e]; rfl
theorem set_E (hG : G.K = X.K) (hw : G.w = X.w) (hu : X.A.units + 64 < cLine) : PSet X (rSetE G) := by
  intro pins s σ H x i v ov iv u Q I ro ri rv h
  obtain ⟨S, a, k, nk, b, rfl, h1, t, e1, rfl, rk, q⟩ := h
  obtain rfl : ov = Value.ref a := ro
  obtain ⟨nk', b', e1', e2, eb, rfl, n⟩ := key_is hG I t rk ri
  rw [e1] at e1'
  cases e1'; cases eb
  obtain ⟨hd, dd⟩ := empty_at I (.inl h1)
  refine wpAny_setItem_heap (hsz := by simp) (room9 hu) n dd fun h' hm sb => ?_
  have hm : h'.DictOfH (nestedKind X.prog X.w) a [(nk, b, u)] := hm
  obtain ⟨o', ho', hx'⟩ := dict_of hm hd (by rw [sizeLine_eq]; simp)
  rw [← hw] at hx'
  exact ⟨_, d_write I (by rw [h1]; trivial) sb ⟨o', ho'⟩ (do_ok ho'), q o' u rv hx'⟩
/-- k in {} -/
def rInE (G : Gc) (neg : Bool) : R2 := fun y x H Q => ∃ S k a, x = .ref a ∧ H a = some (.dK []) ∧ Rp G S H k y ∧ tkW k = true ∧ Q (.bl neg) H
theorem op_inE (hG : G.K = X.K) (hu : X.A.units + 64 < cLine) : OpR X (compareOp .In) (rInE G false) := by
  intro pins s σ H y x u v Q I ry rx h
  obtain ⟨S, k, a, rfl, h1, rk, t, q⟩ := h
  obtain rfl : v = Value.ref a := rx
  obtain ⟨nk, b, e1, e2, rfl, rfl, n⟩ := key_is hG I t rk ry
  obtain ⟨hd, dd⟩ := empty_at I (.inl h1)
  refine wpAny_in_heap (room9 hu) n hd dd ?_
  exact ⟨.bl false, H, I.tok _, rfl, q⟩
theorem op_ninE (hG : G.K = X.K) (hu : X.A.units + 64 < cLine) : OpR X (compareOp .NotIn) (rInE G true) := by
  intro pins s σ H y x u v Q I ry rx h
  obtain ⟨S, k, a, rfl, h1, rk, t, q⟩ := h
  obtain rfl : v = Value.ref a := rx
  obtain ⟨nk, b, e1, e2, rfl, rfl, n⟩ := key_is hG I t rk ry
  obtain ⟨hd, dd⟩ := empty_at I (.inl h1)
  show wpAny _ _ (do return Value.bool (!(← contains (.ref a) (.ref b)))) _ _ s
  refine wpAny_bind (wpAny_contains_heap (room9 hu) n hd dd (wpAny_pure ?_))
  exact ⟨.bl true, H, I.tok _, rfl, q⟩
/-- d.get(k, x) -/
def rGetN (G : Gc) : V → List V → Hp → VK → Prop := fun x zs H Q => ∃ S kvs k y d, zs = [y, d] ∧ DnK G S H kvs k x y ∧ ((∀ w, dgetN k kvs = some w → ∀ v, Rp G S H w v → Q v H) ∧ (dgetN k kvs = none → Q d H))
theorem mt_getN (hG : G.K = X.K) (hw : G.w = X.w) (hu : X.A.units + 64 < cLine) : MtR X "dict.get" (rGetN G) := by
  intro pins s σ H x xs v us Q I rx rxs h
  obtain ⟨S, kvs, k, y, d, rfl, ⟨⟨a, o, es, rfl, h1, h2, h3⟩, rk, t⟩, q1, q2⟩ := h
  obtain rfl : v = Value.ref a := rx
  cases rxs with
  | cons r1 t1 =>
  cases t1 with
  | cons r2 t2 =>
  cases t2
  rename_i u1 u2
  obtain ⟨nk, b, e1, e2, rfl, rfl, n⟩ := key_is hG I t rk r1
  have dd := dict_at hG hw I h1 h2 h3
  refine call_meetsIn PySem.F.slot_dict_get dd.typeIs PySem.F.entry_dict_get (PySem.F.args_dict_get_3 _ _ _) (meetsH_dict_get_default (nestedKind X.prog X.w) a b h2.1 u2) ⟨room9 hu, nk, es, n, dd, ?_⟩
  cases q : dgetN k kvs with
  | none =>
    rw [(h3.get e1).2 q]
    exact ⟨d, H, I.tok _, r2, q2 q⟩
  | some w =>
    obtain ⟨p, y, hp, r, rv⟩ := (h3.get e1).1 w q
    rw [hp]
    exact ⟨y, H, I.tok _, rv, q1 w q y r⟩
/-- d.get(k, x), d the empty dict -/
def rGetE (G : Gc) : V → List V → Hp → VK → Prop := fun x zs H Q => ∃ S k a y d, zs = [y, d] ∧ x = .ref a ∧ L2.Rd H a (.dK []) ∧ Rp G S H k y ∧ tkW k = true ∧ Q d H
theorem mt_getE (hG : G.K = X.K) (hu : X.A.units + 64 < cLine) : MtR X "dict.get" (rGetE G) := by
  intro pins s σ H x xs v us Q I rx rxs h
  obtain ⟨S, k, a, y, d, rfl, rfl, h1, rk, t, q⟩ := h
  obtain rfl : v = Value.ref a := rx
  cases rxs with
  | cons r1 t1 =>
  cases t1 with
  | cons r2 t2 =>
  cases t2
  rename_i u1 u2
  obtain ⟨nk, b, e1, e2, rfl, rfl, n⟩ := key_is hG I t rk r1
  obtain ⟨hd, dd⟩ := empty_at I h1
  exact call_meetsIn PySem.F.slot_dict_get dd.typeIs PySem.F.entry_dict_get (PySem.F.args_dict_get_3 _ _ _) (meetsH_dict_get_default (nestedKind X.prog X.w) a b hd u2) ⟨room9 hu, nk, [], n, dd, ⟨d, H, I.tok _, r2, q⟩⟩
/-- len(d) -/
def rLenN (G : Gc) : List V → Hp → VK → Prop := fun zs H Q => ∃ S kvs x, zs = [x] ∧ Vw G S H (.dW kvs) x ∧ Q (.int kvs.length) H
theorem call_lenN (hG : G.K = X.K) (hw : G.w = X.w) : CallR X (.builtin "len") (rLenN G) := by
  intro pins s σ H zs us Q I r h
  obtain ⟨S, kvs, x, rfl, ⟨a, o, es, rfl, h1, h2, h3⟩, q⟩ := h
  obtain rfl := Vals.ref1 r
  refine call_len_dictH h2.1 (dict_at hG hw I h1 h2 h3) (by have z := h2.2.1; rw [sizeLine_eq] at z; omega) ?_
  rw [h3.len]
  exact ⟨.int _, H, I.tok _, ⟨_, rfl⟩, q⟩
end
end Cb

end
section
set_option maxRecDepth 100000
set_option maxHeartbeats 4000000
/-! statements without loops -/
namespace Cb
open PySem PySem.Spec PyProof.Rows L2
section
variable [Tb] {G : Gc} {U : L2.WX} {K : List Nat} {X : Cx}
theorem ss_nil : PSs X [] (tS G U K fun env => .nx env) := pss_nil.imp fun D σ H ⟨env, S, A, en, ok, o⟩ => o σ H S A Agr.refl en ok (Fr.refl ok)
theorem seq_out {a b : DenS} {D : Ends} {σ : L2.St} {S : AS} {H : Hp} {A : List Addr} {env : Env} (o : OutS G U K σ S H A (kSeq a b env) D) : OutS G U K σ S H A (a env) { D with nx := tS G U K b D } := by
  unfold kSeq at o
  cases e : a env with
  | nx e1 =>
    rw [e] at o
    exact fun σ' H' S' A' ag en ok f => ⟨e1, S', A', en, ok, OutS.from o ag f⟩
  | rt z e1 => rw [e] at o; exact o
  | bk e1 => rw [e] at o; exact o
  | ct e1 => rw [e] at o; exact o
  | ex x e1 => rw [e] at o; exact o
  | bad => rw [e] at o; exact o
theorem ss_cons {st : Stmt} {r : List Stmt} {a b : DenS} (h1 : PS X st (tS G U K a)) (h2 : PSs X r (tS G U K b)) : PSs X (st :: r) (tS G U K (kSeq a b)) := (pss_cons h1 h2).imp fun D σ H ⟨env, S, A, en, ok, o⟩ => ⟨env, S, A, en, ok, seq_out o⟩
theorem sk_pass {pos : Pos} : PS X (.Pass pos) (tS G U K fun env => .nx env) := ps_pass.imp fun D σ H ⟨env, S, A, en, ok, o⟩ => o σ H S A Agr.refl en ok (Fr.refl ok)
theorem sk_bk {pos : Pos} : PS X (.Break pos) (tS G U K fun env => .bk env) := ps_break.imp fun D σ H ⟨env, S, A, en, ok, o⟩ => o σ H S A Agr.refl en ok (Fr.refl ok)
theorem sk_ct {pos : Pos} : PS X (.Continue pos) (tS G U K fun env => .ct env) := ps_continue.imp fun D σ H ⟨env, S, A, en, ok, o⟩ => o σ H S A Agr.refl en ok (Fr.refl ok)
theorem sk_never {st : Stmt} : PS X st (tS G U K fun _ => .bad) := ps_never.imp fun D σ H ⟨env, S, A, en, ok, o⟩ => o
theorem sk_retN {pos : Pos} : PS X (.Return none pos) (tS G U K fun env => .rt (.w .non) env) := ps_retN.imp fun D σ H ⟨env, S, A, en, ok, o⟩ => o .non σ H S A [] Agr.refl en ⟨rp_non _ _, rfl⟩ ok (Fr.refl ok)
theorem sk_ret {e : Expr} {pos : Pos} {d : Den Z} (h : PE X e (tD G U (rZ G) d)) : PS X (.Return (some e) pos) (tS G U K (kRet d)) := (ps_ret h).imp fun D σ H ⟨env, S, A, en, ok, o⟩ =>
  ⟨env, S, A, en, ok, (of_bindZ (k := fun z e => .rt z e) o).mono fun v H1 ⟨z, env1, S1, A1, B, _, en1, rz, ok1, f1, o1⟩ => o1 v σ H1 S1 A1 B Agr.refl en1 rz ok1 (Fr.refl ok1)⟩
theorem sk_retv {e : Expr} {pos : Pos} {i : Nat} (h : PE X e (tVar i)) : PS X (.Return (some e) pos) (tS G U K (kRetv i)) := (ps_ret h).imp fun D σ H ⟨env, S, A, en, ok, o⟩ => by
  unfold kRetv at o
  cases e : gets env i with
  | none => rw [e] at o; exact o.elim
  | some z =>
    rw [e] at o
    obtain ⟨v, B, R, hs, rz, pm, er⟩ := en.gets e
    have ok2 := ok.perm pm.symm
    exact ⟨v, hs, o v σ H S R B Agr.refl er rz ok2 ((Fr.refl ok).less fun a ha => pm.mem_iff.mpr ha)⟩
theorem sk_ex {e : Expr} {pos : Pos} {d : Den Z} (h : PE X e (tD G U (rZ G) d)) (hs : swapsWith e none pos.line X.env = pure false) : PS X (.Expr e pos) (tS G U K (kEx d)) := (ps_expr h hs).imp fun D σ H ⟨env, S, A, en, ok, o⟩ =>
  ⟨env, S, A, en, ok, (of_bindZ (k := fun _ e => .nx e) o).mono fun v H1 ⟨z, env1, S1, A1, B, _, en1, rz, ok1, f1, o1⟩ =>
    o1 σ H1 S1 A1 Agr.refl en1 ok1.right ((Fr.refl ok1).less fun a ha => List.mem_append_right _ ha)⟩
theorem sk_if {c : Expr} {a b : List Stmt} {pos : Pos} {t : Den Bool} {da db : DenS} (hc : PT X c (tD G U rB t)) (ha : PSs X a (tS G U K da)) (hb : PSs X b (tS G U K db)) : PS X (.If c a b pos) (tS G U K (kIte t da db)) :=
  (ps_if hc ha hb).imp fun D σ H ⟨env, S, A, en, ok, o⟩ => ⟨env, S, A, en, ok, (of_bind (rel := rB) (fun h => h.2) o).mono fun b H1 ⟨c, env1, S1, A1, _, en1, ok1, ⟨e1, _⟩, f1, o1⟩ => by
    obtain rfl : c = b := e1
    cases c with
    | true => rw [if_pos rfl]; exact ⟨env1, S1, A1, en1, ok1, o1⟩
    | false => rw [if_neg Bool.false_ne_true]; exact ⟨env1, S1, A1, en1, ok1, o1⟩⟩

/-! ### stores -/
/-- a slot laid anew: what it held is given up -/
theorem lay {S : AS} {H : Hp} {env : Env} {σ : L2.St} {A B : List Addr} {i : Nat} {z : Z} {v : V} (en : EnvR G S H env σ A) (hi : i < env.length) (rz : RZ G S H z v B) (ok : Ok S H (B ++ A)) :
    ∃ A', EnvR G S H (env.set i (some z)) (σ.set i (some v)) A' ∧ Ok S H A' ∧ ∀ a ∈ A', a ∈ B ++ A := by
  obtain ⟨R, h1, h2⟩ := en.drop i
  obtain ⟨A', h3, h4⟩ := h1.put hi rz
  have ok' : Ok S H (B ++ R) := ok.sub (List.Sublist.append_left h2 B)
  refine ⟨A', h3, ok'.perm h4, fun a ha => ?_⟩
  rcases List.mem_append.mp (h4.mem_iff.mp ha) with h | h
  · exact List.mem_append_left _ h
  · exact List.mem_append_right _ (h2.subset h)
theorem set_out {i : Nat} {z : Z} {v : V} {D : Ends} {σ : L2.St} {S : AS} {H : Hp} {A B : List Addr} {env : Env} (hk : i ∉ K) (en : EnvR G S H env σ A) (rz : RZ G S H z v B) (ok : Ok S H (B ++ A)) (o : OutS G U K σ S H (B ++ A) (setSl i z env) D) : D.nx (σ.set i (some v)) H := by
  unfold setSl at o
  by_cases hi : i < env.length
  · rw [if_pos hi] at o
    obtain ⟨A', h1, h2, h3⟩ := lay en hi rz ok
    exact o _ H S A' (Agr.set hk) h1 h2 ((Fr.refl ok).less h3)
  · rw [if_neg hi] at o; exact o.elim
theorem sk_set {i : Nat} {x : Str} {e : Expr} {pos pos' : Pos} {d : Den Z} (hN : X.N.Nodup) (hi : X.N[i]? = some x) (hx : Loc X.env.scope x) (hf : X.fn x = true) (he : PE X e (tD G U (rZ G) d)) (hs : swapsWith e (some (.Name x pos')) pos.line X.env = pure false) (hk : i ∉ K) :
    PS X (.Assign [.Name x pos'] e pos) (tS G U K (kSet i d)) := (ps_set hN hi hx he hs (.inl hf)).imp fun D σ H ⟨env, S, A, en, ok, o⟩ =>
  ⟨env, S, A, en, ok, (of_bindZ (k := fun z e => setSl i z e) o).mono fun v H1 ⟨z, env1, S1, A1, B, _, en1, rz, ok1, f1, o1⟩ => set_out hk en1 rz ok1 o1⟩
/-- several slots, from the left -/
theorem many_out {D : Ends} : ∀ {is : List Nat} {ws : List W} {vs : List V} {σ : L2.St} {S : AS} {H : Hp} {A : List Addr} {env : Env}, (∀ i ∈ is, i ∉ K) → EnvR G S H env σ A → Rps G S H ws vs → Ok S H A → OutS G U K σ S H A (setMany is ws env) D →
    is.length = vs.length ∧ D.nx ((is.zip vs).foldl (fun s p => s.set p.1 (some p.2)) σ) H
  | [], [], vs, σ, S, H, A, env, hk, en, r, ok, o => by
    obtain rfl := r.inv0
    exact ⟨rfl, o σ H S A Agr.refl en ok (Fr.refl ok)⟩
  | [], w :: ws, vs, σ, S, H, A, env, hk, en, r, ok, o => by unfold setMany at o; exact o.elim
  | i :: is, [], vs, σ, S, H, A, env, hk, en, r, ok, o => by unfold setMany at o; exact o.elim
  | i :: is, w :: ws, vs, σ, S, H, A, env, hk, en, r, ok, o => by
    obtain ⟨v, vr, rfl, r1, r2⟩ := r.inv
    unfold setMany at o
    by_cases hi : i < env.length
    · rw [if_pos hi] at o
      obtain ⟨A', h1, h2, h3⟩ := lay (B := []) (z := .w w) en hi ⟨r1, rfl⟩ ok
      obtain ⟨l, q⟩ := many_out (fun j hj => hk j (List.mem_cons_of_mem _ hj)) h1 r2 h2 (OutS.from o (Agr.set (hk i List.mem_cons_self)) ((Fr.refl ok).less h3))
      exact ⟨by simp [l], q⟩
    · rw [if_neg hi] at o; exact o.elim
/-- targets that are names -/
def NmAt (X : Cx) : Expr → Nat → Prop
  | .Name x _, i => X.N[i]? = some x ∧ Loc X.env.scope x ∧ (X.fn x = true ∨ X.env.scope.names.lookup x = some .local)
  | _, _ => False
def NmsAt (X : Cx) : List Expr → List Nat → Prop
  | [], [] => True
  | e :: es, i :: is => NmAt X e i ∧ NmsAt X es is
  | _, _ => False
def gMany : List Nat → TGs
  | [] => gNil
  | i :: is => gCons (gName i) (gMany is)
theorem nms_len : ∀ {es : List Expr} {is : List Nat}, NmsAt X es is → es.length = is.length
  | [], [], _ => rfl
  | _ :: _, _ :: _, h => by simp [nms_len h.2]
theorem nm_each {e : Expr} {i : Nat} (h : NmAt X e i) (es : List Expr) : assignEach (e :: es) X.env = (false, assign e X.env) :: assignEach es X.env := by
  cases e with
  | Name x p => rfl
  | _ => exact h.elim
theorem nms_each : ∀ {es : List Expr} {is : List Nat}, NmsAt X es is → (assignEach es X.env).length = es.length ∧ (assignEach es X.env).findIdx? (·.1) = none
  | [], [], _ => ⟨rfl, rfl⟩
  | e :: es, i :: is, h => by
    obtain ⟨h1, h2⟩ := nms_each h.2
    rw [nm_each h.1]
    exact ⟨by simp [h1], by simp [List.findIdx?_cons, h2]⟩
theorem nm_pg {e : Expr} {i : Nat} (hN : X.N.Nodup) (h : NmAt X e i) : PG X e (gName i) := by
  cases e with
  | Name x p => exact pg_name hN h.1 h.2.1 h.2.2
  | _ => exact h.elim
theorem nms_pgs (hN : X.N.Nodup) : ∀ {es : List Expr} {is : List Nat}, NmsAt X es is → PGs X es (gMany is)
  | [], [], _ => pgs_nil
  | e :: es, i :: is, h => pgs_cons (nm_pg hN h.1) (nms_pgs hN h.2) (by rw [nm_each h.1]; rfl)
theorem gMany_of : ∀ {is : List Nat} {vs : List V} {σ : L2.St} {H : Hp} {Q : L2.St → Hp → Prop}, is.length = vs.length → Q ((is.zip vs).foldl (fun s p => s.set p.1 (some p.2)) σ) H → gMany is vs σ H Q
  | [], vs, σ, H, Q, l, q => by
    have e : vs = [] := by cases vs with | nil => rfl | cons => simp at l
    subst e
    exact ⟨rfl, q⟩
  | i :: is, [], σ, H, Q, l, q => by simp at l
  | i :: is, v :: vs, σ, H, Q, l, q => ⟨v, vs, rfl, gMany_of (by simpa using l) q⟩
theorem sk_setT {is : List Nat} {es : List Expr} {k : Nat} {p : Pos} {e : Expr} {pos : Pos} {d : Den Z} (hc : X.calm = true) (hN : X.N.Nodup) (hn : NmsAt X es is) (he : PE X e (tD G U (rZ G) d)) (hs : swapsWithSole [.Tuple es k p] e pos.line X.env = pure false) (hw : swappedStores [.Tuple es k p] e X.env = pure none)
    (hG : G.K = X.K) (hk : ∀ i ∈ is, i ∉ K) : PS X (.Assign [.Tuple es k p] e pos) (tS G U K (kSetT is d)) :=
  (ps_asg (pe_fz he) (pg_tup hc (nms_pgs hN hn) ((nms_each hn).1.trans (nms_len hn)) (nms_each hn).2) hs hw rfl).imp fun D σ H ⟨env, S, A, en, ok, o⟩ => by
    refine ⟨env, S, A, en, ok, ?_⟩
    have e1 : kSetT is d env = SR.of ((cFz d env).bind fun w e => match w with | .tup ws => .ok (setMany is ws e) e | _ => .bad) := by
      unfold kSetT cFz
      cases d env <;> rfl
    rw [e1] at o
    refine (of_bind (rel := rW G) (fun h => h.2) o).mono fun v H1 ⟨w, env1, S1, A1, _, en1, ok1, ⟨r1, _⟩, f1, o1⟩ => ?_
    cases w with
    | tup ws =>
      unfold Rp at r1
      obtain ⟨a, vs, rfl, h1, h2⟩ := r1
      obtain ⟨l, q⟩ := many_out hk en1 h2 ok1 o1
      exact ⟨a, vs, rfl, hG ▸ h1, l.symm, gMany_of l q⟩
    | _ => exact o1.elim
/-- x, y = a, b: stored from the right -/
theorem sk_par2 {i j : Nat} {x y : Str} {a b : Expr} {px py pt pos : Pos} {kt k2 pt2} {d : Den (List W)} (hc : X.calm = true) (hN : X.N.Nodup) (hi : X.N[i]? = some x) (hj : X.N[j]? = some y) (hij : i ≠ j) (hx : X.env.scope.names.lookup x = some .local) (hy : X.env.scope.names.lookup y = some .local)
    (ha : PA X [a, b] (tD G U (rWs G) d)) (hw : swappedStores [.Tuple [.Name x px, .Name y py] kt pt] (.Tuple [a, b] k2 pt2) X.env = pure (some [x, y])) (hk : i ∉ K ∧ j ∉ K) :
    PS X (.Assign [.Tuple [.Name x px, .Name y py] kt pt] (.Tuple [a, b] k2 pt2) pos) (tS G U K (kPar [i, j] d)) := (ps_par hc hN hi hj hij hx hy ha hw).imp fun D σ H ⟨env, S, A, en, ok, o⟩ => by
  refine ⟨env, S, A, en, ok, (of_bind (rel := rWs G) (fun h => h.2) o).mono fun vs H1 ⟨w, env1, S1, A1, _, en1, ok1, ⟨r1, _⟩, f1, o1⟩ => ?_⟩
  obtain ⟨l, q⟩ := many_out (is := [i, j]) (fun k hk' => by rcases List.mem_cons.mp hk' with e | e; exact e ▸ hk.1; rw [List.mem_singleton.mp e]; exact hk.2) en1 r1 ok1 o1
  match vs, l with
  | [v, w'], _ => exact ⟨v, w', rfl, q⟩
theorem sk_aug {i : Nat} {x : Str} {e : Expr} {op : Operator} {pos pos' : Pos} {d : Den Z} {p : Pr} {f : Int → Int → Int} (hN : X.N.Nodup) (hi : X.N[i]? = some x) (hx : Loc X.env.scope x) (hf : X.fn x = true) (he : PE X e (tD G U (rZ G) d)) {C : Int → Int → Prop}
    (hop : PIp X op fun x y H Q => ∃ i j, x = .int i ∧ y = .int j ∧ C i j ∧ Q (.int (f i j)) H) (hp : ∀ a w z, prW p [.int a, w] = some z → ∃ b, w = .int b ∧ C a b ∧ z = .w (.int (f a b))) (hk : i ∉ K) :
    PS X (.AugAssign (.Name x pos') op e pos) (tS G U K (kAug i p d)) := (ps_aug hN hi hx (pe_fz he) hop (.inl hf)).imp fun D σ H ⟨env, S, A, en, ok, o⟩ => by
  unfold kAug at o
  cases e1 : gets env i with
  | none => rw [e1] at o; exact o.elim
  | some z =>
    rw [e1] at o
    obtain ⟨v, B, R0, hs, rz, pm, er⟩ := en.gets e1
    cases z with
    | w x =>
      cases x with
      | int a =>
        obtain ⟨rz, rfl⟩ := rz
        unfold Rp at rz
        subst rz
        refine ⟨.int a, hs, ?_⟩
        dsimp only at o
        have o2 : OutS G U K σ S H A (SR.of ((cFz d env).bind fun y env => match prW p [.int a, y] with | some (.w w) => R.ok (setSl i (.w w) env) env | _ => .bad)) D := by
          unfold cFz
          revert o
          cases d env <;> exact fun o => o
        refine ⟨env, S, A, en, ok, (of_bind (rel := rW G) (fun h => h.2) o2).mono fun y H1 ⟨w, env1, S1, A1, _, en1, ok1, ⟨r1, _⟩, f1, o1⟩ => ?_⟩
        cases q : prW p [.int a, w] with
        | none => rw [q] at o1; exact o1.elim
        | some z =>
          obtain ⟨b, rfl, hC, rfl⟩ := hp a w z q
          rw [q] at o1
          unfold Rp at r1
          subst r1
          exact ⟨a, b, rfl, rfl, hC, set_out (B := []) (z := .w (.int (f a b))) hk en1 ⟨rp_int _ _ _, rfl⟩ ok1 o1⟩
      | _ => exact o.elim
    | _ => exact o.elim

/-! ### o[k] = v -/
theorem Rps.setI {S : AS} {H : Hp} {ws : List W} {vs : List V} {w : W} {v : V} {n : Nat} (h : Rps G S H ws vs) (r : Rp G S H w v) : Rps G S H (ws.set n w) (vs.set n v) := Rps.set n h r
theorem Rpk.inv {S : AS} {H : Hp} {k : Key} {w : W} {ws : List (Key × W)} {vs : List (Key × V)} (h : Rpk G S H ((k, w) :: ws) vs) : ∃ v r, vs = (k, v) :: r ∧ Rp G S H w v ∧ Rpk G S H ws r := by unfold Rpk at h; exact h
theorem Rpk.cons {S : AS} {H : Hp} {k : Key} {w : W} {v : V} {ws : List (Key × W)} {vs : List (Key × V)} (r : Rp G S H w v) (h : Rpk G S H ws vs) : Rpk G S H ((k, w) :: ws) ((k, v) :: vs) := by unfold Rpk; exact ⟨v, vs, rfl, r, h⟩
theorem Rpk.inv0 {S : AS} {H : Hp} {vs : List (Key × V)} (h : Rpk G S H [] vs) : vs = [] := by unfold Rpk at h; exact h
theorem Rpk.nil {S : AS} {H : Hp} : Rpk G S H [] [] := by unfold Rpk; rfl
theorem Rpk.len {S : AS} {H : Hp} : ∀ {ws : List (Key × W)} {vs : List (Key × V)}, Rpk G S H ws vs → vs.length = ws.length
  | [], vs, h => by rw [h.inv0]; rfl
  | (k, w) :: ws, vs, h => by obtain ⟨v, r, rfl, _, h2⟩ := h.inv; simp [h2.len]
theorem Rpk.anyK {S : AS} {H : Hp} {k : Key} : ∀ {ws : List (Key × W)} {vs : List (Key × V)}, Rpk G S H ws vs → (vs.any fun kv => decide (kv.1 = k)) = ws.any fun kv => decide (kv.1 = k)
  | [], vs, h => by rw [h.inv0]; rfl
  | (j, w) :: ws, vs, h => by obtain ⟨v, r, rfl, _, h2⟩ := h.inv; simp [h2.anyK]
theorem Rpk.put {S : AS} {H : Hp} {k : Key} {w : W} {v : V} (r : Rp G S H w v) {ws : List (Key × W)} {vs : List (Key × V)} (h : Rpk G S H ws vs) : Rpk G S H (dput k w ws) (putK vs k v) := by
  unfold dput putK
  rw [h.anyK]
  split
  · rename_i hh; clear hh
    induction ws generalizing vs with
    | nil => rw [h.inv0]; exact .nil
    | cons p ws ih =>
      obtain ⟨j, x⟩ := p
      obtain ⟨y, vr, rfl, h1, h2⟩ := h.inv
      rw [List.map_cons, List.map_cons]
      by_cases e : j = k
      · rw [if_pos (show (j, x).1 = k from e), if_pos (show (j, y).1 = k from e)]
        exact .cons r (ih h2)
      · rw [if_neg (show ¬ (j, x).1 = k from e), if_neg (show ¬ (j, y).1 = k from e)]
        exact .cons h1 (ih h2)
  · rename_i hh; clear hh
    induction ws generalizing vs with
    | nil => rw [h.inv0]; exact .cons r .nil
    | cons p ws ih =>
      obtain ⟨j, x⟩ := p
      obtain ⟨y, vr, rfl, h1, h2⟩ := h.inv
      exact .cons h1 (ih h2)
theorem Rpk.get {S : AS} {H : Hp} {k : Key} : ∀ {ws : List (Key × W)} {vs : List (Key × V)}, Rpk G S H ws vs → (∀ w, dgetW k ws = some w → ∃ v, valV vs k = some v ∧ Rp G S H w v) ∧ (dgetW k ws = none → valV vs k = none)
  | [], vs, h => by rw [h.inv0]; exact ⟨fun w e => (nomatch e), fun _ => rfl⟩
  | (j, x) :: ws, vs, h => by
    obtain ⟨y, vr, rfl, h1, h2⟩ := h.inv
    unfold dgetW
    by_cases e : j = k
    · rw [if_pos e, valV_pos (show (j, y).1 = k from e)]
      exact ⟨fun w q => ⟨y, rfl, Option.some.inj q ▸ h1⟩, fun q => (nomatch q)⟩
    · rw [if_neg e, valV_neg (show ¬ (j, y).1 = k from e)]
      exact h2.get
theorem kOf_rel {S : AS} {H : Hp} {w : W} {k : Key} {v : V} (e : kOf w = some k) (r : Rp G S H w v) : v = kV k := by
  cases w with
  | int i => cases e; unfold Rp at r; exact r
  | str i => cases e; unfold Rp at r; exact r
  | _ => cases e
/-- the slot's object changed -/
theorem change {S : AS} {H : Hp} {env : Env} {σ : L2.St} {A R : List Addr} {i : Nat} {z' : Z} {p : Addr} {u : HO} (ok : Ok S H A) (hi : i < env.length) (hs : σ[i]? = some (some (.ref p))) (pm : A.Perm ([p] ++ R)) (er : EnvR G S H (env.set i none) σ R) (hu : Mu (some u))
    (hz' : Kp S H (upd H p u) → RZ G S (upd H p u) z' (.ref p) [p]) : ∃ A', EnvR G S (upd H p u) (env.set i (some z')) σ A' ∧ Ok S (upd H p u) A' ∧ Fr S H A S (upd H p u) A' := by
  have ok2 : Ok S H ([p] ++ R) := ok.perm pm.symm
  have hp : p ∈ [p] ++ R := by simp
  have ok3 := Ok.mutate hp ok2 hu
  have f : Fr S H ([p] ++ R) S (upd H p u) ([p] ++ R) := Fr.mutate (u := u) hp ok2
  have er2 : EnvR G S (upd H p u) (env.set i none) σ R := er.mono (f.kp ok2) f.up fun a ha o ea => by
    have ne : a ≠ p := fun z => ok2.dis (a := a) (A := [p]) (B := R) (by simp [z]) ha
    rw [upd_ne ne]; exact ea
  obtain ⟨A', h1, h2⟩ := er2.put' (by simpa using hi) hs (hz' (f.kp ok2))
  exact ⟨A', h1, ok3.perm h2, (f.wide fun a ha => pm.mem_iff.mpr ha).less fun a ha => h2.mem_iff.mp ha⟩
theorem sk_setSub {i : Nat} {o k e : Expr} {p pos : Pos} {dk d : Den Z} (hG : G.K = X.K) (hw : G.w = X.w) (hu : X.A.units + 64 < cLine) (ho : PE X o (tVar i)) (hk : PE X k (tD G U (rZ G) dk)) (he : PE X e (tD G U (rZ G) d)) (hs : swapsWithSole [.Subscript o k p] e pos.line X.env = pure false)
    (ha : ∀ v, assign (.Subscript o k p) X.env v = (do
      let ov ← holding [v] (eval o X.env)
      let iv ← holding [v, ov] (eval k X.env)
      standAt p
      holding [v, ov, iv] (PySem.setItem ov iv v)
      release [v, ov, iv] [])) : PS X (.Assign [.Subscript o k p] e pos) (tS G U K (kSetSub i dk d)) := by
  have hset : PSet X (fun o i v H Q => rSetL o i v H Q ∨ rSetD o i v H Q ∨ rSetN G o i v H Q ∨ rSetE G o i v H Q) := fun pins s σ H o i v ov iv u Q I r1 r2 r3 h => h.elim (set_list pins s σ H o i v ov iv u Q I r1 r2 r3) fun h => h.elim (set_dict (by omega) pins s σ H o i v ov iv u Q I r1 r2 r3)
    fun h => h.elim (set_N hG hw hu pins s σ H o i v ov iv u Q I r1 r2 r3) (set_E hG hw hu pins s σ H o i v ov iv u Q I r1 r2 r3)
  refine (ps_asg (pe_fz he) (pg_sub ho (pe_fz hk) hset ha) hs rfl rfl).imp fun D σ H ⟨env, S, A, en, ok, o⟩ => ?_
  refine ⟨env, S, A, en, ok, ?_⟩
  have o1 : OutS G U K σ S H A (SR.of ((cFz d env).bind fun v env => match gets env i with | none => .bad | some _ => (cFz dk env).bind fun k env => match gets env i with | some o => (match Cb.setItem o k v with | some o => .ok (.nx (env.set i (some o))) env | none => .bad) | none => .bad)) D := by
    revert o
    unfold kSetSub cFz
    cases d env with
    | ok z e1 =>
      dsimp only [R.bind]
      cases gets e1 i with
      | none => exact fun o => o
      | some _ => dsimp only; cases dk e1 <;> exact fun o => o
    | _ => exact fun o => o
  refine (of_bind (rel := rW G) (fun h => h.2) o1).mono fun v H1 ⟨w, env1, S1, A1, _, en1, ok1, ⟨r1, _⟩, f1, o2⟩ => ?_
  cases e1 : gets env1 i with
  | none => rw [e1] at o2; exact o2.elim
  | some z0 =>
    rw [e1] at o2
    dsimp only at o2
    obtain ⟨v0, B0, R0, hs0, _, _, _⟩ := en1.gets e1
    refine ⟨v0, hs0, env1, S1, A1, en1, ok1, (of_bind (rel := rW G) (fun h => h.2) o2).mono fun y H2 ⟨wk, env2, S2, A2, _, en2, ok2, ⟨r2, _⟩, f2, o3⟩ => ?_⟩
    cases e2 : gets env2 i with
    | none => rw [e2] at o3; exact o3.elim
    | some z =>
      rw [e2] at o3
      dsimp only at o3
      obtain ⟨v', B, R, hs, rz, pm, er⟩ := en2.gets e2
      rw [hs0] at hs
      cases hs
      have r1' : Rp G S2 H2 w v := r1.mono (f2.kp ok1) f2.up
      cases z with
      | L ws =>
        cases wk with
        | int j =>
          unfold Cb.setItem at o3
          dsimp only at o3
          cases e3 : ixN ws.length j with
          | none => rw [e3] at o3; exact o3.elim
          | some n =>
            rw [e3] at o3
            obtain ⟨a, vs, rfl, h1, h2, rfl⟩ := rz
            unfold Rp at r2
            subst r2
            refine .inl ⟨a, vs, j, n, rfl, rfl, h1, by rw [h2.length]; exact e3, ?_⟩
            obtain ⟨A', k1, k2, k3⟩ := change (z' := .L (ws.set n w)) (u := .lst (vs.set n v)) ok2 (gets_lt e2) hs0 pm er trivial fun kp => ⟨a, _, rfl, upd_same, (Rps.set n h2 r1').mono kp fun _ h => h, rfl⟩
            exact o3 σ _ S2 A' Agr.refl k1 k2 k3
        | _ => exact o3.elim
      | dK kvs =>
        unfold Cb.setItem at o3
        dsimp only at o3
        cases e3 : kOf wk with
        | none =>
          rw [e3] at o3
          dsimp only at o3
          by_cases hl : (tkW wk && kvs.isEmpty) = true
          · rw [if_pos hl] at o3
            obtain ⟨ht, he⟩ := Bool.and_eq_true_iff.mp hl
            obtain rfl := List.isEmpty_iff.mp he
            obtain ⟨a, vs, rfl, h1, h2, rfl⟩ := rz
            obtain rfl := h2.inv0
            obtain ⟨nk, en, dn, ws, rfl⟩ := tk_some ht
            have r2' := r2
            unfold Rp at r2'
            obtain ⟨b, _, rfl, _⟩ := r2'
            refine .inr (.inr (.inr ⟨S2, a, _, nk, b, rfl, h1, ht, en, rfl, r2, fun o' u ru hx => ?_⟩))
            obtain ⟨A', k1, k2, k3⟩ := change (z' := .dW [(.tup ws, w)]) (u := DO a o') ok2 (gets_lt e2) hs0 pm er (mu_do hx) fun kp => ⟨a, o', _, rfl, upd_same, hx, (Rpd.cons en dn r2 r1' ru .nil).mono kp fun _ h => h, rfl⟩
            exact o3 σ _ S2 A' Agr.refl k1 k2 k3
          · rw [if_neg hl] at o3; exact o3.elim
        | some kk =>
          rw [e3] at o3
          dsimp only at o3
          by_cases hl : kvs.length < 16777216
          · rw [if_pos (decide_eq_true hl)] at o3
            obtain ⟨a, vs, rfl, h1, h2, rfl⟩ := rz
            have ek := kOf_rel e3 r2
            subst ek
            refine .inr (.inl ⟨a, _, rfl, DPut.k h1 (by rw [h2.len, sizeLine_eq]; exact hl), ?_⟩)
            obtain ⟨A', k1, k2, k3⟩ := change (z' := .dK (dput kk w kvs)) (u := .dK (putK vs kk v)) ok2 (gets_lt e2) hs0 pm er trivial fun kp => ⟨a, _, rfl, upd_same, (Rpk.put r1' h2).mono kp fun _ h => h, rfl⟩
            exact o3 σ _ S2 A' Agr.refl k1 k2 k3
          · rw [if_neg (by simpa using hl)] at o3; exact o3.elim
      | dW kvs =>
        unfold Cb.setItem at o3
        dsimp only at o3
        by_cases hl : (tkW wk && decide (kvs.length < 16777216)) = true
        · rw [if_pos hl] at o3
          obtain ⟨ht, he⟩ := Bool.and_eq_true_iff.mp hl
          have he := of_decide_eq_true he
          obtain ⟨a, oo, xs, rfl, h1, h2, h3, rfl⟩ := rz
          obtain ⟨nk, en, dn, ws, rfl⟩ := tk_some ht
          have r2' := r2
          unfold Rp at r2'
          obtain ⟨b, _, rfl, _⟩ := r2'
          refine .inr (.inr (.inl ⟨S2, a, oo, xs, kvs, _, nk, b, rfl, h1, h2, h3, by rw [h3.len, sizeLine_eq]; exact he, ht, en, rfl, r2, fun o' u ru hx => ?_⟩))
          obtain ⟨A', k1, k2, k3⟩ := change (z' := .dW (dputN (.tup ws) w kvs)) (u := DO a o') ok2 (gets_lt e2) hs0 pm er (mu_do hx) fun kp => ⟨a, o', _, rfl, upd_same, hx, (h3.put en dn r2 r1' ru).mono kp fun _ h => h, rfl⟩
          exact o3 σ _ S2 A' Agr.refl k1 k2 k3
        · rw [if_neg hl] at o3; exact o3.elim
      | _ => exact o3.elim
end
end Cb

end
section
set_option maxRecDepth 100000
set_option maxHeartbeats 4000000
/-! loops and comprehensions -/
namespace Cb
open PySem PySem.Spec PyProof.Rows L2
/-- J yields just these -/
def ItOk (G : Gc) (S0 : AS) (H0 : Hp) (J : It) (ws : List W) : Prop := ∀ i S H, Kp S0 H0 H → (∀ a, S0 a → S a) →
  (∀ w, ws[i]? = some w → J.go i H ∧ ∀ x H', J.yld i H x H' → (∀ a o, H a = some o → H' a = some o) ∧ Rp G S H' w x) ∧ (i = ws.length → J.stop i H)
theorem none_len {ws : List W} {i : Nat} (e : i = ws.length) : ws[i]? = none := by simp [e]
def rIt (G : Gc) : Rel (List W) It := fun _ S H ws J B => ItOk G S H J ws ∧ B = []
def slotsOf : Tg → List Nat
  | .nm i => [i]
  | .tup is => is
def gTg (K' : PySem.W.Frag) : Tg → TG
  | .nm i => gName i
  | .tup is => gTup K' is.length (gMany is)
section
variable [Tb] {G : Gc} {U : L2.WX} {K : List Nat} {X : Cx}
section
variable {S : AS} {H H' : Hp} {env : Env} {σ : L2.St} {A : List Addr}
theorem ext_kp (k : ∀ a o, H a = some o → H' a = some o) : Kp S H H' := fun a u e _ _ => k a u e
theorem ext_en (k : ∀ a o, H a = some o → H' a = some o) (en : EnvR G S H env σ A) : EnvR G S H' env σ A := en.mono (ext_kp k) (fun _ h => h) fun a _ u e => k a u e
theorem ext_ok (k : ∀ a o, H a = some o → H' a = some o) (ok : Ok S H A) : Ok S H' A := ⟨ok.nd, fun a ha => by
    obtain ⟨u, e⟩ := mut_some (ok.own a ha).2
    exact ⟨(ok.own a ha).1, by rw [k a u e, ← e]; exact (ok.own a ha).2⟩, fun a ha => by
    obtain ⟨u, e⟩ := ok.dom a ha
    exact ⟨u, k a u e⟩, tabs_keep ok.tab fun b x e _ => k b x e⟩
theorem ext_fr (k : ∀ a o, H a = some o → H' a = some o) : Fr S H A S H' A := ⟨fun a u e _ _ => k a u e, fun _ h => h, fun _ h => .inl h, fun a h => .inl h, fun a u e => ⟨u, k a u e⟩⟩
end
def foldσ (is : List Nat) (vs : List V) (σ : L2.St) : L2.St := (is.zip vs).foldl (fun s p => s.set p.1 (some p.2)) σ
/-- several slots told at once -/
theorem many_env : ∀ {is : List Nat} {ws : List W} {vs : List V} {σ : L2.St} {S : AS} {H : Hp} {A : List Addr} {env e : Env}, EnvR G S H env σ A → Rps G S H ws vs → Ok S H A → setMany is ws env = .nx e →
    is.length = vs.length ∧ ∃ A', EnvR G S H e (foldσ is vs σ) A' ∧ Ok S H A' ∧ ∀ a ∈ A', a ∈ A
  | [], [], vs, σ, S, H, A, env, e, en, r, ok, h => by
    obtain rfl := r.inv0
    cases h
    exact ⟨rfl, A, en, ok, fun a h => h⟩
  | [], w :: ws, vs, σ, S, H, A, env, e, en, r, ok, h => by unfold setMany at h; cases h
  | i :: is, [], vs, σ, S, H, A, env, e, en, r, ok, h => by unfold setMany at h; cases h
  | i :: is, w :: ws, vs, σ, S, H, A, env, e, en, r, ok, h => by
    obtain ⟨v, vr, rfl, r1, r2⟩ := r.inv
    unfold setMany at h
    by_cases hi : i < env.length
    · rw [if_pos hi] at h
      obtain ⟨A', h1, h2, h3⟩ := lay (B := []) (z := .w w) en hi ⟨r1, rfl⟩ ok
      obtain ⟨l, A2, q1, q2, q3⟩ := many_env h1 r2 h2 h
      exact ⟨by simp [l], A2, q1, q2, fun a ha => h3 a (q3 a ha)⟩
    · rw [if_neg hi] at h; cases h
theorem agr_fold : ∀ {is : List Nat} {vs : List V} {σ : L2.St}, (∀ i ∈ is, i ∉ K) → Agr K σ (foldσ is vs σ)
  | [], vs, σ, _ => Agr.refl
  | i :: is, [], σ, _ => Agr.refl
  | i :: is, v :: vs, σ, h => (Agr.set (h i List.mem_cons_self)).trans (agr_fold (is := is) (vs := vs) (σ := σ.set i (some v)) fun j hj => h j (List.mem_cons_of_mem _ hj))
theorem tg_out {t : Tg} {w : W} {x : V} {env e : Env} {S : AS} {H : Hp} {σ : L2.St} {A : List Addr} {Q : L2.St → Hp → Prop} (en : EnvR G S H env σ A) (ok : Ok S H A) (r : Rp G S H w x) (h : setTg t w env = some e)
    (q : ∀ vs A', EnvR G S H e (foldσ (slotsOf t) vs σ) A' → Ok S H A' → (∀ a ∈ A', a ∈ A) → Q (foldσ (slotsOf t) vs σ) H) : gTg G.K t x σ H Q := by
  cases t with
  | nm i =>
    have h : (if i < env.length then some (env.set i (some (.w w))) else none) = some e := h
    by_cases hi : i < env.length
    · rw [if_pos hi] at h
      cases h
      obtain ⟨A', h1, h2, h3⟩ := lay (B := []) (z := .w w) en hi ⟨r, rfl⟩ ok
      exact q [x] A' h1 h2 h3
    · rw [if_neg hi] at h; cases h
  | tup is =>
    cases w with
    | tup ws =>
      unfold setTg at h
      dsimp only at h
      cases e1 : setMany is ws env with
      | nx e2 =>
        rw [e1] at h
        cases h
        unfold Rp at r
        obtain ⟨a, vs, rfl, h1, h2⟩ := r
        obtain ⟨l, A', k1, k2, k3⟩ := many_env en h2 ok e1
        exact ⟨a, vs, rfl, h1, l.symm, gMany_of l (q vs A' k1 k2 k3)⟩
      | _ => rw [e1] at h; cases h
    | _ => unfold setTg at h; cases h

/-! ### for -/
theorem sk_for {tg iter : Expr} {body : List Stmt} {pos : Pos} {t : Tg} {k : Itk} {d : Den (List W)} {db : DenS} (hp : PassesOwn (model X.prog X.w) X.A X.env X.xe) (hc : X.calm = true) (hi : PI X tg iter (tD G U (rIt G) (cIt k d))) (hg : PG X tg (gTg G.K t))
    (hb : PSs X body (tS G U K db)) (hs : ∀ x, foldedSetIterable iter X.env x = pure x) (hk : ∀ i ∈ slotsOf t, i ∉ K) : PS X (.For tg iter body [] pos) (tS G U K (kFor t k d db)) :=
  (ps_for hp hc hi hg hb hs).imp fun D σ H ⟨env, S, A, en, ok, o⟩ => by
    refine ⟨env, S, A, en, ok, (of_bind (rel := rIt G) (fun h => h.2) o).mono fun J H1 ⟨ws, env1, S1, A1, _, en1, ok1, ⟨itk, _⟩, f1, o1⟩ => ?_⟩
    have o1 : OutS G U K σ S1 H1 A1 (evFor (setTg t) db ws env1) D := o1
    refine ⟨fun i m σ' H' => m = ws.length - i ∧ i ≤ ws.length ∧ ∃ env' S' A', EnvR G S' H' env' σ' A' ∧ Ok S' H' A' ∧ Fr S1 H1 A1 S' H' A' ∧ OutS G U K σ' S' H' A' (evFor (setTg t) db (ws.drop i) env') D,
      ⟨ws.length, by simp, Nat.zero_le _, env1, S1, A1, en1, ok1, Fr.refl ok1, by simpa using o1⟩, ?_⟩
    rintro i m σ' H' ⟨rfl, hil, env', S', A', en', ok', f', o'⟩
    obtain ⟨j1, j2⟩ := itk i S' H' (f'.kp ok1) f'.up
    by_cases hlt : i < ws.length
    · have hw : ws[i]? = some ws[i] := by simp [hlt]
      obtain ⟨g1, g2⟩ := j1 _ hw
      refine .inr ⟨g1, fun σ2 H2 => ∃ env2 S2 A2, EnvR G S2 H2 env2 σ2 A2 ∧ Ok S2 H2 A2 ∧ Fr S1 H1 A1 S2 H2 A2 ∧ OutS G U K σ2 S2 H2 A2 (evFor (setTg t) db (ws.drop (i + 1)) env2) D,
        fun σ2 H2 q => ⟨ws.length - (i + 1), by omega, rfl, hlt, q⟩, fun x H2 y => ?_⟩
      obtain ⟨k, rx⟩ := g2 x H2 y
      rw [List.drop_eq_getElem_cons hlt] at o'
      unfold evFor at o'
      cases e : setTg t ws[i] env' with
      | none => rw [e] at o'; exact o'.elim
      | some e2 =>
        rw [e] at o'
        dsimp only at o'
        refine tg_out (ext_en k en') (ext_ok k ok') rx e fun vs A2 en2 ok2 s2 => ?_
        have f2 : Fr S' H' A' S' H2 A2 := (ext_fr k).less s2
        have ag : Agr K σ' (foldσ (slotsOf t) vs σ') := agr_fold hk
        refine ⟨e2, S', A2, en2, ok2, ?_⟩
        have o2 := OutS.from o' ag f2
        have f12 : Fr S1 H1 A1 S' H2 A2 := f'.trans f2
        cases e3 : db e2 with
        | nx e4 =>
          rw [e3] at o2
          exact fun σ3 H3 S3 A3 ag3 en3 ok3 f3 => ⟨e4, S3, A3, en3, ok3, f12.trans f3, OutS.from o2 ag3 f3⟩
        | ct e4 =>
          rw [e3] at o2
          exact fun σ3 H3 S3 A3 ag3 en3 ok3 f3 => ⟨e4, S3, A3, en3, ok3, f12.trans f3, OutS.from o2 ag3 f3⟩
        | bk e4 => rw [e3] at o2; exact o2
        | rt z e4 => rw [e3] at o2; exact o2
        | ex x e4 => rw [e3] at o2; exact o2
        | bad => rw [e3] at o2; exact o2
    · have e : i = ws.length := by omega
      subst e
      rw [List.drop_length] at o'
      exact .inl ⟨j2 (by simp), o' σ' H' S' A' Agr.refl en' ok' (Fr.refl ok')⟩

/-! ### while -/
theorem sk_while {c : Expr} {body : List Stmt} {pos : Pos} {f : Env → Nat} {t : Den Bool} {db : DenS} (hp : PassesOwn (model X.prog X.w) X.A X.env X.xe) (hc : PT X c (tD G U rB t)) (hb : PSs X body (tS G U K db)) : PS X (.While c body [] pos) (tS G U K (kWhile f t db)) :=
  (ps_while hp hc hb).imp fun D σ H ⟨env, S, A, en, ok, o⟩ => by
    refine ⟨fun m σ' H' => ∃ env' S' A', EnvR G S' H' env' σ' A' ∧ Ok S' H' A' ∧ OutS G U K σ' S' H' A' (evWhile t db m env') D, ⟨f env, env, S, A, en, ok, o⟩, ?_⟩
    rintro m σ' H' ⟨env', S', A', en', ok', o'⟩
    refine ⟨env', S', A', en', ok', ?_⟩
    cases m with
    | zero => exact o'.elim
    | succ m =>
      unfold evWhile at o'
      cases e : t env' with
      | ok b e1 =>
        rw [e] at o'
        intro b' H2 S2 A2 B2 en2 r2 ok2 f2
        obtain ⟨rfl, rfl⟩ := r2
        cases b with
        | false =>
          rw [if_neg Bool.false_ne_true]
          exact o' σ' H2 S2 A2 Agr.refl en2 ok2 f2
        | true =>
          rw [if_pos rfl]
          have o1 : OutS G U K σ' S' H' A' (match db e1 with | .nx env => evWhile t db m env | .ct env => evWhile t db m env | .bk env => .nx env | r => r) D := o'
          have o2 := OutS.from o1 (Agr.refl (K := K)) f2
          refine ⟨fun σ3 H3 => ∃ env3 S3 A3, EnvR G S3 H3 env3 σ3 A3 ∧ Ok S3 H3 A3 ∧ OutS G U K σ3 S3 H3 A3 (evWhile t db m env3) D, fun σ3 H3 q => ⟨m, Nat.lt_succ_self m, q⟩, e1, S2, A2, en2, ok2, ?_⟩
          cases e3 : db e1 with
          | nx e4 =>
            rw [e3] at o2
            exact fun σ3 H3 S3 A3 ag3 en3 ok3 f3 => ⟨e4, S3, A3, en3, ok3, OutS.from o2 ag3 f3⟩
          | ct e4 =>
            rw [e3] at o2
            exact fun σ3 H3 S3 A3 ag3 en3 ok3 f3 => ⟨e4, S3, A3, en3, ok3, OutS.from o2 ag3 f3⟩
          | bk e4 => rw [e3] at o2; exact o2
          | rt z e4 => rw [e3] at o2; exact o2
          | ex x e4 => rw [e3] at o2; exact o2
          | bad => rw [e3] at o2; exact o2
      | ex x e1 =>
        rw [e] at o'
        exact fun cls d H2 S2 A2 h1 h2 h3 h4 => o' cls d σ' H2 S2 A2 h1 Agr.refl h2 h3 h4
      | bad => rw [e] at o'; exact o'.elim

/-! ### comprehensions -/
theorem EnvR.unset {S : AS} {H : Hp} {env : Env} {σ : L2.St} {A : List Addr} : ∀ {i : Nat}, EnvR G S H env (σ.set i none) A → EnvR G S H env σ A := by
  intro i h
  induction σ generalizing env A i with
  | nil => simpa using h
  | cons o σ ih =>
    cases i with
    | zero =>
      have h' : EnvR G S H env (none :: σ) A := h
      cases h' with
      | off t => exact .off t
      | er k t => exact .er (fun a e p => (nomatch (k a e p).1)) t
      | cl k t => obtain ⟨_, _, _, e, _⟩ := k; cases e
    | succ i =>
      have h' : EnvR G S H env (o :: σ.set i none) A := h
      cases h' with
      | off t => exact .off (ih t)
      | on r t => exact .on r (ih t)
      | er k t => exact .er (by simpa using k) (ih t)
      | cl k t => exact .cl k (ih t)
theorem EnvR.unwipe {S : AS} {H : Hp} {env : Env} {σ : L2.St} {A : List Addr} : ∀ {vs : List Nat}, EnvR G S H env (wipe σ vs) A → EnvR G S H env σ A
  | [], h => h
  | v :: vs, h => EnvR.unwipe (vs := vs) (EnvR.unset h)
theorem EnvR.drop2 {S : AS} {H : Hp} {env : Env} {σ : L2.St} {A : List Addr} (h : EnvR G S H env σ A) : ∀ i : Nat, ∃ R, EnvR G S H (env.set i none) (σ.set i none) R ∧ List.Sublist R A := by
  induction h with
  | nil => intro i; exact ⟨[], by simpa using EnvR.nil, .slnil⟩
  | @off env σ A o t ih =>
    intro i
    cases i with
    | zero => exact ⟨A, by simpa using EnvR.off t, List.Sublist.refl _⟩
    | succ i =>
      obtain ⟨R, h1, h2⟩ := ih i
      exact ⟨R, by simpa using EnvR.off h1, h2⟩
  | @on z v B env σ A r t ih =>
    intro i
    cases i with
    | zero => exact ⟨A, by simpa using EnvR.off t, List.sublist_append_right _ _⟩
    | succ i =>
      obtain ⟨R, h1, h2⟩ := ih i
      exact ⟨B ++ R, by simpa using EnvR.on r h1, List.Sublist.append_left h2 B⟩
  | @er env σ A o k t ih =>
    intro i
    cases i with
    | zero => exact ⟨A, by simpa using EnvR.off t, List.Sublist.refl _⟩
    | succ i =>
      obtain ⟨R, h1, h2⟩ := ih i
      exact ⟨R, by simpa using EnvR.er (by simpa using k) h1, h2⟩
  | @cl env σ A o id caps k t ih =>
    intro i
    cases i with
    | zero => exact ⟨A, by simpa using EnvR.off t, List.Sublist.refl _⟩
    | succ i =>
      obtain ⟨R, h1, h2⟩ := ih i
      exact ⟨R, by simpa using EnvR.cl k h1, h2⟩
theorem EnvR.wiped {S : AS} {H : Hp} {env : Env} {σ : L2.St} {A : List Addr} (h : EnvR G S H env σ A) : ∀ vs : List Nat, ∃ R, EnvR G S H (wipeE env vs) (wipe σ vs) R ∧ List.Sublist R A
  | [] => ⟨A, h, List.Sublist.refl _⟩
  | v :: vs => by
    obtain ⟨R, h1, h2⟩ := EnvR.wiped h vs
    obtain ⟨R', h3, h4⟩ := h1.drop2 v
    exact ⟨R', h3, h4.trans h2⟩
theorem restE_len {e0 env : Env} : ∀ vs : List Nat, (restE e0 env vs).length = env.length
  | [] => rfl
  | v :: vs => by unfold restE; rw [List.length_set, restE_len vs]
/-- the block's own names as they were -/
theorem EnvR.rest {S0 S : AS} {H0 H : Hp} {e0 env : Env} {σ : L2.St} {A0 A : List Addr} (h0 : EnvR G S0 H0 e0 σ A0) (kp : Kp S0 H0 H) (up : ∀ a, S0 a → S a) (h : EnvR G S H env σ A) (nd : A.Nodup) : ∀ vs : List Nat, ∃ R, EnvR G S H (restE e0 env vs) σ R ∧ R.Nodup ∧ ∀ a ∈ R, a ∈ A
  | [] => ⟨A, h, nd, fun a h => h⟩
  | v :: vs => by
    obtain ⟨R, h1, n1, h2⟩ := EnvR.rest h0 kp up h nd vs
    obtain ⟨R', h3, h4⟩ := h1.drop v
    have n3 : R'.Nodup := n1.sublist h4
    unfold restE
    cases e : Cb.gets e0 v with
    | none => exact ⟨R', h3, n3, fun a ha => h2 a (h4.subset ha)⟩
    | some z =>
      cases z with
      | w x =>
        obtain ⟨y, B, R0, hs, rz, _, _⟩ := h0.gets e
        by_cases hv : v < (restE e0 env vs).length
        · obtain ⟨A', k1, k2⟩ := h3.put' hv hs (z := .w x) (B := []) ⟨rz.1.mono kp up, rfl⟩
          exact ⟨A', k1, k2.nodup_iff.mpr n3, fun a ha => h2 a (h4.subset (k2.mem_iff.mp ha))⟩
        · have e1 : (restE e0 env vs).set v none = restE e0 env vs := List.set_eq_of_length_le (by omega)
          have e2 : (restE e0 env vs).set v (some (.w x)) = restE e0 env vs := List.set_eq_of_length_le (by omega)
          rw [e1] at h3
          show ∃ R, EnvR G S H ((restE e0 env vs).set v (some (.w x))) σ R ∧ _
          rw [e2]
          exact ⟨R', h3, n3, fun a ha => h2 a (h4.subset ha)⟩
      | _ => exact ⟨R', h3, n3, fun a ha => h2 a (h4.subset ha)⟩
theorem wipe_setN {σ : L2.St} {i : Nat} {x : Option V} : ∀ {vs : List Nat}, i ∉ vs → wipe (σ.set i x) vs = (wipe σ vs).set i x
  | [], _ => rfl
  | v :: vs, h => by
    have h1 : i ≠ v := fun e => h (by rw [e]; exact List.mem_cons_self)
    unfold wipe
    rw [wipe_setN fun m => h (List.mem_cons_of_mem _ m), List.set_comm _ _ h1]
theorem wipe_set {σ : L2.St} {i : Nat} {x : Option V} : ∀ {vs : List Nat}, i ∈ vs → wipe (σ.set i x) vs = wipe σ vs
  | [], h => absurd h (by simp)
  | v :: vs, h => by
    unfold wipe
    by_cases hm : i ∈ vs
    · rw [wipe_set hm]
    · rcases List.mem_cons.mp h with rfl | h
      · rw [wipe_setN hm, List.set_set]
      · exact absurd h hm
theorem wipe_fold {vs : List Nat} : ∀ {is : List Nat} {xs : List V} {σ : L2.St}, (∀ i ∈ is, i ∈ vs) → wipe (foldσ is xs σ) vs = wipe σ vs
  | [], xs, σ, _ => rfl
  | i :: is, [], σ, _ => rfl
  | i :: is, x :: xs, σ, h => by
    show wipe (foldσ is xs (σ.set i (some x))) vs = _
    rw [wipe_fold fun j hj => h j (List.mem_cons_of_mem _ hj), wipe_set (h i List.mem_cons_self)]
theorem wipe_wipe {σ : L2.St} : ∀ {vs us : List Nat}, (∀ i ∈ us, i ∈ vs) → wipe (wipe σ us) vs = wipe σ vs
  | vs, [], _ => rfl
  | vs, u :: us, h => by
    show wipe ((wipe σ us).set u none) vs = _
    rw [wipe_set (h u List.mem_cons_self), wipe_wipe fun j hj => h j (List.mem_cons_of_mem _ hj)]
/-- nothing is raised in the block -/
abbrev UF : L2.WX := fun _ _ _ _ => False
theorem noX_ok {α : Type} {r : R α} {a : α} {e : Env} (h : noX r = .ok a e) : r = .ok a e := by
  cases r with
  | ok b f => exact h
  | _ => cases h
theorem lc_out {t : Tg} {vs : List Nat} {dt : Den Bool} {d : Den Z} {items : List W} {σ : L2.St} {S1 : AS} {H1 : Hp} {A1 : List Addr} {env1 : Env} {J : It} {Q : VK} (hv : ∀ i ∈ slotsOf t, i ∈ vs) (en1 : EnvR G S1 H1 env1 σ A1) (ok1 : Ok S1 H1 A1) (itk : ItOk G S1 H1 J items)
    (o : Out G U σ S1 H1 A1 (rZ G) ((noX (lcLoop (lcTurn vs t dt d) items (wipeE env1 vs) [])).bind fun ys env2 => .ok (.L ys) (restE env1 env2 vs)) Q) :
    ∀ D, H1 D = none → ∃ W : Nat → Nat → Hp → Prop, (∃ m, W 0 m (upd H1 D (.lst []))) ∧ ∀ i m H, W i m H →
      (J.stop i H ∧ Q (.ref D) H) ∨ (J.go i H ∧ ∃ Nx : Hp → Prop, (∀ H', Nx H' → ∃ m', m' < m ∧ W (i + 1) m' H') ∧ ∀ x H', J.yld i H x H' → gTg G.K t x (wipe σ vs) H' fun σ2 H2 => wipe σ2 vs = wipe σ vs ∧ (tD G UF rB dt) σ2 H2 fun b H3 =>
        if b = true then (tD G UF (rW G) (cFz d)) σ2 H3 fun y H4 => ∃ acc, H4 D = some (.lst acc) ∧ acc.length < sizeLine ∧ Nx (upd H4 D (.lst (acc ++ [y]))) else Nx H3) := by
  intro D hD
  cases e0 : noX (lcLoop (lcTurn vs t dt d) items (wipeE env1 vs) []) with
  | bad => rw [e0] at o; exact o.elim
  | ex x e => exact absurd e0 (by cases lcLoop (lcTurn vs t dt d) items (wipeE env1 vs) [] <;> simp [noX])
  | ok ys env2 =>
    rw [e0] at o
    have e0' := noX_ok e0
    have kN := keep_new (u := .lst []) hD
    obtain ⟨R1, w1, w2⟩ := en1.wiped vs
    have okN : Ok S1 (upd H1 D (.lst [])) (R1 ++ [D]) := Ok.newO (ok1.sub w2) hD trivial
    have frN : Fr S1 H1 A1 S1 (upd H1 D (.lst [])) (R1 ++ [D]) := ⟨fun a u e _ _ => kN a u e, fun _ h => h, fun _ h => .inl h, fun a h => (List.mem_append.mp h).imp (fun h => w2.subset h) fun z => by rw [List.mem_singleton.mp z]; exact hD, fun a u e => ⟨u, kN a u e⟩⟩
    refine ⟨fun i m H => m = items.length - i ∧ i ≤ items.length ∧ ∃ env S A acc vacc, EnvR G S H env (wipe σ vs) A ∧ Ok S H (A ++ [D]) ∧ Fr S1 H1 A1 S H (A ++ [D]) ∧ H D = some (.lst vacc) ∧ Rps G S H acc vacc ∧ lcLoop (lcTurn vs t dt d) (items.drop i) env acc = .ok ys env2,
      ⟨items.length, by simp, Nat.zero_le _, wipeE env1 vs, S1, R1, [], [], ext_en kN w1, okN, frN, upd_same, .nil, by simpa using e0'⟩, ?_⟩
    rintro i m H ⟨rfl, hil, env, S, A, acc, vacc, en, ok, f, hDl, racc, eL⟩
    obtain ⟨j1, j2⟩ := itk i S H (f.kp ok1) f.up
    by_cases hlt : i < items.length
    · have hw : items[i]? = some items[i] := by simp [hlt]
      obtain ⟨g1, g2⟩ := j1 _ hw
      refine .inr ⟨g1, fun H' => ∃ env S A acc vacc, EnvR G S H' env (wipe σ vs) A ∧ Ok S H' (A ++ [D]) ∧ Fr S1 H1 A1 S H' (A ++ [D]) ∧ H' D = some (.lst vacc) ∧ Rps G S H' acc vacc ∧ lcLoop (lcTurn vs t dt d) (items.drop (i + 1)) env acc = .ok ys env2,
        fun H' q => ⟨items.length - (i + 1), by omega, rfl, hlt, q⟩, fun x H2 y => ?_⟩
      obtain ⟨k, rx⟩ := g2 x H2 y
      rw [List.drop_eq_getElem_cons hlt] at eL
      unfold lcLoop lcTurn at eL
      cases e : setTg t items[i] env with
      | none => rw [e] at eL; cases eL
      | some e2 =>
        rw [e] at eL
        dsimp only at eL
        refine tg_out (ext_en k en) (ext_ok k ok.left) rx e fun xs A2 en2 ok2 s2 => ?_
        have hwp : wipe (foldσ (slotsOf t) xs (wipe σ vs)) vs = wipe σ vs := (wipe_fold hv).trans (wipe_wipe fun i h => h)
        refine ⟨hwp, ?_⟩
        generalize hσ2 : foldσ (slotsOf t) xs (wipe σ vs) = σ2 at en2 hwp ⊢
        have okD2 : Ok S H2 (A2 ++ [D]) := by
          have q := ext_ok k ok
          refine ⟨List.nodup_append.mpr ⟨ok2.nd, by simp, fun a ha b hb e => ?_⟩, fun a ha => ?_, q.dom, q.tab⟩
          · exact (List.nodup_append.mp ok.nd).2.2 a (s2 a ha) b hb e
          · rcases List.mem_append.mp ha with h | h
            · exact q.own a (List.mem_append_left _ (s2 a h))
            · exact q.own a (List.mem_append_right _ h)
        have f2 : Fr S1 H1 A1 S H2 (A2 ++ [D]) := (f.trans (ext_fr k)).less fun a ha => by
          rcases List.mem_append.mp ha with h | h
          · exact List.mem_append_left _ (s2 a h)
          · exact List.mem_append_right _ h
        have hD2 : H2 D = some (.lst vacc) := k D _ hDl
        have ra2 : Rps G S H2 acc vacc := racc.mono (ext_kp k) fun _ h => h
        -- the tests
        refine ⟨e2, S, A2, en2, ok2, ?_⟩
        cases e3 : dt e2 with
        | bad => rw [e3] at eL; cases eL
        | ex x2 e4 => rw [e3] at eL; cases eL
        | ok b e4 =>
          rw [e3] at eL
          dsimp only [R.bind] at eL
          intro b' H3 S3 A3 B3 en3 r3 ok3 f3
          obtain ⟨rfl, rfl⟩ := r3
          have ok3' : Ok S3 H3 A3 := ok3
          have okD3 : Ok S3 H3 (A3 ++ [D]) := f3.off okD2 ok3
          have hD3 : H3 D = some (.lst vacc) := f3.offK okD2 D (by simp) _ hD2
          have ra3 : Rps G S3 H3 acc vacc := ra2.mono (f3.kp ok2) f3.up
          have f13 : Fr S1 H1 A1 S3 H3 (A3 ++ [D]) := by
            refine (f2.trans (f3.wide (B := A2 ++ [D]) fun a h => List.mem_append_left _ h)) |> fun q => ⟨q.keep, q.up, q.back, fun a ha => ?_, q.dom⟩
            rcases List.mem_append.mp ha with h | h
            · exact q.own a h
            · exact f2.own a (List.mem_append_right _ h)
          cases b with
          | false =>
            rw [if_neg Bool.false_ne_true] at eL ⊢
            obtain ⟨R4, k4, l4⟩ := en3.wiped vs
            rw [hwp] at k4
            exact ⟨wipeE e4 vs, S3, R4, acc, vacc, k4, okD3.sub (List.Sublist.append_right l4 _), f13.less fun a ha => by
              rcases List.mem_append.mp ha with h | h
              · exact List.mem_append_left _ (l4.subset h)
              · exact List.mem_append_right _ h, hD3, ra3, eL⟩
          | true =>
            rw [if_pos rfl] at eL ⊢
            refine ⟨e4, S3, A3, en3, ok3', ?_⟩
            unfold cFz
            cases e5 : d e4 with
            | bad => rw [e5] at eL; cases eL
            | ex x2 e6 => rw [e5] at eL; cases eL
            | ok z e6 =>
              rw [e5] at eL
              dsimp only [R.bind] at eL ⊢
              intro yv H4 S4 A4 B4 en4 r4 ok4 f4
              obtain ⟨r4, rfl⟩ := r4
              by_cases hz : acc.length < 16777216
              · rw [if_pos hz] at eL
                have ok4' : Ok S4 H4 A4 := ok4
                have okD4 : Ok S4 H4 (A4 ++ [D]) := f4.off okD3 ok4
                have hD4 : H4 D = some (.lst vacc) := f4.offK okD3 D (by simp) _ hD3
                have ra4 : Rps G S4 H4 acc vacc := ra3.mono (f4.kp ok3') f4.up
                refine ⟨vacc, hD4, by rw [ra4.length, sizeLine_eq]; exact hz, ?_⟩
                obtain ⟨R5, k5, l5⟩ := en4.wiped vs
                rw [hwp] at k5
                have okD5 : Ok S4 H4 (R5 ++ [D]) := okD4.sub (List.Sublist.append_right l5 _)
                have hp : D ∈ R5 ++ [D] := by simp
                have fm : Fr S4 H4 (R5 ++ [D]) S4 (upd H4 D (.lst (vacc ++ [yv]))) (R5 ++ [D]) := Fr.mutate (u := .lst (vacc ++ [yv])) hp okD5
                have f14 : Fr S1 H1 A1 S4 H4 (A4 ++ [D]) := by
                  refine (f13.trans (f4.wide (B := A3 ++ [D]) fun a h => List.mem_append_left _ h)) |> fun q => ⟨q.keep, q.up, q.back, fun a ha => ?_, q.dom⟩
                  rcases List.mem_append.mp ha with h | h
                  · exact q.own a h
                  · exact f13.own a (List.mem_append_right _ h)
                refine ⟨wipeE e6 vs, S4, R5, acc ++ [frz z], vacc ++ [yv], k5.mono (fm.kp okD5) fm.up (fun a ha o ea => ?_), Ok.mutate hp okD5 trivial, (f14.less fun a ha => ?_).trans fm, upd_same, ((ra4.append (.one r4)).mono (fm.kp okD5) fm.up), eL⟩
                · have ne : a ≠ D := fun z => okD5.dis ha (by simp [z])
                  rw [upd_ne ne]; exact ea
                · rcases List.mem_append.mp ha with h | h
                  · exact List.mem_append_left _ (l5.subset h)
                  · exact List.mem_append_right _ h
              · rw [if_neg hz] at eL; cases eL
    · have e : i = items.length := by omega
      subst e
      rw [List.drop_length] at eL
      cases eL
      refine .inl ⟨j2 (by simp), ?_⟩
      obtain ⟨R', k1, k2, k3⟩ := en1.rest (f.kp ok1) f.up en.unwipe ok.left.nd vs
      refine o (.ref D) H S R' [D] k1 ⟨D, vacc, rfl, hDl, racc, rfl⟩ ?_ (f.less fun a ha => ?_)
      · refine ⟨List.nodup_append.mpr ⟨by simp, k2, fun a ha b hb e => ?_⟩, fun a ha => ?_, ok.dom, ok.tab⟩
        · rw [List.mem_singleton] at ha
          exact (List.nodup_append.mp ok.nd).2.2 b (k3 b hb) a (by simp [ha]) e.symm
        · rcases List.mem_append.mp ha with h | h
          · exact ok.own a (List.mem_append_right _ h)
          · exact ok.own a (List.mem_append_left _ (k3 a h))
      · rcases List.mem_append.mp ha with h | h
        · exact List.mem_append_right _ h
        · exact List.mem_append_left _ (k3 a h)
theorem sx_lc {elt tg iter : Expr} {ifs : List Expr} {scope : Scope} {own : List (Str × Nat)} {pos : Pos} {t : Tg} {k : Itk} {di : Den (List W)} {dt : Den Bool} {d : Den Z} (hc : X.calm = true) (hN : X.N.Nodup) (hv : ∀ i ∈ slotsOf t, i ∈ own.map (·.2)) (hi : PI X tg iter (tD G U (rIt G) (cIt k di))) (ok : BlkOk X.N X.env.scope scope own)
    (hg : ∀ (s : Shared) (H : Hp) (C : Addr) (cl : List (Str × Addr)) (fp : List Addr), PG (X.blk s H scope (compEnvC scope cl C X.env) fp) tg (gTg G.K t)) (ht : ∀ (s : Shared) (H : Hp) (C : Addr) (cl : List (Str × Addr)) (fp : List Addr), PTs (X.blk s H scope (compEnvC scope cl C X.env) fp) ifs (tD G UF rB dt))
    (he : ∀ (s : Shared) (H : Hp) (C : Addr) (cl : List (Str × Addr)) (fp : List Addr), PE (X.blk s H scope (compEnvC scope cl C X.env) fp) elt (tD G UF (rZ G) d)) (hs : ∀ x, foldedSetIterable iter X.env x = pure x) :
    PE X (.ListComp elt [⟨tg, iter, ifs, 0⟩] scope pos) (tD G U (rZ G) (cLc (own.map (·.2)) t k di dt d)) :=
  (pe_lc hc hN hi ok hg ht (fun s H C cl fp => pe_fz (he s H C cl fp)) hs).imp fun σ H Q ⟨env, S, A, en, ok, o⟩ => ⟨env, S, A, en, ok, (Out.bind (rel := rIt G) (fun h => h.2) o).mono fun J H1 ⟨ws, env1, S1, A1, _, en1, ok1, ⟨itk, _⟩, f1, o1⟩ => lc_out hv en1 ok1 itk o1⟩
/-- y = [..] on one line -/
theorem sk_setLc {i : Nat} {y : Str} {py : Pos} {elt tg iter : Expr} {ifs : List Expr} {scope : Scope} {own : List (Str × Nat)} {pos spos : Pos} {t : Tg} {k : Itk} {di : Den (List W)} {dt : Den Bool} {d : Den Z} (hc : X.calm = true) (hN : X.N.Nodup) (hy : X.N[i]? = some y) (hyl : X.env.scope.names.lookup y = some .local)
    (hsw : swapsWith (.ListComp elt [⟨tg, iter, ifs, 0⟩] scope pos) (some (.Name y py)) spos.line X.env = pure true) (hk : i ∉ K) (hv : ∀ i ∈ slotsOf t, i ∈ own.map (·.2)) (hi : PI X tg iter (tD G U (rIt G) (cIt k di))) (ok : BlkOk X.N X.env.scope scope own)
    (hg : ∀ (s : Shared) (H : Hp) (C : Addr) (cl : List (Str × Addr)) (fp : List Addr), PG (X.blk s H scope (compEnvC scope cl C X.env) fp) tg (gTg G.K t)) (ht : ∀ (s : Shared) (H : Hp) (C : Addr) (cl : List (Str × Addr)) (fp : List Addr), PTs (X.blk s H scope (compEnvC scope cl C X.env) fp) ifs (tD G UF rB dt))
    (he : ∀ (s : Shared) (H : Hp) (C : Addr) (cl : List (Str × Addr)) (fp : List Addr), PE (X.blk s H scope (compEnvC scope cl C X.env) fp) elt (tD G UF (rZ G) d)) (hs : ∀ x, foldedSetIterable iter X.env x = pure x) :
    PS X (.Assign [.Name y py] (.ListComp elt [⟨tg, iter, ifs, 0⟩] scope pos) spos) (tS G U K (kSet i (cLc (own.map (·.2)) t k di dt d))) :=
  (ps_setLc hc hN hy hyl hsw hi ok hg ht (fun s H C cl fp => pe_fz (he s H C cl fp)) hs).imp fun D σ H ⟨env, S, A, en, ok, o⟩ => by
    have o1 : Out G U σ S H A (rZ G) (cLc (own.map (·.2)) t k di dt d env) fun v H1 => D.nx (σ.set i (some v)) H1 := (of_bindZ (k := fun z e => setSl i z e) o).mono fun v H1 ⟨z, env1, S1, A1, B, _, en1, rz, ok1, f1, o1⟩ => set_out hk en1 rz ok1 o1
    exact ⟨env, S, A, en, ok, (Out.bind (rel := rIt G) (fun h => h.2) o1).mono fun J H1 ⟨ws, env1, S1, A1, _, en1, ok1, ⟨itk, _⟩, f1, o1⟩ => lc_out hv en1 ok1 itk o1⟩
end
end Cb

end
section
set_option maxRecDepth 100000
set_option maxHeartbeats 4000000
/-! what is walked -/
namespace Cb
open PySem PySem.Spec PyProof.Rows L2
section
variable [Tb] {G : Gc} {U : L2.WX} {X : Cx} {tg : Expr}
theorem _root_.L2.PI.imp {X : Cx} {tg e : Expr} {t t' : TI} (h : PI X tg e t) (i : ∀ σ H Q, t' σ H Q → t σ H Q) : PI X tg e t' := ⟨fun pins s σ H Q I q => h.run pins s σ H Q I (i σ H Q q)⟩
def iSeq (K : PySem.W.Frag) (tl : TE) : TI := fun σ H R => tl σ H fun x H1 => ∃ a, x = .ref a ∧ (((∃ xs, SqL K H1 a xs) ∧ R (Itl K a) H1) ∨ ((∃ xs, SqT K H1 a xs) ∧ R (Itt K a) H1))
theorem pi_seq {l : Expr} {tl : TE} (hl : PE X l tl) : PI X tg l (iSeq X.K tl) := by
  refine ⟨fun pins s σ H R I h => ?_⟩
  refine thn (hl.run pins s σ H _ I h) fun v s1 ⟨x, H1, I1, r1, q1⟩ => ?_
  obtain ⟨a, e, q⟩ := q1
  subst e
  cases r1
  rcases q with ⟨⟨xs, hq⟩, q⟩ | ⟨⟨xs, hq⟩, q⟩
  · obtain ⟨its, rv, p, hz⟩ := I1.list hq
    refine wpAny_pyIter_list p.isList ?_
    refine ⟨s1.heap.objs.size, [s1.heap.objs.size], _, _, H1, rfl, I1.kept (t' := s1.toks) fun b o e => Heap.get?_push_of_some _ e, turn_list a _, ⟨_, Heap.get?_push_size _ rfl, rfl, rfl⟩, fun b hb => ?_, q⟩
    have e : b = s1.heap.objs.size := by simpa using hb
    subst e
    exact I1.fpOk (Nat.le_refl _) (I1.hok.fresh (Nat.le_refl _))
  · obtain ⟨its, rv, p, hz⟩ := I1.tuple hq
    refine wpAny_pyIter_tuple (show s1.heap.IsTuple a its.toArray from p) ?_
    refine ⟨s1.heap.objs.size, [s1.heap.objs.size], _, _, H1, rfl, I1.kept (t' := s1.toks) fun b o e => Heap.get?_push_of_some _ e, turn_tuple a _, ⟨_, Heap.get?_push_size _ rfl, rfl, rfl⟩, fun b hb => ?_, q⟩
    have e : b = s1.heap.objs.size := by simpa using hb
    subst e
    exact I1.fpOk (Nat.le_refl _) (I1.hok.fresh (Nat.le_refl _))
theorem rps_at {S : AS} {H : Hp} {ws : List W} {vs : List V} {i : Nat} {w : W} {x : V} (r : Rps G S H ws vs) (e : ws[i]? = some w) (e2 : vs[i]? = some x) : Rp G S H w x := by
  obtain ⟨v, h1, h2⟩ := r.get e
  rw [e2] at h1; cases h1
  exact h2
theorem rps_none {S : AS} {H : Hp} {ws : List W} {vs : List V} {i : Nat} (r : Rps G S H ws vs) (e : ws[i]? = none) : vs.length ≤ i := by
  rw [r.length]; exact List.getElem?_eq_none_iff.mp e
theorem fz_list {S0 : AS} {H0 H : Hp} {a : Addr} {vs : List V} (f : Fz S0 H0 a (.lst vs)) (kp : Kp S0 H0 H) : SqL G.K H a vs := SqL.of (kp a _ f.2 (.inl f.1) fun _ z => by cases z)
theorem sqT_kp {K' : PySem.W.Frag} {S0 : AS} {H0 H : Hp} {a : Addr} {vs : List V} (h : SqT K' H0 a vs) (kp : Kp S0 H0 H) : SqT K' H a vs := by
  rcases h with (h | ⟨o, h⟩) | h
  · exact .inl (.inl (kp _ _ h (.inr id) not_tup))
  · exact .inl (.inr ⟨o, kp _ _ h (.inr id) not_frz⟩)
  · exact .inr h
theorem it_list {S : AS} {H : Hp} {a : Addr} {ws : List W} {vs : List V} (f : Fz S H a (.lst vs)) (r : Rps G S H ws vs) : ItOk G S H (Itl G.K a) ws := fun i S' H' kp up => by
  have hq : SqL G.K H' a vs := fz_list f kp
  have r' := r.mono kp up
  refine ⟨fun w e => ?_, fun e0 => have e := none_len e0; ⟨vs, hq, rps_none r' e⟩⟩
  obtain ⟨x, hx, rx⟩ := r'.get e
  refine ⟨⟨vs, x, hq, hx⟩, fun x' H2 ⟨e2, y⟩ => ?_⟩
  subst e2
  exact ⟨fun _ _ e => e, rps_at r' e (y vs hq)⟩
theorem it_tup {S : AS} {H : Hp} {a : Addr} {ws : List W} {vs : List V} (f : SqT G.K H a vs) (r : Rps G S H ws vs) : ItOk G S H (Itt G.K a) ws := fun i S' H' kp up => by
  have hq : SqT G.K H' a vs := sqT_kp f kp
  have r' := r.mono kp up
  refine ⟨fun w e => ?_, fun e0 => have e := none_len e0; ⟨vs, hq, rps_none r' e⟩⟩
  obtain ⟨x, hx, rx⟩ := r'.get e
  refine ⟨⟨vs, x, hq, hx⟩, fun x' H2 ⟨e2, y⟩ => ?_⟩
  subst e2
  exact ⟨fun _ _ e => e, rps_at r' e (y vs hq)⟩
theorem it_rng {S : AS} {H : Hp} (lo : Int) (n : Nat) : ItOk G S H (Itr lo n) ((List.range n).map fun (k : Nat) => .int (lo + (k : Int))) := fun i S' H' kp up => by
  refine ⟨fun w e => ?_, fun e0 => have e := none_len e0; ?_⟩
  · have hi : i < n := by
      have := (List.getElem?_eq_some_iff.mp e).1
      simpa using this
    have ew : w = .int (lo + (i : Int)) := by
      rw [List.getElem?_map, List.getElem?_range hi] at e
      exact (Option.some.inj e).symm
    refine ⟨hi, fun x H2 ⟨e2, y⟩ => ?_⟩
    subst e2 y ew
    exact ⟨fun _ _ e => e, rp_int _ _ _⟩
  · have := List.getElem?_eq_none_iff.mp e
    show n ≤ i
    simpa using this
/-- an iterable's reading from the items' meaning -/
theorem it_bind {k : Itk} {d : Den (List W)} {env : Env} {S : AS} {A : List Addr} {σ : L2.St} {H : Hp} {Q : It → Hp → Prop} (o : Out G U σ S H A (rIt G) (cIt k d env) Q) :
    Out G U σ S H A (rWs G) (d env) fun vs H1 => ∃ ws items S1, Rps G S1 H1 ws vs ∧ itW k ws = some items ∧ ∀ J, ItOk G S1 H1 J items → Q J H1 := by
  refine (Out.bind (rel := rWs G) (fun h => h.2) o).mono fun vs H1 ⟨ws, env1, S1, A1, _, en1, ok1, ⟨r1, _⟩, f1, o2⟩ => ?_
  cases e : itW k ws with
  | none => rw [e] at o2; exact o2.elim
  | some items =>
    rw [e] at o2
    exact ⟨ws, items, S1, r1, e, fun J hJ => o2 J H1 S1 A1 [] en1 ⟨hJ, rfl⟩ ok1 (Fr.refl ok1)⟩
theorem itW_val {ws items : List W} (h : itW .val ws = some items) : ws = [.lst items] ∨ ws = [.tup items] := by
  unfold itW at h
  split at h <;> first | cases h | skip
  all_goals simp_all
theorem itW_rng1 {ws items : List W} (h : itW .rng1 ws = some items) : ∃ n, ws = [.int n] ∧ bnd n = true ∧ items = (List.range n.toNat).map fun (k : Nat) => .int (k : Int) := by
  unfold itW at h
  split at h <;> first | cases h | skip
  all_goals simp_all
theorem itW_rng2 {ws items : List W} (h : itW .rng2 ws = some items) : ∃ m n, ws = [.int m, .int n] ∧ bnd m = true ∧ bnd n = true ∧ items = (List.range (n - m).toNat).map fun (k : Nat) => .int (m + (k : Int)) := by
  unfold itW at h
  split at h <;> first | cases h | skip
  all_goals simp_all
  all_goals exact ⟨_, _, ⟨rfl, rfl⟩, h.1.1, h.1.2, h.2.symm⟩
theorem itW_enum {ws items : List W} (h : itW .enum ws = some items) : ∃ a, ws = [.lst a] ∧ items = a.zipIdx.map fun p => .tup [.int (p.2 : Int), p.1] := by
  unfold itW at h
  split at h <;> first | cases h | skip
  all_goals simp_all
theorem itW_zip {ws items : List W} (h : itW .zip ws = some items) : ∃ a b, (ws = [.lst a, .lst b] ∨ ws = [.tup a, .tup b]) ∧ items = (a.zip b).map fun p => .tup [p.1, p.2] := by
  unfold itW at h
  split at h <;> first | cases h | skip
  all_goals (try rename_i heq)
  all_goals first | cases heq | skip
  · exact ⟨_, _, .inl rfl, rfl⟩
  · exact ⟨_, _, .inr rfl, rfl⟩
/-- a list or a tuple -/
theorem pi_val {l : Expr} {d : Den Z} (hG : G.K = X.K) (hl : PE X l (tD G U (rZ G) d)) : PI X tg l (tD G U (rIt G) (cIt .val (cCons d cNil))) := (pi_seq (pe_fz hl)).imp fun σ H Q ⟨env, S, A, en, ok, o⟩ => by
  refine ⟨env, S, A, en, ok, ?_⟩
  have o1 : Out G U σ S H A (rIt G) ((cFz d env).bind fun w env => match itW .val [w] with | some ws => .ok ws env | none => .bad) Q := by
    have e : ((cFz d env).bind fun w env => match itW .val [w] with | some ws => R.ok ws env | none => .bad) = cIt .val (cCons d cNil) env := by
      unfold cIt cFz cCons cNil
      cases d env <;> rfl
    rw [e]; exact o
  refine (Out.bind (rel := rW G) (fun h => h.2) o1).mono fun x H1 ⟨w, env1, S1, A1, _, en1, ok1, ⟨r1, _⟩, f1, o2⟩ => ?_
  cases e : itW .val [w] with
  | none => rw [e] at o2; exact o2.elim
  | some ws =>
    rw [e] at o2
    rcases itW_val e with q | q
    · obtain rfl : w = .lst ws := by simpa using q
      unfold Rp at r1
      obtain ⟨a, vs, rfl, h1, h2⟩ := r1
      refine ⟨a, rfl, .inl ⟨⟨vs, SqL.of h1.2⟩, ?_⟩⟩
      rw [← hG]
      exact o2 _ H1 S1 A1 [] en1 ⟨it_list h1 h2, rfl⟩ ok1 (Fr.refl ok1)
    · obtain rfl : w = .tup ws := by simpa using q
      unfold Rp at r1
      obtain ⟨a, vs, rfl, h1, h2⟩ := r1
      refine ⟨a, rfl, .inr ⟨⟨vs, hG ▸ h1⟩, ?_⟩⟩
      rw [← hG]
      exact o2 _ H1 S1 A1 [] en1 ⟨it_tup h1 h2, rfl⟩ ok1 (Fr.refl ok1)
theorem bnd_iff {n : Int} (h : bnd n = true) : -(2 ^ 62) ≤ n ∧ n < 2 ^ 62 := by
  unfold bnd at h
  rw [Bool.and_eq_true] at h
  exact ⟨of_decide_eq_true h.1, of_decide_eq_true h.2⟩
theorem rps1 {S : AS} {H : Hp} {w : W} {vs : List V} (r : Rps G S H [w] vs) : ∃ v, vs = [v] ∧ Rp G S H w v := by
  obtain ⟨v, r, rfl, h1, h2⟩ := r.inv
  obtain rfl := h2.inv0
  exact ⟨v, rfl, h1⟩
theorem rps2 {S : AS} {H : Hp} {w w' : W} {vs : List V} (r : Rps G S H [w, w'] vs) : ∃ v v', vs = [v, v'] ∧ Rp G S H w v ∧ Rp G S H w' v' := by
  obtain ⟨v, r, rfl, h1, h2⟩ := r.inv
  obtain ⟨v', rfl, h3⟩ := rps1 h2
  exact ⟨v, v', rfl, h1, h3⟩
theorem rp_int_eq {S : AS} {H : Hp} {i : Int} {v : V} (h : Rp G S H (.int i) v) : v = .int i := by unfold Rp at h; exact h
theorem pi_rng1 {a : Expr} {d : Den (List W)} {p pos : Pos} (hg : Gl X "range") (hm : X.mg "range" = none) (ns : Nst a) (ha : PA X [a] (tD G U (rWs G) d)) : PI X tg (.Call (.Name "range" p) [a] [] pos) (tD G U (rIt G) (cIt .rng1 d)) :=
  (pi_range1 hg hm ha (ns [] X.env)).imp fun σ H Q ⟨env, S, A, en, ok, o⟩ => by
    refine ⟨env, S, A, en, ok, (it_bind o).mono fun vs H1 ⟨ws, items, S1, r1, e, q⟩ => ?_⟩
    obtain ⟨n, rfl, hb, rfl⟩ := itW_rng1 e
    obtain ⟨v, rfl, h1⟩ := rps1 r1
    obtain rfl := rp_int_eq h1
    obtain ⟨b1, b2⟩ := bnd_iff hb
    refine ⟨n, rfl, b1, b2, q _ ?_⟩
    have z := it_rng (G := G) (S := S1) (H := H1) 0 n.toNat
    simpa using z
theorem pi_rng2 {a b : Expr} {d : Den (List W)} {p pos : Pos} (hg : Gl X "range") (hm : X.mg "range" = none) (ns : Nst a) (ns2 : Nst b) (ha : PA X [a, b] (tD G U (rWs G) d)) : PI X tg (.Call (.Name "range" p) [a, b] [] pos) (tD G U (rIt G) (cIt .rng2 d)) :=
  (pi_range2 hg hm ha (by rw [ns, ns2]; rfl) (ns2 [] X.env)).imp fun σ H Q ⟨env, S, A, en, ok, o⟩ => by
    refine ⟨env, S, A, en, ok, (it_bind o).mono fun vs H1 ⟨ws, items, S1, r1, e, q⟩ => ?_⟩
    obtain ⟨m, n, rfl, hb, hb2, rfl⟩ := itW_rng2 e
    obtain ⟨v, v', rfl, h1, h2⟩ := rps2 r1
    obtain rfl := rp_int_eq h1
    obtain rfl := rp_int_eq h2
    obtain ⟨b1, b2⟩ := bnd_iff hb
    obtain ⟨b3, b4⟩ := bnd_iff hb2
    exact ⟨m, n, rfl, ⟨b1, b2, b3, b4⟩, q _ (it_rng m (n - m).toNat)⟩
theorem zipIdx_at {ws : List W} {i : Nat} {w : W} (e : (ws.zipIdx.map fun p => W.tup [.int (p.2 : Int), p.1])[i]? = some w) : ∃ x, ws[i]? = some x ∧ w = .tup [.int (i : Int), x] := by
  rw [List.getElem?_map, List.getElem?_zipIdx] at e
  cases q : ws[i]? with
  | none => rw [q] at e; cases e
  | some x =>
    rw [q] at e
    exact ⟨x, rfl, by simpa using (Option.some.inj e).symm⟩
theorem rp_new {S : AS} {H : Hp} {T : Addr} {ws : List W} {vs : List V} (hT : H T = none) (r : Rps G S H ws vs) : Rp G S (upd H T (.tup vs)) (.tup ws) (.ref T) := by
  unfold Rp
  exact ⟨T, vs, rfl, SqT.of upd_same, r.mono (ext_kp (keep_new hT)) fun _ h => h⟩
theorem it_enum {S : AS} {H : Hp} {a : Addr} {ws : List W} {vs : List V} (f : Fz S H a (.lst vs)) (r : Rps G S H ws vs) : ItOk G S H (Ite G.K a) (ws.zipIdx.map fun p => .tup [.int (p.2 : Int), p.1]) := fun i S' H' kp up => by
  have hq : SqL G.K H' a vs := fz_list f kp
  have r' := r.mono kp up
  refine ⟨fun w e => ?_, fun e0 => have e := none_len e0; ⟨vs, hq, ?_⟩⟩
  · obtain ⟨x, ex, rfl⟩ := zipIdx_at e
    obtain ⟨y, hy, ry⟩ := r'.get ex
    refine ⟨⟨vs, y, hq, hy⟩, fun v H2 ⟨T, z, ev, hT, eH, hz⟩ => ?_⟩
    subst ev eH
    exact ⟨keep_new hT, rp_new hT (.cons (rp_int _ _ _) (.one (rps_at r' ex (hz vs hq))))⟩
  · have := List.getElem?_eq_none_iff.mp e
    rw [r'.length]
    simpa using this
theorem pi_en {e : Expr} {d : Den (List W)} {p pos tpos : Pos} {elts : List Expr} {kk : Nat} (hG : G.K = X.K) (hg : Gl X "enumerate") (hm : X.mg "enumerate" = none) (ns : Nst e) (ha : PA X [e] (tD G U (rWs G) d)) :
    PI X (.Tuple elts kk tpos) (.Call (.Name "enumerate" p) [e] [] pos) (tD G U (rIt G) (cIt .enum d)) :=
  (pi_enum hg hm ha (ns [] X.env)).imp fun σ H Q ⟨env, S, A, en, ok, o⟩ => by
    refine ⟨env, S, A, en, ok, (it_bind o).mono fun vs H1 ⟨ws, items, S1, r1, e, q⟩ => ?_⟩
    obtain ⟨a, rfl, rfl⟩ := itW_enum e
    obtain ⟨v, rfl, h1⟩ := rps1 r1
    unfold Rp at h1
    obtain ⟨b, vs, rfl, h2, h3⟩ := h1
    refine ⟨b, vs, rfl, SqL.of h2.2, ?_⟩
    rw [← hG]
    exact q _ (it_enum h2 h3)
theorem zip_at {ws us : List W} {i : Nat} {w : W} (e : ((ws.zip us).map fun p => W.tup [p.1, p.2])[i]? = some w) : ∃ x y, ws[i]? = some x ∧ us[i]? = some y ∧ w = .tup [x, y] := by
  rw [List.getElem?_map] at e
  cases q : (ws.zip us)[i]? with
  | none => rw [q] at e; cases e
  | some p =>
    rw [q] at e
    obtain ⟨h1, h2⟩ := List.getElem?_zip_eq_some.mp q
    exact ⟨p.1, p.2, h1, h2, (Option.some.inj e).symm⟩
theorem zip_none {ws us : List W} {i : Nat} (e : ((ws.zip us).map fun p => W.tup [p.1, p.2])[i]? = none) : ws.length ≤ i ∨ us.length ≤ i := by
  have := List.getElem?_eq_none_iff.mp e
  simp only [List.length_map, List.length_zip] at this
  omega
theorem it_zip {S : AS} {H : Hp} {a b : Addr} {ws us : List W} {vs ys : List V} (f : Fz S H a (.lst vs)) (f2 : Fz S H b (.lst ys)) (r : Rps G S H ws vs) (r2 : Rps G S H us ys) : ItOk G S H (Itz G.K a b) ((ws.zip us).map fun p => .tup [p.1, p.2]) := fun i S' H' kp up => by
  have hq : SqL G.K H' a vs := fz_list f kp
  have hq2 : SqL G.K H' b ys := fz_list f2 kp
  have r' := r.mono kp up
  have r2' := r2.mono kp up
  refine ⟨fun w e => ?_, fun e0 => have e := none_len e0; ⟨vs, ys, hq, hq2, by rw [r'.length, r2'.length]; exact zip_none e⟩⟩
  obtain ⟨x, y, ex, ey, rfl⟩ := zip_at e
  obtain ⟨v, hv, rv⟩ := r'.get ex
  obtain ⟨u, hu, ru⟩ := r2'.get ey
  refine ⟨⟨vs, ys, v, u, hq, hq2, hv, hu⟩, fun z H2 ⟨T, v1, u1, ev, hT, eH, h1, h2⟩ => ?_⟩
  subst ev eH
  exact ⟨keep_new hT, rp_new hT (.cons (rps_at r' ex (h1 vs hq)) (.one (rps_at r2' ey (h2 ys hq2))))⟩
theorem it_zipT {S : AS} {H : Hp} {a b : Addr} {ws us : List W} {vs ys : List V} (f : SqT G.K H a vs) (f2 : SqT G.K H b ys) (r : Rps G S H ws vs) (r2 : Rps G S H us ys) : ItOk G S H (_root_.RZ.ItzT G.K a b) ((ws.zip us).map fun p => .tup [p.1, p.2]) := fun i S' H' kp up => by
  have hq : SqT G.K H' a vs := sqT_kp f kp
  have hq2 : SqT G.K H' b ys := sqT_kp f2 kp
  have r' := r.mono kp up
  have r2' := r2.mono kp up
  refine ⟨fun w e => ?_, fun e0 => have e := none_len e0; ⟨vs, ys, hq, hq2, by rw [r'.length, r2'.length]; exact zip_none e⟩⟩
  obtain ⟨x, y, ex, ey, rfl⟩ := zip_at e
  obtain ⟨v, hv, rv⟩ := r'.get ex
  obtain ⟨u, hu, ru⟩ := r2'.get ey
  refine ⟨⟨vs, ys, v, u, hq, hq2, hv, hu⟩, fun z H2 ⟨T, v1, u1, ev, hT, eH, h1, h2⟩ => ?_⟩
  subst ev eH
  exact ⟨keep_new hT, rp_new hT (.cons (rps_at r' ex (h1 vs hq)) (.one (rps_at r2' ey (h2 ys hq2))))⟩
theorem pi_zp {e e2 : Expr} {d : Den (List W)} {p pos tpos : Pos} {elts : List Expr} {kk : Nat} (hG : G.K = X.K) (hg : Gl X "zip") (hm : X.mg "zip" = none) (ns : Nst e) (ns2 : Nst e2) (ha : PA X [e, e2] (tD G U (rWs G) d)) :
    PI X (.Tuple elts kk tpos) (.Call (.Name "zip" p) [e, e2] [] pos) (tD G U (rIt G) (cIt .zip d)) :=
  (_root_.RZ.pi_zipA hg hm ha (ns [e2] X.env) (by rw [ns2 [] X.env]; rfl)).imp fun σ H Q ⟨env, S, A, en, ok, o⟩ => by
    refine ⟨env, S, A, en, ok, (it_bind o).mono fun vs H1 ⟨ws, items, S1, r1, e, q⟩ => ?_⟩
    obtain ⟨a, b, hw, rfl⟩ := itW_zip e
    rcases hw with rfl | rfl
    · obtain ⟨v, v', rfl, h1, h2⟩ := rps2 r1
      unfold Rp at h1 h2
      obtain ⟨x, xs, rfl, h3, h4⟩ := h1
      obtain ⟨y, ys, rfl, h5, h6⟩ := h2
      refine ⟨x, y, xs, ys, rfl, .inl ⟨SqL.of h3.2, SqL.of h5.2, ?_⟩⟩
      rw [← hG]
      exact q _ (it_zip h3 h5 h4 h6)
    · obtain ⟨v, v', rfl, h1, h2⟩ := rps2 r1
      unfold Rp at h1 h2
      obtain ⟨x, xs, rfl, h3, h4⟩ := h1
      obtain ⟨y, ys, rfl, h5, h6⟩ := h2
      refine ⟨x, y, xs, ys, rfl, .inr ⟨hG ▸ h3, hG ▸ h5, ?_⟩⟩
      rw [← hG]
      exact q _ (it_zipT h3 h5 h4 h6)
end
end Cb

end
section
set_option maxRecDepth 100000
set_option maxHeartbeats 4000000
/-! operations, one by one -/
namespace Cb
open PySem PySem.Spec PyProof.Rows L2
section
variable {G : Gc} {U : L2.WX} {X : Cx} {S : AS} {H : Hp} {Q : VK}

/-! ### data as the library knows it -/
mutual
def toD : W → PyData
  | .non => .none
  | .bl b => .bool b
  | .int i => .int i
  | .str x => .str x
  | .tup ws => .tuple (toDs ws)
  | .lst ws => .list (toDs ws)
  | _ => .none
def toDs : List W → List PyData
  | [] => []
  | w :: ws => toD w :: toDs ws
end
mutual
theorem eqv_toD : ∀ {a b : W}, plainW a = true → plainW b = true → PyData.eqv (toD a) (toD b) = eqW a b
  | .tup a, .tup b, h1, h2 => by
    unfold plainW at h1 h2
    simp only [toD, PyData.eqv, eqW, eqv_toDs h1 h2]
  | .lst a, .lst b, h1, h2 => by
    unfold plainW at h1 h2
    simp only [toD, PyData.eqv, eqW, eqv_toDs h1 h2]
  | .str a, .str b, _, _ => by
    simp only [toD, PyData.eqv, eqW]
    by_cases e : a = b
    · subst e; simp
    · rw [decide_eq_false e]; exact beq_eq_false_iff_ne.mpr e
  | .non, b, _, h2 => by cases b <;> first | rfl | (simp [plainW] at h2; done) | simp [toD, PyData.eqv, eqW]
  | .bl x, b, _, h2 => by cases b <;> first | rfl | (simp [plainW] at h2; done) | simp [toD, PyData.eqv, eqW]
  | .int x, b, _, h2 => by cases b <;> first | rfl | (simp [plainW] at h2; done) | simp [toD, PyData.eqv, eqW]
  | .str x, .non, _, h2 => by simp [toD, PyData.eqv, eqW]
  | .str x, .bl _, _, h2 => by simp [toD, PyData.eqv, eqW]
  | .str x, .int _, _, h2 => by simp [toD, PyData.eqv, eqW]
  | .str x, .tup _, _, h2 => by simp [toD, PyData.eqv, eqW]
  | .str x, .lst _, _, h2 => by simp [toD, PyData.eqv, eqW]
  | .tup x, .non, _, h2 => by simp [toD, PyData.eqv, eqW]
  | .tup x, .bl _, _, h2 => by simp [toD, PyData.eqv, eqW]
  | .tup x, .int _, _, h2 => by simp [toD, PyData.eqv, eqW]
  | .tup x, .str _, _, h2 => by simp [toD, PyData.eqv, eqW]
  | .tup x, .lst _, _, h2 => by simp [toD, PyData.eqv, eqW]
  | .lst x, .non, _, h2 => by simp [toD, PyData.eqv, eqW]
  | .lst x, .bl _, _, h2 => by simp [toD, PyData.eqv, eqW]
  | .lst x, .int _, _, h2 => by simp [toD, PyData.eqv, eqW]
  | .lst x, .str _, _, h2 => by simp [toD, PyData.eqv, eqW]
  | .lst x, .tup _, _, h2 => by simp [toD, PyData.eqv, eqW]
  | .dK _, _, h1, _ => by simp [plainW] at h1
  | .dW _, _, h1, _ => by simp [plainW] at h1
  | .fn _, _, h1, _ => by simp [plainW] at h1
  | .obj _ _, _, h1, _ => by simp [plainW] at h1
  | .scr _, _, h1, _ => by simp [plainW] at h1
  | _, .dK _, _, h1 => by simp [plainW] at h1
  | _, .dW _, _, h1 => by simp [plainW] at h1
  | _, .fn _, _, h1 => by simp [plainW] at h1
  | _, .obj _ _, _, h1 => by simp [plainW] at h1
  | _, .scr _, _, h1 => by simp [plainW] at h1
theorem eqv_toDs : ∀ {a b : List W}, plainWs a = true → plainWs b = true → PyData.eqvAll (toDs a) (toDs b) = eqWs a b
  | [], [], _, _ => rfl
  | [], _ :: _, _, _ => rfl
  | _ :: _, [], _, _ => rfl
  | a :: r, b :: s, h1, h2 => by
    unfold plainWs at h1 h2
    rw [Bool.and_eq_true] at h1 h2
    simp only [toDs, PyData.eqvAll, eqWs, eqv_toD h1.1 h2.1, eqv_toDs h1.2 h2.2]
end
mutual
theorem toD_lay : ∀ {a : W}, plainW a = true → (toD a).canLay0 = true ∧ (toD a).depth = depW a
  | .non, _ => ⟨rfl, rfl⟩
  | .bl _, _ => ⟨rfl, rfl⟩
  | .int _, _ => ⟨rfl, rfl⟩
  | .str x, h => ⟨by unfold plainW at h; simpa [toD, PyData.canLay0] using h, rfl⟩
  | .tup a, h => by
    unfold plainW at h
    obtain ⟨h1, h2⟩ := toDs_lay h
    simp only [toD, PyData.canLay0, PyData.depth, depW, h1, h2]
    exact ⟨trivial, trivial⟩
  | .lst a, h => by
    unfold plainW at h
    obtain ⟨h1, h2⟩ := toDs_lay h
    simp only [toD, PyData.canLay0, PyData.depth, depW, h1, h2]
    exact ⟨trivial, trivial⟩
  | .dK _, h => by simp [plainW] at h
  | .dW _, h => by simp [plainW] at h
  | .fn _, h => by simp [plainW] at h
  | .obj _ _, h => by simp [plainW] at h
  | .scr _, h => by simp [plainW] at h
theorem toDs_lay : ∀ {a : List W}, plainWs a = true → PyData.canLayAll0 (toDs a) = true ∧ PyData.depthAll (toDs a) = depWs a
  | [], _ => ⟨rfl, rfl⟩
  | a :: r, h => by
    unfold plainWs at h
    rw [Bool.and_eq_true] at h
    obtain ⟨h1, h2⟩ := toD_lay h.1
    obtain ⟨h3, h4⟩ := toDs_lay h.2
    simp only [toDs, PyData.canLayAll0, PyData.depthAll, depWs, h1, h2, h3, h4]
    exact ⟨rfl, trivial⟩
end
theorem shW_iff {a : W} (h : shW a = true) : plainW a = true ∧ depW a ≤ 60 := by
  unfold shW at h
  rw [Bool.and_eq_true] at h
  exact ⟨h.1, of_decide_eq_true h.2⟩
theorem shWs_iff {a : List W} (h : shWs a = true) : plainWs a = true ∧ depWs a ≤ 60 := by
  unfold shWs at h
  rw [Bool.and_eq_true] at h
  exact ⟨h.1, of_decide_eq_true h.2⟩
theorem shaped_of {a : W} (h : shW a = true) : SeqAt.shaped (toD a) = true := by
  obtain ⟨h1, h2⟩ := shW_iff h
  obtain ⟨h3, h4⟩ := toD_lay h1
  show ((toD a).canLay0 && decide ((toD a).depth ≤ 64)) = true
  rw [h3, h4, Bool.true_and]
  exact decide_eq_true (by omega)
theorem shaped_list {a : List W} (h : shWs a = true) : SeqAt.shaped (.list (toDs a)) = true := by
  obtain ⟨h1, h2⟩ := shWs_iff h
  obtain ⟨h3, h4⟩ := toDs_lay h1
  show (PyData.canLay0 (.list (toDs a)) && decide (PyData.depth (.list (toDs a)) ≤ 64)) = true
  simp only [PyData.canLay0, PyData.depth, h3, h4, Bool.true_and]
  exact decide_eq_true (by omega)
theorem shaped_tup {a : List W} (h : shWs a = true) : SeqAt.shaped (.tuple (toDs a)) = true := by
  obtain ⟨h1, h2⟩ := shWs_iff h
  obtain ⟨h3, h4⟩ := toDs_lay h1
  show (PyData.canLay0 (.tuple (toDs a)) && decide (PyData.depth (.tuple (toDs a)) ≤ 64)) = true
  simp only [PyData.canLay0, PyData.depth, h3, h4, Bool.true_and]
  exact decide_eq_true (by omega)
mutual
theorem rp_dp (hG : G.K = X.K) : ∀ {w : W} {v : V}, plainW w = true → Rp G S H w v → Dp X.K H v (toD w)
  | .non, v, _, r => by unfold Rp at r; subst r; exact .non
  | .bl _, v, _, r => by unfold Rp at r; subst r; exact .bl _
  | .int _, v, _, r => by unfold Rp at r; subst r; exact .int _
  | .str _, v, _, r => by unfold Rp at r; subst r; exact .str _
  | .tup ws, v, h, r => by
    unfold Rp at r
    obtain ⟨a, vs, rfl, h1, h2⟩ := r
    unfold plainW at h
    simp only [toD]
    exact .tup (hG ▸ h1) (rps_dp hG h h2)
  | .lst ws, v, h, r => by
    unfold Rp at r
    obtain ⟨a, vs, rfl, h1, h2⟩ := r
    unfold plainW at h
    simp only [toD]
    exact .lst (SqL.of h1.2) (rps_dp hG h h2)
  | .dK _, _, h, _ => by simp [plainW] at h
  | .dW _, _, h, _ => by simp [plainW] at h
  | .fn _, _, h, _ => by simp [plainW] at h
  | .obj _ _, _, h, _ => by simp [plainW] at h
  | .scr _, _, h, _ => by simp [plainW] at h
theorem rps_dp (hG : G.K = X.K) : ∀ {ws : List W} {vs : List V}, plainWs ws = true → Rps G S H ws vs → DpAll X.K H vs (toDs ws)
  | [], vs, _, r => by
    obtain rfl := r.inv0
    exact .nil
  | w :: ws, vs, h, r => by
    obtain ⟨v, r', rfl, h1, h2⟩ := r.inv
    unfold plainWs at h
    rw [Bool.and_eq_true] at h
    exact .cons (rp_dp hG h.1 h1) (rps_dp hG h.2 h2)
end
theorem vw_dp (hG : G.K = X.K) {w : W} {v : V} (h : plainW w = true) (r : Vw G S H w v) : Dp X.K H v (toD w) := by
  cases w with
  | lst ws =>
    obtain ⟨a, vs, rfl, h1, h2⟩ := r
    unfold plainW at h
    simp only [toD]
    exact .lst (SqL.of h1) (rps_dp hG h h2)
  | dK _ => simp [plainW] at h
  | dW _ => simp [plainW] at h
  | fn _ => simp [plainW] at h
  | obj _ _ => simp [plainW] at h
  | _ => exact rp_dp (S := S) hG h r

/-! ### operands told apart -/
theorem vws1 {w : W} {vs : List V} (h : Vws G S H [w] vs) : ∃ v, vs = [v] ∧ Vw G S H w v := by
  obtain ⟨v, r, rfl, h1, h2⟩ := h
  obtain rfl : r = [] := h2
  exact ⟨v, rfl, h1⟩
theorem vws2 {w w' : W} {vs : List V} (h : Vws G S H [w, w'] vs) : ∃ v v', vs = [v, v'] ∧ Vw G S H w v ∧ Vw G S H w' v' := by
  obtain ⟨v, r, rfl, h1, h2⟩ := h
  obtain ⟨v', rfl, h3⟩ := vws1 h2
  exact ⟨v, v', rfl, h1, h3⟩
theorem vw_int {i : Int} {v : V} (h : Vw G S H (.int i) v) : v = .int i := by
  have h : Rp G S H (.int i) v := h
  unfold Rp at h; exact h
theorem vw_bl {i : Bool} {v : V} (h : Vw G S H (.bl i) v) : v = .bl i := by
  have h : Rp G S H (.bl i) v := h
  unfold Rp at h; exact h
theorem vw_str {i : Str} {v : V} (h : Vw G S H (.str i) v) : v = .str i := by
  have h : Rp G S H (.str i) v := h
  unfold Rp at h; exact h
theorem vw_non {v : V} (h : Vw G S H .non v) : v = .non := by
  have h : Rp G S H .non v := h
  unfold Rp at h; exact h
theorem vw_tup {ws : List W} {v : V} (h : Vw G S H (.tup ws) v) : ∃ a vs, v = .ref a ∧ SqT G.K H a vs ∧ Rps G S H ws vs := by
  have h : Rp G S H (.tup ws) v := h
  unfold Rp at h; exact h
theorem vw_scr {ws : List Int} {v : V} (h : Vw G S H (.scr ws) v) : ∃ a, v = .ref a ∧ (Sc G.K H a (ws.map V.int) ∨ Fz S H a (.lst (ws.map V.int))) := by
  have h : Rp G S H (.scr ws) v := h
  unfold Rp at h; exact h
/-- the reading of an operator of two values -/
abbrev two (r : R2) : List V → Hp → VK → Prop := fun vs H Q => ∃ x y, vs = [x, y] ∧ r x y H Q
abbrev one (r : V → Hp → VK → Prop) : List V → Hp → VK → Prop := fun vs H Q => ∃ x, vs = [x] ∧ r x H Q
/-! ### arithmetic -/
def rAdd3 (K : PySem.W.Frag) : R2 := fun x y H Q => (rI0 fun i j => .int (i + j)) x y H Q ∨ rCatA K x y H Q ∨ rCat x y H Q
theorem op_add3 : OpR X (binaryOp .Add) (rAdd3 X.K) := op_add.or (op_catA.or op_cat)
theorem pk_add (hG : G.K = X.K) : PrOk G (two (rAdd3 X.K)) (prW .add) := by
  intro S H ws vs z Q hv e q
  change p_add ws = some z at e
  unfold p_add at e
  split at e
  · obtain ⟨v, v', rfl, h1, h2⟩ := vws2 hv
    obtain rfl := vw_int h1
    obtain rfl := vw_int h2
    cases e
    exact ⟨_, _, rfl, .inl ⟨_, _, rfl, rfl, q.w (rp_int _ _ _)⟩⟩
  · rename_i a b
    obtain ⟨v, v', rfl, h1, h2⟩ := vws2 hv
    obtain ⟨p, xs, rfl, k1, k2⟩ := vw_tup h1
    obtain ⟨p', ys, rfl, k3, k4⟩ := vw_tup h2
    by_cases hz : sizeOk (a.length + b.length) = true
    · rw [if_pos hz] at e
      cases e
      refine ⟨_, _, rfl, .inr (.inl ⟨p, p', xs, ys, rfl, rfl, hG ▸ k1, hG ▸ k3, by rw [k2.length, k4.length]; exact sizeOk_le hz, fun e0 => ?_, fun _ e1 => ?_, fun _ _ => q.tup (k2.append k4)⟩)⟩
      · subst e0
        have ea : a = [] := List.length_eq_zero_iff.mp (by rw [← k2.length]; rfl)
        subst ea
        exact q.w (by unfold Rp; exact ⟨p', ys, rfl, k3, k4⟩)
      · subst e1
        have eb : b = [] := List.length_eq_zero_iff.mp (by rw [← k4.length]; rfl)
        subst eb
        exact q.w (by rw [List.append_nil]; unfold Rp; exact ⟨p, xs, rfl, k1, k2⟩)
    · rw [if_neg hz] at e; cases e
  · rename_i a b
    obtain ⟨v, v', rfl, h1, h2⟩ := vws2 hv
    obtain ⟨p, xs, rfl, k1, k2⟩ := h1
    obtain ⟨p', ys, rfl, k3, k4⟩ := h2
    by_cases hz : sizeOk (a.length + b.length) = true
    · rw [if_pos hz] at e
      cases e
      exact ⟨_, _, rfl, .inr (.inr ⟨p, p', xs, ys, rfl, rfl, k1, k3, by rw [k2.length, k4.length]; exact sizeOk_le hz, q.lst (k2.append k4)⟩)⟩
    · rw [if_neg hz] at e; cases e
  · cases e
theorem pk_sub : PrOk G (two (rI0 fun i j => .int (i - j))) (prW .sub) := by
  intro S H ws vs z Q hv e q
  change p_sub ws = some z at e
  unfold p_sub at e
  split at e
  · obtain ⟨v, v', rfl, h1, h2⟩ := vws2 hv
    obtain rfl := vw_int h1
    obtain rfl := vw_int h2
    cases e
    exact ⟨_, _, rfl, _, _, rfl, rfl, q.w (rp_int _ _ _)⟩
  · cases e
def rMul2 : R2 := fun x y H Q => (rI CMul fun i j => .int (i * j)) x y H Q ∨ (rI CMulW fun i j => .int (i * j)) x y H Q ∨ rRep x y H Q
theorem op_mul2 : OpR X (binaryOp .Mult) rMul2 := op_mul.or (op_mulW.or op_rep)
theorem bnd_in {n : Int} (h : bnd n = true) : -(2 ^ 62) ≤ n ∧ n < 2 ^ 62 := by
  unfold bnd at h
  rw [Bool.and_eq_true] at h
  exact ⟨of_decide_eq_true h.1, of_decide_eq_true h.2⟩
theorem rps_rep {ws : List W} {vs : List V} (r : Rps G S H ws vs) : ∀ n : Nat, Rps G S H (List.replicate n ws).flatten (List.replicate n vs).flatten
  | 0 => .nil
  | n + 1 => by
    rw [List.replicate_succ, List.replicate_succ, List.flatten_cons, List.flatten_cons]
    exact r.append (rps_rep r n)
theorem small_iff {i : Int} (h : small i = true) : -(2 ^ 64) < i ∧ i < 2 ^ 64 := by
  unfold small at h
  rw [Bool.and_eq_true] at h
  exact ⟨of_decide_eq_true h.1, of_decide_eq_true h.2⟩
theorem mulOk_iff {i j : Int} (h : mulOk i j = true) : CMul i j ∨ CMulW i j := by
  unfold mulOk at h
  rw [Bool.or_eq_true, Bool.or_eq_true] at h
  rcases h with (h | h) | h
  · exact .inl (.inl (small_iff h))
  · exact .inl (.inr (small_iff h))
  · exact .inr (of_decide_eq_true (p := i.natAbs.log2 + j.natAbs.log2 < 1000000) h)
theorem pk_mul : PrOk G (two rMul2) (prW .mul) := by
  intro S H ws vs z Q hv e q
  change p_mul ws = some z at e
  unfold p_mul at e
  split at e
  · rename_i i j
    obtain ⟨v, v', rfl, h1, h2⟩ := vws2 hv
    obtain rfl := vw_int h1
    obtain rfl := vw_int h2
    by_cases hm : mulOk i j = true
    · rw [if_pos hm] at e
      cases e
      have q' := q.w (rp_int S H (i * j))
      rcases mulOk_iff hm with c | c
      · exact ⟨_, _, rfl, .inl ⟨i, j, rfl, rfl, c, q'⟩⟩
      · exact ⟨_, _, rfl, .inr (.inl ⟨i, j, rfl, rfl, c, q'⟩)⟩
    · rw [if_neg hm] at e; cases e
  · rename_i a k
    obtain ⟨v, v', rfl, h1, h2⟩ := vws2 hv
    obtain rfl := vw_int h2
    obtain ⟨p, xs, rfl, k1, k2⟩ := h1
    by_cases hm : (bnd k && decide (a.length * k.toNat ≤ 16777216)) = true
    · rw [if_pos hm] at e
      cases e
      rw [Bool.and_eq_true] at hm
      obtain ⟨b1, b2⟩ := bnd_in hm.1
      have b3 := of_decide_eq_true hm.2
      exact ⟨_, _, rfl, .inr (.inr ⟨p, k, xs, rfl, rfl, k1, by omega, by omega, by rw [k2.length, sizeLine_eq]; exact b3, q.lst (rps_rep k2 _)⟩)⟩
    · rw [if_neg hm] at e; cases e
  · cases e
theorem pk_fdiv : PrOk G (two (rI CDivW fun i j => .int (i / j))) (prW .fdiv) := by
  intro S H ws vs z Q hv e q
  change p_fdiv ws = some z at e
  unfold p_fdiv at e
  split at e
  · rename_i i j
    obtain ⟨v, v', rfl, h1, h2⟩ := vws2 hv
    obtain rfl := vw_int h1
    obtain rfl := vw_int h2
    by_cases hm : (decide (0 < j) && decide (j.natAbs.log2 < 9000)) = true
    · rw [if_pos hm] at e
      cases e
      rw [Bool.and_eq_true] at hm
      exact ⟨_, _, rfl, i, j, rfl, rfl, ⟨of_decide_eq_true hm.1, of_decide_eq_true hm.2⟩, q.w (rp_int S H (i / j))⟩
    · rw [if_neg hm] at e; cases e
  · cases e
theorem pk_mod : PrOk G (two (rI (fun _ j => 0 < j) fun i j => .int (i % j))) (prW .mod) := by
  intro S H ws vs z Q hv e q
  change p_mod ws = some z at e
  unfold p_mod at e
  split at e
  · rename_i i j
    obtain ⟨v, v', rfl, h1, h2⟩ := vws2 hv
    obtain rfl := vw_int h1
    obtain rfl := vw_int h2
    by_cases hm : decide (0 < j) = true
    · rw [if_pos hm] at e
      cases e
      exact ⟨_, _, rfl, i, j, rfl, rfl, of_decide_eq_true hm, q.w (rp_int S H (i % j))⟩
    · rw [if_neg hm] at e; cases e
  · cases e
theorem pk_pow : PrOk G (two (rI CPow fun i j => .int (i ^ j.toNat))) (prW .pow) := by
  intro S H ws vs z Q hv e q
  change p_pow ws = some z at e
  unfold p_pow at e
  split at e
  · rename_i i j
    obtain ⟨v, v', rfl, h1, h2⟩ := vws2 hv
    obtain rfl := vw_int h1
    obtain rfl := vw_int h2
    by_cases hm : (small i && decide (0 ≤ j) && decide (j ≤ 1000000)) = true
    · rw [if_pos hm] at e
      cases e
      rw [Bool.and_eq_true, Bool.and_eq_true] at hm
      have hs := small_iff hm.1.1
      exact ⟨_, _, rfl, i, j, rfl, rfl, ⟨of_decide_eq_true hm.1.2, of_decide_eq_true hm.2, by omega⟩, q.w (rp_int S H (i ^ j.toNat))⟩
    · rw [if_neg hm] at e; cases e
  · cases e
theorem pk_neg : PrOk G (one (rU fun i => .int (-i))) (prW .neg) := by
  intro S H ws vs z Q hv e q
  change p_neg ws = some z at e
  unfold p_neg at e
  split at e
  · rename_i i
    obtain ⟨v, rfl, h1⟩ := vws1 hv
    obtain rfl := vw_int h1
    cases e
    exact ⟨_, rfl, i, rfl, q.w (rp_int S H (-i))⟩
  · cases e
end
end Cb

end
section
set_option maxRecDepth 100000
set_option maxHeartbeats 4000000
/-! comparisons, containers, built-in functions -/
namespace Cb
open PySem PySem.Spec PyProof.Rows L2

/-! ### < of nested tuples -/
theorem ltWs_drop {a b : List W} (i : Nat) (h1 : i < a.length) (h2 : i < b.length) : ltWs (a.drop i) (b.drop i) = if eqW a[i] b[i] then ltWs (a.drop (i + 1)) (b.drop (i + 1)) else ltW a[i] b[i] := by
  rw [List.drop_eq_getElem_cons h1, List.drop_eq_getElem_cons h2]
  rfl
theorem lexAt_ltWs {a b : List W} : ∀ (k i : Nat), k = min a.length b.length - i → i ≤ min a.length b.length →
    Ob.lexAt (fun j => eqW (a.getD j .non) (b.getD j .non)) (fun j => ltW (a.getD j .non) (b.getD j .non)) (decide (a.length < b.length)) i k = ltWs (a.drop i) (b.drop i)
  | 0, i, hk, hi => by
    rw [Ob.lexAt_zero]
    by_cases h1 : i < a.length
    · have h2 : ¬ i < b.length := by omega
      rw [List.drop_eq_getElem_cons h1, List.drop_of_length_le (by omega : b.length ≤ i)]
      exact decide_eq_false (by omega)
    · rw [List.drop_of_length_le (by omega : a.length ≤ i)]
      by_cases h2 : i < b.length
      · rw [List.drop_eq_getElem_cons h2]
        exact decide_eq_true (by omega)
      · rw [List.drop_of_length_le (by omega : b.length ≤ i)]
        exact decide_eq_false (by omega)
  | k + 1, i, hk, hi => by
    have h1 : i < a.length := by omega
    have h2 : i < b.length := by omega
    rw [ltWs_drop i h1 h2, Ob.lexAt_succ]
    have ea : a.getD i .non = a[i] := by simp [h1]
    have eb : b.getD i .non = b[i] := by simp [h2]
    simp only [ea, eb]
    rw [lexAt_ltWs k (i + 1) (by omega) (by omega)]
theorem cmpWs_at : ∀ {a b : List W} (j : Nat) (h1 : j < a.length) (h2 : j < b.length), cmpWs a b = true → cmpW a[j] b[j] = true
  | [], _, j, h1, _, _ => absurd h1 (by simp)
  | _ :: _, [], j, _, h2, _ => absurd h2 (by simp)
  | x :: r, y :: s, j, h1, h2, h => by
    unfold cmpWs at h
    rw [Bool.and_eq_true] at h
    cases j with
    | zero => exact h.1
    | succ j => exact cmpWs_at j (by simpa using h1) (by simpa using h2) h.2
theorem depWs_mem : ∀ {ws : List W} {w : W}, w ∈ ws → depW w ≤ depWs ws
  | [], _, h => absurd h (by simp)
  | x :: r, w, h => by
    unfold depWs
    rcases List.mem_cons.mp h with rfl | h
    · exact Nat.le_max_left _ _
    · exact Nat.le_trans (depWs_mem h) (Nat.le_max_right _ _)
theorem plainWs_mem : ∀ {ws : List W} {w : W}, plainWs ws = true → w ∈ ws → plainW w = true
  | [], _, _, h => absurd h (by simp)
  | x :: r, w, p, h => by
    unfold plainWs at p
    rw [Bool.and_eq_true] at p
    rcases List.mem_cons.mp h with rfl | h
    · exact p.1
    · exact plainWs_mem p.2 h
theorem readsAll_get {h : Heap} : ∀ {ws : List W} {vs : List Value} {as : List Addr}, ReadsAll h vs (toDs ws) as → vs.length = ws.length ∧ ∀ (j : Nat) (h1 : j < vs.length) (h2 : j < ws.length), ∃ bs, Reads h vs[j] (toD ws[j]) bs
  | [], vs, as, r => by
    unfold toDs at r
    cases r
    exact ⟨rfl, fun j h1 => absurd h1 (by simp)⟩
  | w :: ws, vs, as, r => by
    unfold toDs at r
    cases r with
    | cons r1 r2 =>
      obtain ⟨l, q⟩ := readsAll_get r2
      refine ⟨by simp [l], fun j h1 h2 => ?_⟩
      cases j with
      | zero => exact ⟨_, r1⟩
      | succ j => exact q j (by simpa using h1) (by simpa using h2)
theorem eqAt_W {A : Around} {s : Shared} {a b : W} {x y : Value} {as bs : List Addr} (pa : plainW a = true) (pb : plainW b = true) (ra : Reads s.heap x (toD a) as) (rb : Reads s.heap y (toD b) bs) (hu : A.units + min (depW a) (depW b) < cLine) : SeqAt.EqAt A s x y (eqW a b) := by
  obtain ⟨l1, d1⟩ := toD_lay pa
  obtain ⟨l2, d2⟩ := toD_lay pb
  rw [← eqv_toD pa pb]
  exact SeqAt.eqAt_reads _ _ A s x y as bs ra rb l1 l2 (by rw [d1, d2]; exact hu)
/-- the machine's < says what ltW says -/
theorem ltW_ok : ∀ (n : Nat) (a b : W) (A : Around) (s : Shared) (x y : Value) (as bs : List Addr), depW a ≤ n → plainW a = true → plainW b = true → cmpW a b = true → Reads s.heap x (toD a) as → Reads s.heap y (toD b) bs → A.units + n + 1 < cLine → Ob.RcOp .Lt A s x y (ltW a b)
  | n, a, b, A, s, x, y, as, bs, hd, pa, pb, e, ra, rb, hu => by
    cases a with
    | int i =>
      cases b with
      | int j =>
        simp only [toD] at ra rb
        cases ra
        cases rb
        unfold ltW
        exact Ob.RcOp.lt_int _ _ _ _
      | _ => simp [cmpW] at e
    | tup us =>
      cases b with
      | tup ws =>
        cases n with
        | zero => simp [depW] at hd
        | succ n =>
        simp only [toD] at ra rb
        unfold cmpW at e
        unfold plainW at pa pb
        have hd' : depWs us ≤ n := by simp only [depW] at hd; omega
        cases ra with
        | @tuple a1 o1 vs1 n1 xs1 as1 h1 c1 d1 r1 =>
        cases rb with
        | @tuple a2 o2 vs2 n2 xs2 as2 h2 c2 d2 r2 =>
        obtain ⟨l1, g1⟩ := readsAll_get r1
        obtain ⟨l2, g2⟩ := readsAll_get r2
        have l1' : vs1.size = us.length := by simpa using l1
        have l2' : vs2.size = ws.length := by simpa using l2
        have R := Ob.RcOp.tuples_lt (A := A) (s := s) (l := a1) (b := a2) (items := vs1) (items2 := vs2) (e := fun j => eqW (us.getD j .non) (ws.getD j .non)) (r := fun j => ltW (us.getD j .non) (ws.getD j .non)) ⟨o1, h1, c1, n1, d1⟩ ⟨o2, h2, c2, n2, d2⟩ (by omega) ?_ ?_
        · rw [l1', l2'] at R
          have z := lexAt_ltWs (a := us) (b := ws) (min us.length ws.length) 0 (by omega) (Nat.zero_le _)
          rw [z] at R
          unfold ltW
          simpa using R
        · intro j j1 j2
          have k1 : j < us.length := by omega
          have k2 : j < ws.length := by omega
          obtain ⟨b1, q1⟩ := g1 j (by simpa using j1) k1
          obtain ⟨b2, q2⟩ := g2 j (by simpa using j2) k2
          have e1 : us.getD j .non = us[j] := by simp [k1]
          have e2 : ws.getD j .non = ws[j] := by simp [k2]
          simp only [e1, e2]
          have m1 : us[j] ∈ us := List.getElem_mem k1
          have m2 : ws[j] ∈ ws := List.getElem_mem k2
          have dj := depWs_mem m1
          refine eqAt_W (plainWs_mem pa m1) (plainWs_mem pb m2) (by simpa using q1) (by simpa using q2) ?_
          show A.units + 1 + _ < _
          have := Nat.min_le_left (depW us[j]) (depW ws[j])
          omega
        · intro j j1 j2 ej
          have k1 : j < us.length := by omega
          have k2 : j < ws.length := by omega
          obtain ⟨b1, q1⟩ := g1 j (by simpa using j1) k1
          obtain ⟨b2, q2⟩ := g2 j (by simpa using j2) k2
          have e1 : us.getD j .non = us[j] := by simp [k1]
          have e2 : ws.getD j .non = ws[j] := by simp [k2]
          simp only [e1, e2]
          have m1 : us[j] ∈ us := List.getElem_mem k1
          have m2 : ws[j] ∈ ws := List.getElem_mem k2
          have dj := depWs_mem m1
          exact ltW_ok n us[j] ws[j] A.in1 s _ _ b1 b2 (by omega) (plainWs_mem pa m1) (plainWs_mem pb m2) (cmpWs_at j k1 k2 e) (by simpa using q1) (by simpa using q2) (by show A.units + 1 + n + 1 < _; omega)
      | _ => simp [cmpW] at e
    | _ => simp [cmpW] at e
end Cb

end
section
set_option maxRecDepth 100000
set_option maxHeartbeats 4000000
/-! comparisons, membership, subscripts, slices, built-in functions as operations -/
namespace Cb
open PySem PySem.Spec PyProof.Rows L2
section
variable {G : Gc} {U : L2.WX} {X : Cx}
theorem rp_blx (S : AS) (H : Hp) (b : Bool) : Rp G S H (.bl b) (.bl b) := rp_bl S H b
theorem pk_eq (hG : G.K = X.K) : PrOk G (two (rEqD X.K)) (prW .eq) := by
  intro S H ws vs z Q hv e q
  change p_eq ws = some z at e
  unfold p_eq at e
  split at e
  · rename_i a b
    obtain ⟨v, v', rfl, h1, h2⟩ := vws2 hv
    by_cases hs : (shW a && shW b) = true
    · rw [if_pos hs] at e
      cases e
      rw [Bool.and_eq_true] at hs
      refine ⟨_, _, rfl, toD a, toD b, vw_dp hG (shW_iff hs.1).1 h1, vw_dp hG (shW_iff hs.2).1 h2, shaped_of hs.1, shaped_of hs.2, ?_⟩
      rw [eqv_toD (shW_iff hs.1).1 (shW_iff hs.2).1]
      exact q.w (rp_bl S H _)
    · rw [if_neg hs] at e; cases e
  · cases e
theorem pk_ne (hG : G.K = X.K) : PrOk G (two (rNeD X.K)) (prW .ne) := by
  intro S H ws vs z Q hv e q
  change p_ne ws = some z at e
  unfold p_ne at e
  split at e
  · rename_i a b
    obtain ⟨v, v', rfl, h1, h2⟩ := vws2 hv
    by_cases hs : (shW a && shW b) = true
    · rw [if_pos hs] at e
      cases e
      rw [Bool.and_eq_true] at hs
      refine ⟨_, _, rfl, toD a, toD b, vw_dp hG (shW_iff hs.1).1 h1, vw_dp hG (shW_iff hs.2).1 h2, shaped_of hs.1, shaped_of hs.2, ?_⟩
      rw [eqv_toD (shW_iff hs.1).1 (shW_iff hs.2).1]
      exact q.w (rp_bl S H _)
    · rw [if_neg hs] at e; cases e
  · cases e
/-- < of tuples -/
def rLtW (G : Gc) : R2 := fun x y H Q => ∃ S a b, Vw G S H a x ∧ Vw G S H b y ∧ plainW a = true ∧ plainW b = true ∧ depW a ≤ 61 ∧ cmpW a b = true ∧ Q (.bl (ltW a b)) H
theorem op_ltW (hG : G.K = X.K) (hu : X.A.units + 64 < cLine) : OpR X (compareOp .Lt) (rLtW G) := by
  intro pins s σ H x y v u Q I rx ry h
  obtain ⟨S, a, b, h1, h2, pa, pb, da, hc, q⟩ := h
  obtain ⟨as, r1⟩ := Dp.reads I (toD a) x v (vw_dp hG pa h1) rx
  obtain ⟨bs, r2⟩ := Dp.reads I (toD b) y u (vw_dp hG pb h2) ry
  have R := ltW_ok 61 a b X.A s v u as bs da pa pb hc r1 r2 (by omega)
  have z : wpAny (model X.prog X.w) X.A (compareOp .Lt v u) (EP X pins σ Q) X.xe s := R X.prog X.w X.xe (EP X pins σ Q) ⟨.bl _, H, I, rfl, q⟩
  exact z
theorem pk_lt : PrOk G (two fun x y H Q => (rI0 fun i j => .bl (decide (i < j))) x y H Q ∨ rLtW G x y H Q) (prW .lt) := by
  intro S H ws vs z Q hv e q
  change p_lt ws = some z at e
  unfold p_lt at e
  split at e
  · rename_i i j
    obtain ⟨v, v', rfl, h1, h2⟩ := vws2 hv
    obtain rfl := vw_int h1
    obtain rfl := vw_int h2
    cases e
    exact ⟨_, _, rfl, .inl ⟨i, j, rfl, rfl, q.w (rp_bl S H _)⟩⟩
  · rename_i a b
    obtain ⟨v, v', rfl, h1, h2⟩ := vws2 hv
    by_cases hs : (cmpWs a b && shWs a && shWs b) = true
    · rw [if_pos hs] at e
      cases e
      rw [Bool.and_eq_true, Bool.and_eq_true] at hs
      obtain ⟨p1, d1⟩ := shWs_iff hs.1.2
      obtain ⟨p2, d2⟩ := shWs_iff hs.2
      exact ⟨_, _, rfl, .inr ⟨S, .tup a, .tup b, h1, h2, by unfold plainW; exact p1, by unfold plainW; exact p2, by unfold depW; omega, by unfold cmpW; exact hs.1.1, by unfold ltW; exact q.w (rp_bl S H _)⟩⟩
    · rw [if_neg hs] at e; cases e
  · cases e
theorem op_lt2 (hG : G.K = X.K) (hu : X.A.units + 64 < cLine) : OpR X (compareOp .Lt) (fun x y H Q => (rI0 fun i j => .bl (decide (i < j))) x y H Q ∨ rLtW G x y H Q) := op_lt.or (op_ltW hG hu)
theorem pk_le : PrOk G (two (rI0 fun i j => .bl (decide (i ≤ j)))) (prW .le) := by
  intro S H ws vs z Q hv e q
  change p_le ws = some z at e
  unfold p_le at e
  split at e
  · rename_i i j
    obtain ⟨v, v', rfl, h1, h2⟩ := vws2 hv
    obtain rfl := vw_int h1
    obtain rfl := vw_int h2
    cases e
    exact ⟨_, _, rfl, i, j, rfl, rfl, q.w (rp_bl S H _)⟩
  · cases e
theorem pk_gt : PrOk G (two (rI0 fun i j => .bl (decide (j < i)))) (prW .gt) := by
  intro S H ws vs z Q hv e q
  change p_gt ws = some z at e
  unfold p_gt at e
  split at e
  · rename_i i j
    obtain ⟨v, v', rfl, h1, h2⟩ := vws2 hv
    obtain rfl := vw_int h1
    obtain rfl := vw_int h2
    cases e
    exact ⟨_, _, rfl, i, j, rfl, rfl, q.w (rp_bl S H _)⟩
  · cases e
theorem pk_ge : PrOk G (two (rI0 fun i j => .bl (decide (j ≤ i)))) (prW .ge) := by
  intro S H ws vs z Q hv e q
  change p_ge ws = some z at e
  unfold p_ge at e
  split at e
  · rename_i i j
    obtain ⟨v, v', rfl, h1, h2⟩ := vws2 hv
    obtain rfl := vw_int h1
    obtain rfl := vw_int h2
    cases e
    exact ⟨_, _, rfl, i, j, rfl, rfl, q.w (rp_bl S H _)⟩
  · cases e

/-! ### in -/
def rInT (K : PySem.W.Frag) (neg : Bool) : R2 := fun x y H Q => ∃ d ds, Dp K H x d ∧ Dp K H y (.tuple ds) ∧ SeqAt.shaped d = true ∧ SeqAt.shaped (.tuple ds) = true ∧ Q (.bl (if neg then !(ds.any fun z => PyData.eqv z d) else ds.any fun z => PyData.eqv z d)) H
theorem op_inT (hu : X.A.units + 65 < cLine) : OpR X (compareOp .In) (rInT X.K false) := by
  intro pins s σ H x y v u Q I rx ry h
  obtain ⟨d, ds, hd, he, sd, se, q⟩ := h
  obtain ⟨as, r1⟩ := Dp.reads I d x v hd rx
  obtain ⟨bs, r2⟩ := Dp.reads I (.tuple ds) y u he ry
  exact SeqAt.in_tuple_reads r2 r1 (SeqAt.canLay_of_shaped se) (SeqAt.canLay_of_shaped sd) (room_in_shaped sd hu) ⟨.bl _, H, I, rfl, q⟩
theorem op_notInT (hu : X.A.units + 65 < cLine) : OpR X (compareOp .NotIn) (rInT X.K true) := by
  intro pins s σ H x y v u Q I rx ry h
  obtain ⟨d, ds, hd, he, sd, se, q⟩ := h
  obtain ⟨as, r1⟩ := Dp.reads I d x v hd rx
  obtain ⟨bs, r2⟩ := Dp.reads I (.tuple ds) y u he ry
  exact SeqAt.notIn_tuple_reads r2 r1 (SeqAt.canLay_of_shaped se) (SeqAt.canLay_of_shaped sd) (room_in_shaped sd hu) ⟨.bl _, H, I, rfl, q⟩
def rInDk : R2 := fun y x H Q => ∃ a o, x = .ref a ∧ DGet H a y o ∧ Q (.bl o.isSome) H
def rNinDk : R2 := fun y x H Q => ∃ a o, x = .ref a ∧ DGet H a y o ∧ Q (.bl (!o.isSome)) H
theorem op_inDk (hu : X.A.units + 1 < cLine) : OpR X (compareOp .In) rInDk := by
  intro pins s σ H y x iv u Q I ry rx h
  obtain ⟨a, o, ex, g, q⟩ := h
  subst ex
  obtain rfl : u = Value.ref a := rx
  exact d_in hu I g ry fun s' I' => ⟨.bl _, H, I', rfl, q⟩
theorem op_ninDk (hu : X.A.units + 1 < cLine) : OpR X (compareOp .NotIn) rNinDk := by
  intro pins s σ H y x iv u Q I ry rx h
  obtain ⟨a, o, ex, g, q⟩ := h
  subst ex
  obtain rfl : u = Value.ref a := rx
  exact d_notIn hu I g ry fun s' I' => ⟨.bl _, H, I', rfl, q⟩
def rIn3 (K : PySem.W.Frag) : R2 := fun x y H Q => rInD K x y H Q ∨ rInT K false x y H Q ∨ rInDk x y H Q
def rNin3 (K : PySem.W.Frag) : R2 := fun x y H Q => rNotInD K x y H Q ∨ rInT K true x y H Q ∨ rNinDk x y H Q
def rIn5 (G : Gc) (K : PySem.W.Frag) : R2 := fun x y H Q => rIn3 K x y H Q ∨ rInN G false x y H Q ∨ rInE G false x y H Q
def rNin5 (G : Gc) (K : PySem.W.Frag) : R2 := fun x y H Q => rNin3 K x y H Q ∨ rInN G true x y H Q ∨ rInE G true x y H Q
theorem op_in3 (hG : G.K = X.K) (hw : G.w = X.w) (hu : X.A.units + 65 < cLine) : OpR X (compareOp .In) (rIn5 G X.K) := ((op_inD hu).or ((op_inT hu).or (op_inDk (by omega)))).or ((op_inN hG hw (by omega)).or (op_inE hG (by omega)))
theorem op_nin3 (hG : G.K = X.K) (hw : G.w = X.w) (hu : X.A.units + 65 < cLine) : OpR X (compareOp .NotIn) (rNin5 G X.K) := ((op_notInD hu).or ((op_notInT hu).or (op_ninDk (by omega)))).or ((op_ninN hG hw (by omega)).or (op_ninE hG (by omega)))
theorem vw_key {S : AS} {H : Hp} {a : W} {v : V} (t : tkW a = true) (h : Vw G S H a v) : Rp G S H a v := by
  cases a with
  | tup ws => exact h
  | _ => cases t
theorem vw_dk0 {S : AS} {H : Hp} {b : List (Key × W)} {v : V} (e : b.isEmpty = true) (h : Vw G S H (.dK b) v) : ∃ a, v = .ref a ∧ H a = some (.dK []) := by
  obtain rfl := List.isEmpty_iff.mp e
  obtain ⟨a, vs, rfl, h1, h2⟩ := h
  obtain rfl := h2.inv0
  exact ⟨a, rfl, h1⟩
theorem any_toDs {a : W} (pa : plainW a = true) : ∀ {b : List W}, plainWs b = true → ((toDs b).any fun z => PyData.eqv z (toD a)) = b.any fun x => eqW x a
  | [], _ => rfl
  | w :: b, h => by
    unfold plainWs at h
    rw [Bool.and_eq_true] at h
    simp only [toDs, List.any_cons, eqv_toD h.1 pa, any_toDs pa h.2]
theorem dget_of {G : Gc} {S : AS} {H : Hp} {a : W} {k : Key} {b : List (Key × W)} {v v' : V} (ek : kOf a = some k) (h1 : Vw G S H a v) (h2 : Vw G S H (.dK b) v') : ∃ p o, v' = .ref p ∧ DGet H p v o ∧ o.isSome = (dgetW k b).isSome := by
  obtain ⟨p, vs, rfl, k1, k2⟩ := h2
  have ev : v = kV k := kOf_rel (G := G) (S := S) (H := H) ek (by cases a with | int i => exact h1 | str i => exact h1 | _ => cases ek)
  subst ev
  refine ⟨p, valV vs k, rfl, DGet.k k1, ?_⟩
  obtain ⟨g1, g2⟩ := k2.get (k := k)
  cases e : dgetW k b with
  | none => rw [g2 e]; rfl
  | some w => obtain ⟨y, hy, _⟩ := g1 w e; rw [hy]; rfl
theorem pk_inn (hG : G.K = X.K) : PrOk G (two (rIn5 G X.K)) (prW .inn) := by
  intro S H ws vs z Q hv e q
  change p_inn ws = some z at e
  unfold p_inn at e
  split at e
  · rename_i a b
    obtain ⟨v, v', rfl, h1, h2⟩ := vws2 hv
    by_cases hs : (shW a && shWs b) = true
    · rw [if_pos hs] at e
      cases e
      rw [Bool.and_eq_true] at hs
      refine ⟨_, _, rfl, .inl (.inr (.inl ⟨toD a, toDs b, vw_dp hG (shW_iff hs.1).1 h1, ?_, shaped_of hs.1, shaped_tup hs.2, ?_⟩))⟩
      · have := vw_dp (w := .tup b) hG (by unfold plainW; exact (shWs_iff hs.2).1) h2
        simpa [toD] using this
      · rw [if_neg Bool.false_ne_true, any_toDs (shW_iff hs.1).1 (shWs_iff hs.2).1]
        exact q.w (rp_bl S H _)
    · rw [if_neg hs] at e; cases e
  · rename_i a b
    obtain ⟨v, v', rfl, h1, h2⟩ := vws2 hv
    by_cases hs : (shW a && shWs b) = true
    · rw [if_pos hs] at e
      cases e
      rw [Bool.and_eq_true] at hs
      refine ⟨_, _, rfl, .inl (.inl ⟨toD a, toDs b, vw_dp hG (shW_iff hs.1).1 h1, ?_, shaped_of hs.1, shaped_list hs.2, ?_⟩)⟩
      · have := vw_dp (w := .lst b) hG (by unfold plainW; exact (shWs_iff hs.2).1) h2
        simpa [toD] using this
      · rw [any_toDs (shW_iff hs.1).1 (shWs_iff hs.2).1]
        exact q.w (rp_bl S H _)
    · rw [if_neg hs] at e; cases e
  · rename_i a b
    obtain ⟨v, v', rfl, h1, h2⟩ := vws2 hv
    cases ek : kOf a with
    | none =>
      rw [ek] at e
      dsimp only at e
      by_cases hl : (tkW a && b.isEmpty) = true
      · rw [if_pos hl] at e
        obtain ⟨ht, he⟩ := Bool.and_eq_true_iff.mp hl
        cases e
        obtain ⟨p, rfl, h3⟩ := vw_dk0 he h2
        exact ⟨_, _, rfl, .inr (.inr ⟨S, a, p, rfl, h3, vw_key ht h1, ht, q.w (rp_bl S H _)⟩)⟩
      · rw [if_neg hl] at e; cases e
    | some k =>
      rw [ek] at e
      cases e
      obtain ⟨p, o, rfl, g, eo⟩ := dget_of ek h1 h2
      exact ⟨_, _, rfl, .inl (.inr (.inr ⟨p, o, rfl, g, by rw [eo]; exact q.w (rp_bl S H _)⟩))⟩
  · rename_i a b
    obtain ⟨v, v', rfl, h1, h2⟩ := vws2 hv
    by_cases ht : tkW a = true
    · rw [if_pos ht] at e
      cases e
      exact ⟨_, _, rfl, .inr (.inl ⟨S, b, a, ⟨h2, vw_key ht h1, ht⟩, q.w (rp_bl S H _)⟩)⟩
    · rw [if_neg ht] at e; cases e
  · cases e
theorem pk_nin (hG : G.K = X.K) : PrOk G (two (rNin5 G X.K)) (prW .nin) := by
  intro S H ws vs z Q hv e q
  change p_nin ws = some z at e
  unfold p_nin at e
  split at e
  · rename_i a b
    obtain ⟨v, v', rfl, h1, h2⟩ := vws2 hv
    by_cases hs : (shW a && shWs b) = true
    · rw [if_pos hs] at e
      cases e
      rw [Bool.and_eq_true] at hs
      refine ⟨_, _, rfl, .inl (.inr (.inl ⟨toD a, toDs b, vw_dp hG (shW_iff hs.1).1 h1, ?_, shaped_of hs.1, shaped_tup hs.2, ?_⟩))⟩
      · have := vw_dp (w := .tup b) hG (by unfold plainW; exact (shWs_iff hs.2).1) h2
        simpa [toD] using this
      · rw [if_pos rfl, any_toDs (shW_iff hs.1).1 (shWs_iff hs.2).1]
        exact q.w (rp_bl S H _)
    · rw [if_neg hs] at e; cases e
  · rename_i a b
    obtain ⟨v, v', rfl, h1, h2⟩ := vws2 hv
    by_cases hs : (shW a && shWs b) = true
    · rw [if_pos hs] at e
      cases e
      rw [Bool.and_eq_true] at hs
      refine ⟨_, _, rfl, .inl (.inl ⟨toD a, toDs b, vw_dp hG (shW_iff hs.1).1 h1, ?_, shaped_of hs.1, shaped_list hs.2, ?_⟩)⟩
      · have := vw_dp (w := .lst b) hG (by unfold plainW; exact (shWs_iff hs.2).1) h2
        simpa [toD] using this
      · rw [any_toDs (shW_iff hs.1).1 (shWs_iff hs.2).1]
        exact q.w (rp_bl S H _)
    · rw [if_neg hs] at e; cases e
  · rename_i a b
    obtain ⟨v, v', rfl, h1, h2⟩ := vws2 hv
    cases ek : kOf a with
    | none =>
      rw [ek] at e
      dsimp only at e
      by_cases hl : (tkW a && b.isEmpty) = true
      · rw [if_pos hl] at e
        obtain ⟨ht, he⟩ := Bool.and_eq_true_iff.mp hl
        cases e
        obtain ⟨p, rfl, h3⟩ := vw_dk0 he h2
        exact ⟨_, _, rfl, .inr (.inr ⟨S, a, p, rfl, h3, vw_key ht h1, ht, q.w (rp_bl S H _)⟩)⟩
      · rw [if_neg hl] at e; cases e
    | some k =>
      rw [ek] at e
      cases e
      obtain ⟨p, o, rfl, g, eo⟩ := dget_of ek h1 h2
      exact ⟨_, _, rfl, .inl (.inr (.inr ⟨p, o, rfl, g, by rw [eo]; exact q.w (rp_bl S H _)⟩))⟩
  · rename_i a b
    obtain ⟨v, v', rfl, h1, h2⟩ := vws2 hv
    by_cases ht : tkW a = true
    · rw [if_pos ht] at e
      cases e
      exact ⟨_, _, rfl, .inr (.inl ⟨S, b, a, ⟨h2, vw_key ht h1, ht⟩, q.w (rp_bl S H _)⟩)⟩
    · rw [if_neg ht] at e; cases e
  · cases e

/-! ### is -/
theorem vw_isNon {S : AS} {H : Hp} {a : W} {v : V} (h : Vw G S H a v) : decide (v = .non) = isNonW a := by
  cases a with
  | non => obtain rfl := vw_non h; rfl
  | bl b => obtain rfl := vw_bl h; rfl
  | int b => obtain rfl := vw_int h; rfl
  | str b => obtain rfl := vw_str h; rfl
  | tup b => obtain ⟨a, vs, rfl, _⟩ := vw_tup h; rfl
  | lst b => obtain ⟨a, vs, rfl, _⟩ := h; rfl
  | dK b => obtain ⟨a, vs, rfl, _⟩ := h; rfl
  | dW b => obtain ⟨a, vs, xs, rfl, _⟩ := h; rfl
  | fn x =>
    have h' : Rp G S H (.fn x) v := h
    unfold Rp at h'
    obtain ⟨a, rfl, _⟩ := h'; rfl
  | obj c b => obtain ⟨a, C, dx, vs, rfl, _⟩ := h; rfl
  | scr b => obtain ⟨a, rfl, _⟩ := vw_scr h; rfl
  | rng b c =>
    have h' : Rp G S H (.rng b c) v := h
    unfold Rp at h'
    obtain ⟨a, rfl, _⟩ := h'; rfl
theorem pk_isNon : PrOk G (one fun x H Q => Q (.bl (decide (x = .non))) H) (prW .isNon) := by
  intro S H ws vs z Q hv e q
  change p_isNon ws = some z at e
  unfold p_isNon at e
  split at e
  · obtain ⟨v, rfl, h1⟩ := vws1 hv
    cases e
    refine ⟨_, rfl, ?_⟩
    show Q (.bl (decide (v = .non))) H
    rw [vw_isNon h1]
    exact q.w (rp_bl S H _)
  · cases e
theorem pk_notNon : PrOk G (one fun x H Q => Q (.bl (!decide (x = .non))) H) (prW .notNon) := by
  intro S H ws vs z Q hv e q
  change p_notNon ws = some z at e
  unfold p_notNon at e
  split at e
  · obtain ⟨v, rfl, h1⟩ := vws1 hv
    cases e
    refine ⟨_, rfl, ?_⟩
    show Q (.bl (!decide (v = .non))) H
    rw [vw_isNon h1]
    exact q.w (rp_bl S H _)
  · cases e
/-- x is y, both bools -/
theorem pk_isB : PrOk G (two rIsB) (prW .isB) := by
  intro S H ws vs z Q hv e q
  change p_isB ws = some z at e
  unfold p_isB at e
  split at e
  · obtain ⟨v, v', rfl, h1, h2⟩ := vws2 hv
    obtain rfl := vw_bl h1
    obtain rfl := vw_bl h2
    cases e
    exact ⟨_, _, rfl, _, _, rfl, rfl, q.w (rp_bl S H _)⟩
  · cases e
theorem pk_notB : PrOk G (two rNotB) (prW .notB) := by
  intro S H ws vs z Q hv e q
  change p_notB ws = some z at e
  unfold p_notB at e
  split at e
  · obtain ⟨v, v', rfl, h1, h2⟩ := vws2 hv
    obtain rfl := vw_bl h1
    obtain rfl := vw_bl h2
    cases e
    exact ⟨_, _, rfl, _, _, rfl, rfl, q.w (rp_bl S H _)⟩
  · cases e
/-- x is True, x is False -/
theorem pk_isBl (b : Bool) : PrOk G (one fun x H Q => ∃ a : Bool, x = .bl a ∧ Q (.bl (decide (a = b))) H) (prW (.isBl b)) := by
  intro S H ws vs z Q hv e q
  change p_isBl b ws = some z at e
  unfold p_isBl at e
  split at e
  · rename_i a
    obtain ⟨v, rfl, h1⟩ := vws1 hv
    cases a with
    | bl c =>
      obtain rfl := vw_bl h1
      cases e
      exact ⟨_, rfl, c, rfl, q.w (rp_bl S H _)⟩
    | _ => cases e
  · cases e

/-! ### subscripts -/
def rIxDk : R2 := fun x y H Q => ∃ a v, x = .ref a ∧ DGet H a y (some v) ∧ Q v H
theorem ix_dict (hu : X.A.units + 1 < cLine) : IxR X rIxDk := by
  intro value slice pins s σ H x y v u Q I rx ry h hs
  obtain ⟨a, w, ex, g, q⟩ := h
  subst ex
  obtain rfl : v = Value.ref a := rx
  have hT := dict_typeIs I g
  unfold subscriptTail
  refine wpAny_bind ?_
  rw [getitemInPython_of_ne hT.not_modules]
  refine wpAny_bind (wpAny_specialOf hT PySem.F.slot_dict_getitem.lookup ?_)
  have fin : wpAny (model X.prog X.w) X.A (subscripted slice false (.ref a) u) (fun r s₃ => wpAny (model X.prog X.w) X.A (letTemporaryGo value (.ref a) r >>= fun _ => pure r) (EP X pins σ Q) X.xe s₃) X.xe s := by
    rw [hs]
    exact wpAny_operating (wpAny_mono (d_getItem (E := X.xe) hu I g ry fun w' s3 I3 rw' => ⟨w, H, I3, rw', q⟩) (fun r s₃ h₃ => wpAny_bind (wpAny_letTemporaryGo (wpAny_pure h₃))) fun _ _ x => x)
  first
    | exact wpAny_pure (wpAny_bind fin)
    | exact wpAny_bind (wpAny_pure (wpAny_bind fin))
    | exact wpAny_bind fin
def rIx3 (K : PySem.W.Frag) : R2 := fun x y H Q => rIxL K x y H Q ∨ rIxT K x y H Q ∨ rIxDk x y H Q
def rIx4 (G : Gc) (K : PySem.W.Frag) : R2 := fun x y H Q => rIx3 K x y H Q ∨ rIxN G x y H Q
theorem ix_3 (hG : G.K = X.K) (hw : G.w = X.w) (hu : X.A.units + 64 < cLine) : IxR X (rIx4 G X.K) := (ix_list.or (ix_tup.or (ix_dict (by omega)))).or (ix_N hG hw hu)
theorem rps_atI {S : AS} {H : Hp} {ws : List W} {vs : List V} {i : Int} {w : W} (r : Rps G S H ws vs) (e : atI ws i = some w) : ∃ v, atI vs i = some v ∧ Rp G S H w v := by
  unfold atI at e ⊢
  rw [r.length]
  cases q : ixN ws.length i with
  | none => rw [q] at e; cases e
  | some j =>
    rw [q] at e
    exact r.get e
theorem pk_ix (hG : G.K = X.K) : PrOk G (two (rIx4 G X.K)) (prW .ix) := by
  intro S H ws vs z Q hv e q
  change p_ix ws = some z at e
  unfold p_ix at e
  split at e
  · rename_i a i
    obtain ⟨v, v', rfl, h1, h2⟩ := vws2 hv
    obtain rfl := vw_int h2
    obtain ⟨p, xs, rfl, k1, k2⟩ := h1
    cases ea : atI a i with
    | none => rw [ea] at e; cases e
    | some w =>
      rw [ea] at e
      cases e
      obtain ⟨y, hy, ry⟩ := rps_atI k2 ea
      exact ⟨_, _, rfl, .inl (.inl ⟨p, xs, i, y, rfl, rfl, SqL.of k1, hy, q.w ry⟩)⟩
  · rename_i a i
    obtain ⟨v, v', rfl, h1, h2⟩ := vws2 hv
    obtain rfl := vw_int h2
    obtain ⟨p, xs, rfl, k1, k2⟩ := vw_tup h1
    cases ea : atI a i with
    | none => rw [ea] at e; cases e
    | some w =>
      rw [ea] at e
      cases e
      obtain ⟨y, hy, ry⟩ := rps_atI k2 ea
      exact ⟨_, _, rfl, .inl (.inr (.inl ⟨p, xs, i, y, rfl, rfl, hG ▸ k1, hy, q.w ry⟩))⟩
  · rename_i a k
    obtain ⟨v, v', rfl, h1, h2⟩ := vws2 hv
    cases ek : kOf k with
    | none => rw [ek] at e; cases e
    | some kk =>
      rw [ek] at e
      have e : (dgetW kk a).map Z.w = some z := e
      cases eg : dgetW kk a with
      | none => rw [eg] at e; cases e
      | some w =>
        rw [eg] at e
        cases e
        obtain ⟨p, xs, rfl, k1, k2⟩ := h1
        have ev : v' = kV kk := kOf_rel (G := G) (S := S) (H := H) ek (by cases k with | int i => exact h2 | str i => exact h2 | _ => cases ek)
        subst ev
        obtain ⟨y, hy, ry⟩ := (k2.get (k := kk)).1 w eg
        have g : DGet H p (kV kk) (some y) := by rw [← hy]; exact DGet.k k1
        exact ⟨_, _, rfl, .inl (.inr (.inr ⟨p, y, rfl, g, q.w ry⟩))⟩
  · rename_i a k
    obtain ⟨v, v', rfl, h1, h2⟩ := vws2 hv
    by_cases ht : tkW k = true
    · rw [if_pos ht] at e
      cases eg : dgetN k a with
      | none => rw [eg] at e; cases e
      | some w =>
        rw [eg] at e
        cases e
        exact ⟨_, _, rfl, .inr ⟨S, a, k, w, ⟨h1, vw_key ht h2, ht⟩, eg, fun v r => q.w r⟩⟩
    · rw [if_neg ht] at e; cases e
  · cases e

/-! ### slices -/
def rSl2 (K : PySem.W.Frag) : V → Option Int → Option Int → Hp → VK → Prop := fun x lo hi H Q => rSlA K x lo hi H Q ∨ rSlL K x lo hi H Q
theorem sl_2 : SlR X (rSl2 X.K) := sl_tupA.or sl_list
theorem rps_cut {S : AS} {H : Hp} {ws : List W} {vs : List V} (lo hi : Option Int) (r : Rps G S H ws vs) : Rps G S H ((ws.drop (HT.sIx ws.length 0 lo)).take (HT.sIx ws.length ws.length hi - HT.sIx ws.length 0 lo)) (cutV vs lo hi) := by
  unfold cutV
  rw [r.length]
  exact Rps.take _ (Rps.drop _ r)
theorem rps_ints {S : AS} {H : Hp} : ∀ ns : List Int, Rps G S H (ns.map .int) (ns.map V.int)
  | [] => .nil
  | n :: ns => .cons (rp_int _ _ _) (rps_ints ns)
theorem pk_sl (hG : G.K = X.K) (lo hi : Option Int) : PrOk G (one fun x H Q => rSl2 X.K x lo hi H Q) (prW (.sl lo hi)) := by
  intro S H ws vs z Q hv e q
  change p_sl lo hi ws = some z at e
  unfold p_sl at e
  split at e
  · rename_i a
    obtain ⟨v, rfl, h1⟩ := vws1 hv
    obtain ⟨p, xs, rfl, k1, k2⟩ := vw_tup h1
    cases e
    refine ⟨_, rfl, .inl ⟨p, xs, rfl, hG ▸ k1, fun hw => ?_, fun _ => q.tup (rps_cut lo hi k2)⟩⟩
    refine q.w ?_
    rw [k2.length] at hw
    rw [hw.1, hw.2]
    simp only [List.drop_zero, Nat.sub_zero, List.take_length]
    unfold Rp
    exact ⟨p, xs, rfl, k1, k2⟩
  · rename_i a
    obtain ⟨v, rfl, h1⟩ := vws1 hv
    obtain ⟨p, xs, rfl, k1, k2⟩ := h1
    cases e
    exact ⟨_, rfl, .inr ⟨p, xs, rfl, SqL.of k1, q.lst (rps_cut lo hi k2)⟩⟩
  · rename_i a
    obtain ⟨v, rfl, h1⟩ := vws1 hv
    obtain ⟨p, rfl, k1⟩ := vw_scr h1
    cases e
    have k2 : SqL X.K H p (a.map V.int) := k1.elim (fun k => hG ▸ k.sq) fun k => SqL.of k.2
    refine ⟨_, rfl, .inr ⟨p, _, rfl, k2, q.lst ?_⟩⟩
    have z := rps_cut lo hi (rps_ints (G := G) (S := S) (H := H) a)
    simpa [List.map_take, List.map_drop] using z
  · cases e

/-! ### built-in functions -/
theorem call_lenK : CallR X (.builtin "len") (fun xs H Q => ∃ a kvs, xs = [.ref a] ∧ Rd H a (.dK kvs) ∧ Q (.int kvs.length) H) := by
  intro pins s σ H xs us Q I r h
  obtain ⟨a, kvs, rfl, e, q⟩ := h
  obtain rfl := Vals.ref1 r
  exact d_len I e fun t s' I' => ⟨.int _, H, I', ⟨_, rfl⟩, q⟩
def rLen2 (K : PySem.W.Frag) : List V → Hp → VK → Prop := fun xs H Q => (∃ x n, xs = [x] ∧ LenV K x H n ∧ Q (.int n) H) ∨ ∃ a kvs, xs = [.ref a] ∧ Rd H a (.dK kvs) ∧ Q (.int kvs.length) H
theorem call_len2 : CallR X (.builtin "len") (rLen2 X.K) := call_len.or call_lenK
def rLen3 (G : Gc) (K : PySem.W.Frag) : List V → Hp → VK → Prop := fun xs H Q => rLen2 K xs H Q ∨ rLenN G xs H Q
theorem call_len3 (hG : G.K = X.K) (hw : G.w = X.w) : CallR X (.builtin "len") (rLen3 G X.K) := call_len2.or (call_lenN hG hw)
theorem pk_len (hG : G.K = X.K) : PrOk G (rLen3 G X.K) (prW .len) := by
  intro S H ws vs z Q hv e q
  change p_len ws = some z at e
  unfold p_len at e
  split at e
  · rename_i a
    obtain ⟨v, rfl, h1⟩ := vws1 hv
    obtain ⟨p, xs, rfl, k1, k2⟩ := vw_tup h1
    cases e
    refine .inl (.inl ⟨_, xs.length, rfl, .inr ⟨xs, hG ▸ k1, rfl⟩, ?_⟩)
    rw [k2.length]
    exact q.w (rp_int S H _)
  · rename_i a
    obtain ⟨v, rfl, h1⟩ := vws1 hv
    obtain ⟨p, xs, rfl, k1, k2⟩ := h1
    cases e
    refine .inl (.inl ⟨_, xs.length, rfl, .inl ⟨xs, SqL.of k1, rfl⟩, ?_⟩)
    rw [k2.length]
    exact q.w (rp_int S H _)
  · rename_i a
    obtain ⟨v, rfl, h1⟩ := vws1 hv
    obtain ⟨p, xs, rfl, k1, k2⟩ := h1
    cases e
    refine .inl (.inr ⟨p, xs, rfl, .inl k1, ?_⟩)
    rw [k2.len]
    exact q.w (rp_int S H _)
  · rename_i a
    obtain ⟨v, rfl, h1⟩ := vws1 hv
    cases e
    exact .inr ⟨S, a, v, rfl, h1, q.w (rp_int S H _)⟩
  · cases e
theorem asBls_vals {S : AS} {H : Hp} : ∀ {ws : List W} {vs : List V} {bs : List Bool}, Rps G S H ws vs → asBls ws = some bs → vs = bs.map V.bl
  | [], vs, bs, r, e => by cases e; exact r.inv0
  | w :: ws, vs, bs, r, e => by
    obtain ⟨v, r', rfl, h1, h2⟩ := r.inv
    cases w with
    | bl b =>
      have e : (asBls ws).map (b :: ·) = some bs := e
      cases q : asBls ws with
      | none => rw [q] at e; cases e
      | some cs =>
        rw [q] at e
        cases e
        unfold Rp at h1
        rw [h1, asBls_vals h2 q]
        rfl
    | _ => cases e
theorem asInts_vals {S : AS} {H : Hp} : ∀ {ws : List W} {vs : List V} {bs : List Int}, Rps G S H ws vs → asInts ws = some bs → vs = bs.map V.int
  | [], vs, bs, r, e => by cases e; exact r.inv0
  | w :: ws, vs, bs, r, e => by
    obtain ⟨v, r', rfl, h1, h2⟩ := r.inv
    cases w with
    | int b =>
      have e : (asInts ws).map (b :: ·) = some bs := e
      cases q : asInts ws with
      | none => rw [q] at e; cases e
      | some cs =>
        rw [q] at e
        cases e
        unfold Rp at h1
        rw [h1, asInts_vals h2 q]
        rfl
    | _ => cases e
theorem pk_all (hG : G.K = X.K) : PrOk G (rAll X.K) (prW .all) := by
  intro S H ws vs z Q hv e q
  change p_all ws = some z at e
  unfold p_all at e
  split at e
  · rename_i a
    obtain ⟨v, rfl, h1⟩ := vws1 hv
    obtain ⟨p, xs, rfl, k1, k2⟩ := h1
    cases eb : asBls a with
    | none => rw [eb] at e; cases e
    | some bs =>
      rw [eb] at e
      cases e
      rw [asBls_vals k2 eb] at k1
      exact ⟨p, bs, rfl, SqL.of k1, q.w (rp_bl S H _)⟩
  · cases e
theorem pk_any (hG : G.K = X.K) : PrOk G (rAny X.K) (prW .any) := by
  intro S H ws vs z Q hv e q
  change p_any ws = some z at e
  unfold p_any at e
  split at e
  · rename_i a
    obtain ⟨v, rfl, h1⟩ := vws1 hv
    obtain ⟨p, xs, rfl, k1, k2⟩ := h1
    cases eb : asBls a with
    | none => rw [eb] at e; cases e
    | some bs =>
      rw [eb] at e
      cases e
      rw [asBls_vals k2 eb] at k1
      exact ⟨p, bs, rfl, SqL.of k1, q.w (rp_bl S H _)⟩
  · cases e
theorem pk_abs : PrOk G (fun xs H Q => ∃ i, xs = [.int i] ∧ Q (.int (if i < 0 then -i else i)) H) (prW .abs) := by
  intro S H ws vs z Q hv e q
  change p_abs ws = some z at e
  unfold p_abs at e
  split at e
  · rename_i i
    obtain ⟨v, rfl, h1⟩ := vws1 hv
    obtain rfl := vw_int h1
    cases e
    exact ⟨i, rfl, q.w (rp_int S H _)⟩
  · cases e
theorem pk_int : PrOk G (fun xs H Q => (∃ i, xs = [.int i] ∧ Q (.int i) H) ∨ ∃ k, xs = [.bl k] ∧ Q (.int (if k then 1 else 0)) H) (prW .int) := by
  intro S H ws vs z Q hv e q
  change p_int ws = some z at e
  unfold p_int at e
  split at e
  · rename_i i
    obtain ⟨v, rfl, h1⟩ := vws1 hv
    obtain rfl := vw_int h1
    cases e
    exact .inl ⟨i, rfl, q.w (rp_int S H _)⟩
  · cases e
theorem pk_sum (hG : G.K = X.K) : PrOk G (rSum X.K) (prW .sum) := by
  intro S H ws vs z Q hv e q
  change p_sum ws = some z at e
  unfold p_sum at e
  split at e
  · rename_i a
    obtain ⟨v, rfl, h1⟩ := vws1 hv
    obtain ⟨p, xs, rfl, k1, k2⟩ := h1
    cases eb : asInts a with
    | none => rw [eb] at e; cases e
    | some bs =>
      rw [eb] at e
      cases e
      rw [asInts_vals k2 eb] at k1
      exact ⟨p, bs, rfl, SqL.of k1, q.w (rp_int S H _)⟩
  · cases e
theorem pk_list (hG : G.K = X.K) : PrOk G (fun xs H Q => ∃ p ys, xs = [.ref p] ∧ (SqL X.K H p ys ∨ SqT X.K H p ys) ∧ ∀ l, H l = none → Q (.ref l) (upd H l (.lst ys))) (prW .list) := by
  intro S H ws vs z Q hv e q
  change p_list ws = some z at e
  unfold p_list at e
  split at e
  · obtain ⟨v, rfl, h1⟩ := vws1 hv
    obtain ⟨p, xs, rfl, k1, k2⟩ := vw_tup h1
    cases e
    exact ⟨p, xs, rfl, .inr (hG ▸ k1), q.lst k2⟩
  · obtain ⟨v, rfl, h1⟩ := vws1 hv
    obtain ⟨p, xs, rfl, k1, k2⟩ := h1
    cases e
    exact ⟨p, xs, rfl, .inl (SqL.of k1), q.lst k2⟩
  · cases e
theorem pk_tuple (hG : G.K = X.K) : PrOk G (fun xs H Q => ∃ p ys, xs = [.ref p] ∧ ((SqL X.K H p ys ∧ ∀ l, H l = none → Q (.ref l) (upd H l (.tup ys))) ∨ (SqT X.K H p ys ∧ Q (.ref p) H))) (prW .tuple) := by
  intro S H ws vs z Q hv e q
  change p_tuple ws = some z at e
  unfold p_tuple at e
  split at e
  · obtain ⟨v, rfl, h1⟩ := vws1 hv
    obtain ⟨p, xs, rfl, k1, k2⟩ := vw_tup h1
    cases e
    exact ⟨p, xs, rfl, .inr ⟨hG ▸ k1, q.w (by unfold Rp; exact ⟨p, xs, rfl, k1, k2⟩)⟩⟩
  · obtain ⟨v, rfl, h1⟩ := vws1 hv
    obtain ⟨p, xs, rfl, k1, k2⟩ := h1
    cases e
    exact ⟨p, xs, rfl, .inl ⟨SqL.of k1, q.tup k2⟩⟩
  · cases e
end
end Cb

end
section
set_option maxRecDepth 100000
set_option maxHeartbeats 4000000
/-! sorted -/
namespace Cb
open PySem PySem.Spec PyProof.Rows PySem.W

/-! ### the order of data, as the library has it -/
mutual
theorem alike_of : ∀ {a b : W}, cmpW a b = true → alike (toD a) (toD b) = true
  | .int _, .int _, _ => by simp [toD, alike]
  | .tup a, .tup b, h => by
    unfold cmpW at h
    simp only [toD, alike]
    exact alikes_of h
  | .int _, .non, h => by simp [cmpW] at h
  | .int _, .bl _, h => by simp [cmpW] at h
  | .int _, .str _, h => by simp [cmpW] at h
  | .int _, .tup _, h => by simp [cmpW] at h
  | .int _, .lst _, h => by simp [cmpW] at h
  | .int _, .dK _, h => by simp [cmpW] at h
  | .int _, .dW _, h => by simp [cmpW] at h
  | .int _, .fn _, h => by simp [cmpW] at h
  | .int _, .obj _ _, h => by simp [cmpW] at h
  | .int _, .scr _, h => by simp [cmpW] at h
  | .tup _, .non, h => by simp [cmpW] at h
  | .tup _, .bl _, h => by simp [cmpW] at h
  | .tup _, .str _, h => by simp [cmpW] at h
  | .tup _, .int _, h => by simp [cmpW] at h
  | .tup _, .lst _, h => by simp [cmpW] at h
  | .tup _, .dK _, h => by simp [cmpW] at h
  | .tup _, .dW _, h => by simp [cmpW] at h
  | .tup _, .fn _, h => by simp [cmpW] at h
  | .tup _, .obj _ _, h => by simp [cmpW] at h
  | .tup _, .scr _, h => by simp [cmpW] at h
  | .non, _, h => by simp [cmpW] at h
  | .bl _, _, h => by simp [cmpW] at h
  | .str _, _, h => by simp [cmpW] at h
  | .lst _, _, h => by simp [cmpW] at h
  | .dK _, _, h => by simp [cmpW] at h
  | .dW _, _, h => by simp [cmpW] at h
  | .fn _, _, h => by simp [cmpW] at h
  | .obj _ _, _, h => by simp [cmpW] at h
  | .scr _, _, h => by simp [cmpW] at h
theorem alikes_of : ∀ {a b : List W}, cmpWs a b = true → alikeAll (toDs a) (toDs b) = true
  | [], _, _ => by simp [toDs, alikeAll]
  | _ :: _, [], _ => by simp [toDs, alikeAll]
  | a :: r, b :: s, h => by
    unfold cmpWs at h
    rw [Bool.and_eq_true] at h
    simp only [toDs, alikeAll, alike_of h.1, alikes_of h.2]
    rfl
end
/-- two that can be compared: ints, or tuples -/
theorem cmp_cases {a b : W} (h : cmpW a b = true) : (∃ i j, a = .int i ∧ b = .int j) ∨ ∃ r s, a = .tup r ∧ b = .tup s ∧ cmpWs r s = true := by
  unfold cmpW at h
  split at h
  · exact .inl ⟨_, _, rfl, rfl⟩
  · exact .inr ⟨_, _, rfl, rfl, h⟩
  · cases h
theorem eqv_nil1 (b : List PyData) : ∀ y, PyProof.Rows.lexLt itemOrd (keyToksAll []) (keyToksAll (y :: b)) = true := fun y => by
  rw [toks_all_cons]
  simp only [keyToksAll]
  rw [lex_diff (O := itemOrd) (by simp)]
  rfl
theorem eqv_nil2 (b : List PyData) : ∀ y, PyProof.Rows.lexLt itemOrd (keyToksAll (y :: b)) (keyToksAll []) = false := fun y => by
  rw [toks_all_cons]
  simp only [keyToksAll]
  rw [lex_diff (O := itemOrd) (by simp)]
  rfl
mutual
theorem dataLt_of : ∀ (a b : W), cmpW a b = true → plainW a = true → plainW b = true → dataLt (toD a) (toD b) = ltW a b
  | .int i, b, h, _, _ => by
    rcases cmp_cases h with ⟨i', j, e1, e2⟩ | ⟨r, s, e1, _⟩
    · cases e1; subst e2
      simp only [toD, ltW]
      exact dataLt_int i j
    · cases e1
  | .tup a, b, h, h1, h2 => by
    rcases cmp_cases h with ⟨i', j, e1, e2⟩ | ⟨r, s, e1, e2, h3⟩
    · cases e1
    · cases e1; subst e2
      unfold plainW at h1 h2
      simp only [toD, ltW]
      rw [dataLt_tuple]
      exact dataLts_of a s h3 h1 h2
  | .non, b, h, _, _ => by simp [cmpW] at h
  | .bl _, b, h, _, _ => by simp [cmpW] at h
  | .str _, b, h, _, _ => by simp [cmpW] at h
  | .lst _, b, h, _, _ => by simp [cmpW] at h
  | .dK _, b, h, _, _ => by simp [cmpW] at h
  | .dW _, b, h, _, _ => by simp [cmpW] at h
  | .fn _, b, h, _, _ => by simp [cmpW] at h
  | .obj _ _, b, h, _, _ => by simp [cmpW] at h
  | .scr _, b, h, _, _ => by simp [cmpW] at h
theorem dataLts_of : ∀ (a b : List W), cmpWs a b = true → plainWs a = true → plainWs b = true → PyProof.Rows.lexLt itemOrd (keyToksAll (toDs a)) (keyToksAll (toDs b)) = ltWs a b
  | [], [], _, _, _ => by simp only [toDs, ltWs]; exact lex_irrefl _
  | [], y :: b, _, _, _ => by simp only [toDs, ltWs]; exact eqv_nil1 _ _
  | x :: a, [], _, _, _ => by simp only [toDs, ltWs]; exact eqv_nil2 _ _
  | x :: a, y :: b, h, h1, h2 => by
    unfold cmpWs at h
    unfold plainWs at h1 h2
    rw [Bool.and_eq_true] at h h1 h2
    simp only [toDs, ltWs]
    rw [dataLt_cons (alike_of h.1), eqv_toD h1.1 h2.1, dataLt_of x y h.1 h1.1 h2.1, dataLts_of a b h.2 h1.2 h2.2]
end
mutual
theorem cmp_tri : ∀ (a b : W), cmpW a b = true → ltW a b = false → ltW b a = false → a = b
  | .int i, b, h, h1, h2 => by
    rcases cmp_cases h with ⟨i', j, e1, e2⟩ | ⟨r, s, e1, _⟩
    · cases e1; subst e2
      unfold ltW at h1 h2
      have h1 := of_decide_eq_false h1
      have h2 := of_decide_eq_false h2
      have : i = j := by omega
      rw [this]
    · cases e1
  | .tup a, b, h, h1, h2 => by
    rcases cmp_cases h with ⟨i', j, e1, e2⟩ | ⟨r, s, e1, e2, h3⟩
    · cases e1
    · cases e1; subst e2
      unfold ltW at h1 h2
      rw [cmps_tri a s h3 h1 h2]
  | .non, b, h, _, _ => by simp [cmpW] at h
  | .bl _, b, h, _, _ => by simp [cmpW] at h
  | .str _, b, h, _, _ => by simp [cmpW] at h
  | .lst _, b, h, _, _ => by simp [cmpW] at h
  | .dK _, b, h, _, _ => by simp [cmpW] at h
  | .dW _, b, h, _, _ => by simp [cmpW] at h
  | .fn _, b, h, _, _ => by simp [cmpW] at h
  | .obj _ _, b, h, _, _ => by simp [cmpW] at h
  | .scr _, b, h, _, _ => by simp [cmpW] at h
theorem cmps_tri : ∀ (a b : List W), cmpWs a b = true → ltWs a b = false → ltWs b a = false → a = b
  | [], [], _, _, _ => rfl
  | [], y :: b, _, h1, _ => by simp [ltWs] at h1
  | x :: a, [], _, _, h2 => by simp [ltWs] at h2
  | x :: a, y :: b, h, h1, h2 => by
    unfold cmpWs at h
    rw [Bool.and_eq_true] at h
    unfold ltWs at h1 h2
    by_cases e1 : eqW x y = true
    · rw [if_pos e1] at h1
      have exy := cmp_eq x y h.1 e1
      subst exy
      rw [if_pos e1] at h2
      rw [cmps_tri a b h.2 h1 h2]
    · rw [if_neg e1] at h1
      by_cases e2 : eqW y x = true
      · have exy := cmp_eq y x (cmp_comm x y h.1) e2
        subst exy
        exact absurd e2 e1
      · rw [if_neg e2] at h2
        have exy := cmp_tri x y h.1 h1 h2
        subst exy
        exact absurd (cmp_refl_eq x h.1) e1
theorem cmp_eq : ∀ (a b : W), cmpW a b = true → eqW a b = true → a = b
  | .int i, b, h, h1 => by
    rcases cmp_cases h with ⟨i', j, e1, e2⟩ | ⟨r, s, e1, _⟩
    · cases e1; subst e2
      unfold eqW at h1
      rw [beq_iff_eq.mp h1]
    · cases e1
  | .tup a, b, h, h1 => by
    rcases cmp_cases h with ⟨i', j, e1, e2⟩ | ⟨r, s, e1, e2, h3⟩
    · cases e1
    · cases e1; subst e2
      unfold eqW at h1
      rw [cmps_eq a s h3 h1]
  | .non, b, h, _ => by simp [cmpW] at h
  | .bl _, b, h, _ => by simp [cmpW] at h
  | .str _, b, h, _ => by simp [cmpW] at h
  | .lst _, b, h, _ => by simp [cmpW] at h
  | .dK _, b, h, _ => by simp [cmpW] at h
  | .dW _, b, h, _ => by simp [cmpW] at h
  | .fn _, b, h, _ => by simp [cmpW] at h
  | .obj _ _, b, h, _ => by simp [cmpW] at h
  | .scr _, b, h, _ => by simp [cmpW] at h
theorem cmps_eq : ∀ (a b : List W), cmpWs a b = true → eqWs a b = true → a = b
  | [], [], _, _ => rfl
  | [], y :: b, _, h1 => by simp [eqWs] at h1
  | x :: a, [], _, h2 => by simp [eqWs] at h2
  | x :: a, y :: b, h, h1 => by
    unfold cmpWs at h
    unfold eqWs at h1
    rw [Bool.and_eq_true] at h h1
    rw [cmp_eq x y h.1 h1.1, cmps_eq a b h.2 h1.2]
theorem cmp_comm : ∀ (a b : W), cmpW a b = true → cmpW b a = true
  | .int i, b, h => by
    rcases cmp_cases h with ⟨i', j, e1, e2⟩ | ⟨r, s, e1, _⟩
    · cases e1; subst e2
      rfl
    · cases e1
  | .tup a, b, h => by
    rcases cmp_cases h with ⟨i', j, e1, e2⟩ | ⟨r, s, e1, e2, h3⟩
    · cases e1
    · cases e1; subst e2
      unfold cmpW
      exact cmps_comm a s h3
  | .non, b, h => by simp [cmpW] at h
  | .bl _, b, h => by simp [cmpW] at h
  | .str _, b, h => by simp [cmpW] at h
  | .lst _, b, h => by simp [cmpW] at h
  | .dK _, b, h => by simp [cmpW] at h
  | .dW _, b, h => by simp [cmpW] at h
  | .fn _, b, h => by simp [cmpW] at h
  | .obj _ _, b, h => by simp [cmpW] at h
  | .scr _, b, h => by simp [cmpW] at h
theorem cmps_comm : ∀ (a b : List W), cmpWs a b = true → cmpWs b a = true
  | [], [], _ => rfl
  | [], y :: b, _ => rfl
  | x :: a, [], _ => rfl
  | x :: a, y :: b, h => by
    unfold cmpWs at h ⊢
    rw [Bool.and_eq_true] at h ⊢
    exact ⟨cmp_comm x y h.1, cmps_comm a b h.2⟩
theorem cmp_refl_eq : ∀ (a : W), cmpW a a = true → eqW a a = true
  | .int i, h => by unfold eqW; exact beq_self_eq_true i
  | .tup a, h => by
    unfold cmpW at h
    unfold eqW
    exact cmps_refl_eq a h
  | .non, h => by simp [cmpW] at h
  | .bl _, h => by simp [cmpW] at h
  | .str _, h => by simp [cmpW] at h
  | .lst _, h => by simp [cmpW] at h
  | .dK _, h => by simp [cmpW] at h
  | .dW _, h => by simp [cmpW] at h
  | .fn _, h => by simp [cmpW] at h
  | .obj _ _, h => by simp [cmpW] at h
  | .scr _, h => by simp [cmpW] at h
theorem cmps_refl_eq : ∀ (a : List W), cmpWs a a = true → eqWs a a = true
  | [], _ => rfl
  | x :: a, h => by
    unfold cmpWs at h
    unfold eqWs
    rw [Bool.and_eq_true] at h ⊢
    exact ⟨cmp_refl_eq x h.1, cmps_refl_eq a h.2⟩
end
/-! ### insertion sorts -/
theorem insW_perm {lt : W → W → Bool} {x : W} : ∀ l : List W, (insW lt x l).Perm (x :: l)
  | [] => List.Perm.refl _
  | y :: r => by
    unfold insW
    split
    · exact (List.Perm.cons y (insW_perm r)).trans (List.Perm.swap x y r)
    · exact List.Perm.refl _
theorem sortW_perm {lt : W → W → Bool} : ∀ l : List W, (sortW lt l).Perm l
  | [] => List.Perm.refl _
  | x :: l => (insW_perm _).trans (List.Perm.cons x (sortW_perm l))
theorem insW_pw {lt : W → W → Bool} (T : TotalLe fun a b => !lt b a) {x : W} : ∀ {l : List W}, l.Pairwise (fun a b => (!lt b a) = true) → (insW lt x l).Pairwise fun a b => (!lt b a) = true
  | [], _ => List.pairwise_singleton _ _
  | y :: r, h => by
    obtain ⟨h1, h2⟩ := List.pairwise_cons.mp h
    unfold insW
    split
    · rename_i hlt
      refine List.pairwise_cons.mpr ⟨fun z hz => ?_, insW_pw T h2⟩
      rcases List.mem_cons.mp ((insW_perm r).mem_iff.mp hz) with e | e
      · subst e
        rcases T.total y z with q | q
        · exact q
        · have q : (!lt y z) = true := q
          rw [hlt] at q; cases q
      · exact h1 z e
    · rename_i hlt
      have hlt : (!lt y x) = true := by cases q : lt y x <;> simp_all
      refine List.pairwise_cons.mpr ⟨fun z hz => ?_, h⟩
      rcases List.mem_cons.mp hz with e | e
      · subst e; exact hlt
      · exact T.trans x y z hlt (h1 z e)
theorem sortW_pw {lt : W → W → Bool} (T : TotalLe fun a b => !lt b a) : ∀ l : List W, (sortW lt l).Pairwise fun a b => (!lt b a) = true
  | [] => List.Pairwise.nil
  | x :: l => insW_pw T (sortW_pw T l)
theorem insW_congr {lt lt' : W → W → Bool} {x : W} : ∀ {l : List W}, (∀ y ∈ l, lt y x = lt' y x) → insW lt x l = insW lt' x l
  | [], _ => rfl
  | y :: r, h => by
    unfold insW
    rw [h y List.mem_cons_self, insW_congr fun z hz => h z (List.mem_cons_of_mem _ hz)]
theorem sortW_congr {lt lt' : W → W → Bool} : ∀ {l : List W}, (∀ x ∈ l, ∀ y ∈ l, lt x y = lt' x y) → sortW lt l = sortW lt' l
  | [], _ => rfl
  | x :: l, h => by
    unfold sortW
    rw [sortW_congr fun a ha b hb => h a (List.mem_cons_of_mem _ ha) b (List.mem_cons_of_mem _ hb)]
    exact insW_congr fun y hy => h y (List.mem_cons_of_mem _ ((sortW_perm l).mem_iff.mp hy)) x List.mem_cons_self
theorem total_data : TotalLe (dataLe false toD) := sortLe_total _ _ _
theorem sortable_iff {ws : List W} (h : sortable ws = true) : shWs ws = true ∧ ∀ a ∈ ws, ∀ b ∈ ws, cmpW a b = true := by
  unfold sortable at h
  rw [Bool.and_eq_true] at h
  exact ⟨h.1, fun a ha b hb => List.all_eq_true.mp (List.all_eq_true.mp h.2 a ha) b hb⟩
theorem sort_eq {ws : List W} (h : sortable ws = true) : ws.mergeSort (dataLe false toD) = sortW ltW ws := by
  obtain ⟨h1, h2⟩ := sortable_iff h
  have hp : ∀ x ∈ ws, plainW x = true := fun x hx => plainWs_mem (shWs_iff h1).1 hx
  have e : sortW ltW ws = sortW (fun a b => dataLt (toD a) (toD b)) ws := sortW_congr fun x hx y hy => (dataLt_of x y (h2 x hx y hy) (hp x hx) (hp y hy)).symm
  have hle : dataLe false toD = fun a b => !dataLt (toD b) (toD a) := rfl
  rw [e]
  refine List.Perm.eq_of_pairwise (le := fun a b => dataLe false toD a b = true) (fun a b ha hb h3 h4 => ?_) (sort_pairwise total_data ws) (sortW_pw total_data ws) ((List.mergeSort_perm _ _).trans (sortW_perm ws).symm)
  have ha : a ∈ ws := (List.mergeSort_perm _ _).mem_iff.mp ha
  have hb : b ∈ ws := (sortW_perm ws).mem_iff.mp hb
  rw [hle] at h3 h4
  have h3 : dataLt (toD b) (toD a) = false := by simpa using h3
  have h4 : dataLt (toD a) (toD b) = false := by simpa using h4
  rw [dataLt_of _ _ (h2 b hb a ha) (hp b hb) (hp a ha)] at h3
  rw [dataLt_of _ _ (h2 a ha b hb) (hp a ha) (hp b hb)] at h4
  exact cmp_tri a b (h2 a ha b hb) h4 h3
end Cb

end
section
set_option maxRecDepth 100000
set_option maxHeartbeats 4000000
/-! sorted(xs), as the machine does it -/
namespace Cb
open PySem PySem.Spec PyProof.Rows PySem.W PySem.Calls PySem.SeqAt
section
variable {prog : Program} {w : World} {A : Around} {E : Value → Shared → Prop} {s : Shared}
theorem oneLt_tup {f : Bool} {xs ys : List PyData} {a b : Value} {as bs : List Addr} {Q : Bool → Shared → Prop} (ra : Reads s.heap a (.tuple xs) as) (rb : Reads s.heap b (.tuple ys) bs) (hal : alikeAll xs ys = true)
    (hu : A.units + min (PyData.depth (.tuple xs)) (PyData.depth (.tuple ys)) < cLine) (hq : Q (dataLt (.tuple xs) (.tuple ys)) s) : wpAny (model prog w) A (oneLt' f a b) Q E s := by
  cases f with
  | false =>
    rw [oneLt'_eq]
    simp only [Bool.false_eq_true, if_false]
    exact wpAny_bind (rcLt_alike (.tuple xs) (.tuple ys) A s a b as bs ra rb (by simpa [alike] using hal) (by simp) hu prog w E _ (wpAny_truthy_bool hq))
  | true =>
    cases ra with
    | @tuple l o vs n _ as₁ h1 h2 h3 h4 =>
      cases rb with
      | @tuple l' o' vs' n' _ bs₁ k1 k2 k3 k4 =>
        have n1 : vs.size = xs.length := by simpa using SeqAt.ReadsAll.length _ _ _ h4
        have n2 : vs'.size = ys.length := by simpa using SeqAt.ReadsAll.length _ _ _ k4
        rw [dataLt_tuple, ← firstLt_toks xs ys hal, ← n1, ← n2] at hq
        rw [oneLt'_eq]
        simp only [if_true]
        refine wpAny_bind (wpAny_cRoomFor (SeqAt.room_here hu) ?_)
        obtain ⟨cls, dd, data, sl⟩ := o
        obtain ⟨cls2, dd2, data2, sl2⟩ := o'
        simp only at h2 h3 k2 k3
        subst h2 h3 k2 k3
        refine wpAny_bind (wpAny_callSpecialIfBound?_slot (T := "tuple") ⟨_, h1, rfl⟩ F.slot_tuple_lt (call_meets F.slot_tuple_lt ⟨_, h1, rfl⟩ F.entry_tuple_lt (F.args_tuple_lt_2 _ _)
          (PySem.SeqAt.tuple_ltAt l l' vs vs' n n' dd dd2 sl sl2 (pairEq xs ys) (fun j => dataLt (xs.getD j .none) (ys.getD j .none))) ⟨h1, k1, fun j j1 j2 => ?_, fun j j1 j2 hj => ?_, ?_⟩))
        · have := eqAt_alikeAll xs ys A.in1 s vs.toList vs'.toList _ _ h4 k4 hal (SeqAt.room_in hu) j (by simpa using j1) (by simpa using j2)
          simpa using this
        · have := rcLt_alikeAll xs ys A.in1 s vs.toList vs'.toList _ _ h4 k4 hal (SeqAt.room_in hu) j (by simpa using j1) (by simpa using j2) hj
          simpa using this
        · exact wpAny_truthy_bool hq
/-- a tuple, and its first item -/
def FirstOf (h : Heap) (v : Value) (f : Option Value) : Prop := ∃ a o xs n, v = .ref a ∧ h.get? a = some o ∧ o.cls = .type "tuple" ∧ o.data = .seq xs n ∧ xs[0]? = f
theorem firsts_any {M : Model} : ∀ {vs : List Value} {fs : List (Option Value)} {Q : List (Option Value) → Shared → Prop}, EachIs (FirstOf s.heap) vs fs → Q fs s → wpAny M A (vs.mapM firstOfTuple') Q E s
  | _, _, Q, .nil, h => by rw [List.mapM_nil]; exact wpAny_pure h
  | _, _, Q, .cons ⟨a, o, xs, n, e, ho, hc, hd, hf⟩ t, h => by
    subst e
    rw [List.mapM_cons]
    refine wpAny_bind ?_
    rw [kas_first_eq]
    refine wpAny_bind (Looks.here (show Looks M s.heap (typeOf (.ref a)) o.cls from (Looks.ld ho).andThen .now) ?_)
    rw [hc, if_neg (by first | decide | simp)]
    refine wpAny_bind (listItems_at ho hd (wpAny_pure ?_))
    rw [hf]
    exact wpAny_bind (firsts_any t (wpAny_pure h))
theorem firsts_of {h : Heap} : ∀ {vs : List Value} {ds : List PyData}, EachIs (fun v d => ∃ as, Reads h v d as) vs ds → (∀ d ∈ ds, ∃ t, d = .tuple t) → ∃ fs, EachIs (FirstOf h) vs fs ∧ fs.map Option.isSome = ds.map fun d => match d with | .tuple (_ :: _) => true | _ => false
  | _, _, .nil, _ => ⟨[], .nil, rfl⟩
  | _, _, .cons (b := d) ⟨as, r⟩ t, ht => by
    obtain ⟨fs, h1, h2⟩ := firsts_of t fun d hd => ht d (List.mem_cons_of_mem _ hd)
    obtain ⟨l, rfl⟩ := ht d (List.mem_cons_self ..)
    cases r with
    | @tuple a o xs n _ _ ho hc hd hr =>
      have hl : xs.size = l.length := by simpa using SeqAt.ReadsAll.length _ _ _ hr
      refine ⟨xs[0]? :: fs, .cons ⟨a, o, xs, n, rfl, ho, hc, hd, rfl⟩ h1, ?_⟩
      rw [List.map_cons, List.map_cons, h2]
      cases l with
      | nil =>
        have : xs[0]? = none := Array.getElem?_eq_none (by rw [hl]; exact Nat.le_refl _)
        rw [this]; rfl
      | cons x r =>
        have h0 : 0 < xs.size := by rw [hl]; exact Nat.succ_pos _
        rw [Array.getElem?_eq_getElem h0]; rfl
theorem kind_tups {M : Model} {vs : List Value} {fs : List (Option Value)} {Q : SortKind → Shared → Prop} (e : EachIs (FirstOf s.heap) vs fs) (hne : vs ≠ []) (hno : (fs.all fun f => f.isSome) = false) (h : Q (if (fs[0]?.bind id).isSome then general' else oneType') s) :
    wpAny M A (keyKind' vs.toArray) Q E s := by
  rw [keyKind'_eq, List.mapM_toArray, map_eq_pure_bind]
  refine wpAny_bind (wpAny_bind (firsts_any e (wpAny_pure ?_)))
  rw [if_neg (by rw [List.all_toArray, hno]; exact Bool.false_ne_true)]
  have e0 : (fs.toArray[0]?.bind id) = fs[0]?.bind id := by simp
  rw [e0]
  by_cases h0 : (fs[0]?.bind id).isSome = true
  · rw [if_pos h0] at h ⊢
    exact wpAny_pure h
  · rw [if_neg h0] at h ⊢
    rw [oneTypeOnly'_eq, List.mapM_toArray, map_eq_pure_bind]
    refine wpAny_bind (wpAny_bind (wpAny_bind (kas_mapM (r := Value.type "tuple") _ (fun v hv Q' hq => ?_) (wpAny_pure ?_))))
    · obtain ⟨f, _, a, o, xs, n, rfl, ho, hc, _⟩ := e.left v hv
      exact (show Looks M s.heap (typeOf (.ref a)) (Value.type "tuple") from hc ▸ (Looks.ld ho).andThen .now).here hq
    · obtain ⟨v, r, rfl⟩ : ∃ v r, vs = v :: r := by
        cases vs with
        | nil => exact absurd rfl hne
        | cons v r => exact ⟨v, r, rfl⟩
      have hall : ((List.map (fun _ => Value.type "tuple") (v :: r)).toArray.all fun x => x == Value.type "tuple") = true := by
        simp only [List.all_toArray, List.all_map, List.all_eq_true]
        intro _ _
        rfl
      have h0 : (List.map (fun _ => Value.type "tuple") (v :: r)).toArray[0]? = some (Value.type "tuple") := by simp
      rw [h0]
      simp only [hall, if_true]
      exact wpAny_pure (wpAny_pure h)
/-- tuples, some of them empty -/
theorem sorts_tups {vs : List Value} {ds : List PyData} (e : EachIs (fun v d => ∃ as, Reads s.heap v d as) vs ds) (hal : AllAlike ds) (ht : ∀ d ∈ ds, ∃ t, d = .tuple t) (hu : ∀ d, d ∈ ds → A.units + d.depth < cLine) : SortsAt prog w A s (dataKind s.heap ds) vs := by
  by_cases hn : ∀ d, d ∈ ds → ∃ x r, d = .tuple (x :: r)
  · exact SortsAt.data e hal (.inl hn) hu
  · obtain ⟨fs, h1, h2⟩ := firsts_of e ht
    refine ⟨fun v hv => ?_, if (fs[0]?.bind id).isSome then general' else oneType', fun E x y a b Q ha hb hq => ?_, fun h2' E Q hq => ?_⟩
    · obtain ⟨d, hd, as, r⟩ := e.left v hv
      exact ⟨_, dataKind_some hal hd r⟩
    · obtain ⟨d, as, hd, ra, rfl⟩ := dataKind_inv ha
      obtain ⟨d', as', hd', rb, rfl⟩ := dataKind_inv hb
      obtain ⟨l, rfl⟩ := ht d hd
      obtain ⟨l', rfl⟩ := ht d' hd'
      have hdd : alikeAll l l' = true := by simpa [alike] using hal _ hd _ hd'
      have hr : A.units + min (PyData.depth (.tuple l)) (PyData.depth (.tuple l')) < cLine := Nat.lt_of_le_of_lt (Nat.add_le_add_left (Nat.min_le_left _ _) _) (hu _ hd)
      have hq' : Q (dataLt (.tuple l) (.tuple l')) s := hq
      split
      · exact oneLt_tup (f := false) ra rb hdd hr hq'
      · exact oneLt_tup (f := true) ra rb hdd hr hq'
    · refine kind_tups h1 (fun e0 => by subst e0; simp at h2') ?_ hq
      have hx : ∃ d ∈ ds, ¬ ∃ x r, d = .tuple (x :: r) := Classical.byContradiction fun hc => hn fun d hd => Classical.byContradiction fun hd2 => hc ⟨d, hd, hd2⟩
      obtain ⟨d, hd, hd2⟩ := hx
      have hf : false ∈ fs.map Option.isSome := by
        rw [h2]
        refine List.mem_map.mpr ⟨d, hd, ?_⟩
        split
        · rename_i x r
          exact absurd ⟨x, r, rfl⟩ hd2
        · rfl
      obtain ⟨f, hf1, hf2⟩ := List.mem_map.mp hf
      exact List.all_eq_false.mpr ⟨f, hf1, by rw [hf2]; exact Bool.false_ne_true⟩
end
end Cb

end
section
set_option maxRecDepth 100000
set_option maxHeartbeats 4000000
/-! sorted(xs) as an operation -/
namespace Cb
open PySem PySem.Spec PyProof.Rows L2
open PySem.W (EachIs SortsAt AllAlike dataLe dataKind alike sort_maps sortingHeap copyHeap sorting_copy_old sortVals_data sortVals_length sorted_vals)
def rSortD (K : PySem.W.Frag) : List V → Hp → VK → Prop := fun vs H Q => ∃ (a : Addr) (xs : List V) (ds : List PyData), vs = [V.ref a] ∧ SqL K H a xs ∧ DpAll K H xs ds ∧ AllAlike ds ∧ ((∀ d ∈ ds, d ≠ .none ∧ ∀ t, d ≠ .tuple t) ∨ ∀ d ∈ ds, ∃ t, d = .tuple t) ∧ (∀ d ∈ ds, d.depth ≤ 60) ∧
  ∀ p, H p = none → Q (.ref p) (upd H p (.lst (((xs.zip ds).mergeSort (dataLe false fun q => q.2)).map fun q => q.1)))
theorem each_zip {h : Heap} : ∀ {vs : List Value} {xs : List V} {ds : List PyData} {as : List Addr}, Vals xs vs → ReadsAll h vs ds as → EachIs (fun v (p : V × PyData) => RelV p.1 v) vs (xs.zip ds) ∧ EachIs (fun v (p : V × PyData) => ∃ as, Reads h v p.2 as) vs (xs.zip ds) ∧ (xs.zip ds).map (fun q => q.2) = ds
  | _, _, _, _, .nil, r => by
    cases r
    exact ⟨.nil, .nil, rfl⟩
  | _, _, _, _, .cons h t, r => by
    cases r with
    | cons r1 r2 =>
      obtain ⟨a, b, c⟩ := each_zip t r2
      exact ⟨.cons h a, .cons ⟨_, r1⟩ b, by rw [List.zip_cons_cons, List.map_cons, c]⟩
theorem vals_each : ∀ {vs : List Value} {ps : List (V × PyData)}, EachIs (fun v (p : V × PyData) => RelV p.1 v) vs ps → Vals (ps.map fun q => q.1) vs
  | _, _, .nil => .nil
  | _, _, .cons h t => .cons h (vals_each t)
section
variable {G : Gc} {X : Cx} {S : AS} {H : Hp} {Q : VK}
theorem cr_sortD (hu : X.A.units + 65 < cLine) : CallR X (.builtin "sorted") (rSortD X.K) := by
  intro pins s σ H vs us Q I r h
  obtain ⟨a, xs, ds, rfl, hs, hd, hal, hk, hdp, q⟩ := h
  obtain ⟨its, rv, hl, hz⟩ := I.list hs
  rw [Vals.ref1 r]
  obtain ⟨as, hr⟩ := Dp.readsAll I ds xs its hd rv
  obtain ⟨e1, e2, e3⟩ := each_zip rv hr
  have er : EachIs (fun v (p : V × PyData) => ∃ as, Reads (sortingHeap (copyHeap s.heap its) (s.heap.objs.size + 1) its) v p.2 as) its (xs.zip ds) := e2.mono fun _ _ ⟨as, r⟩ => ⟨as, PyProof.Rows.Reads.keeps (fun _ _ => sorting_copy_old) r⟩
  have hud : ∀ d ∈ ds, X.A.in1.in1.units + d.depth < cLine := fun d hd => by
    have h1 : X.A.in1.in1.units ≤ X.A.units + 2 := Nat.le_refl _
    have h2 := hdp d hd
    omega
  have er' : EachIs (fun v d => ∃ as, Reads (sortingHeap (copyHeap s.heap its) (s.heap.objs.size + 1) its) v d as) its ds := by
    have z := PySem.W.each_map (R := fun v d => ∃ as, Reads (sortingHeap (copyHeap s.heap its) (s.heap.objs.size + 1) its) v d as) (fun q : V × PyData => q.2) er
    rwa [e3] at z
  have SA : SortsAt X.prog X.w X.A.in1.in1 { s with heap := sortingHeap (copyHeap s.heap its) (s.heap.objs.size + 1) its } (dataKind (sortingHeap (copyHeap s.heap its) (s.heap.objs.size + 1) its) ds) its := by
    rcases hk with hk | hk
    · exact PySem.W.SortsAt.data (s := { s with heap := sortingHeap (copyHeap s.heap its) (s.heap.objs.size + 1) its }) er' hal (.inr hk) hud
    · exact sorts_tups (s := { s with heap := sortingHeap (copyHeap s.heap its) (s.heap.objs.size + 1) its }) er' hal hk hud
  have hz' : its.length ≤ sizeLine := by rw [← rv.length]; exact hz
  have sd := sortVals_data (enc := fun q : V × PyData => q.2) false e1 er (by rw [e3]; exact hal)
  rw [e3] at sd
  refine sorted_vals hl.isList SA hz' ?_
  generalize hout : PySem.W.sortVals (dataKind (sortingHeap (copyHeap s.heap its) (s.heap.objs.size + 1) its) ds) false its its = out at sd
  obtain ⟨ep, he'⟩ := PyProof.Rows.sortedAll_at s.heap its out.toArray
  have hv := vals_each sd
  have hlen : (((xs.zip ds).mergeSort (dataLe false fun q => q.2)).map fun q => q.1).length ≤ sizeLine := by
    rw [List.length_map, (List.mergeSort_perm _ _).length_eq, ← e1.length]
    exact hz'
  exact ⟨.ref _, upd H (s.heap.objs.size + 1) (.lst _), I.laid (t' := s.toks) (fun _ _ => PyProof.Rows.sortedAll_old) (Nat.le_succ _) ⟨hlen, out, ep, hv, he'⟩, rfl, q _ (I.hok.fresh (Nat.le_succ _))⟩
theorem toDs_mem : ∀ {ws : List W} {d : PyData}, d ∈ toDs ws → ∃ w ∈ ws, d = toD w
  | [], _, h => by cases h
  | w :: ws, d, h => by
    rcases List.mem_cons.mp h with e | h
    · exact ⟨w, List.mem_cons_self, e⟩
    · obtain ⟨w', h1, h2⟩ := toDs_mem h
      exact ⟨w', List.mem_cons_of_mem _ h1, h2⟩
theorem zip_toDs : ∀ (vs : List V) (ws : List W), vs.zip (toDs ws) = (vs.zip ws).map fun p => (p.1, toD p.2)
  | [], ws => by cases ws <;> rfl
  | v :: vs, [] => rfl
  | v :: vs, w :: ws => by
    show (v, toD w) :: vs.zip (toDs ws) = (v, toD w) :: _
    rw [zip_toDs vs ws]; rfl
theorem rps_zip : ∀ {ws : List W} {vs : List V}, Rps G S H ws vs → (∀ p ∈ vs.zip ws, Rp G S H p.2 p.1) ∧ (vs.zip ws).map (fun p => p.2) = ws
  | [], vs, h => by rw [h.inv0]; exact ⟨fun p hp => absurd hp (by simp), rfl⟩
  | w :: ws, vs, h => by
    obtain ⟨v, r, rfl, h1, h2⟩ := h.inv
    obtain ⟨a, b⟩ := rps_zip h2
    refine ⟨fun p hp => ?_, by rw [List.zip_cons_cons, List.map_cons, b]⟩
    rcases List.mem_cons.mp hp with e | e
    · subst e; exact h1
    · exact a p e
theorem zip_rps : ∀ {ps : List (V × W)}, (∀ p ∈ ps, Rp G S H p.2 p.1) → Rps G S H (ps.map fun p => p.2) (ps.map fun p => p.1)
  | [], _ => .nil
  | p :: ps, h => .cons (h p List.mem_cons_self) (zip_rps fun q hq => h q (List.mem_cons_of_mem _ hq))
theorem cmp_kind {ws : List W} (h : ∀ a ∈ ws, ∀ b ∈ ws, cmpW a b = true) : (∀ d ∈ toDs ws, d ≠ .none ∧ ∀ t, d ≠ .tuple t) ∨ ∀ d ∈ toDs ws, ∃ t, d = .tuple t := by
  cases ws with
  | nil => exact .inl fun d hd => by cases hd
  | cons w ws =>
    cases w with
    | int i =>
      refine .inl fun d hd => ?_
      obtain ⟨w, hw, rfl⟩ := toDs_mem hd
      rcases cmp_cases (h _ List.mem_cons_self _ hw) with ⟨_, j, _, e⟩ | ⟨_, _, e, _⟩
      · subst e; simp [toD]
      · cases e
    | tup t =>
      refine .inr fun d hd => ?_
      obtain ⟨w, hw, rfl⟩ := toDs_mem hd
      rcases cmp_cases (h _ List.mem_cons_self _ hw) with ⟨_, _, e, _⟩ | ⟨_, r, _, e, _⟩
      · cases e
      · subst e; exact ⟨toDs r, rfl⟩
    | _ => exact absurd (h _ List.mem_cons_self _ List.mem_cons_self) (by simp [cmpW])
theorem pk_sorted (hG : G.K = X.K) : ∀ (S : AS) (H : Hp) (a : List W) (vs : List V) (z : Z) (Q : VK), Vws G S H [.lst a] vs → prW .sorted [.lst a] = some z → Res G S H z Q → rSortD X.K vs H Q := by
  intro S H a vs z Q hv e q
  change (if sortable a then some (.L (sortW ltW a)) else none) = some z at e
  · skip
    obtain ⟨v, rfl, h1⟩ := vws1 hv
    obtain ⟨p, xs, rfl, k1, k2⟩ := h1
    by_cases hs : sortable a = true
    · rw [if_pos hs] at e
      cases e
      obtain ⟨s1, s2⟩ := sortable_iff hs
      have sp := shWs_iff s1
      refine ⟨p, xs, toDs a, rfl, SqL.of k1, rps_dp (S := S) hG sp.1 k2, fun d hd d' hd' => ?_, cmp_kind s2, fun d hd => ?_, ?_⟩
      · obtain ⟨w, hw, rfl⟩ := toDs_mem hd
        obtain ⟨w', hw', rfl⟩ := toDs_mem hd'
        exact alike_of (s2 w hw w' hw')
      · obtain ⟨w, hw, rfl⟩ := toDs_mem hd
        rw [(toD_lay (plainWs_mem sp.1 hw)).2]
        exact Nat.le_trans (depWs_mem hw) sp.2
      · obtain ⟨r1, r2⟩ := rps_zip k2
        have e1 : ((xs.zip (toDs a)).mergeSort (dataLe false fun q => q.2)).map (fun q => q.1) = ((xs.zip a).mergeSort (dataLe false fun q => toD q.2)).map (fun q => q.1) := by
          rw [zip_toDs, ← sort_maps (r := dataLe false fun q : V × W => toD q.2) (s := dataLe false fun q : V × PyData => q.2) (fun p : V × W => (p.1, toD p.2)) (fun _ _ _ _ => rfl), List.map_map]
          rfl
        have e2 : ((xs.zip a).mergeSort (dataLe false fun q => toD q.2)).map (fun q => q.2) = sortW ltW a := by
          rw [sort_maps (r := dataLe false fun q : V × W => toD q.2) (s := dataLe false toD) (fun p : V × W => p.2) (fun _ _ _ _ => rfl), r2, sort_eq hs]
        have r3 := zip_rps (G := G) (S := S) (H := H) (ps := (xs.zip a).mergeSort (dataLe false fun q => toD q.2)) fun p hp => r1 p ((List.mergeSort_perm _ _).mem_iff.mp hp)
        rw [e1]
        rw [e2] at r3
        exact q.lst r3
    · rw [if_neg hs] at e; cases e
end
end Cb

end
section
set_option maxRecDepth 100000
set_option maxHeartbeats 4000000
/-! sorted(t), t a tuple; sorted(d), d a dict with tuples as keys -/
namespace Cb
open PySem PySem.Spec PyProof.Rows L2
open PySem.W (sortingHeap sortingHeap_old EachIs SortsAt AllAlike dataLe dataKind alike sort_maps sortVals_data sortVals_length list_sort_vals)
section
variable {X : Cx} {pins : List (Addr × Obj)} {σ : L2.St} {H : Hp} {s : Shared}
/-- what collecting the items of the object at r gives -/
def Coll (X : Cx) (s : Shared) (r : Addr) (vs : List Value) : Prop := ∀ (E : Value → Shared → Prop) (R : List Value → Shared → Prop), (∀ h' tk, (∀ b o, s.heap.get? b = some o → h'.get? b = some o) → R vs { s with heap := h', toks := tk }) → wpAny (model X.prog X.w) X.A.in1 (collect (.ref r)) R E s
theorem sort_src {r : Addr} {its : List Value} {xs : List V} {ds : List PyData} {Q : VK} (hu : X.A.units + 65 < cLine) (I : Inv X pins σ H s) (C : Coll X s r its) (rv : Vals xs its) (hz : its.length ≤ sizeLine) (hd : DpAll X.K H xs ds) (hal : AllAlike ds)
    (hk : (∀ d ∈ ds, d ≠ .none ∧ ∀ t, d ≠ .tuple t) ∨ ∀ d ∈ ds, ∃ t, d = .tuple t) (hdp : ∀ d ∈ ds, d.depth ≤ 60)
    (q : ∀ p, H p = none → Q (.ref p) (upd H p (.lst (((xs.zip ds).mergeSort (dataLe false fun q => q.2)).map fun q => q.1)))) :
    wpAny (model X.prog X.w) X.A (call (.builtin "sorted") [.ref r]) (EP X pins σ Q) X.xe s := by
  refine Calls.call_function_entry PyProof.Rows.kind_sorted PyProof.Rows.plain_sorted PyProof.Rows.entry_sorted (PyProof.Rows.args_sorted1 _) ?_
  unfold Builtin.«sorted»
  refine wpAny_bind (m := checkCount "sorted" 1 1 _) (wpAny_pure ?_)
  refine wpAny_bind (C _ _ fun h' tk hkp => ?_)
  refine wpAny_bind (wpAny_newList ?_ hz)
  have I1 : Inv X pins σ H { s with heap := h', toks := tk } := I.kept hkp
  have hk2 : ∀ b o, s.heap.get? b = some o → (h'.push (seqObj "list" its.toArray 0)).get? b = some o := fun b o e => Heap.get?_push_of_some _ (hkp b o e)
  have hat : (h'.push (seqObj "list" its.toArray 0)).get? h'.objs.size = some (seqObj "list" its.toArray 0) := Heap.get?_push_size _ rfl
  have hlt : ∀ b o, s.heap.get? b = some o → b < h'.objs.size := fun b o e => Heap.lt_size (hkp b o e)
  obtain ⟨as, hr⟩ := Dp.readsAll I ds xs its hd rv
  obtain ⟨e1, e2, e3⟩ := each_zip rv hr
  have old : ∀ b o, s.heap.get? b = some o → (sortingHeap (h'.push (seqObj "list" its.toArray 0)) h'.objs.size its).get? b = some o := fun b o e => sortingHeap_old (Nat.ne_of_lt (hlt b o e)) (hk2 b o e)
  have er : EachIs (fun v (p : V × PyData) => ∃ as, Reads (sortingHeap (h'.push (seqObj "list" its.toArray 0)) h'.objs.size its) v p.2 as) its (xs.zip ds) := e2.mono fun _ _ ⟨as, r⟩ => ⟨as, PyProof.Rows.Reads.keeps old r⟩
  have hud : ∀ d ∈ ds, X.A.in1.in1.units + d.depth < cLine := fun d hd => by
    have h1 : X.A.in1.in1.units ≤ X.A.units + 2 := Nat.le_refl _
    have h2 := hdp d hd
    omega
  have er' : EachIs (fun v d => ∃ as, Reads (sortingHeap (h'.push (seqObj "list" its.toArray 0)) h'.objs.size its) v d as) its ds := by
    have z := PySem.W.each_map (R := fun v d => ∃ as, Reads (sortingHeap (h'.push (seqObj "list" its.toArray 0)) h'.objs.size its) v d as) (fun q : V × PyData => q.2) er
    rwa [e3] at z
  have SA : SortsAt X.prog X.w X.A.in1.in1 { s with heap := sortingHeap (h'.push (seqObj "list" its.toArray 0)) h'.objs.size its, toks := tk } (dataKind (sortingHeap (h'.push (seqObj "list" its.toArray 0)) h'.objs.size its) ds) its := by
    rcases hk with hk | hk
    · exact PySem.W.SortsAt.data (s := { s with heap := sortingHeap (h'.push (seqObj "list" its.toArray 0)) h'.objs.size its, toks := tk }) er' hal (.inr hk) hud
    · exact sorts_tups (s := { s with heap := sortingHeap (h'.push (seqObj "list" its.toArray 0)) h'.objs.size its, toks := tk }) er' hal hk hud
  have sd := sortVals_data (enc := fun q : V × PyData => q.2) false e1 er (by rw [e3]; exact hal)
  rw [e3] at sd
  generalize hout : PySem.W.sortVals (dataKind (sortingHeap (h'.push (seqObj "list" its.toArray 0)) h'.objs.size its) ds) false its its = out at sd
  have hv := vals_each sd
  have hlen : (((xs.zip ds).mergeSort (dataLe false fun q => q.2)).map fun q => q.1).length ≤ sizeLine := by
    rw [List.length_map, (List.mergeSort_perm _ _).length_eq, ← e1.length]
    exact hz
  obtain ⟨ep, he'⟩ := sortedHeap_at (vs := its) (out := out.toArray) hat
  refine wpAny_bind (wpAny_holding (wpAny_call_entry_kw slot_list_sort ⟨_, hat, rfl⟩ entry_list_sort ?body (args_list_sort _)))
  case body =>
    refine list_sort_vals (A := X.A.in1.in1) (s := { s with heap := h'.push (seqObj "list" its.toArray 0), toks := tk }) hat SA hz ?_
    rw [hout]
    refine ⟨_, rfl, wpAny_pure ⟨_, rfl, ?_⟩⟩
    refine ⟨.ref _, upd H h'.objs.size (.lst _), I1.laid (t' := tk) (fun b o e => ?_) (Nat.le_refl _) ⟨hlen, out, ep, hv, he'⟩, rfl, q _ (I1.hok.fresh (Nat.le_refl _))⟩
    exact (sortedHeap_old (Nat.ne_of_lt (Heap.lt_size e)) (Heap.lt_size (Heap.get?_push_of_some _ e))).trans (Heap.get?_push_of_some _ e)
/-- the items of a tuple -/
theorem coll_tup {a : Addr} {its : List Value} (h : IsTup s.heap a its.toArray) (hz : its.length ≤ sizeLine) : Coll X s a its := by
  intro E R q
  obtain ⟨o, ho, hc, n, hd⟩ := h
  unfold collect
  refine wpAny_bind (wpAny_runValue (codeAny_builtin entry_proto_collect' ?_))
  show wpAny _ _ (do again (.builtin "list.__iadd__" ⟨[← newList [], .ref a], []⟩)) _ _ s
  refine wpAny_bind (wpAny_newList (wpAny_pure ⟨Code.quiet_builtin _ (by decide +kernel), codeAny_builtin entry_list_iadd' ?_⟩))
  show wpAny _ _ (Builtin.List.listExtendWith (.ref s.heap.objs.size) (.ref a) (.ref s.heap.objs.size)) _ _ { s with heap := s.heap.push (seqObj "list" #[] 0) }
  unfold Builtin.List.listExtendWith
  have ho' : (s.heap.push (seqObj "list" #[] 0)).get? a = some o := Heap.get?_push_of_some _ ho
  refine wpAny_bind (wpAny_typeOf (T := "tuple") ⟨o, ho', hc⟩ ?_)
  have ht : (Value.type "tuple" == Value.type "tuple") = true := by rfl
  rw [if_pos (by rw [ht]; simp)]
  refine wpAny_bind (listItems_at ho' hd ?_)
  refine wpAny_bind (listItems_at (xs := #[]) (n := 0) (Heap.get?_push_size _ rfl) rfl ?_)
  rw [if_neg (by simp)]
  refine wpAny_bind (listUpdate_at (xs := #[]) (n := 0) (Heap.get?_push_size _ rfl) rfl ?_ (Nat.zero_le _) (by show (#[] ++ its.toArray).size ≤ sizeLine + 1; simp only [Array.size_append, List.size_toArray, List.length_nil]; omega))
  refine wpAny_pure ?_
  show wpAny (model X.prog X.w) X.A.in1 (do
      let o ← load s.heap.objs.size
      match o.data with
      | .seq xs _ => pure xs.toList
      | _ => unsupported "internal:collect") R E { s with heap := (s.heap.push (seqObj "list" #[] 0)).update s.heap.objs.size (Obj.mapSeq (· ++ its.toArray)) }
  refine wpAny_bind (wpAny_load (get?_update_seq (Heap.get?_push_size _ rfl) _) ?_)
  show wpAny _ _ (pure ((#[] : Array Value) ++ its.toArray).toList) R E _
  rw [show ((#[] : Array Value) ++ its.toArray).toList = its by simp]
  refine wpAny_pure (q _ s.toks fun b o e => ?_)
  exact (Heap.get?_update_other _ _ (Ne.symm (Nat.ne_of_lt (Heap.lt_size e)))).trans (Heap.get?_push_of_some _ e)
/-- the keys of a dict -/
theorem coll_dict {G : Gc} {S : AS} (hG : G.K = X.K) (hw : G.w = X.w) (hh : X.A.in1.handled = none) (I : Inv X pins σ H s) {a : Addr} {o : Obj} {es : List Ent} {kvs : List (W × W)} (h1 : H a = some (DO a o)) (h2 : DictX G.w a o es) (h3 : Rpd G S H kvs es) :
    Coll X s a (es.map fun x => Value.ref x.2.1) := by
  intro E R q
  obtain ⟨hd, hz, ex, ea, ep, e1, e2, nd⟩ := h2
  have hr : s.heap.DictRaw a ea ep := ⟨o, do_at I h1, ex, e1⟩
  have el : ea.size = es.length := by rw [← Array.length_toList, e2, List.length_map]
  refine PySem.W.kdu_collect (A := X.A.in1) (PySem.KdlSrc.rawDict hd) hh hr (by rw [el]; exact hz) fun h' tk acc hk hacc => ?_
  have e3 : acc.toList = es.map fun x => Value.ref x.2.1 := by
    apply List.ext_getElem?
    intro j
    by_cases hj : j < es.length
    · have hj2 : j < acc.size := by rw [hacc.1, el]; exact hj
      have e4 : acc.toList[j]? = some acc[j] := by rw [Array.getElem?_toList, Array.getElem?_eq_getElem hj2]
      obtain ⟨hi, e5⟩ := hacc.2 j acc[j] (by rw [Array.getElem?_eq_getElem hj2])
      rw [e4, e5]
      have e6 : ea.toList[j]? = some ea[j] := by rw [Array.getElem?_toList, Array.getElem?_eq_getElem hi]
      rw [e2, List.getElem?_map] at e6
      rw [List.getElem?_map]
      cases q6 : es[j]? with
      | none => rw [q6] at e6; cases e6
      | some x =>
        rw [q6] at e6
        have e7 : entN G.w x = ea[j] := Option.some.inj e6
        rw [← e7]; rfl
    · rw [List.getElem?_eq_none (by rw [Array.length_toList, hacc.1, el]; exact Nat.le_of_not_lt hj), List.getElem?_eq_none (by rw [List.length_map]; exact Nat.le_of_not_lt hj)]
  rw [e3]
  exact q h' tk hk
end
section
variable {G : Gc} {X : Cx} {S : AS} {H : Hp} {Q : VK}
/-- what sorting asks of data -/
def SortQ (K : PySem.W.Frag) (H : Hp) (Q : VK) (xs : List V) : Prop := ∃ ds : List PyData, DpAll K H xs ds ∧ AllAlike ds ∧ ((∀ d ∈ ds, d ≠ .none ∧ ∀ t, d ≠ .tuple t) ∨ ∀ d ∈ ds, ∃ t, d = .tuple t) ∧ (∀ d ∈ ds, d.depth ≤ 60) ∧
  ∀ p, H p = none → Q (.ref p) (upd H p (.lst (((xs.zip ds).mergeSort (dataLe false fun q => q.2)).map fun q => q.1)))
theorem sortQ_of (hG : G.K = X.K) {a : List W} {xs : List V} (hs : sortable a = true) (k2 : Rps G S H a xs) (q : Res G S H (.L (sortW ltW a)) Q) : SortQ X.K H Q xs := by
  obtain ⟨s1, s2⟩ := sortable_iff hs
  have sp := shWs_iff s1
  refine ⟨toDs a, rps_dp (S := S) hG sp.1 k2, fun d hd d' hd' => ?_, cmp_kind s2, fun d hd => ?_, ?_⟩
  · obtain ⟨w, hw, rfl⟩ := toDs_mem hd
    obtain ⟨w', hw', rfl⟩ := toDs_mem hd'
    exact alike_of (s2 w hw w' hw')
  · obtain ⟨w, hw, rfl⟩ := toDs_mem hd
    rw [(toD_lay (plainWs_mem sp.1 hw)).2]
    exact Nat.le_trans (depWs_mem hw) sp.2
  · obtain ⟨r1, r2⟩ := rps_zip k2
    have e1 : ((xs.zip (toDs a)).mergeSort (dataLe false fun q => q.2)).map (fun q => q.1) = ((xs.zip a).mergeSort (dataLe false fun q => toD q.2)).map (fun q => q.1) := by
      rw [zip_toDs, ← sort_maps (r := dataLe false fun q : V × W => toD q.2) (s := dataLe false fun q : V × PyData => q.2) (fun p : V × W => (p.1, toD p.2)) (fun _ _ _ _ => rfl), List.map_map]
      rfl
    have e2 : ((xs.zip a).mergeSort (dataLe false fun q => toD q.2)).map (fun q => q.2) = sortW ltW a := by
      rw [sort_maps (r := dataLe false fun q : V × W => toD q.2) (s := dataLe false toD) (fun p : V × W => p.2) (fun _ _ _ _ => rfl), r2, sort_eq hs]
    have r3 := zip_rps (G := G) (S := S) (H := H) (ps := (xs.zip a).mergeSort (dataLe false fun q => toD q.2)) fun p hp => r1 p ((List.mergeSort_perm _ _).mem_iff.mp hp)
    rw [e1]
    rw [e2] at r3
    exact q.lst r3
def rSortT (K : PySem.W.Frag) : List V → Hp → VK → Prop := fun vs H Q => ∃ (a : Addr) (xs : List V), vs = [V.ref a] ∧ SqT K H a xs ∧ SortQ K H Q xs
theorem cr_sortT (hu : X.A.units + 65 < cLine) : CallR X (.builtin "sorted") (rSortT X.K) := by
  intro pins s σ H vs us Q I r h
  obtain ⟨a, xs, rfl, hs, ds, h1, h2, h3, h4, q⟩ := h
  obtain ⟨its, rv, ht, hz⟩ := I.tuple hs
  rw [Vals.ref1 r]
  have hz' : its.length ≤ sizeLine := by rw [← rv.length]; exact hz
  exact sort_src hu I (coll_tup ht hz') rv hz' h1 h2 h3 h4 q
def rSortN (G : Gc) (K : PySem.W.Frag) : List V → Hp → VK → Prop := fun vs H Q => ∃ (S : AS) (a : Addr) (o : Obj) (es : List Ent) (kvs : List (W × W)), vs = [V.ref a] ∧ H a = some (DO a o) ∧ DictX G.w a o es ∧ Rpd G S H kvs es ∧ SortQ K H Q (es.map fun x => V.ref x.2.1)
theorem cr_sortN (hG : G.K = X.K) (hw : G.w = X.w) (hc : X.calm = true) (hu : X.A.units + 65 < cLine) : CallR X (.builtin "sorted") (rSortN G X.K) := by
  intro pins s σ H vs us Q I r h
  obtain ⟨S, a, o, es, kvs, rfl, h1, h2, h3, ds, k1, k2, k3, k4, q⟩ := h
  rw [Vals.ref1 r]
  have rv : ∀ es : List Ent, Vals (es.map fun x => V.ref x.2.1) (es.map fun x => Value.ref x.2.1) := fun es => by
    induction es with
    | nil => exact .nil
    | cons x es ih => exact .cons rfl ih
  exact sort_src hu I (coll_dict hG hw (I.ok.hd hc) I h1 h2 h3) (rv es) (by rw [List.length_map]; exact h2.2.1) k1 k2 k3 k4 q
theorem rpd_keys : ∀ {kvs : List (W × W)} {es : List Ent}, Rpd G S H kvs es → Rps G S H (kvs.map (·.1)) (es.map fun x => V.ref x.2.1)
  | [], es, h => by rw [h.inv0]; exact .nil
  | (k, w) :: kvs, es, h => by
    obtain ⟨nk, b, u, v, r, rfl, _, _, h3, _, _, h6⟩ := h.inv
    exact .cons h3 (rpd_keys h6)
def rSort2 (G : Gc) (K : PySem.W.Frag) : List V → Hp → VK → Prop := fun vs H Q => rSortD K vs H Q ∨ rSortT K vs H Q ∨ rSortN G K vs H Q
theorem cr_sort2 (hG : G.K = X.K) (hw : G.w = X.w) (hc : X.calm = true) (hu : X.A.units + 65 < cLine) : CallR X (.builtin "sorted") (rSort2 G X.K) := (cr_sortD hu).or ((cr_sortT hu).or (cr_sortN hG hw hc hu))
theorem pk_sorted2 (hG : G.K = X.K) : PrOk G (rSort2 G X.K) (prW .sorted) := by
  intro S H ws vs z Q hv e q
  have e0 := e
  change p_sorted ws = some z at e
  unfold p_sorted at e
  split at e
  · exact .inl (pk_sorted hG S H _ vs z Q hv e0 q)
  · rename_i a
    obtain ⟨v, rfl, h1⟩ := vws1 hv
    obtain ⟨p, xs, rfl, k1, k2⟩ := vw_tup h1
    by_cases hs : sortable a = true
    · rw [if_pos hs] at e
      cases e
      exact .inr (.inl ⟨p, xs, rfl, hG ▸ k1, sortQ_of hG hs k2 q⟩)
    · rw [if_neg hs] at e; cases e
  · cases e
theorem pk_sortKN (hG : G.K = X.K) {a : List (W × W)} {vs : List V} {z : Z} (hv : Vws G S H [.dW a] vs) (e : (if sortable (a.map (·.1)) = true then some (Z.L (sortW ltW (a.map (·.1)))) else none) = some z) (q : Res G S H z Q) : rSortN G X.K vs H Q := by
  obtain ⟨v, rfl, p, o, es, rfl, k1, k2, k3⟩ := vws1 hv
  by_cases hs : sortable (a.map (·.1)) = true
  · rw [if_pos hs] at e
    cases e
    exact ⟨S, p, o, es, a, rfl, k1, k2, k3, sortQ_of hG hs (rpd_keys k3) q⟩
  · rw [if_neg hs] at e; cases e
end
end Cb

end
section
set_option maxRecDepth 100000
set_option maxHeartbeats 4000000
/-! isinstance, fields, methods of lists, calls -/
namespace Cb
open PySem PySem.Spec PyProof.Rows L2
section
variable [Tb] {G : Gc} {U : L2.WX} {X : Cx} {S : AS} {H : Hp} {Q : VK} {apos cpos : Pos} {n : Nat}

/-! ### isinstance(x, T), T built in -/
def tyN : Ty → String
  | .int => "int"
  | .bool => "bool"
  | .tuple => "tuple"
  | .list => "list"
  | .dict => "dict"
  | .str => "str"
  | .own _ => ""
def tyNS : Ty → Str
  | .int => "int"
  | .bool => "bool"
  | .tuple => "tuple"
  | .list => "list"
  | .dict => "dict"
  | .str => "str"
  | .own _ => ""
def kindW : W → String
  | .non => "NoneType"
  | .bl _ => "bool"
  | .int _ => "int"
  | .str _ => "str"
  | .tup _ => "tuple"
  | .lst _ => "list"
  | .scr _ => "list"
  | .dK _ => "dict"
  | .dW _ => "dict"
  | .fn _ => ""
  | .obj _ _ => ""
  | .rng _ _ => ""
theorem tyx_tup {K : PySem.W.Frag} {a : Addr} {xs : List V} (h : SqT K H a xs) : TyX K H (.ref a) (.type "tuple") := by
  rcases h with (h | ⟨o, h⟩) | ⟨o, its, n, h, c, _⟩
  · exact .base (.tup h)
  · exact .fTuple h
  · exact .kTuple h c
theorem tyx_of (hG : G.K = X.K) {w : W} {v : V} (hk : isKit w = true) (h : Vw G S H w v) : TyX X.K H v (.type (kindW w)) := by
  cases w with
  | non => obtain rfl := vw_non h; exact .base .non
  | bl b => obtain rfl := vw_bl h; exact .base (.bl b)
  | int i => obtain rfl := vw_int h; exact .base (.int i)
  | str x => obtain rfl := vw_str h; exact .base (.str x)
  | tup ws => obtain ⟨a, vs, rfl, h1, _⟩ := vw_tup h; exact tyx_tup (hG ▸ h1)
  | lst ws => obtain ⟨a, vs, rfl, h1, _⟩ := h; exact .base (.lst h1)
  | dK ws => obtain ⟨a, vs, rfl, h1, _⟩ := h; exact .base (.dK h1)
  | dW ws => cases hk
  | fn x => cases hk
  | obj c ws => cases hk
  | rng b c => cases hk
  | scr ns =>
    obtain ⟨a, rfl, h1⟩ := vw_scr h
    rcases h1 with (⟨o, h1⟩ | ⟨o, its, n, h1, c, _⟩) | h1
    · exact .base (.frz h1)
    · exact .kList (hG ▸ h1) c
    · exact .base (.lst h1.2)
def isOwnTy : Ty → Bool
  | .own _ => true
  | _ => false
theorem kit_dec {K : PySem.W.Frag} (t : Ty) (w : W) (ht : isOwnTy t = false) (hk : isKit w = true) : PySem.W.kitOne K (.type (kindW w)) (.type (tyN t)) = some (isTy t w) := by
  refine kit_ty ?_
  cases t <;> cases w <;> first | (cases ht; done) | (exact absurd hk Bool.false_ne_true) | (dsimp only [kindW, tyN, isTy]; decide +kernel)
theorem sx_isi {t : Ty} {e : Expr} {d : Den Od} {p p2 q pos : Pos} (hG : G.K = X.K) (ht : isOwnTy t = false) (ns : Nst e) (he : PE X e (tD G U (rO G) d)) (hg : Gl X "isinstance") (hm : X.mg "isinstance" = none) (hg2 : Gl X (tyNS t)) (hm2 : X.mg (tyNS t) = none) :
    PE X (.Call (.Name "isinstance" p) [e, .Name (tyNS t) p2] [] pos) (tD G U (rZ G) (cPr (.isinst [t]) (cConsO d cNil))) := by
  have hv : bootBuiltins (tyNS t) = some (.type (tyN t)) ∧ tyNS t ≠ "__name__" ∧ (tyNS t == ("__debug__" : Str)) = false := by
    cases t <;> first | (cases ht; done) | exact ⟨rfl, by decide, by decide⟩
  have h2 : PE X (.Name (tyNS t) p2) (tC (.ty (tyN t))) := pe_bltn hg2 hm2 hv.1 (by rfl) hv.2.1 hv.2.2
  have hs : PA X [e, .Name (tyNS t) p2] (tCons (tD G U (rO G) d) (tCons (tC (.ty (tyN t))) tNil)) := pa_cons he (pa_cons h2 pa_nil (by rfl)) (ns _ _)
  refine (pe_callB call_isi hg hm rfl hs (he := ns _ _) (hpl := by rfl)).imp fun σ H Q ⟨env, S, A, en, ok, o⟩ => ⟨env, S, A, en, ok, ?_⟩
  have o1 : Out G U σ S H A (rZ G) ((d env).bind fun a env => primM (.isinst [t]) [a] env) Q := by
    have e : ((d env).bind fun a env => primM (.isinst [t]) [a] env) = cPr (.isinst [t]) (cConsO d cNil) env := by
      unfold cPr cConsO cNil
      cases d env <;> rfl
    rw [e]; exact o
  refine (Out.bind (rel := rO G) (fun h => h.2) o1).mono fun x H1 ⟨oa, env1, S1, A1, _, en1, ok1, ⟨r1, _⟩, f1, o2⟩ => ?_
  show rIsi X.K [x, .ty (tyN t)] H1 Q
  refine prim_out (p := .isinst [t]) (r := fun vs H Q => ∃ x, vs = [x] ∧ rIsi X.K [x, .ty (tyN t)] H Q) ?_ (ods := [oa]) (vs := [x]) en1 ok1 ⟨x, [], rfl, r1, rfl⟩ o2 |> fun ⟨x', e, q⟩ => by cases e; exact q
  intro S H ws vs z Q hv e q
  change p_isinst [t] ws = some z at e
  unfold p_isinst at e
  split at e
  · rename_i a
    by_cases hk : isKit a = true
    · rw [if_pos hk] at e
      cases e
      obtain ⟨v, rfl, h1⟩ := vws1 hv
      refine ⟨v, rfl, v, _, _, _, isTy t a, rfl, .ty _, tyx_of hG hk h1, kit_dec t a ht hk, ?_⟩
      have e : ([t].any fun t => isTy t a) = isTy t a := by simp
      rw [e] at q
      exact q.w (rp_bl _ _ _)
    · rw [if_neg hk] at e; cases e
  · cases e

/-! ### e.f -/
/-- what the text says of a class's field -/
def FldOk (G : Gc) (K : PySem.W.Frag) (cs : List Str) (f : Str) : Prop := ∀ c C, cs.contains c = true → G.cm c = some C → Cls K C ∧ NoAttr K C f
theorem rpf_look : ∀ {fs : List (Str × W)} {vs : List (Str × V)} {f : Str} {w : W}, Rpf G S H fs vs → fs.lookup f = some w → ∃ v, vs.lookup f = some v ∧ Rp G S H w v
  | [], vs, f, w, h, e => by cases e
  | (g, x) :: fs, vs, f, w, h, e => by
    unfold Rpf at h
    obtain ⟨v, r, rfl, h1, h2⟩ := h
    rw [List.lookup_cons] at e ⊢
    cases q : f == g with
    | true =>
      rw [q] at e
      cases e
      exact ⟨v, rfl, h1⟩
    | false =>
      rw [q] at e
      exact rpf_look h2 e
theorem sx_fld {cs : List Str} {f : Str} {e : Expr} {d : Den Od} {pos : Pos} (hF : FldOk G X.K cs f) (he : PE X e (tD G U (rO G) d)) (hb : attributeBase e f X.env (eval e X.env) = eval e X.env) : PE X (.Attribute e f pos) (tD G U (rZ G) (cPr (.fld cs f) (cConsO d cNil))) := by
  refine sx_pr1 (r := fun x H Q => ∃ a C dx fs v, x = .ref a ∧ H a = some (.ins C dx fs) ∧ Cls X.K C ∧ NoAttr X.K C f ∧ fs.lookup f = some v ∧ Q v H) ?_ he fun ta ha => pe_fld ha hb
  intro S H ws vs z Q hv e q
  change p_fld cs f ws = some z at e
  unfold p_fld at e
  split at e
  · rename_i c fs
    obtain ⟨v, rfl, h1⟩ := vws1 hv
    by_cases hc : cs.contains c = true
    · rw [if_pos hc] at e
      cases el : fs.lookup f with
      | none => rw [el] at e; cases e
      | some w =>
        rw [el] at e
        cases e
        obtain ⟨a, C, dx, vs, rfl, hcm, h2, h3⟩ := h1
        obtain ⟨v, hl, hr⟩ := rpf_look h3 el
        obtain ⟨k1, k2⟩ := hF c C hc hcm
        exact ⟨_, rfl, a, C, dx, vs, v, rfl, h2, k1, k2, hl, q.w hr⟩
    · rw [if_neg hc] at e; cases e
  · cases e

/-! ### methods that change a list -/
theorem mut_out {t : Mt} {i : Nat} {r : V → List V → Hp → VK → Prop} (hr : ∀ {S H a vs ws xs args v' zs' Q}, Rps G S H ws xs → H a = some (.lst xs) → Rps G S H args vs → mtZ t (.L ws) args = some (.w v', .L zs') → (∀ v ys, Rp G S H v' v → Rps G S H zs' ys → Q v (upd H a (.lst ys))) → r (.ref a) vs H Q)
    (hz : ∀ ws args v z', mtZ t (.L ws) args = some (v, z') → ∃ v' zs', v = .w v' ∧ z' = .L zs') (hz2 : ∀ z args p, mtZ t z args = some p → ∃ ws, z = .L ws)
    {env : Env} {A : List Addr} {σ : L2.St} {d : Den (List W)} (en : EnvR G S H env σ A) (ok : Ok S H A) (o : Out G U σ S H A (rZ G) (cMut t i d env) Q) :
    ∃ a xs, σ[i]? = some (some (.ref a)) ∧ H a = some (.lst xs) ∧ Out G U σ S H A (rWs G) (d env) fun vs H1 => r (.ref a) vs H1 Q := by
  unfold cMut at o
  cases e0 : gets env i with
  | none => rw [e0] at o; exact o.elim
  | some z0 =>
    rw [e0] at o
    cases z0 with
    | L ws0 =>
      rw [if_pos (show isL (some (.L ws0)) = true from rfl)] at o
      obtain ⟨v, B, R, hs, rz, _, _⟩ := en.gets e0
      obtain ⟨a, xs, rfl, h1, h2, rfl⟩ := rz
      refine ⟨a, xs, hs, h1, (Out.bind (rel := rWs G) (fun h => h.2) o).mono fun vs H1 ⟨args, env1, S1, A1, _, en1, ok1, ⟨r1, _⟩, f1, o1⟩ => ?_⟩
      unfold mutM at o1
      cases e1 : gets env1 i with
      | none => rw [e1] at o1; exact o1.elim
      | some z =>
        rw [e1] at o1
        dsimp only at o1
        cases e2 : mtZ t z args with
        | none => rw [e2] at o1; exact o1.elim
        | some p =>
          obtain ⟨v2, z2⟩ := p
          rw [e2] at o1
          obtain ⟨ws, rfl⟩ := hz2 _ _ _ e2
          obtain ⟨v', zs', rfl, rfl⟩ := hz _ _ _ _ e2
          obtain ⟨u, B, R, hs1, rz1, pm, er⟩ := en1.gets e1
          rw [hs] at hs1
          cases hs1
          obtain ⟨a', xs1, ea, h3, h4, rfl⟩ := rz1
          cases ea
          have ok2 := ok1.perm pm.symm
          have hp : a ∈ A1 := pm.mem_iff.mpr (by simp)
          refine hr h4 h3 r1 e2 fun y ys ry rys => ?_
          have f2 : Fr S1 H1 A1 S1 (upd H1 a (.lst ys)) A1 := Fr.mutate hp ok1
          have ok3 : Ok S1 (upd H1 a (.lst ys)) A1 := Ok.mutate hp ok1 trivial
          have er2 : EnvR G S1 (upd H1 a (.lst ys)) (env1.set i none) σ R := er.mono (f2.kp ok1) f2.up fun b hb u eu => by
            have ne : b ≠ a := fun z => ok2.dis (A := [a]) (B := R) (by simp) (z ▸ hb)
            rw [upd_ne ne]; exact eu
          obtain ⟨A', k1, k2⟩ := er2.put' (z := .L zs') (B := [a]) (gets_lt e1) hs ⟨a, ys, rfl, upd_same, rys.mono (f2.kp ok1) f2.up, rfl⟩
          have pA : A'.Perm A1 := k2.trans pm.symm
          exact o1 y _ S1 A' [] k1 ⟨ry.mono (f2.kp ok1) f2.up, rfl⟩ (ok3.perm pA) (f2.less fun b hb => pA.mem_iff.mp hb)
    | _ => exact o.elim
theorem mtZ_app {ws args : List W} {v z' : Z} (e : mtZ .append (.L ws) args = some (v, z')) : ∃ x, args = [x] ∧ ws.length < 16777216 ∧ v = .w .non ∧ z' = .L (ws ++ [x]) := by
  match args, e with
  | [x], e =>
    change (if decide (ws.length < 16777216) then some (Z.w W.non, Z.L (ws ++ [x])) else none) = some (v, z') at e
    by_cases h : decide (ws.length < 16777216) = true
    · rw [if_pos h] at e
      cases e
      exact ⟨x, rfl, of_decide_eq_true h, rfl, rfl⟩
    · rw [if_neg h] at e; cases e
  | [], e => cases e
  | _ :: _ :: _, e => cases e
theorem mtZ_ext {ws args : List W} {v z' : Z} (e : mtZ .extend (.L ws) args = some (v, z')) : ∃ b, args = [.lst b] ∧ sizeOk (ws.length + b.length) = true ∧ v = .w .non ∧ z' = .L (ws ++ b) := by
  match args, e with
  | [.lst b], e =>
    change (if sizeOk (ws.length + b.length) then some (Z.w W.non, Z.L (ws ++ b)) else none) = some (v, z') at e
    by_cases h : sizeOk (ws.length + b.length) = true
    · rw [if_pos h] at e
      cases e
      exact ⟨b, rfl, h, rfl, rfl⟩
    · rw [if_neg h] at e; cases e
  | [], e => cases e
  | [.non], e => cases e
  | [.bl _], e => cases e
  | [.int _], e => cases e
  | [.str _], e => cases e
  | [.tup _], e => cases e
  | [.dK _], e => cases e
  | [.dW _], e => cases e
  | [.fn _], e => cases e
  | [.obj _ _], e => cases e
  | [.scr _], e => cases e
  | a :: _ :: _, e => cases a <;> cases e
theorem mtZ_pop0 {ws args : List W} {v z' : Z} (e : mtZ .pop0 (.L ws) args = some (v, z')) : ∃ x, args = [] ∧ ws[ws.length - 1]? = some x ∧ v = .w x ∧ z' = .L ws.dropLast := by
  match args, e with
  | [], e =>
    change ((ws[ws.length - 1]?).map fun x => (Z.w x, Z.L ws.dropLast)) = some (v, z') at e
    cases h : ws[ws.length - 1]? with
    | none => rw [h] at e; cases e
    | some x => rw [h] at e; cases e; exact ⟨x, rfl, rfl, rfl, rfl⟩
  | _ :: _, e => cases e
theorem mtZ_pop1 {ws args : List W} {v z' : Z} (e : mtZ .pop1 (.L ws) args = some (v, z')) : ∃ i k x, args = [.int i] ∧ bnd i = true ∧ seqIndex? i ws.length = some k ∧ ws[k]? = some x ∧ v = .w x ∧ z' = .L (ws.eraseIdx k) := by
  match args, e with
  | [.int i], e =>
    change (if bnd i then (seqIndex? i ws.length).bind fun k => (ws[k]?).map fun x => (Z.w x, Z.L (ws.eraseIdx k)) else none) = some (v, z') at e
    by_cases hb : bnd i = true
    · rw [if_pos hb] at e
      cases h : seqIndex? i ws.length with
      | none => rw [h] at e; cases e
      | some k =>
        rw [h] at e
        change ((ws[k]?).map fun x => (Z.w x, Z.L (ws.eraseIdx k))) = some (v, z') at e
        cases h2 : ws[k]? with
        | none => rw [h2] at e; cases e
        | some x => rw [h2] at e; cases e; exact ⟨i, k, x, rfl, hb, h, h2, rfl, rfl⟩
    · rw [if_neg hb] at e; cases e
  | [], e => cases e
  | [.non], e => cases e
  | [.bl _], e => cases e
  | [.lst _], e => cases e
  | [.str _], e => cases e
  | [.tup _], e => cases e
  | [.dK _], e => cases e
  | [.dW _], e => cases e
  | [.fn _], e => cases e
  | [.obj _ _], e => cases e
  | [.scr _], e => cases e
  | a :: _ :: _, e => cases a <;> cases e
theorem mtZ_clear {ws args : List W} {v z' : Z} (e : mtZ .clear (.L ws) args = some (v, z')) : args = [] ∧ v = .w .non ∧ z' = .L [] := by
  match args, e with
  | [], e => cases e; exact ⟨rfl, rfl, rfl⟩
  | _ :: _, e => cases e
theorem mtZ_L {t : Mt} {z : Z} {args : List W} {p : Z × Z} (e : mtZ t z args = some p) : ∃ ws, z = .L ws := by
  cases z with
  | L ws => exact ⟨ws, rfl⟩
  | _ => cases t <;> cases e
theorem mtZ_shape {t : Mt} {ws args : List W} {v z' : Z} (e : mtZ t (.L ws) args = some (v, z')) : ∃ v' zs', v = .w v' ∧ z' = .L zs' := by
  cases t with
  | append => obtain ⟨x, _, _, h1, h2⟩ := mtZ_app e; exact ⟨_, _, h1, h2⟩
  | extend => obtain ⟨x, _, _, h1, h2⟩ := mtZ_ext e; exact ⟨_, _, h1, h2⟩
  | pop0 => obtain ⟨x, _, _, h1, h2⟩ := mtZ_pop0 e; exact ⟨_, _, h1, h2⟩
  | pop1 => obtain ⟨_, _, x, _, _, _, _, h1, h2⟩ := mtZ_pop1 e; exact ⟨_, _, h1, h2⟩
  | clear => obtain ⟨_, h1, h2⟩ := mtZ_clear e; exact ⟨_, _, h1, h2⟩
theorem mut_go {t : Mt} {i : Nat} {r : V → List V → Hp → VK → Prop} (hr : ∀ {S H a vs ws xs args v' zs' Q}, Rps G S H ws xs → H a = some (.lst xs) → Rps G S H args vs → mtZ t (.L ws) args = some (.w v', .L zs') → (∀ v ys, Rp G S H v' v → Rps G S H zs' ys → Q v (upd H a (.lst ys))) → r (.ref a) vs H Q)
    {x : Str} {e : Expr} {es : List Expr} {d : Den (List W)} (he : PE X e (tVar i)) (hs : PA X es (tD G U (rWs G) d)) (h : ∀ to ta, PE X e to → PA X es ta → PE X (.Call (.Attribute e x apos) es [] cpos) (tBM X.K "list" r to ta)) :
    PE X (.Call (.Attribute e x apos) es [] cpos) (tD G U (rZ G) (cMut t i d)) := (h _ _ he hs).imp fun σ H Q ⟨env, S, A, en, ok, o⟩ => by
  obtain ⟨a, xs, h1, h2, h3⟩ := mut_out hr (fun _ _ _ _ e => mtZ_shape e) (fun _ _ _ e => mtZ_L e) en ok o
  exact ⟨.ref a, h1, .inl ⟨rfl, xs, SqL.of h2⟩, env, S, A, en, ok, h3⟩
theorem sx_append {i : Nat} {e el : Expr} {d : Den Z} {apos cpos : Pos} (ns : Nst el) (he : PE X e (tVar i)) (hd : PE X el (tD G U (rZ G) d)) (hb : attributeBase e "append" X.env (eval e X.env) = eval e X.env)
    (hfew : ((backTo cpos (starEach [el] X.env)).all (fun x => !x.1) && (backToKw cpos (keywordEach [] X.env)).all (fun x => x.1.isSome) && decide (([el] : List Expr).length + ([] : List Keyword).length + (if ([] : List Keyword).isEmpty then 0 else 1) < 30)) = true) (hline : (apos.endLine == cpos.line) = true) :
    PE X (.Call (.Attribute e "append" apos) [el] [] cpos) (tD G U (rZ G) (cMut .append i (cCons d cNil))) :=
  mut_go (r := rAppend) (fun {S H a vs ws xs args v' zs' Q} h1 h2 h3 e q => by
    obtain ⟨x, rfl, hl, e1, e2⟩ := mtZ_app e
    cases e1; cases e2
    obtain ⟨v, r, rfl, r1, r2⟩ := h3.inv
    obtain rfl := r2.inv0
    exact ⟨a, xs, v, rfl, rfl, h2, by rw [h1.length, sizeLine_eq]; exact hl, q .non _ (rp_non _ _) (h1.append (.one r1))⟩) he (pa_cs ns hd pa_nl)
    fun to ta ho ha => pe_bm PySem.F.plainAttrs_list PySem.F.slot_list_append rfl (fun _ _ _ _ _ _ _ _ _ => mt_append _ _ _ _ _ _ _ _ _) ho ha hb hfew hline (ns _ _) (by rfl)
theorem sx_extend {i : Nat} {e el : Expr} {d : Den Z} {apos cpos : Pos} (ns : Nst el) (he : PE X e (tVar i)) (hd : PE X el (tD G U (rZ G) d)) (hb : attributeBase e "extend" X.env (eval e X.env) = eval e X.env)
    (hfew : ((backTo cpos (starEach [el] X.env)).all (fun x => !x.1) && (backToKw cpos (keywordEach [] X.env)).all (fun x => x.1.isSome) && decide (([el] : List Expr).length + ([] : List Keyword).length + (if ([] : List Keyword).isEmpty then 0 else 1) < 30)) = true) (hline : (apos.endLine == cpos.line) = true) :
    PE X (.Call (.Attribute e "extend" apos) [el] [] cpos) (tD G U (rZ G) (cMut .extend i (cCons d cNil))) :=
  mut_go (r := rExtend) (fun {S H a vs ws xs args v' zs' Q} h1 h2 h3 e q => by
    obtain ⟨b, rfl, hl, e1, e2⟩ := mtZ_ext e
    cases e1; cases e2
    obtain ⟨v, r, rfl, r1, r2⟩ := h3.inv
    obtain rfl := r2.inv0
    unfold Rp at r1
    obtain ⟨c, ys, rfl, f1, f2⟩ := r1
    exact ⟨a, c, xs, ys, rfl, rfl, h2, f1.2, by rw [h1.length, f2.length]; exact sizeOk_le hl, q .non _ (rp_non _ _) (h1.append f2)⟩) he (pa_cs ns hd pa_nl)
    fun to ta ho ha => pe_bm PySem.F.plainAttrs_list PySem.F.slot_list_extend rfl (fun _ _ _ _ _ _ _ _ _ => mt_extend _ _ _ _ _ _ _ _ _) ho ha hb hfew hline (ns _ _) (by rfl)
theorem rps_eraseIdx : ∀ {ws : List W} {vs : List V} (n : Nat), Rps G S H ws vs → Rps G S H (ws.eraseIdx n) (vs.eraseIdx n)
  | [], _, n, h => by rw [h.inv0]; simp; exact .nil
  | w :: ws, _, 0, h => by
    obtain ⟨v, r, q, h1, h2⟩ := h.inv
    subst q
    exact h2
  | w :: ws, _, n + 1, h => by
    obtain ⟨v, r, q, h1, h2⟩ := h.inv
    subst q
    exact .cons h1 (rps_eraseIdx n h2)
theorem rps_dropLast {ws : List W} {vs : List V} (h : Rps G S H ws vs) : Rps G S H ws.dropLast vs.dropLast := by
  rw [List.dropLast_eq_take, List.dropLast_eq_take, h.length]
  exact Rps.take _ h
theorem sx_pop1 {i : Nat} {e el : Expr} {d : Den Z} {apos cpos : Pos} (ns : Nst el) (he : PE X e (tVar i)) (hd : PE X el (tD G U (rZ G) d)) (hb : attributeBase e "pop" X.env (eval e X.env) = eval e X.env)
    (hfew : ((backTo cpos (starEach [el] X.env)).all (fun x => !x.1) && (backToKw cpos (keywordEach [] X.env)).all (fun x => x.1.isSome) && decide (([el] : List Expr).length + ([] : List Keyword).length + (if ([] : List Keyword).isEmpty then 0 else 1) < 30)) = true) (hline : (apos.endLine == cpos.line) = true) :
    PE X (.Call (.Attribute e "pop" apos) [el] [] cpos) (tD G U (rZ G) (cMut .pop1 i (cCons d cNil))) :=
  mut_go (r := rPopAt) (fun {S H a vs ws xs args v' zs' Q} h1 h2 h3 e q => by
    obtain ⟨n, k, x, rfl, hb, hk, hx, e1, e2⟩ := mtZ_pop1 e
    cases e1; cases e2
    obtain ⟨v, r, rfl, r1, r2⟩ := h3.inv
    obtain rfl := r2.inv0
    unfold Rp at r1
    subst r1
    obtain ⟨y, hy, ry⟩ := h1.get hx
    have hb := bnd_iff hb
    exact ⟨a, xs, n, k, y, rfl, rfl, h2, by omega, by omega, by rw [h1.length]; exact hk, hy, q y _ ry (rps_eraseIdx k h1)⟩) he (pa_cs ns hd pa_nl)
    fun to ta ho ha => pe_bm PySem.F.plainAttrs_list PySem.F.slot_list_pop rfl (fun _ _ _ _ _ _ _ _ _ => mt_popAt _ _ _ _ _ _ _ _ _) ho ha hb hfew hline (ns _ _) (by rfl)
theorem mut_go0 {t : Mt} {i : Nat} {r : V → List V → Hp → VK → Prop} (hr : ∀ {S H a vs ws xs args v' zs' Q}, Rps G S H ws xs → H a = some (.lst xs) → Rps G S H args vs → mtZ t (.L ws) args = some (.w v', .L zs') → (∀ v ys, Rp G S H v' v → Rps G S H zs' ys → Q v (upd H a (.lst ys))) → r (.ref a) vs H Q)
    {x : Str} {e : Expr} {apos cpos : Pos} (he : PE X e (tVar i)) (h : ∀ to, PE X e to → PE X (.Call (.Attribute e x apos) [] [] cpos) (tBM0 X.K "list" r to)) :
    PE X (.Call (.Attribute e x apos) [] [] cpos) (tD G U (rZ G) (cMut t i cNil)) := (h _ he).imp fun σ H Q ⟨env, S, A, en, ok, o⟩ => by
  obtain ⟨a, xs, h1, h2, h3⟩ := mut_out hr (fun _ _ _ _ e => mtZ_shape e) (fun _ _ _ e => mtZ_L e) en ok o
  exact ⟨.ref a, h1, .inl ⟨rfl, xs, SqL.of h2⟩, h3 [] H S A [] en ⟨.nil, rfl⟩ ok (Fr.refl ok)⟩
theorem sx_pop0 {i : Nat} {e : Expr} {apos cpos : Pos} (he : PE X e (tVar i)) (hb : attributeBase e "pop" X.env (eval e X.env) = eval e X.env) (hline : (apos.endLine == cpos.line) = true) :
    PE X (.Call (.Attribute e "pop" apos) [] [] cpos) (tD G U (rZ G) (cMut .pop0 i cNil)) :=
  mut_go0 (r := rPop) (fun {S H a vs ws xs args v' zs' Q} h1 h2 h3 e q => by
    obtain ⟨x, rfl, hx, e1, e2⟩ := mtZ_pop0 e
    cases e1; cases e2
    obtain rfl := h3.inv0
    obtain ⟨y, hy, ry⟩ := h1.get hx
    exact ⟨a, xs, y, rfl, rfl, h2, by rw [h1.length]; exact hy, q y _ ry (rps_dropLast h1)⟩) he
    fun to ho => pe_bm0 PySem.F.plainAttrs_list PySem.F.slot_list_pop rfl (fun _ _ _ _ _ _ _ _ _ => mt_pop _ _ _ _ _ _ _ _ _) ho hb hline
theorem sx_clear {i : Nat} {e : Expr} {apos cpos : Pos} (he : PE X e (tVar i)) (hb : attributeBase e "clear" X.env (eval e X.env) = eval e X.env) (hline : (apos.endLine == cpos.line) = true) :
    PE X (.Call (.Attribute e "clear" apos) [] [] cpos) (tD G U (rZ G) (cMut .clear i cNil)) :=
  mut_go0 (r := rClear) (fun {S H a vs ws xs args v' zs' Q} h1 h2 h3 e q => by
    obtain ⟨rfl, e1, e2⟩ := mtZ_clear e
    cases e1; cases e2
    obtain rfl := h3.inv0
    exact ⟨a, xs, rfl, rfl, h2, q .non _ (rp_non _ _) .nil⟩) he
    fun to ho => pe_bm0 PySem.F.plainAttrs_list PySem.F.slot_list_clear rfl (fun _ _ _ _ _ _ _ _ _ => mt_clear _ _ _ _ _ _ _ _ _) ho hb hline

/-! ### calls -/
/-- what stands behind a name that is called -/
structure FnS (G : Gc) (X : Cx) (nm : Str) (n : Nat) (m : Mean) : Prop where
  ex : ∃ (f : Addr) (fd : FuncData) (ps : List Str) (k : Nat), X.mg nm = some (.ref f) ∧ PySem.W.keepIn X.K (.ref f) = true ∧ L2.Binds X.K fd ps [] ∧ FnOk X.prog X.w X.K X.mg X.base (L2.CX X.prog X.w) k f fd ps (spM G n m) ∧ Room k X.A
theorem sx_call {nm : Str} {m : Mean} {e : Expr} {es : List Expr} {p pos : Pos} {d : Den (List Od)} (F : FnS G X nm n m) (hl : ∀ env os env', d env = .ok os env' → os.length = n) (tk : Takes X U) (hg : Gl X nm) (ns : Nst e) (ha : PA X (e :: es) (tD G U (rOs G) d)) (hpl : (backTo pos (starEach es X.env)).any (·.1) = false)
    (hdb : (nm == ("__debug__" : Str)) = false) : PE X (.Call (.Name nm p) (e :: es) [] pos) (tD G U (rZ G) (cCall m d)) := by
  obtain ⟨f, fd, ps, k, h1, h2, h3, h4, h5⟩ := F.ex
  refine (pe_callS (E := WE U) h4 h5 hg h1 h2 h3 (passAt tk) ha hdb (ns _ _) hpl).imp fun σ H Q ⟨env, S, A, en, ok, o⟩ => ⟨env, S, A, en, ok, ?_⟩
  refine (Out.bind (rel := rOs G) (fun h => h.2) o).mono fun vs H1 ⟨os, env1, S1, A1, e1, en1, ok1, ⟨r1, _⟩, f1, o2⟩ => call_out (hl _ _ _ e1) en1 ok1 r1 o2
end
end Cb

end
section
set_option maxRecDepth 100000
set_option maxHeartbeats 4000000
/-! instances: C(..), o.f = v -/
namespace Cb
open PySem PySem.Spec PyProof.Rows L2
section
variable [Tb] {G : Gc} {U : L2.WX} {X : Cx} {S : AS} {H : Hp} {Q : VK} {n : Nat}
theorem make_out {m : Mean} {c : Str} {C : Addr} {ods : List Od} {vs : List V} {env : Env} {A : List Addr} {σ : L2.St} (hc : G.cm c = some C) (hn : ods.length = n) (en : EnvR G S H env σ A) (ok : Ok S H A) (h : OdRs G σ S H ods vs) (o : Out G U σ S H A (rZ G) (makeM c m ods env) Q) :
    ∀ x dx, H x = none → H dx = none → dx ≠ x → spM G (n + 1) m (.ref x :: vs) (upd (upd H dx (.own x)) x (.ins C dx [])) (fun v H2 => v = .non ∧ Q (.ref x) H2) fun cls d H' => U cls d σ H' := by
  intro x dx hx hdx hne
  unfold makeM at o
  cases e : resAll env ods with
  | none => rw [e] at o; exact o.elim
  | some zs =>
    rw [e] at o
    dsimp only at o
    cases hnd : (lent ods zs).isEmpty with
    | false => rw [hnd, if_neg Bool.false_ne_true] at o; exact o.elim
    | true =>
      rw [hnd, if_pos rfl] at o
      have hl0 : lent ods zs = [] := List.isEmpty_iff.mp hnd
      obtain ⟨Bs, R, k1, k2, k3⟩ := lend en h e (by rw [hl0]; exact List.nodup_nil)
      rw [hl0] at k3
      have k3 : EnvR G S H env σ R := k3
      have hx2 : (upd H dx (.own x)) x = none := by rw [upd_ne (Ne.symm hne)]; exact hx
      have okA : Ok S H (Bs.flatten ++ R) := ok.perm k2.symm
      have ok1 : Ok S (upd (upd H dx (.own x)) x (.ins C dx [])) ((Bs.flatten ++ R) ++ [x]) := Ok.newO (okA.new hdx) hx2 trivial
      have fr1 : Fr S H (Bs.flatten ++ R) S (upd (upd H dx (.own x)) x (.ins C dx [])) ((Bs.flatten ++ R) ++ [x]) := (Fr.new okA hdx).trans (Fr.newO (okA.new hdx) hx2)
      have kH : ∀ a u, H a = some u → (upd (upd H dx (.own x)) x (.ins C dx [])) a = some u := fun a u ea => by
        rw [upd_ne (ne_of_none ea hx), upd_ne (ne_of_none ea hdx)]; exact ea
      have bkH : ∀ a, (upd (upd H dx (.own x)) x (.ins C dx [])) a = none → H a = none := fun a z => by
        cases ea : H a with
        | none => rfl
        | some u => rw [kH a u ea] at z; cases z
      have kp1 : Kp S H (upd (upd H dx (.own x)) x (.ins C dx [])) := fun a u ea _ _ => kH a u ea
      have hmono : ∀ {zs : List Z} {vs : List V} {Bs : List (List Addr)}, RZs G S H zs vs Bs → RZs G S (upd (upd H dx (.own x)) x (.ins C dx [])) zs vs Bs := by
        intro zs
        induction zs with
        | nil => exact fun h => h
        | cons z zs ih =>
          intro vs Bs ⟨v, r, B, Br, e1, e2, h1, h2⟩
          exact ⟨v, r, B, Br, e1, e2, h1.mono kp1 (fun _ h => h) fun a _ u ea => kH a u ea, ih h2⟩
      have pm1 : ((Bs.flatten ++ R) ++ [x]).Perm ((x :: Bs.flatten) ++ R) := (List.perm_append_comm (l₁ := Bs.flatten ++ R) (l₂ := [x]))
      have ok2 : Ok S (upd (upd H dx (.own x)) x (.ins C dx [])) ((x :: Bs.flatten) ++ R) := ok1.perm pm1.symm
      refine ⟨by simp [h.len, hn], .obj c [] :: zs, S, [x] :: Bs, ⟨_, _, [x], Bs, rfl, rfl, ⟨x, C, dx, [], rfl, hc, upd_same, by unfold Rpf; rfl, rfl⟩, hmono k1⟩, ok2.left, ?_⟩
      cases q : m (.obj c [] :: zs) with
      | bad => rw [q] at o; exact o.elim
      | ok z0 back =>
        rw [q] at o
        have k4 : EnvR G S (upd (upd H dx (.own x)) x (.ins C dx [])) env σ R := k3.mono kp1 (fun _ h => h) fun a _ u ea => kH a u ea
        intro v H' S' B Bs' rb rz ok' f
        cases z0 with
        | w w0 =>
          cases w0 with
          | non =>
            cases back with
            | nil => exact o.elim
            | cons z back =>
              obtain ⟨rz, rfl⟩ := rz
              unfold Rp at rz
              subst rz
              refine ⟨rfl, ?_⟩
              obtain ⟨v1, r1, B1, Br, e1, rfl, r2, r3⟩ := rb
              cases e1
              have k5 : EnvR G S' H' env σ R := k4.mono (f.kp ok2.left) f.up (f.offK ok2)
              have ok3 : Ok S' H' (([] ++ (B1 :: Br).flatten) ++ R) := f.off ok2 ok'
              have ok4 : Ok S' H' (B1 ++ R) := by
                have e : (([] ++ (B1 :: Br).flatten) ++ R) = (B1 ++ Br.flatten) ++ R := by simp
                rw [e] at ok3
                exact ok3.sub (List.Sublist.append_right (List.sublist_append_left _ _) R)
              refine o (.ref x) H' S' R B1 k5 r2 ok4 ?_
              have f2 : Fr S H (Bs.flatten ++ R) S' H' (B1 ++ R) := ⟨fun a u ea na => f.keep a u (kH a u ea) fun hm => by
                  rcases List.mem_cons.mp hm with z | z
                  · rw [z, hx] at ea; cases ea
                  · exact na (List.mem_append_left _ z), f.up, fun a ha => by
                  rcases f.back a ha with z | z | z
                  · exact .inl z
                  · rcases List.mem_cons.mp z with z | z
                    · exact .inr (.inr (z ▸ hx))
                    · exact .inr (.inl (List.mem_append_left _ z))
                  · exact .inr (.inr (bkH a z)), fun a ha => by
                  rcases List.mem_append.mp ha with z | z
                  · rcases f.own a (by simp; exact .inl z) with z | z
                    · rcases List.mem_cons.mp z with z | z
                      · exact .inr (z ▸ hx)
                      · exact .inl (List.mem_append_left _ z)
                    · exact .inr (bkH a z)
                  · exact .inl (List.mem_append_right _ z), fun a u ea => f.dom a u (kH a u ea)⟩
              exact f2.wide fun a ha => k2.mem_iff.mpr ha
          | _ => exact o.elim
        | _ => exact o.elim
      | ex x1 back =>
        rw [q] at o
        have k4 : EnvR G S (upd (upd H dx (.own x)) x (.ins C dx [])) env σ R := k3.mono kp1 (fun _ h => h) fun a _ u ea => kH a u ea
        intro cls d H' S' Bs' xr rb ok' f
        have k5 : EnvR G S' H' env σ R := k4.mono (f.kp ok2.left) f.up (f.offK ok2)
        have ok3 : Ok S' H' (Bs'.flatten ++ R) := f.off ok2 ok'
        refine o cls d H' S' R xr k5 ok3.right ?_
        have f2 : Fr S H (Bs.flatten ++ R) S' H' R := ⟨fun a u ea na => f.keep a u (kH a u ea) fun hm => by
            rcases List.mem_cons.mp hm with z | z
            · rw [z, hx] at ea; cases ea
            · exact na (List.mem_append_left _ z), f.up, fun a ha => by
            rcases f.back a ha with z | z | z
            · exact .inl z
            · rcases List.mem_cons.mp z with z | z
              · exact .inr (.inr (z ▸ hx))
              · exact .inr (.inl (List.mem_append_left _ z))
            · exact .inr (.inr (bkH a z)), fun a ha => .inl (List.mem_append_right _ ha), fun a u ea => f.dom a u (kH a u ea)⟩
        exact f2.wide fun a ha => k2.mem_iff.mpr ha
/-- the callee runs on a new instance -/
theorem run_makeS {C f : Addr} {fd : FuncData} {ps : List Str} {sp : Sp} {CX : CXT} {k : Nat} {E : XK} {pins : List (Addr × Obj)} {σ : L2.St} {s : Shared} {us : List Value} {vs : List V} (M : Mk X.K C f) (F : FnOk X.prog X.w X.K X.mg X.base CX k f fd ps sp) (hr : Room (k + 1) X.A) (hb : L2.Binds X.K fd ps [])
    (hx : PassesAt CX X σ E) (I : Inv X pins σ H s) (r : Vals vs us)
    (h : ∀ x dx, H x = none → H dx = none → dx ≠ x → sp (.ref x :: vs) (upd (upd H dx (.own x)) x (.ins C dx [])) (fun v H2 => v = .non ∧ Q (.ref x) H2) E) :
    wpAny (model X.prog X.w) X.A (call (.ref C) us) (EP X pins σ Q) X.xe s := by
  have hq := h (s.heap.objs.size + 1) s.heap.objs.size (I.hok.fresh (Nat.le_succ _)) (I.hok.fresh (Nat.le_refl _)) (Nat.ne_of_lt (Nat.lt_succ_self _))
  have I2 := Inv.made (C := C) I
  have r2 : Vals (V.ref (s.heap.objs.size + 1) :: vs) (Value.ref (s.heap.objs.size + 1) :: us) := .cons rfl r
  have hl : (Value.ref (s.heap.objs.size + 1) :: us).length = ps.length := by
    have e := r2.length
    rw [F.len _ _ _ _ hq] at e
    exact e.symm
  have b := hb _ (Value.ref (s.heap.objs.size + 1) :: us) I2.kIn (by rw [List.append_nil]; exact hl)
  rw [List.append_nil] at b
  refine wpAny_call (make_map (f := f) I.kIn M.makes M.init (beq_iff_eq.mp M.fn) (codeAny_mono (F.run _ X.stack _ _ ⟨Value.ref (s.heap.objs.size + 1) :: us, []⟩ (Value.ref (s.heap.objs.size + 1) :: us) _ _ E (hr.make C us [])
    (I2.env0.make C us []) b r2 hq) fun r s' hq' => ?_))
  cases r with
  | error e => exact hx pins _ _ e s' I2 hq'
  | ok fl =>
    cases fl with
    | ret u =>
      obtain ⟨v, H', I3, rv, ev, q3⟩ := I2.after hq'
      subst ev
      exact ⟨rv, ⟨V.ref (s.heap.objs.size + 1), H', I3, rfl, q3⟩⟩
    | next => exact False.elim hq'
    | brk => exact False.elim hq'
    | cont => exact False.elim hq'
/-- what stands behind a class's name -/
structure ClS (G : Gc) (X : Cx) (nm : Str) (n : Nat) (m : Mean) : Prop where
  ex : ∃ (C f : Addr) (fd : FuncData) (ps : List Str) (k : Nat), G.cm nm = some C ∧ X.mg nm = some (.ref C) ∧ Mk X.K C f ∧ L2.Binds X.K fd ps [] ∧ FnOk X.prog X.w X.K X.mg X.base (L2.CX X.prog X.w) k f fd ps (spM G (n + 1) m) ∧ Room (k + 1) X.A
theorem sx_make {nm : Str} {m : Mean} {e : Expr} {es : List Expr} {p pos : Pos} {d : Den (List Od)} (F : ClS G X nm n m) (hl : ∀ env os env', d env = .ok os env' → os.length = n) (tk : Takes X U) (hg : Gl X nm) (ns : Nst e) (ha : PA X (e :: es) (tD G U (rOs G) d)) (hpl : (backTo pos (starEach es X.env)).any (·.1) = false)
    (hdb : (nm == ("__debug__" : Str)) = false) : PE X (.Call (.Name nm p) (e :: es) [] pos) (tD G U (rZ G) (cMk nm m d)) := by
  obtain ⟨C, f, fd, ps, k, h0, h1, h2, h3, h4, h5⟩ := F.ex
  refine ⟨fun pins s σ H Q I ⟨env, S, A, en, ok, o⟩ => ?_⟩
  refine wpAny_Call_Name_kw (ld_glob I hg h1 ?_ hdb)
  refine PySem.W.callWith_K (h₀ := X.base) I.ok.mod.kin h2.kp (thn (ha.run pos pins s σ H (fun vs H1 => ∀ x dx, H1 x = none → H1 dx = none → dx ≠ x → spM G (n + 1) m (.ref x :: vs) (upd (upd H1 dx (.own x)) x (.ins C dx [])) (fun v H2 => v = .non ∧ Q (.ref x) H2) fun cls d H' => U cls d σ H') I
    ⟨env, S, A, en, ok, (Out.bind (rel := rOs G) (fun h => h.2) o).mono fun vs H1 ⟨os, env1, S1, A1, e1, en1, ok1, ⟨r1, _⟩, f1, o2⟩ => make_out h0 (hl _ _ _ e1) en1 ok1 r1 o2⟩) fun us s1 ⟨vs, H1, I1, r, q⟩ => ⟨I1.kIn, ?_⟩) (ns _ _) hpl
  exact run_makeS h2 h4 h5 h3 (passAt tk σ) I1 r q

/-! ### o.f = v -/
theorem rpf_put {fs : List (Str × W)} {vs : List (Str × V)} {f : Str} {w : W} {v : V} (h : Rpf G S H fs vs) (r : Rp G S H w v) : Rpf G S H (putFW f w fs) (putF f v vs) := by
  induction fs generalizing vs with
  | nil =>
    unfold Rpf at h
    subst h
    unfold putFW putF Rpf
    exact ⟨v, [], rfl, r, by unfold Rpf; rfl⟩
  | cons p fs ih =>
    obtain ⟨g, x⟩ := p
    unfold Rpf at h
    obtain ⟨y, rr, rfl, h1, h2⟩ := h
    unfold putFW putF
    by_cases e : g = f
    · rw [if_pos e, if_pos e]
      unfold Rpf
      exact ⟨v, rr, by first | rfl | rw [e], r, h2⟩
    · rw [if_neg e, if_neg e]
      unfold Rpf
      exact ⟨y, _, rfl, h1, ih h2⟩
theorem rpf_len : ∀ {fs : List (Str × W)} {vs : List (Str × V)}, Rpf G S H fs vs → vs.length = fs.length
  | [], vs, h => by unfold Rpf at h; rw [h]; rfl
  | (g, x) :: fs, vs, h => by
    unfold Rpf at h
    obtain ⟨y, rr, rfl, _, h2⟩ := h
    simp [rpf_len h2]
/-- the class's facts for all fields that are laid -/
theorem sk_setFld {K : List Nat} {i : Nat} {f : Str} {o e : Expr} {pos pos' : Pos} {d : Den Z} {cs : List Str} (hF : FldOk G X.K cs f) (ho : PE X o (tVar i)) (he : PE X e (tD G U (rZ G) d)) (hs : swapsWith e (some (.Attribute o f pos')) pos.line X.env = pure false) :
    PS X (.Assign [.Attribute o f pos'] e pos) (tS G U K (kSetFld cs i f d)) := (ps_fld ho (pe_fz he) hs).imp fun D σ H ⟨env, S, A, en, ok, o⟩ => by
  refine ⟨env, S, A, en, ok, ?_⟩
  have o2 : OutS G U K σ S H A (SR.of ((cFz d env).bind fun w env => match gets env i with
    | some (.obj c fs) => if cs.contains c && decide (fs.length < 1000) then .ok (.nx (env.set i (some (.obj c (putFW f w fs))))) env else .bad
    | _ => .bad)) D := by
    have e : SR.of ((cFz d env).bind fun w env => match gets env i with
      | some (.obj c fs) => if cs.contains c && decide (fs.length < 1000) then .ok (.nx (env.set i (some (.obj c (putFW f w fs))))) env else .bad
      | _ => .bad) = kSetFld cs i f d env := by
      unfold cFz kSetFld
      cases d env <;> rfl
    rw [e]; exact o
  refine (of_bind (rel := rW G) (fun h => h.2) o2).mono fun y H1 ⟨w, env1, S1, A1, _, en1, ok1, ⟨r1, _⟩, f1, o3⟩ => ?_
  cases e1 : gets env1 i with
  | none => rw [e1] at o3; exact o3.elim
  | some z =>
    rw [e1] at o3
    cases z with
    | obj c fs =>
      dsimp only at o3
      by_cases hl : (cs.contains c && decide (fs.length < 1000)) = true
      · rw [if_pos hl] at o3
        obtain ⟨hlc, hl⟩ := Bool.and_eq_true_iff.mp hl
        obtain ⟨v, B, R, hs, rz, pm, er⟩ := en1.gets e1
        obtain ⟨a, C, dx, vs, rfl, hcm, h1, h2, rfl⟩ := rz
        obtain ⟨k1, k2⟩ := hF c C hlc hcm
        have hp : a ∈ A1 := pm.mem_iff.mpr (by simp)
        have ok2 := ok1.perm pm.symm
        have f2 : Fr S1 H1 A1 S1 (upd H1 a (.ins C dx (putF f y vs))) A1 := Fr.mutate hp ok1
        have ok3 : Ok S1 (upd H1 a (.ins C dx (putF f y vs))) A1 := Ok.mutate hp ok1 trivial
        have er2 : EnvR G S1 (upd H1 a (.ins C dx (putF f y vs))) (env1.set i none) σ R := er.mono (f2.kp ok1) f2.up fun b hb u eu => by
          have ne : b ≠ a := fun z => ok2.dis (A := [a]) (B := R) (by simp) (z ▸ hb)
          rw [upd_ne ne]; exact eu
        have hrp : Rpf G S1 (upd H1 a (.ins C dx (putF f y vs))) (putFW f w fs) (putF f y vs) := Rpf.mono (f2.kp ok1) f2.up (rpf_put h2 r1)
        obtain ⟨A', j1, j2⟩ := er2.put' (z := .obj c (putFW f w fs)) (B := [a]) (gets_lt e1) hs ⟨a, C, dx, _, rfl, hcm, upd_same, hrp, rfl⟩
        have pA : A'.Perm A1 := j2.trans pm.symm
        refine ⟨.ref a, hs, a, C, dx, vs, rfl, h1, k1, k2, by rw [rpf_len h2]; exact of_decide_eq_true hl, ?_⟩
        exact o3 σ _ S1 A' Agr.refl j1 (ok3.perm pA) (f2.less fun b hb => pA.mem_iff.mp hb)
      · rw [if_neg hl] at o3; exact o3.elim
    | _ => exact o3.elim
end
end Cb

end
section
set_option maxRecDepth 100000
set_option maxHeartbeats 4000000
/-! enumerate(tuple) -/
namespace Cb
open PySem PySem.Spec PyProof.Rows L2
theorem meets_enT {v : Value} {o : Obj} {H : Heap → Prop} (B : Begins v o H) :
    Meets (Builtin.«enumerate.__new__» ⟨[.type "enumerate", v], []⟩) (fun _ R s => H s.heap ∧
      R (.ok (.ret (.ref (s.heap.push o).objs.size))) { s with heap := (s.heap.push o).push { cls := .type "enumerate", data := .fields #[.none, .bool false, .ref s.heap.objs.size, rawInt 0, .none, .none] } }) :=
  .of_wp fun prog w A R s h => by
    obtain ⟨hp, g, d, tk, os⟩ := s; obtain ⟨h1, h⟩ := h
    have hsub := sub_enumerate
    have q1 : ∀ {A' : Around} {E : Value → Shared → Prop} {Q : Value → Shared → Prop}, Q (.ref hp.objs.size) ⟨hp.push o, g, d, tk, os⟩ → wpAny (model prog w) A' (pyIter v) Q E ⟨hp, g, d, tk, os⟩ :=
      fun q => B.iter prog w _ _ ⟨hp, g, d, tk, os⟩ _ h1 q
    wp_walk using q1
    refine wpAny_stack_any fun st => wpAny_pure ?_
    split
    · rename_i c _ _ _ _ _
      cases (c == Value.type "enumerate")
      · wp_walk using q1
        exact ⟨_, rfl, h⟩
      · wp_walk using q1
        exact ⟨_, rfl, h⟩
    · wp_walk using q1
      exact ⟨_, rfl, h⟩
section
variable {prog : Program} {w : World} {A : Around} {E : Value → Shared → Prop} {s : Shared}
theorem call_enT {v : Value} {o : Obj} {H : Heap → Prop} {Q : Value → Shared → Prop} (B : Begins v o H) (h1 : H s.heap)
    (h : ∀ h', IsEnum h' (s.heap.objs.size + 1) s.heap.objs.size 0 .none → h'.get? s.heap.objs.size = some o → h'.objs.size = s.heap.objs.size + 2 →
      (∀ b o, s.heap.get? b = some o → h'.get? b = some o) → Q (.ref (s.heap.objs.size + 1)) { s with heap := h' }) :
    wpAny (model prog w) A (call (.type "enumerate") [v]) Q E s := by
  refine callType_new F.called_enumerate (by decide) (F.typeCall_enumerate_1 _) (F.newCall_enumerate_1 _) (fun obj => F.args_object_init_2 obj _) F.entry_enumerate_new
    (meets_enT B) ⟨h1, ?_⟩
  have hz : (s.heap.push o).objs.size = s.heap.objs.size + 1 := Heap.size_push ..
  show _ ∧ _
  rw [hz]
  have he : IsEnum ((s.heap.push o).push { cls := .type "enumerate", data := .fields #[.none, .bool false, .ref s.heap.objs.size, rawInt 0, .none, .none] }) (s.heap.objs.size + 1) s.heap.objs.size 0 .none := by
    have := Heap.get?_push_size (s.heap.push o) (o := { cls := .type "enumerate", data := .fields #[.none, .bool false, .ref s.heap.objs.size, rawInt 0, .none, .none] }) rfl
    rw [hz] at this; exact this
  refine ⟨⟨_, he, rfl⟩, h _ he (Heap.get?_push_of_some _ (Heap.get?_push_size _ B.free)) (by rw [Heap.size_push, hz]) fun b o x => Heap.get?_push_of_some _ (Heap.get?_push_of_some _ x)⟩
end
/-- the tuple at a, of the items xs, each item in a new pair -/
def IteT (K : PySem.W.Frag) (a : Addr) (xs : List V) : It :=
  ⟨fun i H => SqT K H a xs ∧ i < xs.length, fun i H v H' => ∃ T x, v = .ref T ∧ H T = none ∧ H' = upd H T (.tup [.int (i : Nat), x]) ∧ xs[i]? = some x, fun i H => SqT K H a xs ∧ i = xs.length⟩
theorem turn_enT {P : Program} {w : World} {K : PySem.W.Frag} {elts : List Expr} {kk : Nat} {tpos : Pos} (a e it : Addr) (xs : List V) :
    Turn P w K (.Tuple elts kk tpos) (IteT K a xs) [e, it] e (fun i h => (∃ old, IsEnum h e it ((i : Nat) : Int) old) ∧ h.IsTupleIter it a i ∧ e ≠ it) where
  mem := by simp
  obj := fun i h st b hb => by
    obtain ⟨⟨old, he⟩, ⟨o, ho, hc, hd⟩, _⟩ := st
    have e' : b = e ∨ b = it := by simpa using hb
    rcases e' with z | z
    · rw [z]; exact ⟨_, he, fun v q => nomatch q⟩
    · rw [z]; exact ⟨o, ho, fun v q => by rw [hd] at q; cases q⟩
  keep := fun i h h' st k => by
    obtain ⟨⟨old, he⟩, ⟨o, ho, hc, hd⟩, hne⟩ := st
    exact ⟨⟨old, k e (by simp) _ he⟩, ⟨o, k it (by simp) _ ho, hc, hd⟩, hne⟩
  item := by
    intro X hP hw hK hc i pins s σ H E I hf st hg
    subst hP hw hK
    obtain ⟨⟨old, he⟩, hit, hne⟩ := st
    obtain ⟨hq, hi⟩ := hg
    obtain ⟨its, rv, p, hz⟩ := I.tuple hq
    have hlen := rv.length
    have hel : e < s.heap.objs.size := Heap.lt_size he
    have hil : it < s.heap.objs.size := by obtain ⟨_, q, _⟩ := hit; exact Heap.lt_size q
    have hat : a ≠ it := fun z => by
      obtain ⟨o, ho, hc', _⟩ := hit
      obtain ⟨o2, ho2, hc2, _⟩ := p
      rw [z, ho] at ho2
      cases ho2
      rw [hc'] at hc2
      exact absurd hc2 (by decide)
    have hae : a ≠ e := fun z => by
      obtain ⟨o2, ho2, hc2, _⟩ := p
      rw [z, he] at ho2
      cases ho2
      exact absurd (show Value.type "enumerate" = Value.type "tuple" from hc2) (by decide)
    refine wpAny_pyNext_enum_itemD (Draws.tuple (A := X.A.in1) (by simp [I.ok.hd hc]) it a hat its.toArray) he ⟨hit, p⟩ (by simp; omega) hne (by simp [Ne.symm hae, hne]) fun u h' tk hu ho st' hT hsz hk => ?_
    obtain ⟨x, hx, ru⟩ : ∃ x, xs[i]? = some x ∧ RelV x u := by
      have hxi : xs[i]? = some xs[i] := List.getElem?_eq_getElem hi
      obtain ⟨u', hu', ru'⟩ := rv.get hxi
      have e1 : its[i]? = some u := by simpa using hu
      rw [hu'] at e1
      cases e1
      exact ⟨_, hxi, ru'⟩
    refine ⟨_, rfl, wpAny_letOwnedTupleGo_enum (s := { s with heap := h', toks := tk + 1 }) ho fun h'' he' sb => ?_⟩
    have hT2 : h''.get? s.heap.objs.size = some { cls := .type "tuple", data := .seq #[.int i tk, u] } := (sb.2 _ (Nat.ne_of_gt hel)).trans hT
    have new : ObjOk X.prog X.w (upd H s.heap.objs.size (.tup [.int (i : Nat), x])) h'' s.heap.objs.size (.tup [.int (i : Nat), x]) :=
      ⟨by show 2 ≤ sizeLine; decide, [.int i tk, u], .cons ⟨_, rfl⟩ (.cons ru .nil), ⟨_, hT2, rfl, _, rfl⟩⟩
    have I1 : Inv X pins σ (upd H s.heap.objs.size (.tup [.int (i : Nat), x])) { s with heap := h'', toks := tk + 1 } :=
      I.turnedNew (ch := [e, it]) (fun b ob hb q => (sb.2 b (fun z => hb (by simp [z]))).trans (hk b ob (fun z => hb (by simp [z])) (fun z => hb (by simp [z])) q)) hf (Nat.le_refl _) new
    obtain ⟨⟨oi, hoi, hci, hdi⟩, _⟩ := st'
    refine ⟨.ref s.heap.objs.size, _, I1, rfl, ⟨_, x, rfl, I.hok.fresh (Nat.le_refl _), rfl, hx⟩, ⟨⟨u, ?_⟩, ⟨oi, (sb.2 it (Ne.symm hne)).trans hoi, hci, hdi⟩, hne⟩, fun b hb => ?_⟩
    · have e1 : ((i + 1 : Nat) : Int) = (i : Int) + 1 := by omega
      rw [e1]; exact he'
    · have hb' : b < s.heap.objs.size := by
        have e' : b = e ∨ b = it := by simpa using hb
        rcases e' with z | z
        · rw [z]; exact hel
        · rw [z]; exact hil
      rw [upd_ne (Nat.ne_of_lt hb')]
      exact (hf b hb).1
  done := by
    intro X hP hw hK hc i pins s σ H E I hf st hg
    subst hP hw hK
    obtain ⟨⟨old, he⟩, hit, hne⟩ := st
    obtain ⟨hq, hx⟩ := hg
    obtain ⟨its, rv, p, hz⟩ := I.tuple hq
    obtain ⟨f0, f1, f2, f3, f4, f5⟩ := hf it (by simp)
    have hl := rv.length
    have hat : a ≠ it := fun z => by
      obtain ⟨o, ho, hc', _⟩ := hit
      obtain ⟨o2, ho2, hc2, _⟩ := p
      rw [z, ho] at ho2
      cases ho2
      rw [hc'] at hc2
      exact absurd hc2 (by decide)
    have hD := Draws.tuple (prog := X.prog) (w := X.w) (A := X.A.in1) (by simp [I.ok.hd hc]) it a hat its.toArray
    refine wpAny_pyNext_enum_endD hD he (by
      have e : its.toArray.size = i := by simp; omega
      rw [e]
      exact ⟨hit, p⟩) fun h' eb => ⟨rfl, I.turned (t' := s.toks) (fun b o hb q => eb b o hb q) f0 f1 f3 f4 f5⟩
  self := fun A i s Q E st h => let ⟨⟨_, he⟩, _⟩ := st; wpAny_pyIter_enum he h
def iEnT (K : PySem.W.Frag) (ta : TA) : TI := fun σ H R => ta σ H fun vs H1 => ∃ a xs, vs = [.ref a] ∧ SqT K H1 a xs ∧ R (IteT K a xs) H1
theorem pi_enT0 {X : Cx} {e : Expr} {ta : TA} {p pos tpos : Pos} {elts : List Expr} {kk : Nat} (hg : Gl X "enumerate") (hm : X.mg "enumerate" = none) (ha : PA X [e] ta) (hs : starEach [e] X.env = [(false, eval e X.env)]) :
    PI X (.Tuple elts kk tpos) (.Call (.Name "enumerate" p) [e] [] pos) (iEnT X.K ta) := by
  refine ⟨fun pins s σ H R I h => ?_⟩
  refine Call_ (ld_blt I hg hm boot_enumerate (PyProof.Rows.callWith_type1 (thn (ha.run pos pins s σ H _ I h) fun us s1 ⟨vs, H1, I1, r1, q1⟩ => ?_) hs rfl))
  obtain ⟨a, xs, ex, hq, q⟩ := q1
  subst ex
  cases r1 with
  | cons r rr =>
    cases rr
    cases r
    obtain ⟨its, rv, p', hz⟩ := I1.tuple hq
    refine call_enT (begins_tuple a its.toArray) p' fun h' he hit hsz hk => wpAny_pyIter_enum he ?_
    have I2 : Inv X pins σ H1 { s1 with heap := h' } := I1.kept (t' := s1.toks) hk
    refine ⟨s1.heap.objs.size + 1, [s1.heap.objs.size + 1, s1.heap.objs.size], _, _, H1, rfl, I2, turn_enT a (s1.heap.objs.size + 1) s1.heap.objs.size xs, ⟨⟨.none, he⟩, ⟨_, hit, rfl, rfl⟩, Nat.succ_ne_self _⟩, fun b hb => ?_, q⟩
    have e' : b = s1.heap.objs.size + 1 ∨ b = s1.heap.objs.size := by simpa using hb
    have hle : s1.heap.objs.size ≤ b := by
      rcases e' with z | z
      · rw [z]; exact Nat.le_add_right _ _
      · rw [z]; exact Nat.le_refl _
    exact I1.fpOk hle (I1.hok.fresh hle)
section
variable [Tb] {G : Gc} {U : L2.WX} {X : Cx}
theorem it_enT {S : AS} {H : Hp} {a : Addr} {ws : List W} {vs : List V} (f : SqT G.K H a vs) (r : Rps G S H ws vs) : ItOk G S H (IteT G.K a vs) (ws.zipIdx.map fun p => .tup [.int (p.2 : Int), p.1]) := fun i S' H' kp up => by
  have hq : SqT G.K H' a vs := kp.sqT f
  have r' := r.mono kp up
  refine ⟨fun w e => ?_, fun e0 => ⟨hq, by rw [r'.length]; simpa using e0⟩⟩
  obtain ⟨x, ex, rfl⟩ := zipIdx_at e
  obtain ⟨y, hy, ry⟩ := r'.get ex
  refine ⟨⟨hq, (List.getElem?_eq_some_iff.mp hy).1⟩, fun v H2 ⟨T, z, ev, hT, eH, hz⟩ => ?_⟩
  subst ev eH
  exact ⟨keep_new hT, rp_new hT (.cons (rp_int _ _ _) (.one (rps_at r' ex hz)))⟩
theorem itW_enT {ws items : List W} (h : itW .enT ws = some items) : ∃ a, ws = [.tup a] ∧ items = a.zipIdx.map fun p => .tup [.int (p.2 : Int), p.1] := by
  unfold itW at h
  split at h <;> first | cases h | skip
  all_goals simp_all
theorem pi_enT {e : Expr} {d : Den (List W)} {p pos tpos : Pos} {elts : List Expr} {kk : Nat} (hG : G.K = X.K) (hg : Gl X "enumerate") (hm : X.mg "enumerate" = none) (ns : Nst e) (ha : PA X [e] (tD G U (rWs G) d)) :
    PI X (.Tuple elts kk tpos) (.Call (.Name "enumerate" p) [e] [] pos) (tD G U (rIt G) (cIt .enT d)) :=
  (pi_enT0 hg hm ha (ns [] X.env)).imp fun σ H Q ⟨env, S, A, en, ok, o⟩ => by
    refine ⟨env, S, A, en, ok, (it_bind o).mono fun vs H1 ⟨ws, items, S1, r1, e, q⟩ => ?_⟩
    obtain ⟨a, rfl, rfl⟩ := itW_enT e
    obtain ⟨v, rfl, h1⟩ := rps1 r1
    unfold Rp at h1
    obtain ⟨b, vs, rfl, h2, h3⟩ := h1
    refine ⟨b, vs, rfl, hG ▸ h2, ?_⟩
    rw [← hG]
    exact q _ (it_enT h2 h3)
end
end Cb

end
section
set_option maxRecDepth 100000
set_option maxHeartbeats 4000000
/-! tests; short forms for printed walks -/
namespace Cb
open PySem PySem.Spec PyProof.Rows L2
section
variable [Tb] {G : Gc} {U : L2.WX} {X : Cx} {K : List Nat}
theorem op2_in {p : Pr} {r : R2} (hp : PrOk G (fun vs H Q => ∃ x y, vs = [x, y] ∧ r x y H Q) (prW p)) {da db : Den Od} (σ : L2.St) (H : Hp) (Q : VK) (h : tD G U (rZ G) (cPr p (cConsO da (cConsO db cNil))) σ H Q) : tOp r (tD G U (rO G) da) (tD G U (rO G) db) σ H Q := by
  obtain ⟨env, S, A, en, ok, o⟩ := h
  refine ⟨env, S, A, en, ok, ?_⟩
  have o1 : Out G U σ S H A (rZ G) ((da env).bind fun a env => (db env).bind fun b env => primM p [a, b] env) Q := by
    have e : ((da env).bind fun a env => (db env).bind fun b env => primM p [a, b] env) = cPr p (cConsO da (cConsO db cNil)) env := by
      unfold cPr cConsO cNil
      cases da env with
      | ok a e1 => dsimp only [R.bind]; cases db e1 <;> rfl
      | _ => rfl
    rw [e]; exact o
  refine (Out.bind (rel := rO G) (fun h => h.2) o1).mono fun x H1 ⟨oa, env1, S1, A1, _, en1, ok1, ⟨r1, _⟩, f1, o2⟩ => ⟨env1, S1, A1, en1, ok1, ?_⟩
  refine (Out.bind (rel := rO G) (fun h => h.2) o2).mono fun y H2 ⟨ob, env2, S2, A2, _, en2, ok2, ⟨r2, _⟩, f2, o3⟩ => ?_
  obtain ⟨x', y', e, q⟩ := prim_out hp (ods := [oa, ob]) (vs := [x, y]) en2 ok2 ⟨x, [y], rfl, r1.mono f2 ok1, y, [], rfl, r2, rfl⟩ o3
  cases e
  exact q
theorem st_test {e : Expr} {t : TE} {d : Den Z} (h : PT X e (tTest t)) (i : ∀ σ H Q, tD G U (rZ G) d σ H Q → t σ H Q) : PT X e (tD G U rB (cT d)) := h.imp fun σ H Q ⟨env, S, A, en, ok, o⟩ => i σ H _ ⟨env, S, A, en, ok, cT_out o⟩
/-- a comparison of two operands: as a value, as a test -/
theorem sx_cmp {p : Pr} {r : R2} {op : CmpOp} (hp : PrOk G (two r) (prW p)) (ho : OpR X (compareOp op) r) {a b : Expr} {pos : Pos} {da db : Den Od} (ha : PE X a (tD G U (rO G) da)) (hb : PE X b (tD G U (rO G) db)) (hm : behindInMarks op b = false) :
    PE X (.Compare a [op] [b] pos) (tD G U (rZ G) (cPr p (cConsO da (cConsO db cNil)))) := (pe_cmpR ho ha hb hm).imp fun σ H Q h => op2_in hp σ H Q h
theorem st_cmp {p : Pr} {r : R2} {op : CmpOp} (hp : PrOk G (two r) (prW p)) (ho : OpR X (compareOp op) r) {a b : Expr} {pos : Pos} {da db : Den Od} (ha : PE X a (tD G U (rO G) da)) (hb : PE X b (tD G U (rO G) db)) (hm : behindInMarks op b = false) :
    PT X (.Compare a [op] [b] pos) (tD G U rB (cT (cPr p (cConsO da (cConsO db cNil))))) := st_test (pt_cmpR ho ha hb hm) fun σ H Q h => op2_in hp σ H Q h
/-- an operator -/
theorem sx_op {p : Pr} {r : R2} {op : Operator} (hp : PrOk G (two r) (prW p)) (ho : OpR X (binaryOp op) r) {a b : Expr} {pos : Pos} {da db : Den Od} (ha : PE X a (tD G U (rO G) da)) (hb : PE X b (tD G U (rO G) db)) :
    PE X (.BinOp a op b pos) (tD G U (rZ G) (cPr p (cConsO da (cConsO db cNil)))) := (pe_op ho ha hb).imp fun σ H Q h => op2_in hp σ H Q h
/-- a[b] -/
theorem sx_ix {a b : Expr} {pos : Pos} {da db : Den Od} (hG : G.K = X.K) (hw : G.w = X.w) (hu : X.A.units + 64 < cLine) (ha : PE X a (tD G U (rO G) da)) (hb : PE X b (tD G U (rO G) db)) (hs : PlainIx b) :
    PE X (.Subscript a b pos) (tD G U (rZ G) (cPr .ix (cConsO da (cConsO db cNil)))) := (pe_ix (ix_3 hG hw hu) ha hb hs).imp fun σ H Q h => op2_in (pk_ix hG) σ H Q h
/-! a <= b <= c -/
def asI : Z → Option Int
  | .w (.int i) => some i
  | _ => none
def cLe (i : Int) (d : Den Z) : Den Z := fun env => (d env).bind fun z env => match asI z with
  | some j => .ok (.w (.bl (decide (i ≤ j)))) env
  | none => .bad
def cCh (da db dc : Den Z) : Den Z := fun env => (da env).bind fun x env => (db env).bind fun y env => match asI x, asI y with
  | some i, some j => if i ≤ j then cLe j dc env else .ok (.w (.bl false)) env
  | _, _ => .bad
theorem asI_int {S : AS} {H : Hp} {z : Z} {v : V} {B : List Addr} {i : Int} (h : asI z = some i) (r : RZ G S H z v B) : v = .int i ∧ B = [] ∧ z = .w (.int i) := by
  cases z with
  | w x =>
    cases x with
    | int c =>
      obtain ⟨r, rfl⟩ := r
      unfold Rp at r
      obtain rfl : c = i := Option.some.inj h
      exact ⟨r, rfl, rfl⟩
    | _ => cases h
  | _ => cases h
theorem ch_in {da db dc : Den Z} (σ : L2.St) (H : Hp) (Q : VK) (h : tD G U (rZ G) (cCh da db dc) σ H Q) :
    tChain (rI0 fun i j => .bl (decide (i ≤ j))) (rI0 fun i j => .bl (decide (i ≤ j))) (tD G U (rW G) (cFz da)) (tD G U (rW G) (cFz db)) (tD G U (rW G) (cFz dc)) σ H Q := by
  obtain ⟨env, S, A, en, ok, o⟩ := h
  refine ⟨env, S, A, en, ok, ?_⟩
  have e0 : cCh da db dc env = (cFz da env).bind fun x env => (cFz db env).bind fun y env => match x, y with
      | .int i, .int j => if i ≤ j then (cFz dc env).bind fun z env => (match z with | .int k => .ok (.w (.bl (decide (j ≤ k)))) env | _ => .bad) else .ok (.w (.bl false)) env
      | _, _ => .bad := by
    unfold cCh cFz cLe
    cases da env with
    | ok x e1 =>
      dsimp only [R.bind]
      cases db e1 with
      | ok y e2 =>
        dsimp only [R.bind]
        cases x with
        | w x =>
          cases x with
          | int i =>
            cases y with
            | w y =>
              cases y with
              | int j =>
                dsimp only [asI, frz]
                split
                · cases dc e2 with
                  | ok z e3 =>
                    dsimp only [R.bind]
                    cases z with
                    | w z => cases z <;> rfl
                    | _ => rfl
                  | _ => rfl
                · rfl
              | _ => rfl
            | _ => rfl
          | _ => rfl
        | _ => rfl
      | _ => rfl
    | _ => rfl
  rw [e0] at o
  refine (Out.bind (rel := rW G) (fun h => h.2) o).mono fun x H1 ⟨a, env1, S1, A1, _, en1, ok1, ⟨r1, _⟩, f1, o2⟩ => ⟨env1, S1, A1, en1, ok1, ?_⟩
  refine (Out.bind (rel := rW G) (fun h => h.2) o2).mono fun y H2 ⟨b, env2, S2, A2, _, en2, ok2, ⟨r2, _⟩, f2, o3⟩ => ?_
  cases a with
  | int i =>
    cases b with
    | int j =>
      unfold Rp at r1 r2
      subst r1 r2
      refine ⟨i, j, rfl, rfl, decide (i ≤ j), rfl, ?_⟩
      dsimp only at o3
      by_cases hij : i ≤ j
      · rw [if_pos hij] at o3
        rw [decide_eq_true hij, if_pos rfl]
        refine ⟨env2, S2, A2, en2, ok2, (Out.bind (rel := rW G) (fun h => h.2) o3).mono fun z H3 ⟨c, env3, S3, A3, _, en3, ok3, ⟨r3, _⟩, f3, o4⟩ => ?_⟩
        cases c with
        | int k =>
          unfold Rp at r3
          subst r3
          exact ⟨j, k, rfl, rfl, o4 _ H3 S3 A3 [] en3 ⟨rp_bl _ _ _, rfl⟩ ok3 (Fr.refl ok3)⟩
        | _ => exact o4.elim
      · rw [if_neg hij] at o3
        rw [decide_eq_false hij, if_neg Bool.false_ne_true]
        exact o3 _ H2 S2 A2 [] en2 ⟨rp_bl _ _ _, rfl⟩ ok2 (Fr.refl ok2)
    | _ => exact o3.elim
  | _ => exact o3.elim
theorem sx_ch {a b c : Expr} {pos : Pos} {da db dc : Den Z} (ha : PE X a (tD G U (rZ G) da)) (hb : PE X b (tD G U (rZ G) db)) (hc : PE X c (tD G U (rZ G) dc)) (hm : lastMarks [.LtE, .LtE] [b, c] = false) :
    PE X (.Compare a [.LtE, .LtE] [b, c] pos) (tD G U (rZ G) (cCh da db dc)) := (pe_chain op_le op_le (pe_fz ha) (pe_fz hb) (pe_fz hc) hm).imp ch_in
theorem st_ch {a b c : Expr} {pos : Pos} {da db dc : Den Z} (ha : PE X a (tD G U (rZ G) da)) (hb : PE X b (tD G U (rZ G) db)) (hc : PE X c (tD G U (rZ G) dc)) (hm : lastMarks [.LtE, .LtE] [b, c] = false) :
    PT X (.Compare a [.LtE, .LtE] [b, c] pos) (tD G U rB (cT (cCh da db dc))) := st_test (pt_chain op_le op_le (pe_fz ha) (pe_fz hb) (pe_fz hc) hm) ch_in

/-! ### short forms -/
def kNx : DenS := fun env => .nx env
def kBad : DenS := fun _ => .bad
def kRetN : DenS := fun env => .rt (.w .non) env
def kBk : DenS := fun env => .bk env
def kCt : DenS := fun env => .ct env
theorem q_nil : PSs X [] (tS G U K kNx) := ss_nil
theorem q_bad {st : Stmt} : PS X st (tS G U K kBad) := sk_never
theorem q_retN {pos : Pos} : PS X (.Return none pos) (tS G U K kRetN) := sk_retN
theorem q_bk {pos : Pos} : PS X (.Break pos) (tS G U K kBk) := sk_bk
theorem q_ct {pos : Pos} : PS X (.Continue pos) (tS G U K kCt) := sk_ct
theorem q_int {i : Int} {j pos} : PE X (.Constant (.int i) j pos) (tD G U (rZ G) (cC (.int i))) := sx_c pe_int fun _ _ => rp_int _ _ _
theorem q_str {i : Str} {j pos} : PE X (.Constant (.str i) j pos) (tD G U (rZ G) (cC (.str i))) := sx_c pe_str fun _ _ => rp_str _ _ _
theorem q_bl {b : Bool} {j pos} : PE X (.Constant (.bool b) j pos) (tD G U (rZ G) (cC (.bl b))) := sx_c pe_bl fun _ _ => rp_bl _ _ _
theorem q_non {j pos} : PE X (.Constant .none j pos) (tD G U (rZ G) (cC .non)) := sx_c pe_non fun _ _ => rp_non _ _
/-- a global that holds an int -/
theorem q_gint {x : Str} {i : Int} {pos : Pos} {u : Value} (hg : Gl X x) (hm : X.mg x = some u) (r : RelV (.int i) u) (hd : (x == ("__debug__" : Str)) = false) : PE X (.Name x pos) (tD G U (rZ G) (cC (.int i))) := sx_c (pe_glob hg hm r hd) fun _ _ => rp_int _ _ _
theorem q_len {e : Expr} {p pos : Pos} {d : Den Od} (hG : G.K = X.K) (hw : G.w = X.w) (hg : Gl X "len") (hm : X.mg "len" = none) (ns : Nst e) (he : PE X e (tD G U (rO G) d)) : PE X (.Call (.Name "len" p) [e] [] pos) (tD G U (rZ G) (cPr .len (cConsO d cNil))) :=
  sx_prA (pk_len hG) (pa_csO ns he pa_nlO) fun t ht => pe_callB (call_len3 hG hw) hg hm rfl ht (he := ns _ _) (hpl := rfl)
theorem q_all {e : Expr} {p pos : Pos} {d : Den Od} (hG : G.K = X.K) (hc : X.calm = true) (hg : Gl X "all") (hm : X.mg "all" = none) (ns : Nst e) (he : PE X e (tD G U (rO G) d)) : PE X (.Call (.Name "all" p) [e] [] pos) (tD G U (rZ G) (cPr .all (cConsO d cNil))) :=
  sx_prA (pk_all hG) (pa_csO ns he pa_nlO) fun t ht => pe_callB (cr_all hc) hg hm rfl ht (he := ns _ _) (hpl := rfl)
theorem q_any {e : Expr} {p pos : Pos} {d : Den Od} (hG : G.K = X.K) (hc : X.calm = true) (hg : Gl X "any") (hm : X.mg "any" = none) (ns : Nst e) (he : PE X e (tD G U (rO G) d)) : PE X (.Call (.Name "any" p) [e] [] pos) (tD G U (rZ G) (cPr .any (cConsO d cNil))) :=
  sx_prA (pk_any hG) (pa_csO ns he pa_nlO) fun t ht => pe_callB (cr_any hc) hg hm rfl ht (he := ns _ _) (hpl := rfl)
theorem q_abs {e : Expr} {p pos : Pos} {d : Den Od} (hg : Gl X "abs") (hm : X.mg "abs" = none) (ns : Nst e) (he : PE X e (tD G U (rO G) d)) : PE X (.Call (.Name "abs" p) [e] [] pos) (tD G U (rZ G) (cPr .abs (cConsO d cNil))) :=
  sx_prA pk_abs (pa_csO ns he pa_nlO) fun t ht => pe_callB call_abs hg hm rfl ht (he := ns _ _) (hpl := rfl)
theorem q_intC {e : Expr} {p pos : Pos} {d : Den Od} (hg : Gl X "int") (hm : X.mg "int" = none) (ns : Nst e) (he : PE X e (tD G U (rO G) d)) : PE X (.Call (.Name "int" p) [e] [] pos) (tD G U (rZ G) (cPr .int (cConsO d cNil))) :=
  sx_prA pk_int (pa_csO ns he pa_nlO) fun t ht => pe_callTy call_int1 hg hm rfl ht (he := ns _ _) (hpl := rfl)
theorem q_sum {e : Expr} {p pos : Pos} {d : Den Od} (hG : G.K = X.K) (hc : X.calm = true) (hg : Gl X "sum") (hm : X.mg "sum" = none) (ns : Nst e) (he : PE X e (tD G U (rO G) d)) : PE X (.Call (.Name "sum" p) [e] [] pos) (tD G U (rZ G) (cPr .sum (cConsO d cNil))) :=
  sx_prA (pk_sum hG) (pa_csO ns he pa_nlO) fun t ht => pe_callB (cr_sum hc) hg hm rfl ht (he := ns _ _) (hpl := rfl)
theorem q_list {e : Expr} {p pos : Pos} {d : Den Od} (hG : G.K = X.K) (hg : Gl X "list") (hm : X.mg "list" = none) (ns : Nst e) (he : PE X e (tD G U (rO G) d)) : PE X (.Call (.Name "list" p) [e] [] pos) (tD G U (rZ G) (cPr .list (cConsO d cNil))) :=
  sx_prA (pk_list hG) (pa_csO ns he pa_nlO) fun t ht => pe_callTy call_list_of hg hm rfl ht (he := ns _ _) (hpl := rfl)
theorem q_tuple {e : Expr} {p pos : Pos} {d : Den Od} (hG : G.K = X.K) (hg : Gl X "tuple") (hm : X.mg "tuple" = none) (ns : Nst e) (he : PE X e (tD G U (rO G) d)) : PE X (.Call (.Name "tuple" p) [e] [] pos) (tD G U (rZ G) (cPr .tuple (cConsO d cNil))) :=
  sx_prA (pk_tuple hG) (pa_csO ns he pa_nlO) fun t ht => pe_callTy call_tuple_of hg hm rfl ht (he := ns _ _) (hpl := rfl)
theorem q_sorted {e : Expr} {p pos : Pos} {d : Den Od} (hG : G.K = X.K) (hw : G.w = X.w) (hc : X.calm = true) (hu : X.A.units + 65 < cLine) (hg : Gl X "sorted") (hm : X.mg "sorted" = none) (ns : Nst e) (he : PE X e (tD G U (rO G) d)) : PE X (.Call (.Name "sorted" p) [e] [] pos) (tD G U (rZ G) (cPr .sorted (cConsO d cNil))) :=
  sx_prA (pk_sorted2 hG) (pa_csO ns he pa_nlO) fun t ht => pe_callB (cr_sort2 hG hw hc hu) hg hm rfl ht (he := ns _ _) (hpl := rfl)
end
end Cb

end
section
set_option maxRecDepth 100000
set_option maxHeartbeats 4000000
/-! slices; callees; what every body takes -/
namespace Cb
open PySem PySem.Spec PyProof.Rows L2
/-! ### slices -/
def rOI : Rel (Option Int) (Option Int) := fun _ _ _ a b B => a = b ∧ B = []
def cNoP : Den (Option Int) := fun env => .ok none env
def cP (d : Den Z) : Den (Option Int) := fun env => (d env).bind fun z env => match asI z with
  | some i => .ok (some i) env
  | none => .bad
def cSl (de : Den Od) (dl dh : Den (Option Int)) : Den Z := fun env => (de env).bind fun o env => (dl env).bind fun l env => (dh env).bind fun h env => primM (.sl l h) [o] env
section
variable [Tb] {G : Gc} {U : L2.WX} {X : Cx} {K : List Nat}
theorem po_no : PO X none (tD G U rOI cNoP) := ⟨fun pins s σ H Q I ⟨env, S, A, en, ok, o⟩ => po_none.run pins s σ H Q I (o none H S A [] en ⟨rfl, rfl⟩ ok (Fr.refl ok))⟩
theorem po_so {e : Expr} {d : Den Z} (h : PE X e (tD G U (rZ G) d)) : PO X (some e) (tD G U rOI (cP d)) := ⟨fun pins s σ H Q I ⟨env, S, A, en, ok, o⟩ => by
  refine (po_some h).run pins s σ H Q I ⟨env, S, A, en, ok, ?_⟩
  unfold cP at o
  cases e1 : d env with
  | ok z env1 =>
    rw [e1] at o
    intro v H' S' A' B h1 h2 h3 h4
    have o2 : Out G U σ S H A rOI (match asI z with | some b => R.ok (some b) env1 | none => R.bad) Q := o
    cases q : asI z with
    | none => rw [q] at o2; exact o2.elim
    | some b =>
      rw [q] at o2
      obtain ⟨rfl, rfl, rfl⟩ := asI_int q h2
      exact ⟨b, rfl, o2 _ H' S' A' [] h1 ⟨rfl, rfl⟩ h3 h4⟩
  | ex x env1 => rw [e1] at o; exact o
  | bad => rw [e1] at o; exact o⟩
theorem sx_sl {e : Expr} {lo hi : Option Expr} {de : Den Od} {dl dh : Den (Option Int)} {pos p2 : Pos} (hG : G.K = X.K) (he : PE X e (tD G U (rO G) de)) (hl : PO X lo (tD G U rOI dl)) (hh : PO X hi (tD G U rOI dh)) :
    PE X (.Subscript e (.Slice lo hi none p2) pos) (tD G U (rZ G) (cSl de dl dh)) := (pe_slice sl_2 he hl hh).imp fun σ H Q ⟨env, S, A, en, ok, o⟩ => by
  refine ⟨env, S, A, en, ok, ?_⟩
  refine (Out.bind (rel := rO G) (fun h => h.2) o).mono fun x H1 ⟨oa, env1, S1, A1, _, en1, ok1, ⟨r1, _⟩, f1, o2⟩ => ⟨env1, S1, A1, en1, ok1, ?_⟩
  refine (Out.bind (rel := rOI) (fun h => h.2) o2).mono fun l H2 ⟨l', env2, S2, A2, _, en2, ok2, ⟨r2, _⟩, f2, o3⟩ => ⟨env2, S2, A2, en2, ok2, ?_⟩
  refine (Out.bind (rel := rOI) (fun h => h.2) o3).mono fun h H3 ⟨h', env3, S3, A3, _, en3, ok3, ⟨r3, _⟩, f3, o4⟩ => ?_
  subst r2 r3
  obtain ⟨x', e, q⟩ := prim_out (pk_sl hG l' h') (ods := [oa]) (vs := [x]) en3 ok3 ⟨x, [], rfl, (r1.mono f2 ok1).mono f3 ok2, rfl⟩ o4
  cases e
  exact q
/-! ### what every body takes -/
theorem takes_c {P : Program} {w : World} {K' : PySem.W.Frag} {mg : Str → Option Value} {base : Heap} {N : List Str} {qual : Str} {scope : Scope} {f : Addr} {cdv : Value} {A : Around} {outer : List PySem.Env} {s : Shared} {H : Hp} {E : XK} :
    Takes (cxOf (L2.CX P w) P w K' mg base N qual scope f cdv A outer s H E) (fun cls d _ H => E cls d H) := takes_of rfl rfl rfl rfl
theorem passes_c {P : Program} {w : World} {K' : PySem.W.Frag} {mg : Str → Option Value} {base : Heap} {N : List Str} {qual : Str} {scope : Scope} {f : Addr} {cdv : Value} {A : Around} {outer : List PySem.Env} {s : Shared} {H : Hp} {E : XK} :
    PassesOwn (model (cxOf (L2.CX P w) P w K' mg base N qual scope f cdv A outer s H E).prog (cxOf (L2.CX P w) P w K' mg base N qual scope f cdv A outer s H E).w) (cxOf (L2.CX P w) P w K' mg base N qual scope f cdv A outer s H E).A (cxOf (L2.CX P w) P w K' mg base N qual scope f cdv A outer s H E).env (cxOf (L2.CX P w) P w K' mg base N qual scope f cdv A outer s H E).xe := passes_of rfl
theorem takes_b {X : Cx} : Takes X UF := fun _ _ ⟨_, _, _, _, _, _, _, _, _, _, _, _, _, _, _, _, w⟩ => w.elim
/-! ### callees -/
structure Cal (P : Program) (w : World) (K' : PySem.W.Frag) (mg : Str → Option Value) (base : Heap) (cm : Str → Option Addr) (k : Nat) (nm : Str) (n : Nat) (m : Mean) : Prop where
  ex : ∃ (f : Addr) (fd : FuncData) (ps : List Str), mg nm = some (.ref f) ∧ PySem.W.keepIn K' (.ref f) = true ∧ L2.Binds K' fd ps [] ∧ FnOk P w K' mg base (L2.CX P w) k f fd ps (spM ⟨K', cm, w⟩ n m)
theorem Cal.s {P : Program} {w : World} {K' : PySem.W.Frag} {mg : Str → Option Value} {base : Heap} {X : Cx} {cm : Str → Option Addr} {k j : Nat} {nm : Str} {n : Nat} {m : Mean} (c : Cal P w K' mg base cm k nm n m) (hr : Room j X.A) (h : k ≤ j)
    (e : X.prog = P ∧ X.w = w ∧ X.K = K' ∧ X.mg = mg ∧ X.base = base := by exact ⟨rfl, rfl, rfl, rfl, rfl⟩) : FnS ⟨K', cm, w⟩ X nm n m := by
  obtain ⟨rfl, rfl, rfl, rfl, rfl⟩ := e
  obtain ⟨f, fd, ps, h1, h2, h3, h4⟩ := c.ex
  exact ⟨f, fd, ps, k, h1, h2, h3, h4, hr.mono h⟩
structure CalC (P : Program) (w : World) (K' : PySem.W.Frag) (mg : Str → Option Value) (base : Heap) (cm : Str → Option Addr) (k : Nat) (nm : Str) (n : Nat) (m : Mean) : Prop where
  ex : ∃ (C f : Addr) (fd : FuncData) (ps : List Str), cm nm = some C ∧ mg nm = some (.ref C) ∧ Mk K' C f ∧ L2.Binds K' fd ps [] ∧ FnOk P w K' mg base (L2.CX P w) k f fd ps (spM ⟨K', cm, w⟩ (n + 1) m)
theorem CalC.s {P : Program} {w : World} {K' : PySem.W.Frag} {mg : Str → Option Value} {base : Heap} {X : Cx} {cm : Str → Option Addr} {k j : Nat} {nm : Str} {n : Nat} {m : Mean} (c : CalC P w K' mg base cm k nm n m) (hr : Room j X.A) (h : k + 1 ≤ j)
    (e : X.prog = P ∧ X.w = w ∧ X.K = K' ∧ X.mg = mg ∧ X.base = base := by exact ⟨rfl, rfl, rfl, rfl, rfl⟩) : ClS ⟨K', cm, w⟩ X nm n m := by
  obtain ⟨rfl, rfl, rfl, rfl, rfl⟩ := e
  obtain ⟨C, f, fd, ps, h0, h1, h2, h3, h4⟩ := c.ex
  exact ⟨C, f, fd, ps, k, h0, h1, h2, h3, h4, hr.mono h⟩
/-! lengths of argument lists -/
theorem ln_nil {env env' : Env} {os : List Od} (h : (cNil : Den (List Od)) env = .ok os env') : os.length = 0 := by cases h; rfl
theorem ln_cons {d : Den Od} {ds : Den (List Od)} {n : Nat} (h : ∀ env os env', ds env = .ok os env' → os.length = n) : ∀ env os env', cConsO d ds env = .ok os env' → os.length = n + 1 := fun env os env' e => by
  unfold cConsO at e
  cases e1 : d env with
  | ok o env1 =>
    rw [e1] at e
    dsimp only [R.bind] at e
    cases e2 : ds env1 with
    | ok os1 env2 =>
      rw [e2] at e
      cases e
      simp [h _ _ _ e2]
    | ex x e3 => rw [e2] at e; cases e
    | bad => rw [e2] at e; cases e
  | ex x e3 => rw [e1] at e; cases e
  | bad => rw [e1] at e; cases e
theorem ln0 : ∀ env os env', (cNil : Den (List Od)) env = .ok os env' → os.length = 0 := fun _ _ _ h => ln_nil h
/-- a def laid out -/
theorem Cal.of {P : Program} {w : World} {K' : PySem.W.Frag} {mg : Str → Option Value} {base : Heap} {cm : Str → Option Addr} {k : Nat} {nm : Str} {qual x : Str} {params : Arguments} {body : List Stmt} {scope : Scope} {f : Addr} {fd : FuncData} {N ps : List Str} {d : Df}
    (hm : mg nm = some (.ref f)) (F : FunD K' x qual params body scope [] [] f fd) (hb : L2.Binds K' fd ps []) (Sc : FnScope N ps scope) (hn : ps.length = d.np) (hs : N.length = d.ns) (hk : ∀ i ∈ d.keeps, i < d.np)
    (hw : ∀ (cdv : Value), CodeIs K' f cdv → ∀ (A : Around) (outer : List PySem.Env) (s : Shared) (H : Hp) (E : XK), Room k (A.deeper (envOfC qual scope s.heap.objs.size f cdv)) →
      PSs (cxOf (L2.CX P w) P w K' mg base N qual scope f cdv A outer s H E) body (tS ⟨K', cm, w⟩ (fun cls d _ H => E cls d H) d.keeps d.body)) : Cal P w K' mg base cm (k + 1) nm d.np (evD d) :=
  ⟨f, fd, ps, hm, F.kp, hb, def_ok d F Sc hn hs hk hw⟩
end
end Cb

end
section
set_option maxRecDepth 100000
set_option maxHeartbeats 4000000
/-! list(range(..)); x, y = a, b with owned values -/
namespace Cb
open PySem PySem.Spec PyProof.Rows L2
def rgW (a b : Int) : List W := (List.range (b - a).toNat).map fun (k : Nat) => .int (a + (k : Int))
def rgOk (a b : Int) : Bool := bnd a && bnd b && decide ((b - a).toNat ≤ 16777216)
def cRg1 (d : Den Z) : Den Z := fun env => (d env).bind fun z env => match asI z with
  | some b => if rgOk 0 b then .ok (.L (rgW 0 b)) env else .bad
  | none => .bad
def cRg2 (d e : Den Z) : Den Z := fun env => (d env).bind fun z env => (e env).bind fun y env => match asI z, asI y with
  | some a, some b => if rgOk a b then .ok (.L (rgW a b)) env else .bad
  | _, _ => .bad
def kParZ (i j : Nat) (d e : Den Z) : DenS := fun env => SR.of ((d env).bind fun z env => (e env).bind fun y env => .ok (if i < env.length ∧ j < env.length then .nx ((env.set i (some z)).set j (some y)) else .bad) env)
section
variable [Tb] {G : Gc} {U : L2.WX} {X : Cx} {K : List Nat}
theorem rgOk_iff {a b : Int} (h : rgOk a b = true) : RgOk a b := by
  unfold rgOk at h
  rw [Bool.and_eq_true, Bool.and_eq_true] at h
  obtain ⟨h1, h2⟩ := bnd_iff h.1.1
  obtain ⟨h3, h4⟩ := bnd_iff h.1.2
  exact ⟨h1, h2, h3, h4, of_decide_eq_true h.2⟩
theorem rps_rg {S : AS} {H : Hp} (a b : Int) : Rps G S H (rgW a b) (rgV a b) := by
  unfold rgW rgV
  generalize (List.range (b - a).toNat) = l
  induction l with
  | nil => exact .nil
  | cons x l ih => exact .cons (rp_int _ _ _) ih
theorem q_lrg1 {a : Expr} {d : Den Z} {p p2 pos pos2 : Pos} (hc : X.calm = true) (hg : Gl X "list") (hm : X.mg "list" = none) (hg2 : Gl X "range") (hm2 : X.mg "range" = none) (ns : Nst a) (ha : PE X a (tD G U (rZ G) d)) :
    PE X (.Call (.Name "list" p) [.Call (.Name "range" p2) [a] [] pos] [] pos2) (tD G U (rZ G) (cRg1 d)) := (pe_listRg hc hg hm (prg_1 hg2 hm2 (pe_fz ha) (ns _ _)) (by rfl)).imp fun σ H Q ⟨env, S, A, en, ok, o⟩ => by
  refine ⟨env, S, A, en, ok, ?_⟩
  have e0 : cRg1 d env = (cFz d env).bind fun w env => match w with | .int b => if rgOk 0 b then .ok (.L (rgW 0 b)) env else .bad | _ => .bad := by
    unfold cRg1 cFz
    cases d env with
    | ok z e1 =>
      cases z with
      | w x => cases x <;> rfl
      | _ => rfl
    | _ => rfl
  rw [e0] at o
  refine (Out.bind (rel := rW G) (fun h => h.2) o).mono fun x H1 ⟨a, env1, S1, A1, _, en1, ok1, ⟨r1, _⟩, f1, o2⟩ => ?_
  cases a with
  | int b =>
    unfold Rp at r1
    subst r1
    dsimp only at o2
    by_cases hr : rgOk 0 b = true
    · rw [if_pos hr] at o2
      exact ⟨b, rfl, rgOk_iff hr, (Res.out en1 ok1 o2).lst (rps_rg 0 b)⟩
    · rw [if_neg hr] at o2; exact o2.elim
  | _ => exact o2.elim
theorem q_lrg2 {a b : Expr} {d e : Den Z} {p p2 pos pos2 : Pos} (hc : X.calm = true) (hg : Gl X "list") (hm : X.mg "list" = none) (hg2 : Gl X "range") (hm2 : X.mg "range" = none) (ns : Nst a) (ns2 : Nst b) (ha : PE X a (tD G U (rZ G) d)) (hb : PE X b (tD G U (rZ G) e)) :
    PE X (.Call (.Name "list" p) [.Call (.Name "range" p2) [a, b] [] pos] [] pos2) (tD G U (rZ G) (cRg2 d e)) := (pe_listRg hc hg hm (prg_2 hg2 hm2 (pe_fz ha) (pe_fz hb) (ns _ _) (ns2 _ _) (by rw [ns2]; rfl)) (by rfl)).imp fun σ H Q ⟨env, S, A, en, ok, o⟩ => by
  refine ⟨env, S, A, en, ok, ?_⟩
  have e0 : cRg2 d e env = (cFz d env).bind fun w env => (cFz e env).bind fun y env => match w, y with | .int a, .int b => if rgOk a b then .ok (.L (rgW a b)) env else .bad | _, _ => .bad := by
    unfold cRg2 cFz
    cases d env with
    | ok z e1 =>
      dsimp only [R.bind]
      cases e e1 with
      | ok y e2 =>
        cases z with
        | w x =>
          cases x with
          | int i =>
            cases y with
            | w y => cases y <;> rfl
            | _ => rfl
          | _ => rfl
        | _ => rfl
      | _ => rfl
    | _ => rfl
  rw [e0] at o
  refine (Out.bind (rel := rW G) (fun h => h.2) o).mono fun x H1 ⟨a, env1, S1, A1, _, en1, ok1, ⟨r1, _⟩, f1, o2⟩ => ⟨env1, S1, A1, en1, ok1, ?_⟩
  refine (Out.bind (rel := rW G) (fun h => h.2) o2).mono fun y H2 ⟨b, env2, S2, A2, _, en2, ok2, ⟨r2, _⟩, f2, o3⟩ => ?_
  cases a with
  | int i =>
    cases b with
    | int j =>
      unfold Rp at r1 r2
      subst r1 r2
      dsimp only at o3
      by_cases hr : rgOk i j = true
      · rw [if_pos hr] at o3
        exact ⟨i, j, rfl, rfl, rgOk_iff hr, (Res.out en2 ok2 o3).lst (rps_rg i j)⟩
      · rw [if_neg hr] at o3; exact o3.elim
    | _ => exact o3.elim
  | _ => exact o3.elim
/-- x, y = a, b: each keeps what it owns -/
theorem sk_parZ {i j : Nat} {x y : Str} {a b : Expr} {px py pt pos : Pos} {kt k2 pt2} {d e : Den Z} (hc : X.calm = true) (hN : X.N.Nodup) (hi : X.N[i]? = some x) (hj : X.N[j]? = some y) (hij : i ≠ j) (hx : X.env.scope.names.lookup x = some .local) (hy : X.env.scope.names.lookup y = some .local)
    (na : Nst a) (nb : Nst b) (ha : PE X a (tD G U (rZ G) d)) (hb : PE X b (tD G U (rZ G) e)) (hw : swappedStores [.Tuple [.Name x px, .Name y py] kt pt] (.Tuple [a, b] k2 pt2) X.env = pure (some [x, y])) (hk : i ∉ K ∧ j ∉ K) :
    PS X (.Assign [.Tuple [.Name x px, .Name y py] kt pt] (.Tuple [a, b] k2 pt2) pos) (tS G U K (kParZ i j d e)) :=
  (ps_par hc hN hi hj hij hx hy (pa_cons ha (pa_cons hb pa_nil (nb _ _)) (na _ _)) hw).imp fun D σ H ⟨env, S, A, en, ok, o⟩ => by
  refine ⟨env, S, A, en, ok, ?_⟩
  have o0 : OutS G U K σ S H A (SR.of ((d env).bind fun z env => (e env).bind fun y env => .ok (if i < env.length ∧ j < env.length then .nx ((env.set i (some z)).set j (some y)) else .bad) env)) D := o
  cases e1 : d env with
  | bad => rw [e1] at o0; exact o0
  | ex x2 env1 => rw [e1] at o0; exact fun cls dd H' S' A' h1 h2 h3 h4 => o0 cls dd σ H' S' A' h1 Agr.refl h2 h3 h4
  | ok z env1 =>
    rw [e1] at o0
    intro v H1 S1 A1 B1 en1 rz1 ok1 f1
    have ok1' : Ok S1 H1 A1 := ok1.right
    refine ⟨env1, S1, A1, en1, ok1', ?_⟩
    cases e2 : e env1 with
    | bad => dsimp only [R.bind] at o0; rw [e2] at o0; exact o0
    | ex x2 env2 =>
      dsimp only [R.bind] at o0
      rw [e2] at o0
      intro cls dd H2 S2 A2 h1 h2 h3 h4
      have okA : Ok S1 H1 (A1 ++ B1) := ok1.perm List.perm_append_comm
      have ok2 : Ok S2 H2 (A2 ++ B1) := h4.off okA h3
      refine o0 cls dd σ H2 S2 A2 h1 Agr.refl h2 h3 ?_
      refine (f1.trans (h4.wide (B := B1 ++ A1) fun a ha => List.mem_append_right _ ha))
    | ok y' env2 =>
      dsimp only [R.bind] at o0
      rw [e2] at o0
      intro w H2 S2 A2 B2 en2 rz2 ok2 f2
      have okA : Ok S1 H1 (A1 ++ B1) := ok1.perm List.perm_append_comm
      have ok3 : Ok S2 H2 ((B2 ++ A2) ++ B1) := f2.off okA ok2
      have rz1' : RZ G S2 H2 z v B1 := rz1.mono (f2.kp ok1') f2.up (f2.offK okA)
      have o3 : OutS G U K σ S H A (if i < env2.length ∧ j < env2.length then .nx ((env2.set i (some z)).set j (some y')) else .bad) D := o0
      refine ⟨v, w, rfl, ?_⟩
      by_cases hij' : i < env2.length ∧ j < env2.length
      · rw [if_pos hij'] at o3
        have p1 : ((B2 ++ A2) ++ B1).Perm (B2 ++ (B1 ++ A2)) := by
          rw [List.append_assoc]
          exact List.Perm.append_left B2 List.perm_append_comm
        have ok4 : Ok S2 H2 (B2 ++ (B1 ++ A2)) := ok3.perm p1.symm
        obtain ⟨A3, h1, h2, h3⟩ := lay en2 hij'.1 rz1' ok4.right
        have ok5 : Ok S2 H2 (B2 ++ A3) := by
          refine ⟨List.nodup_append.mpr ⟨ok4.left.nd, h2.nd, fun a ha b hb e => ok4.dis ha (e ▸ h3 b hb)⟩, fun a ha => ?_, ok4.dom, ok4.tab⟩
          rcases List.mem_append.mp ha with h | h
          · exact ok4.own a (List.mem_append_left _ h)
          · exact h2.own a h
        obtain ⟨A4, h4, h5, h6⟩ := lay (i := j) h1 (by rw [List.length_set]; exact hij'.2) rz2 ok5
        have ag : Agr K σ ((σ.set i (some v)).set j (some w)) := (Agr.set hk.1).trans (Agr.set hk.2)
        refine o3 _ H2 S2 A4 ag h4 h5 ?_
        have f12 : Fr S H A S2 H2 (B2 ++ A2 ++ B1) := ⟨fun a u ea na => (f1.trans (f2.wide (B := B1 ++ A1) fun a ha => List.mem_append_right _ ha)).keep a u ea na, fun a h => f2.up a (f1.up a h), fun a h => (f1.trans (f2.wide (B := B1 ++ A1) fun a ha => List.mem_append_right _ ha)).back a h, fun a ha => by
          rcases List.mem_append.mp ha with h | h
          · exact (f1.trans (f2.wide (B := B1 ++ A1) fun a ha => List.mem_append_right _ ha)).own a h
          · exact f1.own a (List.mem_append_left _ h), fun a u ea => (f1.trans (f2.wide (B := B1 ++ A1) fun a ha => List.mem_append_right _ ha)).dom a u ea⟩
        refine f12.less fun a ha => ?_
        rcases List.mem_append.mp (h6 a ha) with h | h
        · exact List.mem_append_left _ (List.mem_append_left _ h)
        · rcases List.mem_append.mp (h3 a h) with h | h
          · exact List.mem_append_right _ h
          · exact List.mem_append_left _ (List.mem_append_right _ h)
      · rw [if_neg hij'] at o3; exact o3.elim
end
end Cb

end
section
set_option maxRecDepth 100000
set_option maxHeartbeats 4000000
/-! set(t) of a tuple of tuples of ints: the set is made empty, then its own __init__ walks the tuple -/
namespace Cb
open PySem PySem.Spec PyProof.Rows L2
/-- a set as it is made -/
abbrev eS (w : World) : Obj := { cls := .type "set", dict := none, data := .set #[] 0 (.fresh 0 0 (!w.params.followText "set-order")) }
/-- what is left: at the first free place a set of these; all that was is as it was -/
def LeftS (P : Program) (w : World) (ks : List (Addr × List Int)) (s z : Shared) : Prop := ∃ (g : Heap) (n : Nat) (L : List (Addr × List Int)) (es : Array (Int × Value)) (ep : Nat) (t : SetTable),
  z = { s with heap := g, toks := n } ∧ SetTR P w g s.heap.objs.size L es ep t ∧ Got ks ks.length L ∧ ∀ b o, s.heap.get? b = some o → g.get? b = some o
section
variable {P : Program} {w : World} {A : Around} {E : Value → Shared → Prop} {s : Shared} {c0 : Addr} {xs : Array Value} {ks : List (Addr × List Int)}
theorem get_none {h : Heap} {b : Addr} (hb : h.objs.size ≤ b) : h.get? b = none := by
  cases q : h.get? b with
  | none => rfl
  | some o =>
    exact absurd (Heap.lt_size q) (Nat.not_lt.mpr hb)
theorem val_at (hx : xs.toList = ks.map fun p => Value.ref p.1) (i : Nat) (v : Value) (hv : xs[i]? = some v) : ∃ p, ks[i]? = some p ∧ v = .ref p.1 := by
  rw [← Array.getElem?_toList, hx, List.getElem?_map] at hv
  obtain ⟨p, h1, h2⟩ := Option.map_eq_some_iff.mp hv
  exact ⟨p, h1, h2.symm⟩
set_option maxHeartbeats 3200000 in
/-- the set's own __init__ -/
theorem init_tups (hh : A.handled = none) (hu : A.units + 2 < cLine) (hc : s.heap.IsTuple c0 xs) (hx : xs.toList = ks.map fun p => Value.ref p.1) (few : ks.length < 64) (hk : ∀ p ∈ ks, IsT P w s.heap p.2 p.1)
    (hT : Shared.TypeIs { s with heap := s.heap.push (eS w) } (.ref s.heap.objs.size) "set") :
    codeAny (model P w) A (.call (.builtin "set.__init__") ⟨[.ref s.heap.objs.size, .ref c0], []⟩) (wants (fun r z => r = .none ∧ LeftS P w ks s z) E) { s with heap := s.heap.push (eS w) } := by
  have hn : xs.size = ks.length := by rw [← Array.length_toList, hx, List.length_map]
  refine codeAny_call_builtin F.called_set.init.plain F.entry_set_init (check_set_init_1 hT ?_)
  have hS : (s.heap.push (eS w)).get? s.heap.objs.size = some (eS w) := Heap.get?_push_size _ rfl
  obtain ⟨⟨k1, k2, k3, k4⟩, q1, q2, n0, q3⟩ := hc
  dsimp only at q2 q3
  subst q2 q3
  have q1' : (s.heap.push (eS w)).get? c0 = some { cls := .type "tuple", dict := k2, data := .seq xs n0, slots := k4 } := Heap.get?_push_of_some _ q1
  have tupl : (s.heap.push (eS w)).IsTuple c0 xs := ⟨_, q1', rfl, n0, rfl⟩
  have f1 := F.sub_tuple_set
  have f2 := F.sub_tuple_frozenset
  have f3 : (Value.type "tuple" == Value.type "dict") = false := by decide
  unfold Builtin.«set.__init__» noKeywords Builtin.Frozenset.updateFrom
  generalize hIt : pyIter = It
  wp_walk
  subst hIt
  refine wpAny_pyIter_tuple tupl (wpAny_bind (wpAny_runValue ?_))
  have hs0 : (s.heap.push (eS w)).objs.size = s.heap.objs.size + 1 := Heap.size_push ..
  have hc0 : c0 < s.heap.objs.size := Heap.lt_size q1
  have d1 : c0 ≠ (s.heap.push (eS w)).objs.size := by rw [hs0]; exact Nat.ne_of_lt (Nat.lt_succ_of_lt hc0)
  have d2 : s.heap.objs.size ∉ [(s.heap.push (eS w)).objs.size, c0] := by
    rw [hs0]
    simp only [List.mem_cons, List.not_mem_nil, or_false, not_or]
    exact ⟨Nat.ne_of_lt (Nat.lt_succ_self _), Nat.ne_of_gt hc0⟩
  refine set_update_tups (Walks.tuple (by simp [hh]) _ c0 d1 xs).toS s.heap.objs.size d2 ks hn few (val_at hx) s.heap hk (get_none (Nat.le_refl _)) (fun b hb => get_none ?_) hu (xs.size - 0) 0 _ (by omega) (Nat.zero_le _) ⟨⟨_, Heap.get?_push_size _ rfl, rfl, rfl⟩, tupl.push _⟩ (fun b o e => Heap.get?_push_of_some _ (Heap.get?_push_of_some _ e)) ?_ ?_
  · rw [List.mem_singleton.mp hb, hs0]; exact Nat.le_succ _
  · exact ⟨[], #[], 0, _, setTR_fresh (Heap.get?_push_of_some _ hS), Got.zero ks⟩
  · intro z L es ep t mv R g keep
    obtain ⟨z1, z2, z3, z4, z5⟩ := z
    obtain rfl : z2 = s.gens := mv.gens
    obtain rfl : z3 = s.drawn := mv.drawn
    obtain rfl : z5 = s.os := mv.os
    rw [hn] at g
    exact wpAny_pure (wpAny_pure ⟨rfl, z1, z4, L, es, ep, t, rfl, R, g, keep⟩)
set_option maxHeartbeats 3200000 in
/-- set(t) -/
theorem call_set_ttup {Q : Value → Shared → Prop} (hh : A.handled = none) (hu : A.units + 3 < cLine) (hc : s.heap.IsTuple c0 xs) (hx : xs.toList = ks.map fun p => Value.ref p.1) (few : ks.length < 64) (hk : ∀ p ∈ ks, IsT P w s.heap p.2 p.1)
    (hQ : ∀ z, LeftS P w ks s z → Q (.ref s.heap.objs.size) z) : wpAny (model P w) A (call (.type "set") [.ref c0]) Q E s := by
  have m1 := F.called_set.made
  have m2 := F.called_set.sub
  have m3 := F.called_set.notType
  have m4 := F.called_set.canCreate
  have m5 := F.typeCall_set_1 (.ref c0)
  have m6 := F.called_set.init.lookup
  have m7 := F.called_set.init.bind (.ref s.heap.objs.size)
  obtain ⟨y1, y2, m8⟩ := F.called_set.mro
  refine wpAny_call (codeAny_of_tree (wpAny_pure ⟨Code.quiet_builtin _ (by decide +kernel), codeAny_builtin F.entry_type_call ?_⟩))
  rw [Around.under_plain (weight_type_call_type "set" [.ref c0] []) rfl]
  repeat (any_goals (first | assumption | wp_step))
  refine codeAny_mono (code_set_led1 (.ref c0) (E := E) (Q₁ := fun v z => v = .ref s.heap.objs.size ∧ z = { s with heap := s.heap.push (eS w) }) ⟨rfl, rfl⟩) fun r z hr => ?_
  cases r with
  | ok f =>
    cases f with
    | ret v =>
      obtain ⟨rfl, rfl⟩ := hr
      have hT : Shared.TypeIs { s with heap := s.heap.push (eS w) } (.ref s.heap.objs.size) "set" := ⟨_, Heap.get?_push_size _ rfl, rfl⟩
      repeat (any_goals (first | assumption | wp_step))
      refine codeAny_mono (init_tups (E := E) (by simp [hh]) hu hc hx few hk hT) fun r2 z2 hr2 => ?_
      cases r2 with
      | ok f2 =>
        cases f2 with
        | ret v2 =>
          obtain ⟨rfl, left⟩ := hr2
          repeat (any_goals (first | assumption | wp_step))
          exact hQ _ left
        | _ => exact hr2.elim
      | error _ => exact hr2
    | _ => exact hr.elim
  | error _ => exact hr
end
end Cb

end
section
set_option maxRecDepth 100000
set_option maxHeartbeats 1000000
/-! sorted(a set), by data -/
namespace Cb
open PySem PySem.Spec PyProof.Rows PySem.W PySem.Calls PySem.SeqAt L2
theorem each_perm {β : Type} {R : Value → β → Prop} : ∀ {l l' : List Value}, l'.Perm l → ∀ {bs : List β}, EachIs R l bs → ∃ bs', bs'.Perm bs ∧ EachIs R l' bs' := by
  intro l l' p
  induction p with
  | nil => intro bs e; cases e; exact ⟨[], .nil, .nil⟩
  | cons x _ ih =>
    intro bs e
    cases e with
    | cons r t =>
      obtain ⟨bs', h1, h2⟩ := ih t
      exact ⟨_ :: bs', h1.cons _, .cons r h2⟩
  | swap x y l =>
    intro bs e
    cases e with
    | cons r1 t =>
      cases t with
      | cons r2 t => exact ⟨_ :: _ :: _, List.Perm.swap _ _ _, .cons r2 (.cons r1 t)⟩
  | trans _ _ ih1 ih2 =>
    intro bs e
    obtain ⟨b1, h1, h2⟩ := ih2 e
    obtain ⟨b2, h3, h4⟩ := ih1 h2
    exact ⟨b2, h3.trans h1, h4⟩
section
variable {P : Program} {w : World} {A : Around} {E : Value → Shared → Prop} {s : Shared} {β : Type}
theorem sorted_any {a : Addr} {es : Array (Int × Value)} {ep : Nat} {t : SetTable} {bs : List β} {R0 : Value → β → Prop} {Q : Value → Shared → Prop} (enc : β → PyData) (hh : A.handled = none) (ha : SetAt s.heap a es ep t) (hf : t.fits es.size = true) (hsz : es.size < scanBound) (hr : Ris t.place.toList)
    (hl : w.params.followText "set-order" = true ∨ t.led = true) (hi : EachIs R0 (es.toList.map (·.2)) bs) (hrd : ∀ v b, R0 v b → ∀ h : Heap, (∀ b o, s.heap.get? b = some o → h.get? b = some o) → ∃ as, Reads h v (enc b) as)
    (hal : AllAlike (bs.map enc)) (hk : Sortable (bs.map enc) ∨ ∀ d ∈ bs.map enc, ∃ t, d = .tuple t) (hdp : ∀ d ∈ bs.map enc, A.units + 2 + d.depth < cLine) (hfew : bs.length ≤ 1000000)
    (hQ : ∀ (z : Shared) (p : Addr) (out : List Value) (c : Nat) (b1 : List β), (∀ b o, s.heap.get? b = some o → z.heap.get? b = some o) → z.gens = s.gens → z.os = s.os → s.heap.objs.size ≤ p → z.heap.get? p = some (seqObj "list" out.toArray c) → b1.Perm bs → EachIs R0 out (b1.mergeSort (dataLe false enc)) → Q (.ref p) z) :
    wpAny (model P w) A (call (.builtin "sorted") [.ref a]) Q E s := by
  refine Calls.call_function_entry kind_sorted plain_sorted entry_sorted (args_sorted1 _) ?_
  unfold Builtin.«sorted»
  refine wpAny_bind (m := checkCount "sorted" 1 1 _) (wpAny_pure ?_)
  refine wpAny_bind (collect_set (A := A.in1) hh ha hf hsz hr hl fun z vs k1 hz g1 o1 pm => ?_)
  obtain ⟨b1, p1, e1⟩ := each_perm pm hi
  have hvl : vs.length ≤ sizeLine := by
    rw [e1.length, p1.length_eq, sizeLine_eq]; omega
  refine wpAny_bind (wpAny_newList ?_ hvl)
  have hoL : (z.heap.push (seqObj "list" vs.toArray 0)).get? z.heap.objs.size = some (seqObj "list" vs.toArray 0) := Heap.get?_push_size _ rfl
  have kS : ∀ b o, s.heap.get? b = some o → (sortingHeap (z.heap.push (seqObj "list" vs.toArray 0)) z.heap.objs.size vs).get? b = some o := fun b o e =>
    sortingHeap_old (Nat.ne_of_lt (Nat.lt_of_lt_of_le (Heap.lt_size e) hz)) (Heap.get?_push_of_some _ (k1 b o e))
  have pm2 : (b1.map enc).Perm (bs.map enc) := p1.map enc
  have hal1 : AllAlike (b1.map enc) := fun d hd d' hd' => hal d (pm2.mem_iff.mp hd) d' (pm2.mem_iff.mp hd')
  have er : EachIs (fun v b => ∃ as, Reads (sortingHeap (z.heap.push (seqObj "list" vs.toArray 0)) z.heap.objs.size vs) v (enc b) as) vs b1 := e1.mono fun v b r => hrd v b r _ kS
  have er' : EachIs (fun v d => ∃ as, Reads (sortingHeap (z.heap.push (seqObj "list" vs.toArray 0)) z.heap.objs.size vs) v d as) vs (b1.map enc) := PySem.W.each_map (R := fun v d => ∃ as, Reads (sortingHeap (z.heap.push (seqObj "list" vs.toArray 0)) z.heap.objs.size vs) v d as) enc er
  have hud : ∀ d ∈ b1.map enc, A.in1.in1.units + d.depth < cLine := fun d hd => by
    have h1 : A.in1.in1.units ≤ A.units + 2 := Nat.le_refl _
    have h2 := hdp d (pm2.mem_iff.mp hd)
    omega
  have SA : SortsAt P w A.in1.in1 { z with heap := sortingHeap (z.heap.push (seqObj "list" vs.toArray 0)) z.heap.objs.size vs } (dataKind (sortingHeap (z.heap.push (seqObj "list" vs.toArray 0)) z.heap.objs.size vs) (b1.map enc)) vs := by
    rcases hk with hk | hk
    · refine PySem.W.SortsAt.data (s := { z with heap := sortingHeap (z.heap.push (seqObj "list" vs.toArray 0)) z.heap.objs.size vs }) er' hal1 ?_ hud
      rcases hk with hk | hk
      · exact .inl fun d hd => hk d (pm2.mem_iff.mp hd)
      · exact .inr fun d hd => hk d (pm2.mem_iff.mp hd)
    · exact sorts_tups (s := { z with heap := sortingHeap (z.heap.push (seqObj "list" vs.toArray 0)) z.heap.objs.size vs }) er' hal1 (fun d hd => hk d (pm2.mem_iff.mp hd)) hud
  have sd := sortVals_data (enc := enc) false e1 er hal1
  refine wpAny_bind (wpAny_holding (wpAny_call_entry_kw slot_list_sort ⟨_, hoL, rfl⟩ entry_list_sort ?body (args_list_sort _)))
  case body =>
    refine list_sort_vals (s := { z with heap := z.heap.push (seqObj "list" vs.toArray 0) }) hoL SA hvl ?_
    obtain ⟨c, hc⟩ := sortedHeap_at (vs := vs) (out := (sortVals (dataKind (sortingHeap (z.heap.push (seqObj "list" vs.toArray 0)) z.heap.objs.size vs) (b1.map enc)) false vs vs).toArray) hoL
    refine ⟨_, rfl, wpAny_pure ⟨_, rfl, hQ _ z.heap.objs.size _ c b1 (fun b o e => ?_) g1 o1 hz hc p1 sd⟩⟩
    have q := k1 b o e
    have hlt := Heap.lt_size q
    show (sortedHeap (z.heap.push (seqObj "list" vs.toArray 0)) z.heap.objs.size vs _).get? b = some o
    rw [sortedHeap_old (Nat.ne_of_lt hlt) (by rw [size_push']; exact Nat.lt_succ_of_lt hlt)]
    exact Heap.get?_push_of_some _ q
end
end Cb

end
section
set_option maxRecDepth 100000
set_option maxHeartbeats 1000000
/-! sorting: one arrangement; each once -/
namespace Cb
open PySem PySem.Spec PyProof.Rows L2
theorem sort_asc {ws : List W} (h : sortable ws = true) : (sortW ltW ws).Pairwise fun a b => ltW b a = false := by
  obtain ⟨h1, h2⟩ := sortable_iff h
  have hp : ∀ x ∈ ws, plainW x = true := fun x hx => plainWs_mem (shWs_iff h1).1 hx
  have hm : ∀ x ∈ sortW ltW ws, x ∈ ws := fun x hx => (sortW_perm _).mem_iff.mp hx
  have := PySem.W.sort_pairwise total_data ws
  rw [sort_eq h] at this
  refine List.Pairwise.imp_of_mem (fun {a b} ha hb hab => ?_) this
  have e : PySem.W.dataLt (toD b) (toD a) = false := by
    have : (!PySem.W.dataLt (toD b) (toD a)) = true := hab
    simpa using this
  rwa [dataLt_of _ _ (h2 b (hm b hb) a (hm a ha)) (hp b (hm b hb)) (hp a (hm a ha))] at e
theorem sortable_sub {l l' : List W} (h : sortable l = true) (hs : ∀ x ∈ l', x ∈ l) : sortable l' = true := by
  obtain ⟨h1, h2⟩ := sortable_iff h
  have sp := shWs_iff h1
  unfold sortable
  rw [Bool.and_eq_true]
  refine ⟨?_, List.all_eq_true.mpr fun a ha => List.all_eq_true.mpr fun b hb => h2 a (hs a ha) b (hs b hb)⟩
  unfold shWs
  rw [Bool.and_eq_true]
  constructor
  · have : ∀ {m : List W}, (∀ x ∈ m, plainW x = true) → plainWs m = true := by
      intro m
      induction m with
      | nil => intro _; rfl
      | cons x m ih =>
        intro hx
        unfold plainWs
        rw [hx x List.mem_cons_self, ih fun y hy => hx y (List.mem_cons_of_mem _ hy)]
        rfl
    exact this fun x hx => plainWs_mem sp.1 (hs x hx)
  · have : ∀ {m : List W}, (∀ x ∈ m, depW x ≤ 60) → depWs m ≤ 60 := by
      intro m
      induction m with
      | nil => intro _; exact Nat.zero_le _
      | cons x m ih =>
        intro hx
        unfold depWs
        exact Nat.max_le.mpr ⟨hx x List.mem_cons_self, ih fun y hy => hx y (List.mem_cons_of_mem _ hy)⟩
    exact decide_eq_true (this fun x hx => Nat.le_trans (depWs_mem (hs x hx)) sp.2)
theorem sort_perm {l l' : List W} (h : sortable l = true) (p : l'.Perm l) : sortW ltW l' = sortW ltW l := by
  have h' := sortable_sub h fun x hx => p.mem_iff.mp hx
  obtain ⟨_, h2⟩ := sortable_iff h
  refine ((sortW_perm l').trans (p.trans (sortW_perm l).symm)).eq_of_pairwise (le := fun a b => ltW b a = false) (fun a b ha hb h1 h3 => ?_) (sort_asc h') (sort_asc h)
  have ma : a ∈ l := p.mem_iff.mp ((sortW_perm l').mem_iff.mp ha)
  have mb : b ∈ l := (sortW_perm l).mem_iff.mp hb
  exact cmp_tri a b (h2 a ma b mb) h3 h1
theorem eqW_iff {l : List W} (h : sortable l = true) {a b : W} (ha : a ∈ l) (hb : b ∈ l) : eqW a b = true ↔ a = b := by
  obtain ⟨_, h2⟩ := sortable_iff h
  constructor
  · exact cmp_eq a b (h2 a ha b hb)
  · rintro rfl
    exact cmp_refl_eq a (h2 a ha a ha)
theorem dd_mem : ∀ {l m : List W}, sortable m = true → (∀ x ∈ l, x ∈ m) → ∀ x, x ∈ dedupW l ↔ x ∈ l
  | [], m, _, _, x => by unfold dedupW; exact Iff.rfl
  | y :: l, m, h, hs, x => by
    have ih := dd_mem (l := l) h (fun x hx => hs x (List.mem_cons_of_mem _ hx)) x
    unfold dedupW
    by_cases q : (l.any fun z => eqW z y) = true
    · rw [if_pos q, ih]
      obtain ⟨z, hz, e⟩ := List.any_eq_true.mp q
      have e := (eqW_iff h (hs z (List.mem_cons_of_mem _ hz)) (hs y List.mem_cons_self)).mp e
      constructor
      · exact fun hx => List.mem_cons_of_mem _ hx
      · intro hx
        rcases List.mem_cons.mp hx with rfl | hx
        · exact e ▸ hz
        · exact hx
    · rw [if_neg q, List.mem_cons, List.mem_cons, ih]
theorem dd_nodup : ∀ {l m : List W}, sortable m = true → (∀ x ∈ l, x ∈ m) → (dedupW l).Nodup
  | [], m, _, _ => by unfold dedupW; exact List.nodup_nil
  | y :: l, m, h, hs => by
    have hs' : ∀ x ∈ l, x ∈ m := fun x hx => hs x (List.mem_cons_of_mem _ hx)
    have ih := dd_nodup h hs'
    unfold dedupW
    by_cases q : (l.any fun z => eqW z y) = true
    · rw [if_pos q]; exact ih
    · rw [if_neg q]
      refine List.nodup_cons.mpr ⟨fun hy => q ?_, ih⟩
      have hy := (dd_mem h hs' y).mp hy
      exact List.any_eq_true.mpr ⟨y, hy, (eqW_iff h (hs y List.mem_cons_self) (hs y List.mem_cons_self)).mpr rfl⟩
/-- each once, in the one arrangement -/
theorem sort_dd {a l : List W} (h : sortable a = true) (nd : l.Nodup) (hm : ∀ x, x ∈ l ↔ x ∈ a) : sortW ltW (dedupW a) = sortW ltW l := by
  have hs : sortable l = true := sortable_sub h fun x hx => (hm x).mp hx
  exact sort_perm hs ((List.perm_ext_iff_of_nodup (dd_nodup h fun _ h => h) nd).mpr fun x => (dd_mem h (fun _ h => h) x).trans (hm x).symm)
end Cb

end
section
set_option maxRecDepth 100000
set_option maxHeartbeats 4000000
namespace Cb
open PySem PySem.Spec PyProof.Rows L2
section
variable [Tb] {G : Gc} {U : L2.WX} {X : Cx} {K : List Nat}
theorem q_pts0 : PTs X [] (tD G U rB cTrue) := ⟨fun pins s σ H Q I ⟨env, S, A, en, ok, o⟩ => pts_nil.run pins s σ H Q I (o true H S A [] en ⟨rfl, rfl⟩ ok (Fr.refl ok))⟩
theorem sx_isNon {a : Expr} {j pos pos'} {d : Den Od} (ha : PE X a (tD G U (rO G) d)) : PE X (.Compare a [.Is] [.Constant .none j pos'] pos) (tD G U (rZ G) (cPr .isNon (cConsO d cNil))) := sx_pr1 pk_isNon ha fun _ h => pe_cmp (pc_isN h)
theorem sx_notNon {a : Expr} {j pos pos'} {d : Den Od} (ha : PE X a (tD G U (rO G) d)) : PE X (.Compare a [.IsNot] [.Constant .none j pos'] pos) (tD G U (rZ G) (cPr .notNon (cConsO d cNil))) := sx_pr1 pk_notNon ha fun _ h => pe_cmp (pc_notN h)
end
end Cb

end
section
set_option maxRecDepth 100000
set_option maxHeartbeats 4000000
/-! the end of a law -/
namespace Cb
open PySem PySem.Spec PyProof.Rows L2
theorem end_w [Tb] {K' : PySem.W.Frag} {cm : Str → Option Addr} {m : Mean} {w : World} (hm : ∀ ns : List Int, ns.length ≤ 63 → ∃ back, m [.w (.scr ns)] = .ok (.w (.bl true)) back) (H : Hp) (a : Addr) (ns : List Int) (hl : ns.length ≤ 63) (hT : LamX.Tabs Tb.T H) (hS : SqL K' H a (ns.map V.int)) :
    spM ⟨K', cm, w⟩ 1 m [.ref a] H (fun v _ => v = .bl true) fun _ _ _ => False := by
  have sc : ∃ S : AS, (∀ b, S b → ∃ o, H b = some o) ∧ (Sc K' H a (ns.map V.int) ∨ Fz S H a (.lst (ns.map V.int))) := by
    rcases hS with (h | h) | h
    · exact ⟨fun b => b = a, fun b (e : b = a) => ⟨_, e ▸ h⟩, .inr ⟨rfl, h⟩⟩
    · exact ⟨fun _ => False, fun _ h => h.elim, .inl (.inl h)⟩
    · exact ⟨fun _ => False, fun _ h => h.elim, .inl (.inr h)⟩
  obtain ⟨S, hS, sc⟩ := sc
  obtain ⟨back, e⟩ := hm ns hl
  refine ⟨rfl, [.w (.scr ns)], S, [[]], ⟨.ref a, [], [], [], rfl, rfl, ⟨by unfold Rp; exact ⟨a, rfl, sc⟩, rfl⟩, rfl, rfl⟩, ⟨by simp, fun a ha => absurd ha (by simp), hS, hT⟩, ?_⟩
  rw [e]
  intro v H' S' B Bs' rb rz _ _
  obtain ⟨rz, _⟩ := rz
  unfold Rp at rz
  exact rz
theorem no_tabs {H : Hp} : LamX.Tabs [] H := fun p hp => absurd hp (by simp)
theorem walk_w {l : PySem.W.OpenLaw} {n k : Nat} {q : Program} {loose : List Str} {XP : (Str → Option Value) → Heap → Prop} {YP : World → Heap → Prop} {d : DefRec} {x : Str} (hn : l.most = some n) (hn2 : n ≤ sizeLine) (hdf : d.params.defaults = []) (hr : Room k callerA)
    (F : ∀ (w : World) (mg : Str → Option Value) (fa : Addr) (h : Heap), YP w h → h.Ns mainGlobals mg → mg d.name = some (.ref fa) → ∃ (K' : PySem.W.Frag) (fd : FuncData) (sp : Sp), K'.In h ∧ (∀ (s : Shared) (u : Value), BindsTo s fd ⟨[u], []⟩ [(x, u)]) ∧
      (∀ (H : Hp) (a : Addr) (ns : List Int), ns.length ≤ n → Only H → SqL K' H a (ns.map V.int) → sp [.ref a] H (fun v _ => v = .bl true) fun _ _ _ => False) ∧
      ∀ base : Heap, K'.In base → base.Ns mainGlobals mg → FnOk l.prog w K' mg base (L2.CX l.prog w) k fa fd [x] sp) :
    PySem.W.WalkO q loose XP YP l.row.toRowW d [] (fun f vs => PySem.call f vs) := by
  refine Att.attach_call hn hdf fun w s₀ s₁ mg mb fa o pm cd doc a vs ns Gr Y ho hd hcd hmg hobj hints hlen hg => ?_
  obtain ⟨K', fd, sp, KX, hb, hsp, hF⟩ := F w mg fa _ Y Gr.T.g hmg
  exact law_call KX Gr.T.g Gr.T.b Gr.T.builtins Gr.T.nolimit hg hobj hints (Nat.le_trans hlen hn2) hr hF hb (fun H hO hS => hsp H a ns hlen hO hS)
    fun H e s' ⟨_, _, _, _, _, _, _, _, _, _, _, _, z⟩ => z.elim
end Cb

end
section
set_option maxRecDepth 100000
set_option maxHeartbeats 4000000
/-! a lambda as a sort's key: lambda x: (len(x), x) -/
namespace Cb
open PySem PySem.Spec PyProof.Rows L2 LamX
section
variable {X : Cx} {pins : List (Addr × Obj)} {σ : L2.St} {H : Hp} {s : Shared}
/-- the name x, that holds the object at t -/
theorem ev_ref {E Q : Value → Shared → Prop} {i : Nat} {x : Str} {p : Pos} {t : Addr} (I : Inv X pins σ H s) (hN : X.N[i]? = some x) (hv : Vis X.env.scope x) (hs : σ[i]? = some (some (.ref t))) (q : Q (.ref t) s)
    (hd : (x == ("__debug__" : Str)) = false) (hc : (x == ("__classdict__" : Str)) = false) : wpAny (model X.prog X.w) X.A (eval (.Name x p) X.env) Q E s := by
  obtain ⟨m, hn, hl⟩ := I.loc
  obtain ⟨u, r, l⟩ := hl i x _ hN hs hv
  obtain rfl : u = Value.ref t := r
  rcases l with ⟨k1, k2⟩ | ⟨k1, c, k2, k3⟩
  · exact wpAny_Name (wpAny_loadName_local I.ok.kind k1 hn k2 q) hd
  · rcases k1 with k1 | k1
    · exact wpAny_Name (wpAny_loadName_cell I.ok.kind k1 k2 k3 q) hd
    · exact wpAny_Name (wpAny_loadName_free I.ok.kind k1 k2 k3 q hc) hd
/-- len(x) -/
theorem ev_len {E Q : Value → Shared → Prop} {i : Nat} {x : Str} {p p2 pos : Pos} {t : Addr} {its : Array Value} (I : Inv X pins σ H s) (hN : X.N[i]? = some x) (hv : Vis X.env.scope x) (hs : σ[i]? = some (some (.ref t))) (ht : IsTup s.heap t its) (hz : (its.size : Int) < 2 ^ 63)
    (hg : Gl X "len") (hm : X.mg "len" = none) (q : Q (.int its.size (s.toks + 1)) { s with toks := s.toks + 1 + 1 })
    (hd : (x == ("__debug__" : Str)) = false) (hc : (x == ("__classdict__" : Str)) = false) : wpAny (model X.prog X.w) X.A (eval (.Call (.Name "len" p) [.Name x p2] [] pos) X.env) Q E s :=
  Call_ (ld_blt I hg hm boot_len (PyProof.Rows.callWith_builtin1 (PyProof.Rows.args_cons (ev_ref I hN hv hs (PyProof.Rows.args_nil (PyProof.Rows.len_tuple ht hz q)) hd hc) rfl) rfl rfl))
/-- (len(x), x) -/
def KeyLT (x : Str) : Expr → Prop
  | .Tuple [.Call (.Name f _) [.Name y _] [] _, .Name z _] _ _ => f = "len" ∧ y = x ∧ z = x
  | _ => False
theorem ev_keyLT {E Q : Value → Shared → Prop} {i : Nat} {x : Str} {e : Expr} {t : Addr} {its : Array Value} (he : KeyLT x e) (I : Inv X pins σ H s) (hN : X.N[i]? = some x) (hv : Vis X.env.scope x) (hs : σ[i]? = some (some (.ref t))) (ht : IsTup s.heap t its) (hz : (its.size : Int) < 2 ^ 63)
    (hg : Gl X "len") (hm : X.mg "len" = none) (q : ∀ tk tk', Q (.ref s.heap.objs.size) { s with heap := s.heap.push { cls := .type "tuple", data := .seq #[.int its.size tk, .ref t] }, toks := tk' })
    (hd : (x == ("__debug__" : Str)) = false) (hc : (x == ("__classdict__" : Str)) = false) : wpAny (model X.prog X.w) X.A (eval e X.env) Q E s := by
  unfold KeyLT at he
  split at he
  · obtain ⟨rfl, rfl, rfl⟩ := he
    refine wpAny_Tuple_spliced (PyProof.Rows.args_cons (ev_len I hN hv hs ht hz hg hm (PyProof.Rows.args_cons (ev_ref (I.tok _) hN hv hs (PyProof.Rows.args_nil ⟨?_, q _ _⟩) hd hc) rfl) hd hc) rfl)
    rw [sizeLine_eq]
    show 2 ≤ 16777216
    decide
  · exact he.elim
/-- the lambda, called with the tuple at t -/
theorem lam_key {x : Str} {f c' : Addr} {qual : Str} {params : Arguments} {body : Expr} {scope : Scope} {pm ctv : Value} {t : Addr} {its : Array Value} (I : Inv X pins σ H s) (hr : X.A.depth < recursionLimit) (hh : X.A.handled = none)
    (of : s.heap.get? f = some (PySem.W.kla_obj "<lambda>" qual params body scope [] pm c' ctv)) (hc : H c' = some (CodeO c' qual)) (S : FnScope [x] [x] scope)
    (hbind : ∀ u, bindArgs (PySem.W.kla_fn "<lambda>" qual params body scope [] pm (.ref c') ctv) ⟨[u], []⟩ = pure [(x, u)]) (hb : KeyLT x body) (hv : Vis scope x) (hg : ∀ L, (envOfC qual scope L f (.ref c')).kindOf "len" = some .globalImplicit) (hm : X.mg "len" = none)
    (hd : (x == ("__debug__" : Str)) = false) (hcd : (x == ("__classdict__" : Str)) = false)
    (ht : IsTup s.heap t its) (hz : (its.size : Int) < 2 ^ 63) (h : Heap) (tk : Nat) (hk : ∀ b o, s.heap.get? b = some o → h.get? b = some o) :
    wpAny (model X.prog X.w) X.A.in1.in1 (call (.ref f) [.ref t]) (fun u s2 => ∃ (h' : Heap) (tk' : Nat) (T : Addr) (k : Tok), s2 = { s with heap := h', toks := tk' } ∧ (∀ b o, h.get? b = some o → h'.get? b = some o) ∧ u = .ref T ∧
      h'.get? T = some { cls := .type "tuple", data := .seq #[.int its.size k, .ref t] }) (fun _ _ => False) { s with heap := h, toks := tk } := by
  have I1 : Inv X pins σ H { s with heap := h, toks := tk } := I.kept hk
  have e0 := I1.env0
  have e1 : Env0 X.prog X.w X.K X.mg X.base X.A.in1.in1 X.stack { s with heap := h, toks := tk } H := ⟨e0.frames, e0.mod, e0.bs, e0.bsz, e0.funs, e0.frf, e0.hok, e0.bare⟩
  obtain ⟨⟨oc, vs, tq, hoc, hdc, hvc⟩, _, _⟩ := I1.hok c' _ hc
  have of1 := hk _ _ of
  have ht1 : IsTup h t its := by
    obtain ⟨o, k1, k2⟩ := ht
    exact ⟨o, hk _ _ k1, k2⟩
  refine wpAny_call (PySem.W.kla_callFunE hr of1 rfl S.co S.gen rfl ⟨c', oc, vs, tq, rfl, hoc, hdc, hvc⟩ ?_)
  rw [hbind]
  have hkind : ∀ y ∈ [x].zip [Value.ref t], scope.names.lookup y.1 = some .local ∨ (scope.names.lookup y.1 = some .cell ∧ ((cellsFrom (h.objs.size + 1) scope.names []).lookup y.1).isSome = true) := fun ⟨n, v⟩ hy => by
    rcases S.par n (List.of_mem_zip hy).1 with q | q
    · exact .inl q
    · exact .inr ⟨q, PySem.W.cellsFrom_some _ _ _ (.inl q)⟩
  refine wpAny_pure (wpAny_newFunctionEnv_cells (binds := [x].zip [Value.ref t]) S.kind hkind fun env he s1 z => ?_)
  subst he
  have I2 := inv_start (CX := L2.CX X.prog X.w) (E := fun _ _ _ => False) (vs := [V.ref t]) S (show X.A.in1.in1.handled = none from hh) e1 rfl (.cons rfl .nil) z
  obtain ⟨h1, tk1, rfl, hk1⟩ := z.done
  have ht2 : IsTup h1 t its := by
    obtain ⟨o, k1, k2⟩ := ht1
    exact ⟨o, hk1 _ _ k1, k2⟩
  refine ⟨e0.mod.nolimit.keeps fun b o e => hk1 _ _ (e0.bs b o e).1, PySem.W.kla_codeExpr ?_⟩
  refine ev_keyLT hb I2 (i := 0) rfl hv rfl ht2 hz (hg _) hm (fun k k' => ?_) hd hcd
  exact ⟨_, _, h1.objs.size, k, rfl, fun b o e => Heap.get?_push_of_some _ (hk1 b o e), rfl, Heap.get?_push_size _ rfl⟩
end
end Cb

end
section
set_option maxRecDepth 100000
set_option maxHeartbeats 4000000
namespace Cb
open PySem PySem.Spec PyProof.Rows L2 LamX
section
variable {X : Cx} {pins : List (Addr × Obj)} {σ : L2.St} {H : Hp} {s : Shared}
/-- what stands behind the making of a lambda -/
structure Made (H H1 : Hp) : Prop where
  keep : ∀ b o, H b = some o → NoT o → H1 b = some o
  dom : ∀ b o, H b = some o → ∃ o', H1 b = some o'
theorem lam_new {T : List (Addr × Str)} {c P : Addr} {qn : Str} {params : Arguments} {body : Expr} {scope : Scope} {pos : Pos} {E Q : Value → Shared → Prop} (I : Inv X pins σ H s) (B : TabB X.base X.mg c P) (hc : X.env.code = .ref c) (hq : X.env.qual ++ "<lambda>" = qn)
    (hP : (P, qn) ∈ T) (hu : ∀ p ∈ T, p.1 = P → p.2 = qn) (hT : Tabs T H) (hd : defaultsOf params X.env = ([], [])) (hf : ∀ y ∈ scope.names, y.2 ≠ .free)
    (fin : ∀ (f c' : Addr) (pm ct : Value) (H1 : Hp) (t : Shared), Inv X pins σ H1 t → Made H H1 → Tabs T H1 → t.heap.get? f = some (PySem.W.kla_obj "<lambda>" qn params body scope [] pm c' ct) → H1 c' = some (CodeO c' qn) → Q (.ref f) t) :
    wpAny (model X.prog X.w) X.A (eval (.Lambda params body scope pos) X.env) Q E s := by
  subst hq
  have cl0 : cloFrom X.env.cells scope.names [] = [] := by
    cases e : cloFrom X.env.cells scope.names [] with
    | nil => rfl
    | cons p l =>
      rcases cloFrom_mem (cells := X.env.cells) (acc := []) (show (p.1, p.2) ∈ cloFrom X.env.cells scope.names [] by rw [e]; exact List.mem_cons_self) with h | ⟨h, _⟩
      · cases h
      · exact absurd rfl (hf _ h)
  have clos := closure_ok (scope := scope) (env := X.env) fun y hy e => absurd e (hf y hy)
  rw [cl0] at clos
  obtain ⟨tab, a1, a2, a3⟩ := hT _ hP
  have g0 : s.heap.get? P = some { cls := .none, data := .fields tab } := I.hok P _ a1
  have g1 : s.heap.BuiltinsAt X.mg P := B.bm.keeps I.bk
  have g2 := I.mod.glob.keeps I.bk
  have g3 := B.code.keeps I.bk
  refine PySem.W.kla_eval hd ?_
  cases q : codeAmong pos tab.toList with
  | some cv =>
    obtain ⟨c', rfl, hc'⟩ := a3 pos cv q
    refine PySem.W.kla_makeFunctionHit (mg := X.mg) clos I.ok.glob g2 hc g3 g0 a2 q g1 fun ct h tk hk hz => ?_
    have J : Inv X pins σ H { s with heap := h.push (PySem.W.kla_obj "<lambda>" (X.env.qual ++ "<lambda>") params body scope [] ((X.mg "__name__").getD .none) c' ct), toks := tk } := I.kept fun b o e => Heap.get?_push_of_some _ (hk b o e)
    exact fin h.objs.size c' _ ct H _ J ⟨fun _ _ e _ => e, fun _ o e => ⟨o, e⟩⟩ hT (Heap.get?_push_size _ rfl) hc'
  | none =>
    refine PySem.W.kla_makeFunction (mg := X.mg) clos I.ok.glob g2 hc g3 g0 a2 q B.gP g1 fun c' ct h tk hk hge hlt hr ht => ?_
    obtain ⟨c2, oc, vs, tq, ec, hoc, hdt, hv⟩ := hr
    cases ec
    have n0 : H c' = none := I.hok.fresh hge
    have J := inv_table (t' := tk) (more := #[rawInt pos.line, rawInt pos.col, .ref c']) (h' := h.push (PySem.W.kla_obj "<lambda>" (X.env.qual ++ "<lambda>") params body scope [] ((X.mg "__name__").getD .none) c' ct)) I a1
      (fun b o hb e => Heap.get?_push_of_some _ (hk b o hb e)) (Heap.get?_push_of_some _ ht) hge ⟨oc, vs, tq, Heap.get?_push_of_some _ hoc, hdt, hv⟩
    have kp : ∀ b o, H b = some o → NoT o → (upd (upd H P (.tbl (tab ++ #[rawInt pos.line, rawInt pos.col, .ref c']))) c' (CodeO c' (X.env.qual ++ "<lambda>"))) b = some o := fun b o e n => by
      have nP : b ≠ P := fun z => by
        rw [z, a1] at e
        exact n tab (Option.some.inj e).symm
      rw [upd_ne (ne_of_none e n0), upd_ne nP, e]
    have at_P : (upd (upd H P (.tbl (tab ++ #[rawInt pos.line, rawInt pos.col, .ref c']))) c' (CodeO c' (X.env.qual ++ "<lambda>"))) P = some (.tbl (tab ++ #[rawInt pos.line, rawInt pos.col, .ref c'])) := by
      rw [upd_ne (ne_of_none a1 n0), upd_same]
    have lst : (tab ++ #[rawInt pos.line, rawInt pos.col, .ref c']).toList = tab.toList ++ [rawInt pos.line, rawInt pos.col, .ref c'] := by simp
    refine fin h.objs.size c' _ ct _ _ J ⟨kp, fun b o e => ?_⟩ (fun p hp => ?_) (Heap.get?_push_size _ rfl) upd_same
    · by_cases z : b = P
      · rw [z]; exact ⟨_, at_P⟩
      · exact ⟨o, by rw [upd_ne (ne_of_none e n0), upd_ne z, e]⟩
    · by_cases z : p.1 = P
      · rw [hu p hp z, z]
        refine ⟨_, at_P, by rw [lst]; exact PySem.TriplesOk_snoc _ _ _ _ a2, fun p' cv hcv => ?_⟩
        rw [lst] at hcv
        rcases among_app _ a2 hcv with k | k
        · obtain ⟨c0, e1, e2⟩ := a3 p' cv k
          exact ⟨c0, e1, kp _ _ e2 codeO_ne⟩
        · exact ⟨c', k, upd_same⟩
      · obtain ⟨ps, b1, b2, b3⟩ := hT p hp
        refine ⟨ps, by rw [upd_ne (ne_of_none b1 n0), upd_ne z, b1], b2, fun p' cv hcv => ?_⟩
        obtain ⟨c0, e1, e2⟩ := b3 p' cv hcv
        exact ⟨c0, e1, kp _ _ e2 codeO_ne⟩
end
end Cb

end
section
set_option maxRecDepth 100000
set_option maxHeartbeats 4000000
/-! sorted(e, key=lambda x: (len(x), x)) -/
namespace Cb
open PySem PySem.Spec PyProof.Rows L2 LamX PySem.W
/-! ### data -/
def itW1 (l : List Int) : W := .tup (l.map .int)
theorem asInts_eq : ∀ {ws : List W} {l : List Int}, asInts ws = some l → ws = l.map .int
  | [], l, h => by cases h; rfl
  | w :: ws, l, h => by
    cases w with
    | int i =>
      change (asInts ws).map (i :: ·) = some l at h
      cases q : asInts ws with
      | none => rw [q] at h; cases h
      | some m =>
        rw [q] at h
        cases h
        rw [asInts_eq q]
        rfl
    | _ => cases h
theorem asInts_map (l : List Int) : asInts (l.map .int) = some l := by
  induction l with
  | nil => rfl
  | cons a l ih => simp [asInts, ih]
theorem allIT : ∀ {ws : List W}, ws.all isIT = true → ∃ Ls : List (List Int), ws = Ls.map itW1
  | [], _ => ⟨[], rfl⟩
  | w :: ws, h => by
    rw [List.all_cons, Bool.and_eq_true] at h
    obtain ⟨Ls, rfl⟩ := allIT h.2
    cases w with
    | tup l =>
      have h1 : (asInts l).isSome = true := h.1
      obtain ⟨m, hm⟩ := Option.isSome_iff_exists.mp h1
      exact ⟨m :: Ls, by rw [List.map_cons, asInts_eq hm]; rfl⟩
    | _ => exact absurd h.1 (by simp [isIT])
theorem toDs_ints (l : List Int) : toDs (l.map .int) = l.map .int := by
  induction l with
  | nil => rfl
  | cons a l ih => simp [toDs, toD, ih]
theorem un_key (l : List Int) : unKey (keyLW (itW1 l)) = itW1 l := rfl
section
variable {X : Cx} {pins : List (Addr × Obj)} {σ : L2.St} {H : Hp} {s : Shared}
/-- a tuple of ints on the heap -/
def TupAt (h : Heap) (p : V × List Int) (v : Value) : Prop := RelV p.1 v ∧ ∃ t its, v = .ref t ∧ IsTup h t its ∧ Vals (p.2.map V.int) its.toList ∧ its.size ≤ sizeLine
theorem each_tups {G : Gc} (hG : G.K = X.K) {S : AS} (I : Inv X pins σ H s) : ∀ {its : List Value} {xs : List V} {Ls : List (List Int)}, Vals xs its → Rps G S H (Ls.map itW1) xs → EachIs (fun v p => TupAt s.heap p v) its (xs.zip Ls)
  | _, _, [], .nil, r => .nil
  | _, _, [], .cons _ _, r => by
    have := r.inv0
    cases this
  | _, _, l :: Ls, .nil, r => by
    obtain ⟨v, vr, e, _⟩ := r.inv
    cases e
  | _, _, l :: Ls, .cons (a := x) (b := u) r1 t, r => by
    obtain ⟨v, vr, e, k1, k2⟩ := r.inv
    cases e
    refine .cons ?_ (each_tups hG I t k2)
    unfold itW1 Rp at k1
    obtain ⟨a, vs, rfl, h1, h2⟩ := k1
    have e2 : vs = l.map V.int := asInts_vals (G := G) (S := S) (H := H) h2 (asInts_map l)
    rw [e2] at h1
    obtain rfl : u = Value.ref a := r1
    obtain ⟨its, rv, pl, hz⟩ := I.tuple (hG ▸ h1)
    exact ⟨rfl, a, its.toArray, rfl, pl, by simpa using rv, by rw [List.size_toArray, ← rv.length]; exact hz⟩
theorem reads_ints {h : Heap} : ∀ {l : List Int} {vs : List Value}, Vals (l.map V.int) vs → ReadsAll h vs (l.map .int) []
  | [], _, .nil => .nil
  | i :: l, _, .cons r t => by
    obtain ⟨k, rfl⟩ := r
    exact .cons (as := []) (bs := []) (.int i k) (reads_ints t)
/-- what the key reads as -/
def kD (p : V × List Int) : PyData := .tuple [.int (p.2.length : Nat), .tuple (p.2.map .int)]
theorem kD_toD (p : V × List Int) : kD p = toD (keyLW (itW1 p.2)) := by
  show _ = toD (.tup [.int ((p.2.map W.int).length : Nat), .tup (p.2.map W.int)])
  simp [toD, toDs, toDs_ints, kD]
theorem tups_kp {h h' : Heap} (k : ∀ b o, h.get? b = some o → h'.get? b = some o) {p : V × List Int} {v : Value} (t : TupAt h p v) : TupAt h' p v := by
  obtain ⟨r, a, its, e, ⟨o, h1, h2⟩, h3⟩ := t
  exact ⟨r, a, its, e, ⟨o, k _ _ h1, h2⟩, h3⟩
theorem each_vals : ∀ {out : List Value} {bs : List (V × List Int)} {h : Heap}, EachIs (fun v p => TupAt h p v) out bs → Vals (bs.map fun p => p.1) out
  | _, _, _, .nil => .nil
  | _, _, _, .cons r t => .cons r.1 (each_vals t)
theorem zip_rps1 {G : Gc} {S : AS} {H : Hp} : ∀ {Ls : List (List Int)} {xs : List V}, Rps G S H (Ls.map itW1) xs → (∀ p ∈ xs.zip Ls, Rp G S H (itW1 p.2) p.1) ∧ (xs.zip Ls).map (fun p => p.2) = Ls
  | [], xs, r => by
    rw [List.zip_nil_right]
    exact ⟨fun p hp => absurd hp (by simp), rfl⟩
  | l :: Ls, xs, r => by
    obtain ⟨v, vr, rfl, k1, k2⟩ := r.inv
    obtain ⟨h1, h2⟩ := zip_rps1 k2
    rw [List.zip_cons_cons]
    refine ⟨fun p hp => ?_, by rw [List.map_cons, h2]⟩
    rcases List.mem_cons.mp hp with e | e
    · rw [e]; exact k1
    · exact h1 p e
theorem rps_zip1 {G : Gc} {S : AS} {H : Hp} : ∀ {ps : List (V × List Int)}, (∀ p ∈ ps, Rp G S H (itW1 p.2) p.1) → Rps G S H (ps.map fun p => itW1 p.2) (ps.map fun p => p.1)
  | [], _ => .nil
  | p :: ps, h => .cons (h p List.mem_cons_self) (rps_zip1 fun q hq => h q (List.mem_cons_of_mem _ hq))
end
/-- what the text says of the lambda, where it stands -/
structure LamAt (X : Cx) (T : List (Addr × Str)) (x : Str) (params : Arguments) (body : Expr) (scope : Scope) : Prop where
  ex : ∃ (c P : Addr) (qn : Str), TabB X.base X.mg c P ∧ X.env.code = .ref c ∧ X.env.qual ++ "<lambda>" = qn ∧ (P, qn) ∈ T ∧ (∀ p ∈ T, p.1 = P → p.2 = qn) ∧
    (∀ c' pm ct u, bindArgs (PySem.W.kla_fn "<lambda>" qn params body scope [] pm (.ref c') ct) ⟨[u], []⟩ = pure [(x, u)]) ∧ ∀ L f c', (envOfC qn scope L f (.ref c')).kindOf "len" = some .globalImplicit
  dfl : defaultsOf params X.env = ([], [])
  free : ∀ y ∈ scope.names, y.2 ≠ .free
  sc : FnScope [x] [x] scope
  vis : Vis scope x
  body : KeyLT x body
  n1 : (x == ("__debug__" : Str)) = false
  n2 : (x == ("__classdict__" : Str)) = false
section
variable [Tb] {G : Gc} {U : L2.WX} {X : Cx}
theorem sx_sortLT {x : Str} {e : Expr} {d : Den Od} {p pos kp lp : Pos} {params : Arguments} {body : Expr} {scope : Scope} (hG : G.K = X.K) (hc : X.calm = true) (hdep : X.A.depth < recursionLimit) (hu : X.A.units + 65 < cLine) (ns : Nst e) (he : PE X e (tD G U (rO G) d))
    (hg : Gl X "sorted") (hm : X.mg "sorted" = none) (L : LamAt X Tb.T x params body scope) (hml : X.mg "len" = none)
    (hall : (backToKw pos (keywordEach [⟨some "key", .Lambda params body scope lp, kp⟩] X.env)).all (·.1.isSome) = true) (hno : (backToKw pos (keywordEach [⟨some "key", .Lambda params body scope lp, kp⟩] X.env)).any (·.1.isNone) = false)
    (hks : (backToKw pos (keywordEach [⟨some "key", .Lambda params body scope lp, kp⟩] X.env)).filterMap (·.1) = [("key" : Str)]) (hpl : (backTo pos (starEach [e] X.env)).any (·.1) = false) (hst : backTo pos (starEach [e] X.env) = (false, eval e X.env) :: backTo pos (starEach [] X.env)) :
    PE X (.Call (.Name "sorted" p) [e] [⟨some "key", .Lambda params body scope lp, kp⟩] pos) (tD G U (rZ G) (cPr .sortLT (cConsO d cNil))) := by
  refine ⟨fun pins s σ H Q I ⟨env, S, A, en, ok, o⟩ => ?_⟩
  have o1 : Out G U σ S H A (rZ G) ((d env).bind fun a env => primM .sortLT [a] env) Q := by
    have e : ((d env).bind fun a env => primM .sortLT [a] env) = cPr .sortLT (cConsO d cNil) env := by
      unfold cPr cConsO cNil
      cases d env <;> rfl
    rw [e]; exact o
  refine wpAny_Call_Name_kw (ld_blt I hg hm (show bootBuiltins "sorted" = some (.builtin "sorted") from rfl) ?_)
  refine PyProof.Rows.callWith_kw (thn ((pa_cons he pa_nil (ns _ _)).run pos pins s σ H (fun vs H1 => ∃ v oa env1 S1 A1, vs = [v] ∧ EnvR G S1 H1 env1 σ A1 ∧ Ok S1 H1 A1 ∧ OdR G σ S1 H1 oa v ∧ Out G U σ S1 H1 A1 (rZ G) (primM .sortLT [oa] env1) Q) I
    ⟨env, S, A, en, ok, (Out.bind (rel := rO G) (fun h => h.2) o1).mono fun v H1 ⟨oa, env1, S1, A1, _, en1, ok1, ⟨r1, _⟩, f1, o2⟩ => ⟨v, oa, env1, S1, A1, rfl, en1, ok1, r1, o2⟩⟩) fun us s1 ⟨vs, H1, I1, r1, v, oa, env1, S1, A1, ev, en1, ok1, rd, o2⟩ => ?_) hst hpl hall hno
  subst ev
  obtain ⟨uv, rfl, rv⟩ := vals1 r1
  unfold primM at o2
  cases er : resAll env1 [oa] with
  | none => rw [er] at o2; exact o2.elim
  | some zs =>
    rw [er] at o2
    dsimp only at o2
    have hvw := res_vw en1 (ods := [oa]) (vs := [v]) ⟨v, [], rfl, rd, rfl⟩ er
    cases q : prW .sortLT (zs.map frz) with
    | none => rw [q] at o2; exact o2.elim
    | some z =>
      rw [q] at o2
      dsimp only at o2
      change p_sortLT (zs.map frz) = some z at q
      unfold p_sortLT at q
      split at q
      · rename_i ws eq
        rw [eq] at hvw
        obtain ⟨v', e1, hv⟩ := vws1 hvw
        cases e1
        obtain ⟨a, xs, rfl, k1, k2⟩ := hv
        by_cases hs : (ws.all isIT && sortable (ws.map keyLW)) = true
        · rw [if_pos hs] at q
          cases q
          rw [Bool.and_eq_true] at hs
          obtain ⟨Ls, rfl⟩ := allIT hs.1
          obtain rfl : uv = Value.ref a := rv
          obtain ⟨c, P, qn, B, hcd, hq, hP, huq, hbd, hkl⟩ := L.ex
          show wpAny _ _ (evalAll ((do let v ← eval (.Lambda params body scope lp) X.env; standAt pos; pure v) :: [])) _ _ s1
          refine wpAny_evalAll_cons (wpAny_bind (lam_new I1 B hcd hq hP huq ok1.tab L.dfl L.free fun f c' pm ct H2 s2 I2 md tb hf hcc => wpAny_bind (wpAny_standAt (wpAny_pure (wpAny_evalAll_nil ?_)))))
          rw [hks]
          have kp : Kp S1 H1 H2 := fun b o e _ nt => md.keep b o e nt
          have k1' : H2 a = some (.lst xs) := md.keep _ _ k1 fun _ h => by cases h
          have k2' : Rps G S1 H2 (Ls.map itW1) xs := k2.mono kp fun _ h => h
          obtain ⟨its, rv2, hls, hz⟩ := I2.list (SqL.of k1' : SqL X.K H2 a xs)
          have ez : EachIs (fun v p => TupAt s2.heap p v) its (xs.zip Ls) := each_tups hG I2 rv2 k2'
          obtain ⟨zr, zm⟩ := zip_rps1 k2'
          have sk : (xs.zip Ls).map kD = toDs ((Ls.map itW1).map keyLW) := by
            have e1 : (xs.zip Ls).map kD = ((xs.zip Ls).map fun p => p.2).map fun l => toD (keyLW (itW1 l)) := by
              rw [List.map_map]
              exact List.map_congr_left fun p _ => kD_toD p
            rw [e1, zm]
            clear e1 zr zm ez k2' k2 hs o2 er hvw eq
            induction Ls with
            | nil => rfl
            | cons l Ls ih => rw [List.map_cons, List.map_cons, List.map_cons, ih]; simp [toDs]
          obtain ⟨s1', s2'⟩ := sortable_iff hs.2
          have sp := shWs_iff s1'
          have hlen : (xs.zip Ls).length = xs.length := by
            have := k2'.length
            rw [List.length_map] at this
            rw [List.length_zip]; omega
          have hmem : ∀ p ∈ xs.zip Ls, keyLW (itW1 p.2) ∈ (Ls.map itW1).map keyLW := fun p hp => List.mem_map_of_mem (List.mem_map_of_mem (List.of_mem_zip hp).2)
          show wpAny _ _ (call (.builtin "sorted") [Value.ref a] [(("key" : Str), Value.ref f)]) _ _ s2
          refine PySem.W.sorted_key_data (β := V × List Int) (b := false) (R := fun v p => TupAt s2.heap p v) kD hls.isList ez ?_ ?_ ?_ ?_ (PyProof.Rows.ksk_s1 _ _) (fun _ => PyProof.Rows.ksk_l1 _ _) (fun _ => PyProof.Rows.ksk_t1 _ _) ?_ ?_
          · intro d hd d' hd'
            rw [sk] at hd hd'
            obtain ⟨w, hw, rfl⟩ := toDs_mem hd
            obtain ⟨w', hw', rfl⟩ := toDs_mem hd'
            exact alike_of (s2' w hw w' hw')
          · exact PySem.W.Sortable.tuples fun p => ⟨_, _, rfl⟩
          · rw [hlen]; exact hz
          · intro p hp
            rw [kD_toD, (toD_lay (plainWs_mem sp.1 (hmem p hp))).2]
            have := depWs_mem (hmem p hp)
            have := sp.2
            omega
          · intro v p ⟨r, t, tis, e, ht, hi, hzt⟩ hp h tk hk
            subst e
            have hsl := sizeLine_eq
            refine wpAny_mono (lam_key (x := x) I2 hdep (I2.ok.hd hc) hf hcc L.sc (fun u => hbd c' pm ct u) L.body L.vis (fun L' => hkl L' f c') hml L.n1 L.n2 ht (by omega) h tk hk) (fun u s3 ⟨h', tk', T, k, e3, e4, e5, e6⟩ => ?_) fun _ _ x => x
            subst e5
            refine ⟨h', tk', e3, e4, ?_⟩
            obtain ⟨o, t1, t2⟩ := ht
            have e7 : (its.length : Nat) = its.length := rfl
            have e8 : tis.size = p.2.length := by
              have := hi.length
              simpa using this.symm
            refine .tuple e6 rfl rfl (.cons (as := []) (bs := []) ?_ (.cons (as := []) (bs := []) ?_ .nil))
            · rw [e8]
              exact .int _ _
            · obtain ⟨n, t3⟩ := t2.2
              exact .tuple (e4 _ _ (hk _ _ t1)) t2.1 t3 (reads_ints hi)
          · intro out cap h' tk hk hn ho hl eo
            have rv3 := each_vals eo
            generalize hps : (xs.zip Ls).mergeSort (PySem.W.dataLe false kD) = ps at eo rv3
            have pm2 : ps.Perm (xs.zip Ls) := by rw [← hps]; exact List.mergeSort_perm _ _
            have hres : (sortW ltW ((Ls.map itW1).map keyLW)).map unKey = ps.map fun p => itW1 p.2 := by
              have e1 : ps.map (fun p => keyLW (itW1 p.2)) = sortW ltW ((Ls.map itW1).map keyLW) := by
                rw [← hps, sort_maps (r := PySem.W.dataLe false kD) (s := PySem.W.dataLe false toD) (fun p : V × List Int => keyLW (itW1 p.2)) (fun p _ p' _ => by unfold PySem.W.dataLe sortLe; simp only [kD_toD])]
                have e2 : (xs.zip Ls).map (fun p => keyLW (itW1 p.2)) = (Ls.map itW1).map keyLW := by
                  rw [List.map_map]
                  conv => rhs; rw [← zm]
                  rw [List.map_map]
                  rfl
                rw [e2, sort_eq hs.2]
              rw [← e1, List.map_map]
              exact List.map_congr_left fun p _ => un_key p.2
            rw [hres] at o2
            have hlo : ps.length ≤ sizeLine := by rw [pm2.length_eq, hlen]; exact hz
            have nP : H2 (s2.heap.objs.size + 1) = none := I2.hok.fresh (Nat.le_succ _)
            have I3 := I2.laid (o := .lst (ps.map fun p => p.1)) (t' := tk) hk (Nat.le_succ (s2.heap.objs.size)) ⟨by rw [List.length_map]; exact hlo, out, cap, rv3, ho⟩
            refine ⟨.ref _, _, I3, rfl, ?_⟩
            have kn := keep_new (u := .lst (ps.map fun p => p.1)) nP
            have rps : Rps G S1 H2 (ps.map fun p => itW1 p.2) (ps.map fun p => p.1) := rps_zip1 fun p hp => zr p (pm2.mem_iff.mp hp)
            have kp3 : Kp S1 H1 (upd H2 (s2.heap.objs.size + 1) (.lst (ps.map fun p => p.1))) := fun b o e _ nt => kn b o (md.keep b o e nt)
            have n1 : H1 (s2.heap.objs.size + 1) = none := by
              cases e : H1 (s2.heap.objs.size + 1) with
              | none => rfl
              | some o =>
                obtain ⟨o', e'⟩ := md.dom _ o e
                rw [nP] at e'; cases e'
            have ownK : ∀ b ∈ A1, ∀ o, H1 b = some o → upd H2 (s2.heap.objs.size + 1) (.lst (ps.map fun p => p.1)) b = some o := fun b hb o e => kn b o (md.keep b o e (NoT.mu (e ▸ (ok1.own b hb).2)))
            have notA : s2.heap.objs.size + 1 ∉ A1 := fun h => by
              have := (ok1.own _ h).2
              rw [n1] at this; exact this
            refine o2 (.ref (s2.heap.objs.size + 1)) _ S1 A1 [s2.heap.objs.size + 1] (en1.mono kp3 (fun _ h => h) ownK) ⟨_, _, rfl, upd_same, rps.mono (ext_kp kn) fun _ h => h, rfl⟩ ⟨?_, ?_, ?_, ?_⟩ ⟨?_, fun _ h => h, fun _ h => .inl h, ?_, ?_⟩
            · exact List.nodup_cons.mpr ⟨notA, ok1.nd⟩
            · intro b hb
              rcases List.mem_cons.mp hb with e | e
              · subst e
                refine ⟨fun h => ?_, by rw [upd_same]; trivial⟩
                obtain ⟨o, e⟩ := ok1.dom _ h
                rw [n1] at e; cases e
              · obtain ⟨u, eu⟩ := mut_some (ok1.own b e).2
                exact ⟨(ok1.own b e).1, by rw [ownK b e u eu, ← eu]; exact (ok1.own b e).2⟩
            · intro b hb
              obtain ⟨o, e⟩ := ok1.dom b hb
              obtain ⟨o', e'⟩ := md.dom b o e
              exact ⟨o', kn b o' e'⟩
            · exact tabs_keep tb fun b o e _ => kn b o e
            · exact fun b o e _ nt => kn b o (md.keep b o e nt)
            · intro b hb
              rcases List.mem_cons.mp hb with e | e
              · exact .inr (e ▸ n1)
              · exact .inl e
            · intro b o e
              obtain ⟨o', e'⟩ := md.dom b o e
              exact ⟨o', kn b o' e'⟩
        · rw [if_neg hs] at q; cases q
      · cases q
end
end Cb

end
section
set_option maxRecDepth 100000
set_option maxHeartbeats 4000000
/-! sets of tuples of ints, up to 76 members, made of lists and tuples of any length -/
namespace Cb
open PySem PySem.Spec PyProof.Rows L2
/-- the c-th step of a hash's way -/
abbrev stp (m : Nat) (h : Int) (c : Nat) : SetTable.Probe := nth m (runAt m (SetTable.bits h % (m + 1)) (SetTable.bits h)) c
abbrev Mem := Addr × List Int
/-- at a stands a set whose members are L -/
structure BT (P : Program) (w : World) (g : Heap) (a : Addr) (L : List Mem) (es : Array (Int × Value)) (ep : Nat) (t : SetTable) : Prop where
  here : ∃ o, g.get? a = some o ∧ o.ExactSet ∧ o.data = .set es ep t
  rows : es.toList = rowsOf P w L
  tab : TabOk t (L.map fun p => thash P w p.2)
  uniq : (L.map (·.2)).Nodup
  isT : ∀ p ∈ L, IsT P w g p.2 p.1
  pl : t.plain = true
  ld : w.params.followText "set-order" = true ∨ t.led = true
  air : L.length * 5 < t.mask * 3
section
variable {P : Program} {w : World} {A : Around} {E : Value → Shared → Prop} {s : Shared} {a : Addr} {L : List Mem} {es : Array (Int × Value)} {ep : Nat} {t : SetTable}
theorem rows_len {es : Array (Int × Value)} {L : List Mem} (h : es.toList = rowsOf P w L) : es.size = L.length := by
  rw [← Array.length_toList, h]; exact List.length_map _
theorem rows_get {es : Array (Int × Value)} {L : List Mem} (h : es.toList = rowsOf P w L) {n : Nat} {m : Mem} (e : L[n]? = some m) : es[n]? = some (thash P w m.2, Value.ref m.1) := by
  rw [← Array.getElem?_toList, h]
  show (L.map _)[n]? = _
  rw [List.getElem?_map, e]; rfl
theorem BT.plen (R : BT P w s.heap a L es ep t) : t.place.size = L.length := by have := R.tab.sz; rwa [List.length_map] at this
theorem BT.fit (R : BT P w s.heap a L es ep t) : t.fits es.size = true := by
  have q1 := R.plen
  have q2 := rows_len R.rows
  have q3 := R.air
  unfold SetTable.fits SetTable.fill
  rw [R.tab.dm, Bool.and_eq_true, beq_iff_eq, decide_eq_true_eq]
  exact ⟨q1.trans q2.symm, by show t.place.size + 0 ≤ t.mask; omega⟩
theorem stp_dummy (m : Nat) (h : Int) (c : Nat) : (stp m h c).dummy = none := by
  have k : ∀ (n : Nat) (p : SetTable.Probe), p.dummy = none → (nth m p n).dummy = none := fun n => by
    induction n with
    | zero => exact fun _ e => e
    | succ n ih => exact fun p e => ih _ (by unfold adv; split <;> exact e)
  exact k c _ rfl
/-- the search from the c-th step on -/
theorem b_from (R : BT P w s.heap a L es ep t) {x : Addr} {k : List Int} (hx : IsT P w s.heap k x) (hu : A.units < cLine) {K : Nat} (kt : K < 10 * SetTable.turns t.mask)
    (free : way t.mask (thash P w k) K ∉ t.place.toList) (busy : ∀ c, c < K → way t.mask (thash P w k) c ∈ t.place.toList) {Q : SetFound → Shared → Prop}
    (yes : k ∈ L.map (·.2) → Q (.there none) s) (no : k ∉ L.map (·.2) → Q (.free (way t.mask (thash P w k) K) false) s) :
    ∀ (fuel c : Nat) (o? : Option SetTable.Probe), o?.getD (t.probeStart (thash P w k)) = stp t.mask (thash P w k) c → c ≤ K → K - c < fuel →
      (∀ (n : Nat) m, L[n]? = some m → m.2 = k → ∃ c', c ≤ c' ∧ c' < K ∧ t.place.toList[n]? = some (way t.mask (thash P w k) c')) →
      wpAny (model P w) A (setSearchFrom a (.ref x) (thash P w k) true fuel o?) Q E s
  | 0, _, _, _, _, z, _ => absurd z (Nat.not_lt_zero _)
  | fuel + 1, c, o?, est, hcK, hfu, ahead => by
    obtain ⟨ob, hob, hexact, hdata⟩ := R.here
    rw [setSearchFrom_succ]
    refine wpAny_bind (wpAny_setState_of hob hdata R.fit ?_)
    dsimp only
    have gw : ¬ t.gaveWay = true := by unfold SetTable.gaveWay; rw [mask_odd R.tab.mok]; decide
    refine wp_if_neg gw ?_
    try refine wpAny_bind (wpAny_pure ?_)
    have sh : ∀ q, nth t.mask (stp t.mask (thash P w k) c) q = stp t.mask (thash P w k) (c + q) := fun q => (nth_add t.mask c _ q).symm
    have shj : ∀ q, (nth t.mask (stp t.mask (thash P w k) c) q).j = way t.mask (thash P w k) (c + q) := fun q => congrArg SetTable.Probe.j (sh q)
    have eK : c + (K - c) = K := by omega
    have sp := go_spec t R.tab.ris R.tab.dm (fun i => (es[i]?.map (·.1)).getD 0) (thash P w k) (10 * SetTable.turns t.mask) (K - c) _ (stp_dummy t.mask (thash P w k) c) (by omega)
      (fun q hq => by rw [shj]; exact busy _ (by omega)) (by rw [shj, eK]; exact free)
    have hashOf : ∀ (n : Nat) m, L[n]? = some m → (fun i => (es[i]?.map (·.1)).getD 0) n = thash P w m.2 := fun n m e => by dsimp only; rw [rows_get R.rows e]; rfl
    rcases sp with ⟨q, n, hq, hn, _, none_before, hprobe⟩ | ⟨none_before, hprobe⟩
    · have hpr : t.probe (fun i => (es[i]?.map (·.1)).getD 0) (thash P w k) (o?.getD (t.probeStart (thash P w k))) = some (.candidate (way t.mask (thash P w k) (c + q)) n (stp t.mask (thash P w k) (c + (q + 1)))) := by
        rw [est, ← shj, ← sh]; exact hprobe
      rw [hpr]
      dsimp only
      rw [shj] at hn
      have nlt : n < L.length := by
        have z := (List.getElem?_eq_some_iff.mp hn).1
        rw [Array.length_toList, R.plen] at z; exact z
      obtain ⟨m, hm⟩ : ∃ m, L[n]? = some m := ⟨_, List.getElem?_eq_getElem nlt⟩
      have inL : m ∈ L := List.mem_of_getElem? hm
      have tail : wpAny (model P w) A (searchRest a (.ref x) (thash P w k) true fuel es t (way t.mask (thash P w k) (c + q)) n (stp t.mask (thash P w k) (c + (q + 1)))) Q E s := by
        unfold searchRest
        rw [rows_get R.rows hm]
        dsimp only
        refine wpAny_bind (wpAny_holding (wpAny_eqBool_tuple hu (R.isT m inL) hx (wpAny_bind (wpAny_setState_of hob hdata R.fit ?_) |> fun z => z)))
        dsimp only
        by_cases same : m.2 = k
        · exact wp_if_pos (by simp [same]) (wpAny_pure (yes (List.mem_map.mpr ⟨m, inL, same⟩)))
        · refine wp_if_neg (by simp [same]) ?_
          try refine wpAny_bind (wpAny_pure ?_)
          rw [sameMem]
          dsimp only
          have live : t.slot (way t.mask (thash P w k) (c + q)) = .live n := slot_live R.tab.ris hn
          simp only [if_true, live, rows_get R.rows hm]
          refine wpAny_bind (wpAny_isSame_ref_self (wpAny_bind (wpAny_pure ?_)))
          simp only [if_true]
          refine wp_if_neg (by simp [same]) (b_from R hx hu kt free busy yes no fuel (c + (q + 1)) _ rfl (by omega) (by omega) fun n0 m0 h0 e0 => ?_)
          obtain ⟨c', l1, l2, l3⟩ := ahead n0 m0 h0 e0
          refine ⟨c', ?_, l2, l3⟩
          rcases Nat.lt_trichotomy c' (c + q) with z | z | z
          · exact (none_before (c' - c) n0 (by omega) (by rw [shj, show c + (c' - c) = c' by omega]; exact l3) ((hashOf n0 m0 h0).trans (by rw [e0]))).elim
          · rw [z] at l3
            have s0 := slot_live R.tab.ris l3
            rw [live] at s0
            injection s0 with s0
            rw [← s0, hm] at h0
            cases h0
            exact (same e0).elim
          · omega
      by_cases hled : t.led = true
      · refine wp_if_neg (by simp [hled]) ?_
        try refine wpAny_bind (wpAny_pure ?_)
        exact tail
      · refine wp_if_pos (by simp [hled]) (wpAny_bind (seen_tup hx (fun y hy => ?_) (wp_if_neg (by decide) ?_)))
        · obtain ⟨e, he, rfl⟩ := List.mem_map.mp hy
          have he2 : e ∈ es.toList := by have : e ∈ es ∧ e.1 = thash P w k := by simpa using he
                                         simpa using this.1
          rw [R.rows] at he2
          obtain ⟨m2, hm2, rfl⟩ := List.mem_map.mp he2
          exact ⟨m2.2, m2.1, rfl, R.isT m2 hm2⟩
        · try refine wpAny_bind (wpAny_pure ?_)
          exact tail
    · have hpr : t.probe (fun i => (es[i]?.map (·.1)).getD 0) (thash P w k) (o?.getD (t.probeStart (thash P w k))) = some (.empty (way t.mask (thash P w k) K) none) := by
        have e2 : way t.mask (thash P w k) K = (nth t.mask (stp t.mask (thash P w k) c) (K - c)).j := by rw [shj, eK]
        rw [est, e2]; exact hprobe
      rw [hpr]
      refine wpAny_pure (no fun hk => ?_)
      obtain ⟨m0, hm0, e0⟩ := List.mem_map.mp hk
      obtain ⟨n0, h0⟩ := List.mem_iff_getElem?.mp hm0
      obtain ⟨c', l1, l2, l3⟩ := ahead n0 m0 h0 e0
      exact none_before (c' - c) n0 (by omega) (by rw [shj, show c + (c' - c) = c' by omega]; exact l3) ((hashOf n0 m0 h0).trans (by rw [e0]))
theorem b_search (R : BT P w s.heap a L es ep t) {x : Addr} {k : List Int} (hx : IsT P w s.heap k x) (hu : A.units < cLine) {Q : SetFound → Shared → Prop} (yes : k ∈ L.map (·.2) → Q (.there none) s)
    (no : ∀ K, k ∉ L.map (·.2) → way t.mask (thash P w k) K ∉ t.place.toList → (∀ c, c < K → way t.mask (thash P w k) c ∈ t.place.toList) → Q (.free (way t.mask (thash P w k) K) false) s) :
    wpAny (model P w) A (setSearch a (.ref x) (thash P w k) true) Q E s := by
  have q1 := R.air
  obtain ⟨K, k1, k2, k3⟩ := R.tab.first (by rw [List.length_map]; omega) (thash P w k)
  have q2 : 10 * SetTable.turns t.mask ≤ 1420 := by
    unfold SetTable.turns
    rcases R.tab.mok with e | e | e <;> omega
  unfold setSearch
  refine b_from R hx hu k1 k2 k3 yes (fun z => no K z k2 k3) 100000 0 none rfl (Nat.zero_le _) (by omega) fun n m hm e => ?_
  have nlt : n < t.place.toList.length := by
    rw [Array.length_toList, R.plen]; exact (List.getElem?_eq_some_iff.mp hm).1
  obtain ⟨c, c1, c2⟩ := R.tab.before k2 (h := thash P w k) (by rw [List.getElem?_map, hm, ← e]; rfl) (List.getElem?_eq_getElem nlt)
  exact ⟨c, Nat.zero_le _, c1, by rw [List.getElem?_eq_getElem nlt, c2]⟩
/-- a fuller table is laid anew -/
theorem b_relay {o : Obj} (hob : s.heap.get? a = some o) (hexact : o.ExactSet) (hdata : o.data = .set es ep t) (hrows : es.toList = rowsOf P w L) (psz : t.place.size = es.size) (dms : t.dummies = #[]) (fl : es.size ≤ t.mask)
    (uniq : (L.map (·.2)).Nodup) (isT : ∀ p ∈ L, IsT P w s.heap p.2 p.1) (pl : t.plain = true) (ld : w.params.followText "set-order" = true ∨ t.led = true) {n M : Nat} (e1 : SetTable.sizeAbove n - 1 = M) (e2 : MaskOk M) (e3 : SetTable.sizeAbove n ≤ 128) (e4 : L.length * 5 < M * 3) {Q : Unit → Shared → Prop}
    (fin : ∀ g L' es' ep' t', Heap.SameBut a s.heap g → BT P w g a L' es' ep' t' → L'.Perm L → Q () { s with heap := g }) : wpAny (model P w) A (setRelay a n) Q E s := by
  have len := rows_len hrows
  have fit : t.fits es.size = true := by
    unfold SetTable.fits SetTable.fill
    rw [dms, Bool.and_eq_true, beq_iff_eq, decide_eq_true_eq]
    exact ⟨psz, by show t.place.size + 0 ≤ t.mask; omega⟩
  obtain ⟨t', ord, er, pm, T, em, el, ep', _⟩ := relaid_ok t (hs := es.map (·.1)) (wanted := n) e1 e2 (by rw [Array.size_map, len]; omega)
  rw [Array.size_map, len] at pm
  obtain ⟨L2, r1, r2, r3⟩ := order_rows L es ord hrows pm
  rw [← r3] at T
  have sz2 : (ord.filterMap (es[·]?)).size = es.size := by rw [rows_len (P := P) (w := w) r1, r2.length_eq, len]
  rw [setRelay_eq]
  refine wpAny_bind (wpAny_setState_of hob hdata fit ?_)
  dsimp only
  refine wp_if_neg (by rw [sizeLine_eq]; omega) ?_
  try refine wpAny_bind (wpAny_pure ?_)
  rw [er]
  refine wpAny_bind (wp_if_neg (by rw [sz2]; simp) ?_)
  try refine wpAny_bind (wpAny_pure ?_)
  refine wpAny_pure (wpAny_storeSet_of hob hdata ?_ (by rw [sz2, len, sizeLine_eq]; omega))
  have sb : Heap.SameBut a s.heap (s.heap.update a (Obj.putSet (ord.filterMap (es[·]?)) t')) := Heap.SameBut.update ..
  exact fin _ L2 (ord.filterMap (es[·]?)) (ep + 1) t' sb ⟨⟨_, store_at hob hdata, ⟨hexact.1, hexact.2.1, hexact.2.2⟩, rfl⟩, r1, T, (r2.map (·.2)).nodup_iff.mpr uniq, fun p hp => isT_same (isT p (r2.mem_iff.mp hp)) hob hdata sb,
    by rw [ep']; exact pl, by rw [el]; exact ld, by rw [r2.length_eq, em]; exact e4⟩ r2
/-- a member comes -/
theorem b_add (R : BT P w s.heap a L es ep t) {x : Addr} {k : List Int} (hx : IsT P w s.heap k x) (hu : A.units < cLine) (lim0 : k ∉ L.map (·.2) → L.length < 76) {Q : Bool → Shared → Prop}
    (fin : ∀ b g L' es' ep' t', Heap.SameBut a s.heap g → BT P w g a L' es' ep' t' → (k ∈ L.map (·.2) → L' = L) → (k ∉ L.map (·.2) → L'.Perm ((x, k) :: L)) → Q b { s with heap := g }) : wpAny (model P w) A (setAddHashed a (.ref x) (thash P w k)) Q E s := by
  obtain ⟨ob, hob, hexact, hdata⟩ := R.here
  have len := rows_len R.rows
  have air := R.air
  unfold setAddHashed
  refine wpAny_holding ?_
  rw [show (100000 : Nat) = 99999 + 1 from rfl, setAddHashedIn_succ]
  refine wpAny_bind (wpAny_setState_of hob hdata R.fit ?_)
  dsimp only
  refine wp_if_neg (by simp [byScan, Value.scannable]) ?_
  try refine wpAny_bind (wpAny_pure ?_)
  refine wpAny_bind (b_search R hx hu (fun there => ?_) fun K gone free busy => ?_)
  · exact wpAny_pure (fin false s.heap L es ep t (Heap.SameBut.refl a s.heap) R (fun _ => rfl) fun z => absurd there z)
  have lim := lim0 gone
  dsimp only
  refine wpAny_bind (wpAny_setState_of hob hdata R.fit ?_)
  dsimp only
  obtain ⟨q1, q2, q3, q4, q5, q6, q7, q8, q9⟩ := R.tab.put free busy
  have pl1 : (t.put (way t.mask (thash P w k) K)).1.plain = true := by rw [q6]; exact R.pl
  generalize t.put (way t.mask (thash P w k) K) = pt at q1 q3 q4 q5 q6 q7 q8 q9 pl1 ⊢
  obtain ⟨t1, pp⟩ := pt
  dsimp only at q1 q3 q4 q5 q6 q7 q8 q9 pl1 ⊢
  subst q1
  first
    | refine wpAny_bind (wp_if_pos pl1 (hashBy_tup hx ?_))
    | refine wp_if_pos pl1 (wpAny_bind (hashBy_tup hx ?_))
  simp only [if_true]
  have rows1 : (SetTable.insertAt es (SetTable.below t.place (way t.mask (thash P w k) K)) (thash P w k, Value.ref x)).toList = rowsOf P w (L.take (SetTable.below t.place (way t.mask (thash P w k) K)) ++ (x, k) :: L.drop (SetTable.below t.place (way t.mask (thash P w k) K))) := by
    rw [SetTable.toList_insertAt, rows_put, R.rows]
  generalize SetTable.below t.place (way t.mask (thash P w k) K) = pp at q2 q3 rows1 ⊢
  have pm := put_perm L pp (x, k)
  have hs1 : (L.take pp ++ (x, k) :: L.drop pp).map (fun p => thash P w p.2) = (L.map fun p => thash P w p.2).take pp ++ thash P w k :: (L.map fun p => thash P w p.2).drop pp := by rw [List.map_append, List.map_cons, List.map_take, List.map_drop]
  rw [← hs1] at q3
  have len1 := rows_len rows1
  generalize SetTable.insertAt es pp (thash P w k, Value.ref x) = es1 at rows1 len1 ⊢
  generalize L.take pp ++ (x, k) :: L.drop pp = L1 at pm q3 rows1 len1
  have ll : L1.length = L.length + 1 := pm.length_eq
  have uniq1 : (L1.map (·.2)).Nodup := (pm.map (·.2)).nodup_iff.mpr (List.nodup_cons.mpr ⟨gone, R.uniq⟩)
  refine wpAny_bind (wpAny_storeSet_of hob hdata ?_ (by rw [len1, ll, sizeLine_eq]; omega))
  have sb : Heap.SameBut a s.heap (s.heap.update a (Obj.putSet es1 t1)) := Heap.SameBut.update ..
  have at1 := store_at (es' := es1) (t' := t1) hob hdata
  generalize s.heap.update a (Obj.putSet es1 t1) = g1 at sb at1 ⊢
  have isT1 : ∀ p ∈ L1, IsT P w g1 p.2 p.1 := fun p hp => (List.mem_cons.mp (pm.mem_iff.mp hp)).elim (fun e => by rw [e]; exact isT_same hx hob hdata sb) fun hp => isT_same (R.isT p hp) hob hdata sb
  have ld1 : w.params.followText "set-order" = true ∨ t1.led = true := by rw [q5]; exact R.ld
  have full : t1.tooFull = decide ((L.length + 1) * 5 ≥ t.mask * 3) := by unfold SetTable.tooFull; rw [q9, List.length_map, q4]
  have psz : t1.place.size = es1.size := by have := q3.sz; rw [List.length_map] at this; rw [this, len1]
  by_cases hf : t1.tooFull = true
  · first
      | refine wpAny_bind (wp_if_pos (by simp [hf]) ?_)
      | refine wp_if_pos (by simp [hf]) (wpAny_bind ?_)
    rw [full, decide_eq_true_eq] at hf
    rw [len]
    have go : ∀ M, SetTable.sizeAbove (SetTable.grown (L.length + 1)) - 1 = M → MaskOk M → SetTable.sizeAbove (SetTable.grown (L.length + 1)) ≤ 128 → L1.length * 5 < M * 3 → es1.size ≤ t1.mask →
        wpAny (model P w) A (setRelay a (SetTable.grown (L.length + 1))) (fun _ s' => wpAny (model P w) A (pure true) Q E s') E { s with heap := g1 } := fun M z1 z2 z3 z4 z5 =>
      b_relay (s := { s with heap := g1 }) at1 ⟨hexact.1, hexact.2.1, hexact.2.2⟩ rfl rows1 psz q3.dm z5 uniq1 isT1 pl1 ld1 z1 z2 z3 z4 fun g2 L2 es2 ep2 t2 sb2 R2 pm2 => wpAny_pure (fin true g2 L2 es2 ep2 t2 (sb.trans sb2) R2 (fun z => absurd z gone) fun _ => pm2.trans pm)
    rcases R.tab.mok with e | e | e <;> rw [e] at air hf
    · have e5 : L.length = 4 := by omega
      exact go 31 (by rw [e5, size_20]) (.inr (.inl rfl)) (by rw [e5, size_20]; decide) (by omega) (by rw [len1, ll, q4, e]; omega)
    · have e5 : L.length = 18 := by omega
      exact go 127 (by rw [e5, size_76]) (.inr (.inr rfl)) (by rw [e5, size_76]; decide) (by omega) (by rw [len1, ll, q4, e]; omega)
    · omega
  · first
      | refine wp_if_neg (by simp [hf]) ?_
      | refine wpAny_bind (wp_if_neg (by simp [hf]) (wpAny_pure ?_))
    rw [full, decide_eq_true_eq] at hf
    exact wpAny_pure (fin true g1 L1 es1 (ep + 1) t1 sb ⟨⟨_, at1, ⟨hexact.1, hexact.2.1, hexact.2.2⟩, rfl⟩, rows1, q3, uniq1, isT1, pl1, ld1, by rw [ll, q4]; omega⟩ (fun z => absurd z gone) fun _ => pm)
end
end Cb

end
section
set_option maxRecDepth 100000
set_option maxHeartbeats 4000000
/-! set(xs), xs a list or tuple of tuples of ints of any length; sorted of such a set -/
namespace Cb
open PySem PySem.Spec PyProof.Rows L2 PySem.W
/-- what of ks has come so far -/
structure Come (ks : List Mem) (i : Nat) (L : List Mem) : Prop where
  sub : ∀ p ∈ L, p ∈ ks.take i
  all : ∀ p ∈ ks.take i, p.2 ∈ L.map (·.2)
theorem Come.zero (ks : List Mem) : Come ks 0 [] := Come.mk (fun p h => absurd h (by simp)) (fun p h => absurd h (by simp))
theorem Come.same {ks L : List Mem} {i : Nat} {x : Mem} (g : Come ks i L) (h : ks[i]? = some x) (hm : x.2 ∈ L.map (·.2)) : Come ks (i + 1) L := by
  constructor
  · intro p hp; rw [take_next h]; exact List.mem_append_left _ (g.sub p hp)
  · intro p hp
    rw [take_next h] at hp
    rcases List.mem_append.mp hp with z | z
    · exact g.all p z
    · rw [List.mem_singleton.mp z]; exact hm
theorem Come.more {ks L L' : List Mem} {i : Nat} {x : Mem} (g : Come ks i L) (h : ks[i]? = some x) (pm : L'.Perm (x :: L)) : Come ks (i + 1) L' := by
  constructor
  · intro p hp
    rw [take_next h]
    rcases List.mem_cons.mp (pm.mem_iff.mp hp) with rfl | z
    · simp
    · exact List.mem_append_left _ (g.sub p z)
  · intro p hp
    rw [take_next h] at hp
    have : p.2 ∈ (x :: L).map (·.2) := by
      rcases List.mem_append.mp hp with z | z
      · exact List.mem_cons_of_mem _ (g.all p z)
      · rw [List.mem_singleton.mp z]; simp
    exact (pm.map (·.2)).mem_iff.mpr this
/-- at most 76 unlike ones -/
def Few (ks : List Mem) : Prop := ∀ M : List (List Int), M.Nodup → (∀ m ∈ M, m ∈ ks.map (·.2)) → M.length ≤ 76
section
variable {P : Program} {w : World} {A : Around} {E : Value → Shared → Prop} {s : Shared} {a : Addr} {L : List Mem} {es : Array (Int × Value)} {ep : Nat} {t : SetTable}
theorem BT.keep {g g' : Heap} (R : BT P w g a L es ep t) (h : ∀ o, g.get? a = some o → g'.get? a = some o) (ht : ∀ p ∈ L, IsT P w g' p.2 p.1) : BT P w g' a L es ep t := by
  obtain ⟨o, h1, h2⟩ := R.here
  exact ⟨⟨o, h o h1, h2⟩, R.rows, R.tab, R.uniq, ht, R.pl, R.ld, R.air⟩
theorem BT.new {g : Heap} (h : g.get? a = some (eS w)) : BT P w g a [] #[] 0 (.fresh 0 0 (!w.params.followText "set-order")) := by
  have R := setTR_fresh (P := P) h
  exact ⟨R.ob, R.rows, R.tab, R.nd, R.tup, R.plain, R.led, R.room⟩
theorem b_walk {I : Addr} {fp wr : List Addr} {G : Array GenState → Array GenState → Prop} {n : Nat} {Pv : Nat → Value → Prop} {St : Nat → Shared → Prop} {R : Result → Shared → Prop}
    (W : WalksS P w A.in1 I fp wr G n Pv St) (S : Addr) (hSf : S ∉ fp) (ks : List Mem) (hn : n = ks.length) (few : Few ks) (hval : ∀ i v, Pv i v → ∃ p, ks[i]? = some p ∧ v = .ref p.1)
    (h0 : Heap) (hk : ∀ p ∈ ks, IsT P w h0 p.2 p.1) (hS0 : h0.get? S = none) (hw0 : ∀ b ∈ wr, h0.get? b = none) (hu : A.in1.units < cLine) :
    ∀ (k i : Nat) (s : Shared), n - i = k → i ≤ n → St i s → (∀ b o, h0.get? b = some o → s.heap.get? b = some o) → (∃ L es ep t, BT P w s.heap S L es ep t ∧ Come ks i L) →
      (∀ s' L es ep t, Moved (S :: wr) G s s' → BT P w s'.heap S L es ep t → Come ks n L → (∀ b o, h0.get? b = some o → s'.heap.get? b = some o) → R (.ok (.ret .none)) s') →
      codeAny (model P w) A (.builtin "set.update.loop" ⟨[.ref S, .ref I], []⟩) R s := by
  have hSw : S ∉ wr := fun h => hSf (W.sub _ h)
  have keepM : ∀ {s s' : Shared}, Moved wr G s s' → (∀ b o, h0.get? b = some o → s.heap.get? b = some o) → ∀ b o, h0.get? b = some o → s'.heap.get? b = some o := fun hm hkp b o e =>
    hm.heap b o (fun hb => by rw [hw0 b hb] at e; cases e) (hkp b o e)
  have wide : ∀ b ∈ wr, b ∈ S :: wr := fun b hb => List.mem_cons_of_mem _ hb
  have kept : ∀ {s s' : Shared} {i : Nat} {L : List Mem} {es ep t}, Moved wr G s s' → (∀ b o, h0.get? b = some o → s'.heap.get? b = some o) → Come ks i L → BT P w s.heap S L es ep t → BT P w s'.heap S L es ep t := fun hm hkp g hS =>
    hS.keep (fun o e => hm.heap S o hSw e) fun p hp => isT_keep (hk p (List.mem_of_mem_take (g.sub p hp))) hkp
  intro k
  induction k with
  | zero =>
    rintro i s hk' hi hst hkp ⟨L, es, ep, t, hS, g⟩ hR
    obtain rfl : i = n := by omega
    refine codeAny_builtin F.entry_set_update_loop ?_
    rw [Around.under_plainId F.plain_set_update_loop _]
    show wpAny _ A.in1 (pyNext (.ref I) >>= _) _ _ s
    refine wpAny_bind (W.done s _ _ hst fun s' hm => ?_)
    show wpAny _ A.in1 (ret Value.none) _ _ s'
    have hkp' := keepM hm hkp
    exact wpAny_pure (hR s' L es ep t (hm.mono wide) (kept hm hkp' g hS) g hkp')
  | succ k ih =>
    rintro i s hk' hi hst hkp ⟨L, es, ep, t, hS, g⟩ hR
    have hlt : i < n := by omega
    refine codeAny_builtin F.entry_set_update_loop ?_
    rw [Around.under_plainId F.plain_set_update_loop _]
    show wpAny _ A.in1 (pyNext (.ref I) >>= _) _ _ s
    refine wpAny_bind (W.item i s _ _ hlt hst fun v s' hP hst' hm => ?_)
    obtain ⟨p, hp, rfl⟩ := hval i v hP
    have hkp' := keepM hm hkp
    have hS' := kept hm hkp' g hS
    have hpm : p ∈ ks := List.mem_of_getElem? hp
    have hx : IsT P w s'.heap p.2 p.1 := isT_keep (hk p hpm) hkp'
    show wpAny _ A.in1 (holding [Value.ref p.1] (setAdd S (.ref p.1)) >>= _) _ _ s'
    refine wpAny_bind (wpAny_holding ?_)
    unfold setAdd
    refine wpAny_holding ?_
    refine wpAny_bind (wpAny_pyHash_tuple hu hx ?_)
    refine b_add (s := { s' with toks := s'.toks + (p.2.length + 1) }) hS' hx hu (fun new => ?_) fun b h' L' es' ep' t' hsb hS2 c1 c2 => ?_
    · have := few (p.2 :: L.map (·.2)) (List.nodup_cons.mpr ⟨new, hS'.uniq⟩) fun m hm => by
        rcases List.mem_cons.mp hm with rfl | hm
        · exact List.mem_map.mpr ⟨p, hpm, rfl⟩
        · obtain ⟨q, hq, rfl⟩ := List.mem_map.mp hm
          exact List.mem_map.mpr ⟨q, List.mem_of_mem_take (g.sub q hq), rfl⟩
      rw [List.length_cons, List.length_map] at this
      omega
    have g' : Come ks (i + 1) L' := by
      rcases Classical.em (p.2 ∈ L.map (·.2)) with c | c
      · rw [c1 c]; exact g.same hp c
      · exact g.more hp (c2 c)
    have hkp2 : ∀ b o, h0.get? b = some o → h'.get? b = some o := fun b o e => (hsb.2 b (fun z => by rw [z, hS0] at e; cases e)).trans (hkp' b o e)
    refine wpAny_pure ⟨plainId_quiet F.plain_set_update_loop _, ih (i + 1) _ (by omega) hlt (W.frame _ s' _ _ hst' (Nat.le_add_right _ _) fun b hb o e => ?_) hkp2 ⟨L', es', ep', t', hS2, g'⟩ fun s'' L2 es2 ep2 t2 hm'' hS'' g'' hkp'' => ?_⟩
    · rw [hsb.2 b (fun h : b = S => hSf (by rw [← h]; exact hb))]; exact e
    · refine hR s'' L2 es2 ep2 t2 (Moved.trans W.gtrans ((hm.mono wide).then_heap (Nat.le_add_right _ _) fun b o hb e => ?_) hm'') hS'' g'' hkp''
      rw [hsb.2 b (fun h : b = S => hb (by rw [h]; exact List.mem_cons_self))]; exact e
/-- the set is made: what is left of it -/
def LeftB (P : Program) (w : World) (ks : List Mem) (s z : Shared) : Prop := ∃ (g : Heap) (n : Nat) (L : List Mem) (es : Array (Int × Value)) (ep : Nat) (t : SetTable),
  z = { s with heap := g, toks := n } ∧ BT P w g s.heap.objs.size L es ep t ∧ Come ks ks.length L ∧ ∀ b o, s.heap.get? b = some o → g.get? b = some o
/-- xs stands at c0: a list or a tuple -/
def SeqAt2 (h : Heap) (c0 : Addr) (xs : Array Value) : Prop := h.IsTuple c0 xs ∨ h.IsList c0 xs
variable {c0 : Addr} {xs : Array Value} {ks : List Mem}
set_option maxHeartbeats 3200000 in
theorem b_init (hh : A.handled = none) (hu : A.units + 2 < cLine) (hc : SeqAt2 s.heap c0 xs) (hx : xs.toList = ks.map fun p => Value.ref p.1) (few : Few ks) (hk : ∀ p ∈ ks, IsT P w s.heap p.2 p.1)
    (hT : Shared.TypeIs { s with heap := s.heap.push (eS w) } (.ref s.heap.objs.size) "set") :
    codeAny (model P w) A (.call (.builtin "set.__init__") ⟨[.ref s.heap.objs.size, .ref c0], []⟩) (wants (fun r z => r = .none ∧ LeftB P w ks s z) E) { s with heap := s.heap.push (eS w) } := by
  have hn : xs.size = ks.length := by rw [← Array.length_toList, hx, List.length_map]
  have hS : (s.heap.push (eS w)).get? s.heap.objs.size = some (eS w) := Heap.get?_push_size _ rfl
  have hs0 : (s.heap.push (eS w)).objs.size = s.heap.objs.size + 1 := Heap.size_push ..
  have fin : ∀ (z : Shared) (L : List Mem) (es : Array (Int × Value)) (ep : Nat) (t : SetTable), z.gens = s.gens → z.drawn = s.drawn → z.os = s.os → BT P w z.heap s.heap.objs.size L es ep t → Come ks xs.size L →
      (∀ b o, s.heap.get? b = some o → z.heap.get? b = some o) → LeftB P w ks s z := by
    intro z L es ep t e1 e2 e3 R g keep
    obtain ⟨z1, z2, z3, z4, z5⟩ := z
    obtain rfl : z2 = s.gens := e1
    obtain rfl : z3 = s.drawn := e2
    obtain rfl : z5 = s.os := e3
    rw [hn] at g
    exact ⟨z1, z4, L, es, ep, t, rfl, R, g, keep⟩
  refine codeAny_call_builtin F.called_set.init.plain F.entry_set_init (check_set_init_1 hT ?_)
  rcases hc with hc | hc
  · obtain ⟨⟨k1, k2, k3, k4⟩, q1, q2, n0, q3⟩ := hc
    dsimp only at q2 q3
    subst q2 q3
    have q1' : (s.heap.push (eS w)).get? c0 = some { cls := .type "tuple", dict := k2, data := .seq xs n0, slots := k4 } := Heap.get?_push_of_some _ q1
    have tupl : (s.heap.push (eS w)).IsTuple c0 xs := ⟨_, q1', rfl, n0, rfl⟩
    have f1 := F.sub_tuple_set
    have f2 := F.sub_tuple_frozenset
    have f3 : (Value.type "tuple" == Value.type "dict") = false := by decide
    unfold Builtin.«set.__init__» noKeywords Builtin.Frozenset.updateFrom
    generalize hIt : pyIter = It
    wp_walk
    subst hIt
    refine wpAny_pyIter_tuple tupl (wpAny_bind (wpAny_runValue ?_))
    have hc0 : c0 < s.heap.objs.size := Heap.lt_size q1
    have d1 : c0 ≠ (s.heap.push (eS w)).objs.size := by rw [hs0]; exact Nat.ne_of_lt (Nat.lt_succ_of_lt hc0)
    have d2 : s.heap.objs.size ∉ [(s.heap.push (eS w)).objs.size, c0] := by
      rw [hs0]
      simp only [List.mem_cons, List.not_mem_nil, or_false, not_or]
      exact ⟨Nat.ne_of_lt (Nat.lt_succ_self _), Nat.ne_of_gt hc0⟩
    refine b_walk (Walks.tuple (by simp [hh]) _ c0 d1 xs).toS s.heap.objs.size d2 ks hn few (val_at hx) s.heap hk (get_none (Nat.le_refl _)) (fun b hb => get_none ?_) hu (xs.size - 0) 0 _ (by omega) (Nat.zero_le _) ⟨⟨_, Heap.get?_push_size _ rfl, rfl, rfl⟩, tupl.push _⟩ (fun b o e => Heap.get?_push_of_some _ (Heap.get?_push_of_some _ e)) ⟨[], #[], 0, _, BT.new (Heap.get?_push_of_some _ hS), Come.zero ks⟩ ?_
    · rw [List.mem_singleton.mp hb, hs0]; exact Nat.le_succ _
    · intro z L es ep t mv R g keep
      exact wpAny_pure (wpAny_pure ⟨rfl, fin z L es ep t mv.gens mv.drawn mv.os R g keep⟩)
  · obtain ⟨⟨k1, k2, k3, k4⟩, q1, q2, n0, q3⟩ := hc
    dsimp only at q2 q3
    subst q2 q3
    have q1' : (s.heap.push (eS w)).get? c0 = some { cls := .type "list", dict := k2, data := .seq xs n0, slots := k4 } := Heap.get?_push_of_some _ q1
    have lst : (s.heap.push (eS w)).IsList c0 xs := ⟨_, q1', rfl, n0, rfl⟩
    have f1 := F.sub_list_set
    have f2 := F.sub_list_frozenset
    have f3 : (Value.type "list" == Value.type "dict") = false := by decide
    unfold Builtin.«set.__init__» noKeywords Builtin.Frozenset.updateFrom
    generalize hIt : pyIter = It
    wp_walk
    subst hIt
    refine wpAny_pyIter_list lst (wpAny_bind (wpAny_runValue ?_))
    have hc0 : c0 < s.heap.objs.size := Heap.lt_size q1
    have d1 : c0 ≠ (s.heap.push (eS w)).objs.size := by rw [hs0]; exact Nat.ne_of_lt (Nat.lt_succ_of_lt hc0)
    have d2 : s.heap.objs.size ∉ [(s.heap.push (eS w)).objs.size, c0] := by
      rw [hs0]
      simp only [List.mem_cons, List.not_mem_nil, or_false, not_or]
      exact ⟨Nat.ne_of_lt (Nat.lt_succ_self _), Nat.ne_of_gt hc0⟩
    refine b_walk (Walks.list (by simp [hh]) _ c0 d1 xs).toS s.heap.objs.size d2 ks hn few (val_at hx) s.heap hk (get_none (Nat.le_refl _)) (fun b hb => get_none ?_) hu (xs.size - 0) 0 _ (by omega) (Nat.zero_le _) ⟨⟨_, Heap.get?_push_size _ rfl, rfl, rfl⟩, lst.push _⟩ (fun b o e => Heap.get?_push_of_some _ (Heap.get?_push_of_some _ e)) ⟨[], #[], 0, _, BT.new (Heap.get?_push_of_some _ hS), Come.zero ks⟩ ?_
    · rw [List.mem_singleton.mp hb, hs0]; exact Nat.le_succ _
    · intro z L es ep t mv R g keep
      exact wpAny_pure (wpAny_pure ⟨rfl, fin z L es ep t mv.gens mv.drawn mv.os R g keep⟩)
set_option maxHeartbeats 3200000 in
/-- set(xs) -/
theorem b_set {Q : Value → Shared → Prop} (hh : A.handled = none) (hu : A.units + 3 < cLine) (hc : SeqAt2 s.heap c0 xs) (hx : xs.toList = ks.map fun p => Value.ref p.1) (few : Few ks) (hk : ∀ p ∈ ks, IsT P w s.heap p.2 p.1)
    (hQ : ∀ z, LeftB P w ks s z → Q (.ref s.heap.objs.size) z) : wpAny (model P w) A (call (.type "set") [.ref c0]) Q E s := by
  have m1 := F.called_set.made
  have m2 := F.called_set.sub
  have m3 := F.called_set.notType
  have m4 := F.called_set.canCreate
  have m5 := F.typeCall_set_1 (.ref c0)
  have m6 := F.called_set.init.lookup
  have m7 := F.called_set.init.bind (.ref s.heap.objs.size)
  obtain ⟨y1, y2, m8⟩ := F.called_set.mro
  refine wpAny_call (codeAny_of_tree (wpAny_pure ⟨Code.quiet_builtin _ (by decide +kernel), codeAny_builtin F.entry_type_call ?_⟩))
  rw [Around.under_plain (weight_type_call_type "set" [.ref c0] []) rfl]
  repeat (any_goals (first | assumption | wp_step))
  refine codeAny_mono (code_set_led1 (.ref c0) (E := E) (Q₁ := fun v z => v = .ref s.heap.objs.size ∧ z = { s with heap := s.heap.push (eS w) }) ⟨rfl, rfl⟩) fun r z hr => ?_
  cases r with
  | ok f =>
    cases f with
    | ret v =>
      obtain ⟨rfl, rfl⟩ := hr
      have hT : Shared.TypeIs { s with heap := s.heap.push (eS w) } (.ref s.heap.objs.size) "set" := ⟨_, Heap.get?_push_size _ rfl, rfl⟩
      repeat (any_goals (first | assumption | wp_step))
      refine codeAny_mono (b_init (E := E) (by simp [hh]) hu hc hx few hk hT) fun r2 z2 hr2 => ?_
      cases r2 with
      | ok f2 =>
        cases f2 with
        | ret v2 =>
          obtain ⟨rfl, left⟩ := hr2
          repeat (any_goals (first | assumption | wp_step))
          exact hQ _ left
        | _ => exact hr2.elim
      | error _ => exact hr2
    | _ => exact hr.elim
  | error _ => exact hr
end
/-! ### as an object of the frames -/
structure BT0 (P : Program) (w : World) (h : Heap) (a : Addr) (L : List Mem) : Prop where
  ex : ∃ (es : Array (Int × Value)) (ep : Nat) (t : SetTable), (∃ o, h.get? a = some o ∧ o.ExactSet ∧ o.data = .set es ep t) ∧ es.toList = rowsOf P w L ∧ TabOk t (L.map fun p => thash P w p.2) ∧ (L.map (·.2)).Nodup ∧ t.plain = true ∧
    (w.params.followText "set-order" = true ∨ t.led = true) ∧ L.length * 5 < t.mask * 3
def BTO (P : Program) (w : World) (a : Addr) (L : List Mem) : HO := .ext fun h => BT0 P w h a L
theorem BT.t0 {P : Program} {w : World} {h : Heap} {a : Addr} {L : List Mem} {es : Array (Int × Value)} {ep : Nat} {t : SetTable} (R : BT P w h a L es ep t) : BT0 P w h a L :=
  ⟨es, ep, t, R.here, R.rows, R.tab, R.uniq, R.pl, R.ld, R.air⟩
theorem BT0.full {P : Program} {w : World} {h : Heap} {a : Addr} {L : List Mem} (R : BT0 P w h a L) (ht : ∀ p ∈ L, IsT P w h p.2 p.1) : ∃ es ep t, BT P w h a L es ep t := by
  obtain ⟨es, ep, t, h1, h2, h3, h4, h5, h6, h7⟩ := R.ex
  exact ⟨es, ep, t, h1, h2, h3, h4, ht, h5, h6, h7⟩
theorem bto_new {P : Program} {w : World} {H : Hp} {h : Heap} {a : Addr} {L : List Mem} (R : BT0 P w h a L) : ObjOk P w H h a (BTO P w a L) := by
  have ⟨es, ep, t, ⟨o, ho, r⟩, q⟩ := R.ex
  refine ⟨R, ⟨o, ho⟩, fun h1 h2 p k => ?_⟩
  have ⟨es', ep', t', ⟨o', ho', r'⟩, q'⟩ := BT0.ex p
  exact ⟨es', ep', t', ⟨o', k o' ho', r'⟩, q'⟩
section
variable {X : Cx}
/-- set(xs), xs a list or a tuple of tuples of ints -/
def rSetB (K : PySem.W.Frag) (P : Program) (w : World) : List V → Hp → VK → Prop := fun vs H Q => ∃ (c : Addr) (ks : List Mem), vs = [V.ref c] ∧ (SqT K H c (ks.map fun p => V.ref p.1) ∨ SqL K H c (ks.map fun p => V.ref p.1)) ∧
  (∀ p ∈ ks, SqT K H p.1 (p.2.map V.int)) ∧ Few ks ∧ ∀ a L, H a = none → (L.map (·.2)).Nodup → (∀ p ∈ L, p ∈ ks) → (∀ p ∈ ks, p.2 ∈ L.map (·.2)) → Q (.ref a) (upd H a (BTO P w a L))
theorem cr_setB (hc : X.calm = true) (hu : X.A.units + 64 < cLine) : CallR X (.type "set") (rSetB X.K X.prog X.w) := fun pins s σ H vs us Q I r h => by
  obtain ⟨t, ks, rfl, ht, hk, hf, q⟩ := h
  have hn : H s.heap.objs.size = none := I.hok.fresh (Nat.le_refl _)
  rw [Vals.ref1 r]
  have go : ∀ its : List Value, Vals (ks.map fun p => V.ref p.1) its → SeqAt2 s.heap t its.toArray → wpAny (model X.prog X.w) X.A (call (.type "set") [.ref t]) (EP X pins σ Q) X.xe s := fun its rv sa => by
    refine b_set (P := X.prog) (w := X.w) (I.ok.hd hc) (by omega) sa (by simpa using refs_of_vals rv) hf (fun p hp => I.isT (hk p hp)) fun z hz => ?_
    obtain ⟨g, n, L, es, ep, tb, rfl, R, got, keep⟩ := hz
    exact ⟨.ref s.heap.objs.size, upd H s.heap.objs.size (BTO X.prog X.w s.heap.objs.size L), I.laid (t' := n) keep (Nat.le_refl _) (bto_new R.t0), rfl, q _ L hn R.uniq (fun p hp => List.mem_of_mem_take (got.sub p hp)) fun p hp => got.all p (by rw [List.take_length]; exact hp)⟩
  rcases ht with ht | ht
  · obtain ⟨its, rv, tupl, _⟩ := I.tuple ht
    exact go its rv (.inl tupl)
  · obtain ⟨its, rv, pl, _⟩ := I.list ht
    exact go its rv (.inr pl.isList)
/-- set(t), t a tuple of ints -/
def rSetIt (K : PySem.W.Frag) (w : World) : List V → Hp → VK → Prop := fun vs H Q => ∃ (t : Addr) (ns : List Int), vs = [V.ref t] ∧ SqT K H t (ns.map V.int) ∧ ns.length < 64 ∧
  ∀ a c, H a = none → c ≤ ns.length → Q (.ref a) (upd H a (SetO w a (fun j => decide (j ∈ ns)) c))
theorem cr_setIt (hc : X.calm = true) : CallR X (.type "set") (rSetIt X.K X.w) := fun pins s σ H vs us Q I r h => by
  obtain ⟨t, ns, rfl, ht, hf, q⟩ := h
  obtain ⟨its, rv, tupl, _⟩ := I.tuple ht
  have hn : H s.heap.objs.size = none := I.hok.fresh (Nat.le_refl _)
  rw [Vals.ref1 r]
  have hi : IntsAre its.toArray.toList ns := ints_of_vals rv
  exact call_set_tupI ns (I.ok.hd hc) (show s.heap.IsTuple t its.toArray from tupl) hi (by unfold scanBound; omega) fun h' tk c R hcn k =>
    ⟨.ref s.heap.objs.size, upd H s.heap.objs.size (SetO X.w s.heap.objs.size (fun j => decide (j ∈ ns)) c), I.laid (t' := tk) k (Nat.le_refl _) (setO_new R), rfl, q _ c hn hcn⟩
def kT (p : Addr × List Int) : PyData := .tuple (p.2.map .int)
/-- sorted(s), s a set of tuples of ints -/
def rSortB (K : PySem.W.Frag) (P : Program) (w : World) : List V → Hp → VK → Prop := fun vs H Q => ∃ (a : Addr) (L : List Mem), vs = [V.ref a] ∧ H a = some (BTO P w a L) ∧ (∀ p ∈ L, SqT K H p.1 (p.2.map V.int)) ∧ L.length ≤ 76 ∧
  ∀ (b1 : List Mem) (p : Addr), b1.Perm L → (b1.map (·.2)).Nodup → H p = none → Q (.ref p) (upd H p (.lst ((b1.mergeSort (dataLe false kT)).map fun q => V.ref q.1)))
theorem alike_ints : ∀ (l m : List Int), alikeAll (l.map PyData.int) (m.map PyData.int) = true
  | [], [] => by simp [alikeAll]
  | [], _ :: _ => by simp [alikeAll]
  | _ :: _, [] => by simp [alikeAll]
  | a :: l, b :: m => by
    have := alike_ints l m
    simp [alikeAll, alike, this]
theorem kT_dep (l : List Int) : PyData.depthAll (l.map PyData.int) = 0 := by
  induction l with
  | nil => rfl
  | cons a l ih => simp [PyData.depthAll, PyData.depth, ih]
theorem cr_sortB (hc : X.calm = true) (hu : X.A.units + 65 < cLine) : CallR X (.builtin "sorted") (rSortB X.K X.prog X.w) := by
  intro pins s σ H vs us Q I r h
  obtain ⟨a, L, rfl, ha, hk, hfew, q⟩ := h
  have R0 : BT0 X.prog X.w s.heap a L := (I.hok a _ ha).1
  obtain ⟨es, ep, t, R⟩ := R0.full fun p hp => I.isT (hk p hp)
  rw [Vals.ref1 r]
  obtain ⟨o, ho, hex, hd⟩ := R.here
  have hsz := rows_len R.rows
  have hes : es.toList.map (·.2) = L.map fun q => Value.ref q.1 := by
    rw [R.rows]
    unfold L2.rowsOf
    rw [List.map_map]; rfl
  have hi : ∀ L0 : List Mem, (∀ p ∈ L0, p ∈ L) → EachIs (fun v (p : Mem) => v = Value.ref p.1 ∧ p ∈ L) (L0.map fun q => Value.ref q.1) L0 := by
    intro L0
    induction L0 with
    | nil => intro _; exact .nil
    | cons p L0 ih => intro h0; exact .cons ⟨rfl, h0 p List.mem_cons_self⟩ (ih fun q hq => h0 q (List.mem_cons_of_mem _ hq))
  refine sorted_any (β := Mem) (R0 := fun v p => v = Value.ref p.1 ∧ p ∈ L) kT (I.ok.hd hc) ⟨o, ho, hex.1, hd⟩ R.fit (by unfold scanBound; omega) R.tab.ris R.ld (by rw [hes]; exact hi L fun _ h => h) ?_ ?_ (.inr ?_) ?_ (by omega) ?_
  · rintro v p ⟨rfl, hp⟩ h hk'
    obtain ⟨its, rv, ⟨o, h1, h2, n, h3⟩, _⟩ := I.tuple (hk p hp)
    exact ⟨[], .tuple (hk' _ _ h1) h2 h3 (reads_ints (by simpa using rv))⟩
  · intro d hd d' hd'
    obtain ⟨p, _, rfl⟩ := List.mem_map.mp hd
    obtain ⟨p', _, rfl⟩ := List.mem_map.mp hd'
    unfold kT alike
    exact alike_ints _ _
  · intro d hd
    obtain ⟨p, _, rfl⟩ := List.mem_map.mp hd
    exact ⟨_, rfl⟩
  · intro d hd
    obtain ⟨p, _, rfl⟩ := List.mem_map.mp hd
    unfold kT PyData.depth
    rw [kT_dep]
    omega
  · intro z p out c b1 k g o' hp hg pm eo
    have hlen : ((b1.mergeSort (dataLe false kT)).map fun q => V.ref q.1).length ≤ sizeLine := by
      rw [List.length_map, (List.mergeSort_perm _ _).length_eq, pm.length_eq, sizeLine_eq]; omega
    have hn : H p = none := I.hok.fresh hp
    have hv : ∀ {out : List Value} {b : List Mem}, EachIs (fun v (p : Mem) => v = Value.ref p.1 ∧ p ∈ L) out b → Vals (b.map fun q => V.ref q.1) out := by
      intro out b e
      induction e with
      | nil => exact .nil
      | cons r _ ih => exact .cons r.1 ih
    have J : Inv X pins σ (upd H p (.lst ((b1.mergeSort (dataLe false kT)).map fun q => V.ref q.1))) { s with heap := z.heap, gens := z.gens, drawn := z.drawn, toks := z.toks } :=
      I.call (ch := []) (Un.laid k hp hn) (I.hok.laid k hp ⟨hlen, out, c, hv eo, hg⟩) (by rw [g]; exact I.bare) (fun _ z => nomatch z)
    have e : z = { s with heap := z.heap, gens := z.gens, drawn := z.drawn, toks := z.toks } := by
      cases z
      cases s
      cases o'
      rfl
    rw [e]
    exact ⟨.ref p, _, J, rfl, q b1 p pm ((pm.map (·.2)).nodup_iff.mpr R.uniq) hn⟩
end
end Cb

end
section
set_option maxRecDepth 100000
set_option maxHeartbeats 1000000
/-! sorted(set(xs)), xs ints or tuples of ints -/
namespace Cb
open PySem PySem.Spec PyProof.Rows L2 PySem.W
/-! ### the composition -/
def rSetU (K : PySem.W.Frag) (P : Program) (w : World) : List V → Hp → VK → Prop := fun vs H Q => rSetB K P w vs H Q ∨ rSetIt K w vs H Q
def rSortU2 (K : PySem.W.Frag) (P : Program) (w : World) : List V → Hp → VK → Prop := fun vs H Q => rSortB K P w vs H Q ∨ rSortedSet w vs H Q
def rSS2 (K : PySem.W.Frag) (P : Program) (w : World) : List V → Hp → VK → Prop := fun vs H Q => rSetU K P w vs H fun v H1 => rSortU2 K P w [v] H1 Q
theorem nodup_le {α : Type} : ∀ {M N : List α}, M.Nodup → (∀ m ∈ M, m ∈ N) → M.length ≤ N.length
  | [], _, _, _ => Nat.zero_le _
  | x :: M, N, nd, h => by
    haveI : DecidableEq α := fun a b => Classical.propDecidable (a = b)
    obtain ⟨n1, n2⟩ := List.nodup_cons.mp nd
    have hx : x ∈ N := h x List.mem_cons_self
    have := nodup_le (N := N.erase x) n2 fun m hm => (List.mem_erase_of_ne (fun (e : m = x) => n1 (e ▸ hm))).mpr (h m (List.mem_cons_of_mem _ hm))
    rw [List.length_erase_of_mem hx] at this
    have : 0 < N.length := List.length_pos_of_mem hx
    simp only [List.length_cons]
    omega
section
variable [Tb] {X : Cx} {G : Gc} {U : L2.WX}
theorem ks_ofT {S : AS} {H : Hp} : ∀ {Ls : List (List Int)} {vs : List V}, Rps G S H (Ls.map itW1) vs →
    ∃ ks : List (Addr × List Int), vs = ks.map (fun p => V.ref p.1) ∧ ks.map (·.2) = Ls ∧ ∀ q ∈ ks, Rp G S H (itW1 q.2) (.ref q.1) ∧ SqT G.K H q.1 (q.2.map V.int)
  | [], vs, h => ⟨[], h.inv0, rfl, fun q hq => by cases hq⟩
  | l :: Ls, vs, h => by
    obtain ⟨v, r, rfl, h1, h2⟩ := h.inv
    obtain ⟨ks, rfl, e, hk⟩ := ks_ofT h2
    have h1' := h1
    unfold itW1 Rp at h1'
    obtain ⟨b, us, rfl, hb, hu⟩ := h1'
    rw [asInts_vals (G := G) (S := S) (H := H) hu (asInts_map l)] at hb
    refine ⟨(b, l) :: ks, rfl, by rw [List.map_cons, e], fun q hq => ?_⟩
    rcases List.mem_cons.mp hq with rfl | hq
    · exact ⟨h1, hb⟩
    · exact hk q hq
theorem rps_ksT {S : AS} {H : Hp} : ∀ {L : List (Addr × List Int)}, (∀ q ∈ L, Rp G S H (itW1 q.2) (.ref q.1)) → Rps G S H (L.map fun q => itW1 q.2) (L.map fun q => V.ref q.1)
  | [], _ => .nil
  | q :: L, h => .cons (h q List.mem_cons_self) (rps_ksT fun r hr => h r (List.mem_cons_of_mem _ hr))
theorem isI_ints : ∀ {ws : List W}, ws.all isI = true → ∃ ns : List Int, ws = ns.map .int
  | [], _ => ⟨[], rfl⟩
  | w :: ws, h => by
    rw [List.all_cons, Bool.and_eq_true] at h
    obtain ⟨ns, rfl⟩ := isI_ints h.2
    cases w with
    | int i => exact ⟨i :: ns, rfl⟩
    | _ => exact absurd h.1 (by simp [isI])
theorem itW1_inj {l m : List Int} (h : itW1 l = itW1 m) : l = m := by
  have h1 : (l.map W.int) = m.map W.int := by injection h
  have h2 := asInts_map l
  rw [h1, asInts_map m] at h2
  exact (Option.some.inj h2).symm
/-- tuples of ints: what the set's sorted list is -/
theorem tups_out {S : AS} {H : Hp} {Q : VK} {Ls : List (List Int)} {ks : List (Addr × List Int)} (hG : G.K = X.K) (hks : ks.map (·.2) = Ls) (hk : ∀ q ∈ ks, Rp G S H (itW1 q.2) (.ref q.1) ∧ SqT G.K H q.1 (q.2.map V.int)) (hs : sortable (Ls.map itW1) = true)
    (q : Res G S H (.L (sortW ltW (dedupW (Ls.map itW1)))) Q) (a : Addr) (L : List (Addr × List Int)) (ha : H a = none) (hsub : ∀ p ∈ L, p ∈ ks) (hall : ∀ p ∈ ks, p.2 ∈ L.map (·.2)) (hL : L.length ≤ 76) : rSortU2 X.K X.prog X.w [.ref a] (upd H a (BTO X.prog X.w a L)) Q := by
  have kp1 : ∀ b o, H b = some o → upd H a (BTO X.prog X.w a L) b = some o := keep_new ha
  refine .inl ⟨a, L, rfl, upd_same, fun p hp => ?_, hL, fun b1 p pm nd hp => ?_⟩
  · have h := (hk p (hsub p hp)).2
    rw [hG] at h
    exact sqT_kp (S0 := S) h fun b o e _ _ => kp1 b o e
  · have hk' : ∀ q ∈ b1, Rp G S H (itW1 q.2) (.ref q.1) := fun q hq => (hk q (hsub q (pm.mem_iff.mp hq))).1
    have nd2 : (b1.map fun q => itW1 q.2).Nodup := by
      refine List.pairwise_map.mpr ((List.pairwise_map.mp nd).imp fun {x y} hne e => hne (itW1_inj e))
    have hm : ∀ x, x ∈ (b1.map fun q => itW1 q.2) ↔ x ∈ Ls.map itW1 := by
      intro x
      rw [← hks, List.map_map]
      constructor
      · intro hx
        obtain ⟨q, hq, rfl⟩ := List.mem_map.mp hx
        exact List.mem_map.mpr ⟨q, hsub q (pm.mem_iff.mp hq), rfl⟩
      · intro hx
        obtain ⟨q, hq, rfl⟩ := List.mem_map.mp hx
        obtain ⟨r, hr, e⟩ := List.mem_map.mp (hall q hq)
        exact List.mem_map.mpr ⟨r, pm.mem_iff.mpr hr, by show itW1 r.2 = itW1 q.2; rw [e]⟩
    have hs1 : sortable (b1.map fun q => itW1 q.2) = true := sortable_sub hs fun x hx => (hm x).mp hx
    have e1 : (b1.mergeSort (dataLe false kT)).map (fun q => itW1 q.2) = sortW ltW (dedupW (Ls.map itW1)) := by
      rw [sort_dd hs nd2 hm, ← sort_eq hs1]
      refine sort_maps (r := dataLe false kT) (s := dataLe false toD) (fun q : Addr × List Int => itW1 q.2) fun p _ p' _ => ?_
      have : ∀ p : Addr × List Int, kT p = toD (itW1 p.2) := fun p => by
        show _ = toD (.tup (p.2.map W.int))
        simp [toD, toDs_ints, kT]
      unfold dataLe sortLe
      simp only [this]
    have kp2 : ∀ b o, H b = some o → upd (upd H a (BTO X.prog X.w a L)) p (.lst ((b1.mergeSort (dataLe false kT)).map fun q => V.ref q.1)) b = some o := fun b o e => keep_new hp b o (kp1 b o e)
    rw [← e1] at q
    refine q _ _ [p] kp2 ⟨p, _, rfl, upd_same, (rps_ksT fun q hq => ((hk' q ((List.mergeSort_perm _ _).mem_iff.mp hq)).mono (fun b o e _ _ => kp2 b o e) fun _ h => h)), rfl⟩ (by simp) fun b hb => ?_
    obtain rfl : b = p := by simpa using hb
    refine ⟨?_, by rw [upd_same]; trivial⟩
    cases e8 : H b with
    | none => rfl
    | some o => rw [kp1 b o e8] at hp; cases hp
theorem few_of {Ls : List (List Int)} {ks : List (Addr × List Int)} (hks : ks.map (·.2) = Ls) (hs : sortable (Ls.map itW1) = true) (hl : (dedupW (Ls.map itW1)).length ≤ 76) : Few ks := fun M nd hM => by
  have h1 : (M.map itW1).Nodup := List.pairwise_map.mpr (nd.imp fun {x y} hne e => hne (itW1_inj e))
  have := nodup_le h1 (N := dedupW (Ls.map itW1)) fun m hm => by
    obtain ⟨x, hx, rfl⟩ := List.mem_map.mp hm
    exact (dd_mem hs (fun _ h => h) _).mpr (List.mem_map.mpr ⟨x, hks ▸ hM x hx, rfl⟩)
  rw [List.length_map] at this
  omega
theorem pk_sset2 (hG : G.K = X.K) : PrOk G (rSS2 X.K X.prog X.w) (prW .sset) := by
  intro S H ws vs z Q hv e q
  change p_sset ws = some z at e
  unfold p_sset at e
  have tups : ∀ (a : List W) (t : Addr) (xs : List V), (SqT X.K H t xs ∨ SqL X.K H t xs) → Rps G S H a xs → a.all isIT = true → (dedupW a).length ≤ 76 → sortable a = true → Res G S H (.L (sortW ltW (dedupW a))) Q → rSS2 X.K X.prog X.w [.ref t] H Q := by
    intro a t xs k1 k2 hk hl hs q
    obtain ⟨Ls, rfl⟩ := allIT hk
    obtain ⟨ks, rfl, e2, hk⟩ := ks_ofT k2
    have few := few_of e2 hs hl
    exact .inl ⟨t, ks, rfl, k1, fun p hp => hG ▸ (hk p hp).2, few, fun a L ha nd hsub hall => tups_out hG e2 hk hs q a L ha hsub hall (by
      have := few (L.map (·.2)) nd fun m hm => by
        obtain ⟨p, hp, rfl⟩ := List.mem_map.mp hm
        exact List.mem_map.mpr ⟨p, hsub p hp, rfl⟩
      rwa [List.length_map] at this)⟩
  split at e
  · rename_i a
    obtain ⟨v, rfl, h1⟩ := vws1 hv
    obtain ⟨t, xs, rfl, k1, k2⟩ := vw_tup h1
    by_cases hs : ((a.all isI && decide (a.length < 64) || a.all isIT && decide ((dedupW a).length ≤ 76)) && sortable a) = true
    · rw [if_pos hs] at e
      cases e
      rw [Bool.and_eq_true, Bool.or_eq_true, Bool.and_eq_true, Bool.and_eq_true] at hs
      obtain ⟨hk, hs⟩ := hs
      rw [hG] at k1
      rcases hk with ⟨hk, hl⟩ | ⟨hk, hl⟩
      · have hl := of_decide_eq_true hl
        obtain ⟨ns, rfl⟩ := isI_ints hk
        have e2 : xs = ns.map V.int := asInts_vals (G := G) (S := S) (H := H) k2 (asInts_map ns)
        subst e2
        rw [List.length_map] at hl
        refine .inr ⟨t, ns, rfl, k1, hl, fun a c ha hc => .inr ⟨a, _, c, rfl, upd_same, by omega, fun ns' p hpw hm _ hp => ?_⟩⟩
        have kp1 := keep_new (u := SetO X.w a (fun j => decide (j ∈ ns)) c) ha
        have nd : (ns'.map W.int).Nodup := List.pairwise_map.mpr (hpw.imp fun {x y} hlt e => by injection e; omega)
        have hm2 : ∀ x, x ∈ ns'.map W.int ↔ x ∈ ns.map W.int := by
          intro x
          constructor
          · intro hx
            obtain ⟨i, hi, rfl⟩ := List.mem_map.mp hx
            exact List.mem_map.mpr ⟨i, of_decide_eq_true ((hm i).mp hi), rfl⟩
          · intro hx
            obtain ⟨i, hi, rfl⟩ := List.mem_map.mp hx
            exact List.mem_map.mpr ⟨i, (hm i).mpr (decide_eq_true hi), rfl⟩
        have e1 : sortW ltW (dedupW (ns.map W.int)) = ns'.map W.int := by
          rw [sort_dd hs nd hm2]
          have hs1 : sortable (ns'.map W.int) = true := sortable_sub hs fun x hx => (hm2 x).mp hx
          refine (sortW_perm _).eq_of_pairwise (le := fun a b => ltW b a = false) (fun a b ha hb h1 h3 => ?_) (sort_asc hs1) (List.pairwise_map.mpr (hpw.imp fun {x y} hlt => ?_))
          · obtain ⟨_, h2⟩ := sortable_iff hs1
            exact cmp_tri a b (h2 a ((sortW_perm _).mem_iff.mp ha) b hb) h3 h1
          · show decide (y < x) = false
            exact decide_eq_false (by omega)
        rw [e1] at q
        have kp2 : ∀ b o, H b = some o → upd (upd H a (SetO X.w a (fun j => decide (j ∈ ns)) c)) p (.lst (ns'.map V.int)) b = some o := fun b o e => keep_new hp b o (kp1 b o e)
        refine q _ _ [p] kp2 ⟨p, _, rfl, upd_same, rps_ints ns', rfl⟩ (by simp) fun b hb => ?_
        obtain rfl : b = p := by simpa using hb
        refine ⟨?_, by rw [upd_same]; trivial⟩
        cases e8 : H b with
        | none => rfl
        | some o => rw [kp1 b o e8] at hp; cases hp
      · exact tups a t xs (.inl k1) k2 hk (of_decide_eq_true hl) hs q
    · rw [if_neg hs] at e; cases e
  · rename_i a
    obtain ⟨v, rfl, h1⟩ := vws1 hv
    obtain ⟨t, xs, rfl, k1, k2⟩ := h1
    by_cases hs : (a.all isIT && decide ((dedupW a).length ≤ 76) && sortable a) = true
    · rw [if_pos hs] at e
      cases e
      rw [Bool.and_eq_true, Bool.and_eq_true] at hs
      exact tups a t xs (.inr (SqL.of k1)) k2 hs.1.1 (of_decide_eq_true hs.1.2) hs.2 q
    · rw [if_neg hs] at e; cases e
  · cases e
theorem q_sset {e : Expr} {p p2 pos pos2 : Pos} {d : Den Od} (hG : G.K = X.K) (hc : X.calm = true) (hu : X.A.units + 65 < cLine) (hg : Gl X "sorted") (hm : X.mg "sorted" = none) (hg2 : Gl X "set") (hm2 : X.mg "set" = none) (ns : Nst e) (he : PE X e (tD G U (rO G) d)) :
    PE X (.Call (.Name "sorted" p) [.Call (.Name "set" p2) [e] [] pos2] [] pos) (tD G U (rZ G) (cPr .sset (cConsO d cNil))) :=
  sx_prA (pk_sset2 hG) (pa_csO ns he pa_nlO) fun t ht => by
    have h1 : PE X (.Call (.Name "set" p2) [e] [] pos2) (tCB (rSetU X.K X.prog X.w) t) := pe_callTy ((cr_setB hc (by omega)).or (cr_setIt hc)) hg2 hm2 rfl ht (he := ns _ _) (hpl := rfl)
    have h2 : PE X (.Call (.Name "sorted" p) [.Call (.Name "set" p2) [e] [] pos2] [] pos) (tCB (rSortU2 X.K X.prog X.w) (tCons (tCB (rSetU X.K X.prog X.w) t) tNil)) :=
      pe_callB ((cr_sortB hc hu).or (cr_sortedSet hc)) hg hm rfl (pa_cons h1 pa_nil (by rfl)) (he := by rfl) (hpl := rfl)
    exact h2
end
end Cb

end
section
set_option maxRecDepth 100000
set_option maxHeartbeats 1000000
/-! {'a': x, ..}; x is True -/
namespace Cb
open PySem PySem.Spec PyProof.Rows L2
theorem put_new {k : Key} {v : V} {kvs : List (Key × V)} (h : ∀ p ∈ kvs, p.1 ≠ k) : putK kvs k v = kvs ++ [(k, v)] := by
  unfold putK
  rw [if_neg]
  intro hc
  obtain ⟨p, hp, e⟩ := List.any_eq_true.mp hc
  exact h p hp (by simpa using e)
theorem merge_new : ∀ {more kvs : List (Key × V)}, (more.map (·.1)).Nodup → (∀ p ∈ kvs, ∀ q ∈ more, p.1 ≠ q.1) → mergeK kvs more = kvs ++ more
  | [], kvs, _, _ => by simp [mergeK]
  | p :: more, kvs, nd, h => by
    rw [List.map_cons, List.nodup_cons] at nd
    have e : mergeK kvs (p :: more) = mergeK (putK kvs p.1 p.2) more := rfl
    rw [e, put_new fun q hq => h q hq p List.mem_cons_self, merge_new nd.2, List.append_assoc]
    · rfl
    · intro q hq r hr
      rcases List.mem_append.mp hq with hq | hq
      · exact h q hq r (List.mem_cons_of_mem _ hr)
      · rw [List.mem_singleton.mp hq]
        exact fun e => nd.1 (List.mem_map.mpr ⟨r, hr, e.symm⟩)
section
variable [Tb] {G : Gc} {U : L2.WX} {X : Cx}
structure PPd (G : Gc) (U : L2.WX) (X : Cx) (pos : Pos) (keys : List (Option Expr)) (values : List Expr) (ks : List Str) (d : Den (List W)) : Prop where
  ex : ∃ trs, PPs X pos keys values trs ∧ keys.length = ks.length ∧ values.length = ks.length ∧ keys.all (·.isSome) = true ∧ ∀ σ H Q, tD G U (rWs G) d σ H (fun vs H1 => Q ((ks.map V.str).zip vs) H1) → tPairs trs σ H Q
theorem pd_nil {pos : Pos} : PPd G U X pos [] [] [] cNil := ⟨[], pps_nil, rfl, rfl, rfl, fun σ H Q ⟨env, S, A, en, ok, o⟩ => o [] H S A [] en ⟨Rps.nil, rfl⟩ ok (Fr.refl ok)⟩
theorem pd_cons {pos p : Pos} {k : Str} {j} {v : Expr} {keys : List (Option Expr)} {values : List Expr} {ks : List Str} {d : Den Z} {ds : Den (List W)} (hv : PE X v (tD G U (rZ G) d)) (h : PPd G U X pos keys values ks ds) :
    PPd G U X pos (some (.Constant (.str k) j p) :: keys) (v :: values) (k :: ks) (cCons d ds) := by
  obtain ⟨trs, h1, h2, h3, h4, h5⟩ := h.ex
  refine ⟨_, pps_cons pe_str (pe_fz hv) h1, by simp [h2], by simp [h3], by simp [h4], fun σ H Q ⟨env, S, A, en, ok, o⟩ => ?_⟩
  show tD G U (rW G) (cFz d) σ H _
  refine ⟨env, S, A, en, ok, ?_⟩
  have o1 : Out G U σ S H A (rWs G) ((cFz d env).bind fun w env => (ds env).bind fun ws env => .ok (w :: ws) env) fun vs H1 => Q (((k :: ks).map V.str).zip vs) H1 := by
    have e : (cFz d env).bind (fun w env => (ds env).bind fun ws env => R.ok (w :: ws) env) = cCons d ds env := by
      unfold cFz cCons
      cases d env <;> rfl
    rw [e]; exact o
  refine (Out.bind (rel := rW G) (fun h => h.2) o1).mono fun x H1 ⟨w, env1, S1, A1, _, en1, ok1, ⟨rw1, _⟩, f1, o2⟩ => h5 σ H1 _ ⟨env1, S1, A1, en1, ok1, ?_⟩
  refine (Out.bind (rel := rWs G) (fun h => h.2) o2).mono fun xs H2 ⟨ws, env2, S2, A2, _, en2, ok2, ⟨rw2, _⟩, f2, o3⟩ => ?_
  exact o3 (x :: xs) H2 S2 A2 [] en2 ⟨.cons (rw1.mono (f2.kp ok1) f2.up) rw2, rfl⟩ ok2 (Fr.refl ok2)
theorem rpk_zip {S : AS} {H : Hp} : ∀ {ks : List Str} {ws : List W} {vs : List V}, Rps G S H ws vs → ks.length = ws.length → Rpk G S H ((ks.map Sum.inr).zip ws) ((ks.map (Sum.inr : Str → Key)).zip vs)
  | [], [], vs, r, _ => by rw [r.inv0]; exact Rpk.nil
  | k :: ks, w :: ws, vs, r, h => by
    obtain ⟨v, vr, rfl, r1, r2⟩ := r.inv
    exact Rpk.cons r1 (rpk_zip r2 (by simpa using h))
  | [], _ :: _, _, _, h => by simp at h
  | _ :: _, [], _, _, h => by simp at h
theorem zip_strs : ∀ (ks : List Str) (vs : List V), (ks.map V.str).zip vs = ((ks.map (Sum.inr : Str → Key)).zip vs).map fun kv => (kV kv.1, kv.2)
  | [], _ => rfl
  | _ :: _, [] => rfl
  | k :: ks, v :: vs => by
    simp only [List.map_cons, List.zip_cons_cons, zip_strs ks vs]
    rfl
theorem sx_dic {pos : Pos} {keys : List (Option Expr)} {values : List Expr} {ks : List Str} {d : Den (List W)} (h : PPd G U X pos keys values ks d) (h0 : keys ≠ []) (h15 : keys.length ≤ 15) : PE X (.Dict keys values pos) (tD G U (rZ G) (cDic ks d)) := by
  obtain ⟨trs, h1, h2, h3, h4, h5⟩ := h.ex
  refine (pe_disp h1 h4 (h2.trans h3.symm) h0 h15).imp fun σ H Q ⟨env, S, A, en, ok, o⟩ => ?_
  intro p hp
  have kn := keep_new (u := .dK []) hp
  have npA : p ∉ A := fun h => by
    have := (ok.own p h).2
    rw [hp] at this; exact this
  refine h5 σ _ _ ⟨env, S, A, en.mono (ext_kp kn) (fun _ h => h) fun a _ u e => kn a u e, ok.new hp, ?_⟩
  unfold cDic at o
  cases e : d env with
  | bad => rw [e] at o; exact o.elim
  | ex x e1 =>
    rw [e] at o
    intro cls dd H' S' A' xr en' ok' f
    exact o cls dd H' S' A' xr en' ok' ((Fr.new ok hp).trans f)
  | ok ws env1 =>
    rw [e] at o
    dsimp only [R.bind] at o
    intro vs H2 S2 A2 B en2 rws ok2 f2
    obtain ⟨rws, rfl⟩ := rws
    have ok2' : Ok S2 H2 A2 := ok2
    by_cases hc : (decide (ks.length = ws.length) && decide ks.Nodup && sizeOk ws.length) = true
    · rw [if_pos hc] at o
      rw [Bool.and_eq_true, Bool.and_eq_true] at hc
      obtain ⟨⟨c1, c2⟩, c3⟩ := hc
      have c1 := of_decide_eq_true c1
      have c2 := of_decide_eq_true c2
      have hp2 : H2 p = some (.dK []) := f2.keep p _ upd_same npA fun _ z => by cases z
      have lk : vs.length = ks.length := by rw [rws.length, c1]
      have nd : (((ks.map (Sum.inr : Str → Key)).zip vs).map (·.1)).Nodup := by
        have e : (((ks.map (Sum.inr : Str → Key)).zip vs).map (·.1)) = ks.map Sum.inr := by
          rw [← List.unzip_fst, List.unzip_zip (by simp [lk])]
        rw [e]
        exact List.pairwise_map.mpr (c2.imp fun {a b} hne e => hne (by injection e))
      refine ⟨hp2, (ks.map Sum.inr).zip vs, zip_strs ks vs, ?_, ?_⟩
      · rw [List.length_zip, List.length_map]
        omega
      rw [merge_new nd fun p hp => absurd hp (by simp), List.nil_append]
      have np2 : p ∉ A2 := fun h => by
        rcases f2.own p h with h | h
        · exact npA h
        · rw [upd_same] at h; cases h
      have nS2 : ¬ S2 p := fun h => by
        rcases f2.back p h with h | h | h
        · obtain ⟨u, eu⟩ := ok.dom p h
          rw [hp] at eu; cases eu
        · exact npA h
        · rw [upd_same] at h; cases h
      have kp2 : ∀ a o, H2 a = some o → a ≠ p → upd H2 p (.dK ((ks.map Sum.inr).zip vs)) a = some o := fun a o e n => by rw [upd_ne n]; exact e
      have kpS : Kp S2 H2 (upd H2 p (.dK ((ks.map Sum.inr).zip vs))) := fun a o e hs _ => kp2 a o e fun z => by
        rw [z] at hs e
        rw [hp2] at e
        cases e
        rcases hs with hs | hs
        · exact nS2 hs
        · exact hs trivial
      refine o (.ref p) _ S2 A2 [p] (en2.mono kpS (fun _ h => h) fun a ha u e => kp2 a u e fun z => np2 (z ▸ ha)) ⟨p, _, rfl, upd_same, (rpk_zip rws c1).mono kpS fun _ h => h, rfl⟩ ⟨List.nodup_cons.mpr ⟨np2, ok2'.nd⟩, fun a ha => ?_, fun a ha => ?_, ?_⟩ ⟨fun a u e na nt => ?_, f2.up, fun a ha => ?_, fun a ha => ?_, fun a u e => ?_⟩
      · rcases List.mem_cons.mp ha with z | z
        · subst z
          exact ⟨nS2, by rw [upd_same]; trivial⟩
        · refine ⟨(ok2'.own a z).1, ?_⟩
          rw [upd_ne (fun (y : a = p) => np2 (y ▸ z))]
          exact (ok2'.own a z).2
      · obtain ⟨u, eu⟩ := ok2'.dom a ha
        by_cases z : a = p
        · exact absurd (z ▸ ha) nS2
        · exact ⟨u, kp2 a u eu z⟩
      · refine tabs_keep ok2'.tab fun b u e nm => kp2 b u e fun z => nm ?_
        rw [z, hp2] at e
        cases e
        trivial
      · have na' : a ≠ p := ne_of_none e hp
        exact kp2 a u (f2.keep a u (kn a u e) na nt) na'
      · rcases f2.back a ha with h | h | h
        · exact .inl h
        · exact .inr (.inl h)
        · refine .inr (.inr ?_)
          cases ea : H a with
          | none => rfl
          | some u => rw [kn a u ea] at h; cases h
      · rcases List.mem_cons.mp ha with z | z
        · exact .inr (z ▸ hp)
        · rcases f2.own a z with h | h
          · exact .inl h
          · refine .inr ?_
            cases ea : H a with
            | none => rfl
            | some u => rw [kn a u ea] at h; cases h
      · obtain ⟨u', eu⟩ := f2.dom a u (kn a u e)
        by_cases z : a = p
        · exact ⟨_, by rw [z, upd_same]⟩
        · exact ⟨u', kp2 a u' eu z⟩
    · rw [if_neg hc] at o; exact o.elim
end
end Cb

end
section
set_option maxRecDepth 100000
set_option maxHeartbeats 4000000
/-! isinstance of several types, index, min, {}, sorted(dict) -/
namespace Cb
open PySem PySem.Spec PyProof.Rows L2
section
variable [Tb] {G : Gc} {U : L2.WX} {X : Cx} {S : AS} {H : Hp} {Q : VK}
/-! ### isinstance(x, (T, ..)) -/
inductive TyNs (X : Cx) : List Expr → List Ty → Prop where
  | nil : TyNs X [] []
  | cons {t : Ty} {p : Pos} {es : List Expr} {ts : List Ty} (ht : isOwnTy t = false) (hg : Gl X (tyNS t)) (hm : X.mg (tyNS t) = none) (r : TyNs X es ts) : TyNs X (.Name (tyNS t) p :: es) (t :: ts)
theorem tyNs_no {es : List Expr} {ts : List Ty} (h : TyNs X es ts) : ts.all (fun t => !isOwnTy t) = true := by
  induction h with
  | nil => rfl
  | cons ht _ _ _ ih => simp [ht, ih]
theorem pa_tys {es : List Expr} {ts : List Ty} (h : TyNs X es ts) : PA X es fun σ H Q => Q (ts.map fun t => .ty (tyN t)) H := by
  induction h with
  | nil => exact pa_nil
  | @cons t p es ts ht hg hm r ih =>
    have hv : bootBuiltins (tyNS t) = some (.type (tyN t)) ∧ tyNS t ≠ "__name__" ∧ (tyNS t == ("__debug__" : Str)) = false := by
      cases t <;> first | (cases ht; done) | exact ⟨rfl, by decide, by decide⟩
    have h2 : PE X (.Name (tyNS t) p) (tC (.ty (tyN t))) := pe_bltn hg hm hv.1 (by rfl) hv.2.1 hv.2.2
    exact (pa_cons h2 ih (by rfl)).imp fun σ H Q q => q
theorem tyx_ext {K : PySem.W.Frag} {p : Addr} {u : HO} {x : V} {t : Value} (hp : H p = none) (h : TyX K H x t) : TyX K (upd H p u) x t := by
  have k : ∀ {a o}, H a = some o → upd H p u a = some o := fun {a o} e => keep_new hp a o e
  cases h with
  | base b =>
    cases b with
    | non => exact .base .non
    | bl y => exact .base (.bl y)
    | int y => exact .base (.int y)
    | str y => exact .base (.str y)
    | flt y => exact .base (.flt y)
    | lst e => exact .base (.lst (k e))
    | frz e => exact .base (.frz (k e))
    | tup e => exact .base (.tup (k e))
    | dK e => exact .base (.dK (k e))
    | dT e => exact .base (.dT (k e))
    | ins e cl ha hn htk hm => exact .base (.ins (k e) cl ha hn htk hm)
  | byt y => exact .byt y
  | set e => exact .set (k e)
  | kList e c => exact .kList e c
  | kTuple e c => exact .kTuple e c
  | kDict e c => exact .kDict e c
  | fTuple e => exact .fTuple (k e)
  | fDict e => exact .fDict (k e)
theorem kit_decs {K : PySem.W.Frag} (w : W) (hk : isKit w = true) : ∀ (ts : List Ty), ts.all (fun t => !isOwnTy t) = true → PySem.W.kitAny K (.type (kindW w)) (ts.map fun t => .type (tyN t)) = some (ts.any fun t => isTy t w)
  | [], _ => kitAny_nil
  | t :: ts, h => by
    rw [List.all_cons, Bool.and_eq_true] at h
    have h1 : isOwnTy t = false := by simpa using h.1
    refine kitAny_cons (kit_dec t w h1 hk) (fun e => ?_) fun e => ?_
    · rw [List.any_cons, e, Bool.false_or]
      exact kit_decs w hk ts h.2
    · rw [List.any_cons, e, Bool.true_or]
theorem paired_tys : ∀ ts : List Ty, Paired ClsV (ts.map fun t => V.ty (tyN t)) (ts.map fun t => Value.type (tyN t))
  | [] => .nil
  | t :: ts => .cons (.ty _) (paired_tys ts)
theorem sx_isiT {ts : List Ty} {e : Expr} {es : List Expr} {k : Nat} {tp : Pos} {d : Den Od} {p pos : Pos} (hG : G.K = X.K) (hl : ts.length ≤ 1000) (ns : Nst e) (he : PE X e (tD G U (rO G) d)) (hg : Gl X "isinstance") (hm : X.mg "isinstance" = none) (hT : TyNs X es ts) :
    PE X (.Call (.Name "isinstance" p) [e, .Tuple es k tp] [] pos) (tD G U (rZ G) (cPr (.isinst ts) (cConsO d cNil))) := by
  have hs : PA X [e, .Tuple es k tp] (tCons (tD G U (rO G) d) (tCons _ tNil)) := pa_cons he (pa_cons (pe_tup (pa_tys hT)) pa_nil (by rfl)) (ns _ _)
  refine (pe_callB call_isiT hg hm rfl hs (he := ns _ _) (hpl := by rfl)).imp fun σ H Q ⟨env, S, A, en, ok, o⟩ => ⟨env, S, A, en, ok, ?_⟩
  have o1 : Out G U σ S H A (rZ G) ((d env).bind fun a env => primM (.isinst ts) [a] env) Q := by
    have e : ((d env).bind fun a env => primM (.isinst ts) [a] env) = cPr (.isinst ts) (cConsO d cNil) env := by
      unfold cPr cConsO cNil
      cases d env <;> rfl
    rw [e]; exact o
  refine (Out.bind (rel := rO G) (fun h => h.2) o1).mono fun x H1 ⟨oa, env1, S1, A1, _, en1, ok1, ⟨r1, _⟩, f1, o2⟩ => ?_
  have key : ∃ (t : Value) (b : Bool), TyX X.K H1 x t ∧ PySem.W.kitAny X.K t (ts.map fun t => .type (tyN t)) = some b ∧ ∀ p, H1 p = none → Q (.bl b) (upd H1 p (.tup (ts.map fun t => .ty (tyN t)))) := by
    refine prim_out (p := .isinst ts) (r := fun vs H Q => ∃ (x : V) (t : Value) (b : Bool), vs = [x] ∧ TyX X.K H x t ∧ PySem.W.kitAny X.K t (ts.map fun t => .type (tyN t)) = some b ∧ ∀ p, H p = none → Q (.bl b) (upd H p (.tup (ts.map fun t => .ty (tyN t))))) ?_ (ods := [oa]) (vs := [x]) en1 ok1 ⟨x, [], rfl, r1, rfl⟩ o2 |> fun ⟨x', t, b, e, q⟩ => by cases e; exact ⟨t, b, q⟩
    intro S H ws vs z Q hv e q
    change p_isinst ts ws = some z at e
    unfold p_isinst at e
    split at e
    · rename_i a
      by_cases hk : isKit a = true
      · rw [if_pos hk] at e
        cases e
        obtain ⟨v, rfl, h1⟩ := vws1 hv
        exact ⟨v, _, _, rfl, tyx_of hG hk h1, kit_decs a hk ts (tyNs_no hT), fun p hp => q _ _ [] (keep_new hp) ⟨rp_bl _ _ _, rfl⟩ List.nodup_nil (fun a ha => absurd ha (by simp))⟩
      · rw [if_neg hk] at e; cases e
    · cases e
  obtain ⟨t, b, k1, k2, k3⟩ := key
  have hsl := sizeLine_eq
  refine ⟨by rw [List.length_map]; omega, fun p hp => ?_⟩
  exact ⟨x, p, _, t, _, b, rfl, upd_same, paired_tys ts, tyx_ext hp k1, k2, k3 p hp⟩

/-! ### {}, sorted(d) -/
def cDk0 : Den Z := fun env => .ok (.dK []) env
theorem sx_dk0 {pos : Pos} : PE X (.Dict [] [] pos) (tD G U (rZ G) cDk0) := pe_dnewK.imp fun σ H Q ⟨env, S, A, en, ok, o⟩ => (Res.out en ok o).dK Rpk.nil
theorem sort_ints {ks ys : List Int} (hs : sortable (ks.map W.int) = true) (hp : ys.Perm ks) (hw : ys.Pairwise (· ≤ ·)) : sortW ltW (ks.map .int) = ys.map .int := by
  refine ((sortW_perm _).trans (hp.map W.int).symm).eq_of_pairwise (le := fun a b => ltW b a = false) (fun a b ha hb h1 h3 => ?_) (sort_asc hs) (List.pairwise_map.mpr (hw.imp fun {x y} hle => ?_))
  · obtain ⟨_, h2⟩ := sortable_iff hs
    exact cmp_tri a b (h2 a ((sortW_perm _).mem_iff.mp ha) b ((hp.map W.int).mem_iff.mp hb)) h3 h1
  · show decide (y < x) = false
    exact decide_eq_false (by omega)
theorem intKeys_eq : ∀ {kvs : List (Key × W)} {ks : List Int}, intKeys kvs = some ks → kvs.map (·.1) = ks.map Sum.inl
  | [], ks, h => by cases h; rfl
  | (k, w) :: r, ks, h => by
    cases k with
    | inl i =>
      change (intKeys r).map (i :: ·) = some ks at h
      cases q : intKeys r with
      | none => rw [q] at h; cases h
      | some m =>
        rw [q] at h
        cases h
        rw [List.map_cons, List.map_cons, intKeys_eq q]
    | inr x => cases h
theorem rpk_keys {S : AS} {H : Hp} : ∀ {ws : List (Key × W)} {vs : List (Key × V)}, Rpk G S H ws vs → vs.map (·.1) = ws.map (·.1)
  | [], vs, h => by rw [h.inv0]; rfl
  | (k, w) :: ws, vs, h => by
    obtain ⟨v, r, rfl, _, h2⟩ := h.inv
    rw [List.map_cons, List.map_cons, rpk_keys h2]
theorem sortable_ints (ks : List Int) : sortable (ks.map W.int) = true := by
  unfold sortable
  rw [Bool.and_eq_true]
  constructor
  · have h1 : plainWs (ks.map W.int) = true := by
      induction ks with
      | nil => rfl
      | cons a l ih => simp [plainWs, plainW, ih]
    have h2 : depWs (ks.map W.int) = 0 := by
      clear h1
      induction ks with
      | nil => rfl
      | cons a l ih => simp [depWs, depW, ih]
    unfold shWs
    rw [h1, h2]
    rfl
  · exact List.all_eq_true.mpr fun a ha => List.all_eq_true.mpr fun b hb => by
      obtain ⟨i, _, rfl⟩ := List.mem_map.mp ha
      obtain ⟨j, _, rfl⟩ := List.mem_map.mp hb
      rfl
def rSortK : List V → Hp → VK → Prop := fun xs H Q => ∃ (a : Addr) (kvs : List (Key × V)) (ks : List Int), xs = [.ref a] ∧ Rd H a (.dK kvs) ∧ kvs.map (·.1) = ks.map Sum.inl ∧ ks.length < 64 ∧
  ∀ (ys : List Int) (p : Addr), ys.Perm ks → ys.Pairwise (· ≤ ·) → H p = none → Q (.ref p) (upd H p (.lst (ys.map V.int)))
theorem pk_sortK (hG : G.K = X.K) : PrOk G (fun vs H Q => rSortK vs H Q ∨ rSortN G X.K vs H Q) (prW .sortK) := by
  intro S H ws vs z Q hv e q
  change p_sortK ws = some z at e
  unfold p_sortK at e
  split at e
  · rename_i a
    obtain ⟨v, rfl, h1⟩ := vws1 hv
    obtain ⟨p, xs, rfl, k1, k2⟩ := h1
    by_cases hl : decide (a.length < 64) = true
    · rw [if_pos hl] at e
      cases ek : intKeys a with
      | none => rw [ek] at e; cases e
      | some ks =>
        rw [ek] at e
        cases e
        have e1 := intKeys_eq ek
        have hl := of_decide_eq_true hl
        have hkl : ks.length < 64 := by
          have := congrArg List.length e1
          rw [List.length_map, List.length_map] at this
          omega
        refine .inl ⟨p, xs, ks, rfl, .inl k1, (rpk_keys k2).trans e1, hkl, fun ys p hp hw hn => ?_⟩
        dsimp only at q
        rw [sort_ints (sortable_ints ks) hp hw] at q
        exact q.lst (rps_ints ys) p hn
    · rw [if_neg hl] at e; cases e
  · exact .inr (pk_sortKN hG hv e q)
  · cases e
theorem q_sortK {e : Expr} {p pos : Pos} {d : Den Od} (hG : G.K = X.K) (hw : G.w = X.w) (hu : X.A.units + 65 < cLine) (hc : X.calm = true) (hg : Gl X "sorted") (hm : X.mg "sorted" = none) (ns : Nst e) (he : PE X e (tD G U (rO G) d)) : PE X (.Call (.Name "sorted" p) [e] [] pos) (tD G U (rZ G) (cPr .sortK (cConsO d cNil))) :=
  sx_prA (pk_sortK hG) (pa_csO ns he pa_nlO) fun t ht => pe_callB ((call_sortedDI hc).or (cr_sortN hG hw hc hu)) hg hm rfl ht (he := ns _ _) (hpl := rfl)
end
end Cb
namespace Cb
open PySem PySem.Spec PyProof.Rows L2
/-- where nothing is promised -/
theorem pss_bad [Tb] {G : Gc} {U : L2.WX} {K : List Nat} {X : Cx} {ss : List Stmt} : PSs X ss (tS G U K kBad) := ⟨fun pins s σ H D I ⟨env, S, A, en, ok, o⟩ => o.elim⟩
end Cb

end
section
set_option maxRecDepth 100000
set_option maxHeartbeats 1000000
namespace Cb
open PySem PySem.Spec PyProof.Rows L2 LamX
/-- the table of the def at f is one of the tables -/
structure LamH [Tb] (K' : PySem.W.Frag) (mg : Str → Option Value) (base : Heap) (f : Addr) (qn : Str) : Prop where
  ex : ∀ c, (∃ oc od fd osl, K'.lookup f = some ⟨oc, od, .func fd, osl⟩ ∧ fd.code = .ref c) → ∃ P, TabB base mg c P ∧ (P, qn) ∈ Tb.T ∧ ∀ p ∈ Tb.T, p.1 = P → p.2 = qn
theorem lamAt [Tb] {X : Cx} {f : Addr} {cdv : Value} {qn x : Str} {params : Arguments} {body : Expr} {scope : Scope} (h : LamH X.K X.mg X.base f qn) (hcv : CodeIs X.K f cdv) (hc : X.env.code = cdv) (hq : X.env.qual ++ "<lambda>" = qn)
    (hb : ∀ c' pm ct u, bindArgs (PySem.W.kla_fn "<lambda>" qn params body scope [] pm (.ref c') ct) ⟨[u], []⟩ = pure [(x, u)]) (hl : ∀ L f c', (envOfC qn scope L f (.ref c')).kindOf "len" = some .globalImplicit)
    (dfl : defaultsOf params X.env = ([], [])) (free : scope.names.all (fun y => !decide (y.2 = .free)) = true) (sc : FnScope [x] [x] scope) (vis : Vis scope x) (kb : KeyLT x body) (n1 : (x == ("__debug__" : Str)) = false) (n2 : (x == ("__classdict__" : Str)) = false) : LamAt X Tb.T x params body scope := by
  obtain ⟨c, oc, od, fd, osl, e, lk, e2⟩ := hcv
  obtain ⟨P, t1, t2, t3⟩ := h.ex c ⟨oc, od, fd, osl, lk, e2⟩
  exact ⟨⟨c, P, qn, t1, hc.trans e, hq, t2, t3, hb, hl⟩, dfl, fun y hy => by simpa using List.all_eq_true.mp free y hy, sc, vis, kb, n1, n2⟩
/-- the end of a law whose defs make lambdas -/
theorem end_tabs {l : PySem.W.OpenLaw} {n k : Nat} {q : Program} {loose : List Str} {XP : (Str → Option Value) → Heap → Prop} {fas : List He.Fa} {fns : List He.DefD} {tf : List He.Defn} {ex : PySem.W.Frag → Bool} {steps : Nat} {d : DefRec} {x : Str}
    (hn : l.most = some n) (hn2 : n ≤ sizeLine) (hdf : d.params.defaults = []) (hr : Room k callerA)
    (F : ∀ (w : World) (mg : Str → Option Value) (fa : Addr) (h : Heap) (K : PySem.W.Frag), K.In h → He.SaysX fas fns [] tf ex w h K → h.Ns mainGlobals mg → mg d.name = some (.ref fa) →
      ∃ (fd : FuncData) (sp : Sp), (∀ (s : Shared) (u : Value), BindsTo s fd ⟨[u], []⟩ [(x, u)]) ∧
        (∀ (H : Hp) (a : Addr) (ns : List Int), ns.length ≤ n → (∀ p ∈ tf.map (He.cT K), H p.2 = some (.tbl #[])) → SqL K H a (ns.map V.int) → sp [.ref a] H (fun v _ => v = .bl true) fun _ _ _ => False) ∧
        ∀ base : Heap, K.In base → base.Ns mainGlobals mg → (∀ p ∈ tf.map (He.cT K), TabB base mg p.1 p.2) → FnOk l.prog w K mg base (L2.CX l.prog w) k fa fd [x] sp) :
    PySem.W.WalkO q loose XP (He.hookX steps fas fns [] tf ex).says l.row.toRowW d [] (fun f vs => PySem.call f vs) := by
  refine walk_ofTsE (CX := fun w => L2.CX l.prog w) (k := k) (x := x) hn hn2 hdf hr (fun w mg fa h Y G hmg => ?_) fun w H s e s' ⟨_, _, _, _, _, _, _, _, _, _, _, _, z⟩ => z.elim
  obtain ⟨K, KX, c⟩ := Y
  obtain ⟨fd, sp, h1, h2, h3⟩ := F w mg fa h K KX c G hmg
  refine ⟨K, KX, fd, tf.map (He.cT K), sp, fun p hp => ?_, fun p hp => ?_, fun p hp => ?_, h1, fun H a ns hl _ hH hS => h2 H a ns hl hH hS, h3⟩
  · obtain ⟨q, hq, rfl⟩ := List.mem_map.mp hp
    exact c.empty q hq
  · obtain ⟨q, hq, rfl⟩ := List.mem_map.mp hp
    exact c.out q hq
  · obtain ⟨q, hq, rfl⟩ := List.mem_map.mp hp
    exact PySem.W.codeHd_of_K KX (c.hd q hq)
/-- the tables of K's defs tf, their lambdas' names -/
def tbs (K' : PySem.W.Frag) (tf : List (He.Defn × Str)) : Tb := ⟨tf.map fun p => ((He.cT K' p.1).2, p.2), none, none⟩
theorem tbs_start {K' : PySem.W.Frag} {tf : List (He.Defn × Str)} {H : Hp} (h : ∀ p ∈ (tf.map (·.1)).map (He.cT K'), H p.2 = some (.tbl #[])) : Tabs (tbs K' tf).T H := fun p hp => by
  obtain ⟨q, hq, rfl⟩ := List.mem_map.mp (show p ∈ tf.map fun p => ((He.cT K' p.1).2, p.2) from hp)
  exact TabS.nil (h _ (List.mem_map_of_mem (List.mem_map_of_mem hq)))
/-- one def alone makes a lambda -/
theorem lamH_one {K' : PySem.W.Frag} {mg : Str → Option Value} {base : Heap} {at_ : He.Defn} {qn : Str} (h : ∀ p ∈ [at_].map (He.cT K'), TabB base mg p.1 p.2) : @LamH (tbs K' [(at_, qn)]) K' mg base (He.fAd K' at_) qn :=
  @LamH.mk (tbs K' [(at_, qn)]) _ _ _ _ _ fun c ⟨oc, od, fd, osl, lk, e⟩ => by
    have e2 : He.codeOf K' at_ = c := He.codeOf_eq lk e
    have t := h (He.cT K' at_) (by simp)
    have e3 : (He.cT K' at_).1 = c := e2
    refine ⟨(He.cT K' at_).2, e3 ▸ t, (show ((He.cT K' at_).2, qn) ∈ [((He.cT K' at_).2, qn)] from List.mem_singleton.mpr rfl), fun p hp _ => ?_⟩
    have : p = ((He.cT K' at_).2, qn) := List.mem_singleton.mp (show p ∈ [((He.cT K' at_).2, qn)] from hp)
    rw [this]
end Cb

end
section
set_option maxRecDepth 100000
set_option maxHeartbeats 1000000
/-! own errors: raised, caught, asked of -/
namespace Cb
open PySem PySem.Spec PyProof.Rows L2
/-- is the class c below d -/
def errSub (c d : Str) : Bool := decide (c = d) || (decide (d = "BlankError") || decide (d = "ValueError"))
def hasE (env : Env) (i : Nat) : Bool := match env[i]? with
  | some (some .err) => true
  | _ => false
/-- isinstance(e, ..), e the caught error in slot i: the answer is known -/
def cIsE (i : Nat) (b : Bool) : Den Z := fun env => if hasE env i then .ok (.w (.bl b)) env else .bad
/-- e.f -/
def cFdE (i : Nat) (f : Str) (fs : List (Str × W)) : Den Z := fun env => if hasE env i then (match fs.lookup f with
  | some w => .ok (.w w) env
  | none => .bad) else .bad
def kRaise (c : Str) : DenS := fun env => .ex ⟨c, []⟩ env
/-- the error's slot is emptied behind the suite -/
def SR.out (i : Nat) : SR → SR
  | .nx e => .nx (e.set i none)
  | .rt z e => .rt z (e.set i none)
  | .bk e => .bk (e.set i none)
  | .ct e => .ct (e.set i none)
  | _ => .bad
def kTry (i : Nat) (es : List Str) (cn : Str) (body : DenS) (suite : Ex → DenS) : DenS := fun env => match body env with
  | .ex x e => if es.contains x.c && decide (e.length = env.length) then (if errSub x.c cn then SR.out i (suite x (e.set i (some .err))) else .ex x e) else .bad
  | r => r

/-! ### slots -/
theorem clOk_tb {T T' : Tb} {G : Gc} {S : AS} {H : Hp} {id : Str} {caps : List W} {o : Option V} (kc : T'.clo = T.clo) (h : @ClOk T G S H id caps o) : @ClOk T' G S H id caps o := by
  obtain ⟨i, h1, h2⟩ := h
  exact ⟨i, kc.trans h1, h2⟩
theorem EnvR.fit {T T' : Tb} {G : Gc} {S : AS} {H : Hp} {e : Env} {σ : List (Option V)} {A : List Addr} (h : @EnvR T G S H e σ A) (k : ∀ i, T'.er = some i → e.length ≤ i.pos) (kc : T'.clo = T.clo) : @EnvR T' G S H e σ A := by
  induction h with
  | nil => exact @EnvR.nil T' G S H
  | off _ ih => exact @EnvR.off T' _ _ _ _ _ _ _ (ih fun i q => Nat.le_of_succ_le (k i q))
  | on r _ ih => exact @EnvR.on T' _ _ _ _ _ _ _ _ _ r (ih fun i q => Nat.le_of_succ_le (k i q))
  | @er env σ A o q t ih =>
    refine @EnvR.er T' _ _ _ _ _ _ _ (fun i z p => ?_) (ih fun i q => Nat.le_of_succ_le (k i q))
    have h1 := k i z
    have h2 := @EnvR.length _ _ _ T _ _ _ t
    simp at h1
    omega
  | cl q _ ih => exact @EnvR.cl T' _ _ _ _ _ _ _ _ _ (clOk_tb kc q) (ih fun i q => Nat.le_of_succ_le (k i q))
theorem EnvR.unfit {T T' : Tb} {G : Gc} {S : AS} {H : Hp} {e : Env} {σ : List (Option V)} {A : List Addr} (h : @EnvR T G S H e σ A) (k : T'.er = none) (kc : T'.clo = T.clo) : @EnvR T' G S H e σ A := by
  induction h with
  | nil => exact @EnvR.nil T' G S H
  | off _ ih => exact @EnvR.off T' _ _ _ _ _ _ _ ih
  | on r _ ih => exact @EnvR.on T' _ _ _ _ _ _ _ _ _ r ih
  | er q t ih => exact @EnvR.er T' _ _ _ _ _ _ _ (fun i z p => by rw [k] at z; cases z) ih
  | cl q _ ih => exact @EnvR.cl T' _ _ _ _ _ _ _ _ _ (clOk_tb kc q) ih
/-- the caught error is laid into slot i -/
theorem EnvR.catch {T T' : Tb} {G : Gc} {S : AS} {H : Hp} {a : Addr} {d : Option Addr} {fs : List (Str × W)} {e : Env} {σ : List (Option V)} {A : List Addr} (h : @EnvR T G S H e σ A) (xd : XdR G S H fs d) (kc : T'.clo = T.clo) :
    ∀ {i : Nat}, i < e.length → T'.er = some ⟨a, e.length - 1 - i, d, fs⟩ → ∃ R, @EnvR T' G S H (e.set i (some .err)) (σ.set i (some (.ref a))) R ∧ List.Sublist R A := by
  induction h with
  | nil => intro i hi; simp at hi
  | @off env σ A o t ih =>
    intro i hi hT
    cases i with
    | zero => exact ⟨A, @EnvR.er T' _ _ _ _ _ _ _ (fun j q p => by rw [hT] at q; cases q; exact ⟨rfl, xd⟩) (t.fit (fun j q => by rw [hT] at q; cases q; simp) kc), List.Sublist.refl _⟩
    | succ i =>
      obtain ⟨R, h1, h2⟩ := ih (i := i) (by simpa using hi) (by rw [hT]; simp; omega)
      exact ⟨R, @EnvR.off T' _ _ _ _ _ _ _ h1, h2⟩
  | @on z v B env σ A r t ih =>
    intro i hi hT
    cases i with
    | zero => exact ⟨A, @EnvR.er T' _ _ _ _ _ _ _ (fun j q p => by rw [hT] at q; cases q; exact ⟨rfl, xd⟩) (t.fit (fun j q => by rw [hT] at q; cases q; simp) kc), List.sublist_append_right _ _⟩
    | succ i =>
      obtain ⟨R, h1, h2⟩ := ih (i := i) (by simpa using hi) (by rw [hT]; simp; omega)
      exact ⟨B ++ R, @EnvR.on T' _ _ _ _ _ _ _ _ _ r h1, List.Sublist.append_left h2 B⟩
  | @er env σ A o k t ih =>
    intro i hi hT
    cases i with
    | zero => exact ⟨A, @EnvR.er T' _ _ _ _ _ _ _ (fun j q p => by rw [hT] at q; cases q; exact ⟨rfl, xd⟩) (t.fit (fun j q => by rw [hT] at q; cases q; simp) kc), List.Sublist.refl _⟩
    | succ i =>
      obtain ⟨R, h1, h2⟩ := ih (i := i) (by simpa using hi) (by rw [hT]; simp; omega)
      refine ⟨R, @EnvR.er T' _ _ _ _ _ _ _ (fun j q p => ?_) h1, h2⟩
      rw [hT] at q; cases q
      have h3 := @EnvR.length _ _ _ T _ _ _ t
      simp at p hi
      omega
  | @cl env σ A o id caps k t ih =>
    intro i hi hT
    cases i with
    | zero => exact ⟨A, @EnvR.er T' _ _ _ _ _ _ _ (fun j q p => by rw [hT] at q; cases q; exact ⟨rfl, xd⟩) (t.fit (fun j q => by rw [hT] at q; cases q; simp) kc), List.Sublist.refl _⟩
    | succ i =>
      obtain ⟨R, h1, h2⟩ := ih (i := i) (by simpa using hi) (by rw [hT]; simp; omega)
      exact ⟨R, @EnvR.cl T' _ _ _ _ _ _ _ _ _ (clOk_tb kc k) h1, h2⟩
/-- what slot i holds -/
theorem EnvR.held [Tb] {G : Gc} {S : AS} {H : Hp} {e : Env} {σ : List (Option V)} {A : List Addr} {i0 : ErI} (h : EnvR G S H e σ A) (hT : Tb.er = some i0) : ∀ {i : Nat}, e[i]? = some (some .err) → i0.pos = e.length - 1 - i → σ[i]? = some (some (.ref i0.a)) ∧ XdR G S H i0.fs i0.d := by
  induction h with
  | nil => intro i hi; simp at hi
  | @off env σ A o t ih =>
    intro i hi hp
    cases i with
    | zero => simp at hi
    | succ i => simpa using ih (i := i) (by simpa using hi) (by rw [hp]; simp; omega)
  | @on z v B env σ A r t ih =>
    intro i hi hp
    cases i with
    | zero =>
      simp at hi
      subst hi
      exact r.elim
    | succ i => simpa using ih (i := i) (by simpa using hi) (by rw [hp]; simp; omega)
  | @er env σ A o k t ih =>
    intro i hi hp
    cases i with
    | zero =>
      obtain ⟨h1, h2⟩ := k i0 hT (by rw [hp, t.length]; simp)
      exact ⟨by simpa using h1, h2⟩
    | succ i => simpa using ih (i := i) (by simpa using hi) (by rw [hp]; simp; omega)
  | @cl env σ A o id caps k t ih =>
    intro i hi hp
    cases i with
    | zero => simp at hi
    | succ i => simpa using ih (i := i) (by simpa using hi) (by rw [hp]; simp; omega)

theorem ok_tb {T T' : Tb} {S : AS} {H : Hp} {A : List Addr} (e : T'.T = T.T) (h : @Ok T S H A) : @Ok T' S H A := @Ok.mk T' S H A (@Ok.nd T S H A h) (@Ok.own T S H A h) (@Ok.dom T S H A h) (by rw [e]; exact @Ok.tab T S H A h)
/-! ### isinstance(e, ..) -/
section
variable {prog : Program} {w : World} {A : Around} {E : Value → Shared → Prop} {s : Shared} {K : PySem.W.Frag} {x D : Addr} {ox : Obj} {od : Option Obj}
open PySem.W in
theorem err_class {Q : Option Value → Shared → Prop} (C : ExcC K D) (hK : K.In s.heap) (J : InstAt s.heap x ox D od) (q : Q (some (.ref D)) { s with toks := s.toks + 1 }) : wpAny (model prog w) A (getAttr? (.ref x) "__class__") Q E s := by
  have f0 : findObj K D od "__class__" = some (.bind (.builtin "getset_descriptor.__get__") (.builtin "object.__class__")) := by
    obtain ⟨cd, hc, _⟩ := any_some C.hd
    unfold findObj
    rw [show clsIn K D = some cd from hc, Option.bind_some, C.ha, Option.bind_some]
    simp [C.hn, C.ht]
  obtain ⟨hp, gg, dd, tk, oo⟩ := s
  have K0 := J.type (M := model prog w)
  have K1 := looks_findIn (M := model prog w) hK C.hg
  have K2 := looks_findIn (M := model prog w) hK C.hk
  have K3 := looks_find (M := model prog w) hK J f0
  have isb : Looks (model prog w) hp (isInstance (.ref x) (.type "BaseException")) true := K0.andThen (looks_subIn hK C.hs)
  have y0 : (Value.builtin "BaseException.__getattribute__" == Value.builtin "object.__getattribute__") = false := by decide +kernel
  have y1 : (onTheHeap (Value.ref D) && Value.builtin "BaseException.__getattribute__" == Value.builtin "object.__getattribute__") = false := by rw [y0]; rfl
  unfold getAttr? getAttrBy? getAttrBy
  refine wpAny_bind (wpAny_mkText (wpAny_bind (wpAny_attempt (wpAny_holding (wpAny_bind (K0.at (wpAny_bind (K1.at ?_))))))))
  show wpAny (model prog w) A (if (onTheHeap (Value.ref D) && Value.builtin "BaseException.__getattribute__" == Value.builtin "object.__getattribute__") = true then _ else _) _ _ _
  rw [y1, if_neg Bool.false_ne_true]
  unfold getAttrByItsOwn hookBefore
  refine wpAny_bind ?_
  rw [if_pos (show onTheHeap (Value.ref D) = true from rfl)]
  refine K2.at (wpAny_bind (wpAny_attempt (wpAny_holding ?_)))
  unfold callGetattribute
  rw [show (false && onTheHeap (Value.builtin "BaseException.__getattribute__")) = false from rfl, if_neg Bool.false_ne_true]
  unfold boundAndCalled
  rw [PySem.F.excAttr_ValueError.ga.bind (.ref x)]
  refine wpAny_bind (wpAny_pure ?_)
  show wpAny (model prog w) A (call (.builtin "BaseException.__getattribute__") [.ref x, .str "__class__" tk]) _ _ _
  refine wpAny_call (codeAny_call_builtin PySem.F.excAttr_ValueError.ga.plain PySem.F.entry_bexc_ga ?_)
  refine @check_slot (model prog w) _ _ ⟨hp, gg, dd, tk + 1, oo⟩ "BaseException.__getattribute__" "BaseException" "__getattribute__" (.ref x) [.str "__class__" tk] [] _ (by decide +kernel) (by decide +kernel) isb (PySem.F.args_bexc_ga (.ref x) (.str "__class__" tk)) ?_
  unfold Builtin.«object.__getattribute__»
  refine wpAny_bind (wpAny_of_eq (a := ((Value.ref x : Value), [Value.str "__class__" tk])) (by first | rfl | (simp only [slotArgs]; rfl)) ?_)
  refine wpAny_bind (wpAny_pure (wpAny_bind (K0.at (wpAny_bind (K3.at ?_)))))
  show wpAny (model prog w) _ (holding [Value.builtin "object.__class__"] (call (.builtin "getset_descriptor.__get__") [.builtin "object.__class__", .ref x, .ref D]) >>= ret) _ _ _
  refine wpAny_bind (wpAny_holding (wpAny_call (class_get (s := ⟨hp, gg, dd, tk + 1, oo⟩) (ox := ox) (od := od) hK J C.hm ?_)))
  refine wpAny_pure ?_
  show wpAny (model prog w) _ (handedOut (.ref D)) _ _ _
  rw [handedOut_of (v := .ref D) rfl]
  first
    | exact wpAny_pure (wpAny_pure q)
    | exact wpAny_pure q
    | exact wpAny_pure (wpAny_bind (wpAny_pure (wpAny_pure q)))
open PySem.W in
theorem err_kit (C : ExcC K D) : KitX K (.ref x) (.ref D) (fun h => InstAt h x ox D od) where
  ty := fun _ _ _ J => J.type
  it := fun _ _ hK _ => by
    obtain ⟨cd, hc, _⟩ := any_some C.hd
    unfold clsIn at hc
    split at hc
    · rename_i c2 d2 cd2 sl2 ho
      intro A2 Q2 E2 s2 k2 q2
      unfold isType loadHead
      exact wpAny_bind (wpAny_loadPart (k2 _ _ (hK _ _ ho)) (wpAny_pure q2))
    · cases hc
  ne := fun h tp dd its n sl hK htp => by
    obtain ⟨cd, hc, _⟩ := any_some C.hd
    refine Bool.eq_false_iff.mpr fun q => ?_
    have e : D = tp := Value.ref.inj (beq_iff_eq.mp q)
    subst e
    unfold clsIn at hc
    split at hc
    · rename_i c2 d2 cd2 sl2 ho
      cases (hK _ _ ho).symm.trans htp
    · cases hc
  ca := fun hK J k => err_class C hK J k
end
/-- isinstance(e, c), e the caught error with whatever dict -/
def rIsX (K : PySem.W.Frag) (D a : Addr) (d : Option Addr) : List V → Hp → VK → Prop := fun xs H Q => ∃ (c : V) (cv : Value) (b : Bool), xs = [.ref a, c] ∧ (∀ u, RelV c u → u = cv) ∧ PySem.W.kitOne K (.ref D) cv = some b ∧ (d = none ∨ ∃ dd vs, d = some dd ∧ H dd = some (.xd vs)) ∧ Q (.bl b) H
theorem call_isX {X : Cx} {a D : Addr} {d : Option Addr} {oe : Obj} {pn : List (Addr × Obj)} (C : ExcC X.K D) (hz : Zc (.ref D) d oe) (hf : ∃ vs, oe.data = .fields vs) : CallR (X.suite a ((a, oe) :: pn)) (.builtin "isinstance") (rIsX X.K D a d) := by
  intro pins s σ H xs us Q I r h
  obtain ⟨c, cv, b, rfl, hcv, e, hd, q⟩ := h
  cases r with
  | cons rx rr => cases rr with
    | cons rt rr =>
      cases rr
      cases rx
      have ec := hcv _ rt
      subst ec
      have hget := (I.pin (a, oe) (List.mem_append.mpr (.inl List.mem_cons_self))).1
      have key : ∃ od, PySem.W.InstAt s.heap a oe D od := by
        obtain ⟨vs, hv⟩ := hf
        rcases hd with rfl | ⟨dd, fs, rfl, hx⟩
        · refine ⟨none, hget, hz.1, by unfold PySem.W.notCls; rw [hv], ?_⟩
          rw [hz.2]; trivial
        · have hx' : ObjOk X.prog X.w H s.heap dd (.xd fs) := I.hok dd _ hx
          obtain ⟨mA, hns, _⟩ := hx'
          obtain ⟨od, ho, _⟩ := lookIn_ns hns
          refine ⟨some od, hget, hz.1, by unfold PySem.W.notCls; rw [hv], ?_⟩
          rw [hz.2]; exact ho
      obtain ⟨od, J⟩ := key
      exact PySem.W.kia_one (err_kit (x := a) (ox := oe) (od := od) C) I.kIn J e (fun z => nomatch z) fun tk => ⟨.bl b, H, I.kept (t' := tk) fun _ _ z => z, rfl, q⟩
section
variable [Tb] {G : Gc} {U : L2.WX} {X : Cx} {K : List Nat}
theorem sx_isE {a D : Addr} {oe : Obj} {pn : List (Addr × Obj)} {i : Nat} {d : Option Addr} {fs : List (Str × W)} {b : Bool} {x y : Str} {cv : Value} {v : V} {px pc p pos : Pos} (T : Tb.er = some ⟨a, X.N.length - 1 - i, d, fs⟩) (C : ExcC X.K D) (hz : Zc (.ref D) d oe) (hf : ∃ vs, oe.data = .fields vs)
    (he : PE (X.suite a ((a, oe) :: pn)) (.Name x px) (tVar i)) (hc : PE (X.suite a ((a, oe) :: pn)) (.Name y pc) (tC v)) (hv : ∀ u, RelV v u → u = cv) (hk : PySem.W.kitOne X.K (.ref D) cv = some b) (hg : Gl X "isinstance") (hm : X.mg "isinstance" = none) :
    PE (X.suite a ((a, oe) :: pn)) (.Call (.Name "isinstance" p) [.Name x px, .Name y pc] [] pos) (tD G U (rZ G) (cIsE i b)) := by
  have base := pe_callB (X := X.suite a ((a, oe) :: pn)) (p := p) (pos := pos) (call_isX C hz hf) hg hm rfl (pa_cons he (pa_cons hc pa_nil (by rfl)) (by rfl))
  refine ⟨fun pins s σ H Q I h => base.run pins s σ H Q I ?_⟩
  obtain ⟨env, S, A, en, ok, o⟩ := h
  unfold cIsE hasE at o
  split at o
  · rename_i e1
    · rw [if_pos rfl] at o
      have hl : σ.length = X.N.length := I.len
      obtain ⟨h1, h2⟩ := en.held T e1 (by show X.N.length - 1 - i = _; rw [← hl, en.length])
      refine ⟨.ref a, h1, v, cv, b, rfl, hv, hk, ?_, o.here en ok ⟨rp_bl _ _ _, rfl⟩⟩
      rcases h2 with ⟨_, h2⟩ | ⟨dd, vs, h2, h3, _⟩
      · exact .inl h2
      · exact .inr ⟨dd, vs, h2, h3⟩
  · exact o.elim
/-- e.f -/
theorem sx_fdE {a D : Addr} {oe : Obj} {pn : List (Addr × Obj)} {i : Nat} {d : Option Addr} {fs : List (Str × W)} {x f : Str} {px pos : Pos} (T : Tb.er = some ⟨a, X.N.length - 1 - i, d, fs⟩) (C : ExcC X.K D) (hno : PySem.W.findIn X.K (.ref D) f = some none) (hz : Zc (.ref D) d oe) (hf : ∃ vs, oe.data = .fields vs)
    (he : PE (X.suite a ((a, oe) :: pn)) (.Name x px) (tVar i)) (hb : attributeBase (.Name x px) f X.env (eval (.Name x px) X.env) = eval (.Name x px) X.env := by rfl) :
    PE (X.suite a ((a, oe) :: pn)) (.Attribute (.Name x px) f pos) (tD G U (rZ G) (cFdE i f fs)) := by
  have base := pe_xf (pos := pos) (n := f) ⟨C.hg, C.hk, C.hs, C.hd⟩ hno hz hf he hb
  refine ⟨fun pins s σ H Q I h => base.run pins s σ H Q I ?_⟩
  obtain ⟨env, S, A, en, ok, o⟩ := h
  unfold cFdE hasE at o
  split at o
  · rename_i e1
    · rw [if_pos rfl] at o
      have hl : σ.length = X.N.length := I.len
      obtain ⟨h1, h2⟩ := en.held T e1 (by show X.N.length - 1 - i = _; rw [← hl, en.length])
      cases q : fs.lookup f with
      | none => rw [q] at o; exact o.elim
      | some w =>
        rw [q] at o
        rcases h2 with ⟨h2, _⟩ | ⟨dd, vs, h2, h3, h4⟩
        · have h2' : fs = [] := h2
          rw [h2'] at q; cases q
        · have look : ∀ {l : List (Str × W)} {vs : List (Str × V)}, Rpf G S H l vs → l.lookup f = some w → ∃ v, vs.lookup f = some v ∧ Rp G S H w v := by
            intro l
            induction l with
            | nil => intro vs _ z; cases z
            | cons p l ih =>
              intro vs hr z
              obtain ⟨g, y⟩ := p
              unfold Rpf at hr
              obtain ⟨v, r, rfl, k1, k2⟩ := hr
              rw [List.lookup_cons] at z ⊢
              cases e : (f == g) with
              | true => rw [e] at z; cases z; exact ⟨v, rfl, k1⟩
              | false => rw [e] at z; exact ih k2 z
          obtain ⟨v, k1, k2⟩ := look h4 q
          exact ⟨.ref a, h1, rfl, rfl, dd, vs, v, h2, h3, k1, o.here en ok ⟨k2, rfl⟩⟩
  · exact o.elim

/-! ### raise -/
theorem pmk0 {C : Addr} {bmB : List Value} {B newId initId : String} {x : Str} {p pos : Pos} (F : ExcBaseFacts B newId initId bmB) (q : PySem.W.excIn X.K C bmB newId = true) (gC : X.mg x = some (.ref C)) (kC : PySem.W.keepIn X.K (.ref C) = true) (r : Raises X (.ref C)) (hg : Gl X x)
    (hdb : (x == ("__debug__" : Str)) = false := by decide) : PMk X (.Call (.Name x p) [] [] pos) (fun _ H Q => Q (.ref C) none H) := by
  intro pins s σ H Q I h
  refine wpAny_Call_Name_kw (ld_glob I hg gC (PySem.W.callWith_K0 I.kIn kC ?_) hdb)
  show wpAny _ _ (call (.ref C) []) _ _ _
  obtain ⟨bm, N, nm, qn, bs, hdct, sn, sub, ab, col, dd, k0, k1, k2, k3, k5, mN, h1, h2, h3, T⟩ := exc_obj I.kIn q
  exact wpAny_call_exc_subT F T h1 h2 h3 (fun h' e hm => mk_of I hm r h (I.hok.gone hm.new)) (Nat.zero_le _)
theorem sk_raise0 {C : Addr} {x : Str} {p pos pos2 : Pos} (hc : X.calm = true) (tk : Takes X U) (hcm : G.cm x = some C) (q : PySem.W.excIn X.K C He.veBase "ValueError.__new__" = true) (gC : X.mg x = some (.ref C)) (kC : PySem.W.keepIn X.K (.ref C) = true) (h1 : PySem.W.subIn X.K (.ref C) (.type "BaseException") = some true)
    (h2 : PySem.W.typeIn X.K (.ref C) = some (.type "type")) (hg : Gl X x) (hdb : (x == ("__debug__" : Str)) = false := by decide) : PS X (.Raise (some (.Call (.Name x p) [] [] pos)) none pos2) (tS G U K (kRaise x)) :=
  (ps_raise hc tk (pmk0 PySem.F.excBase_ValueError q gC kC (raises_own h1 h2) hg hdb)).imp fun D σ H ⟨env, S, A, en, ok, o⟩ => o (.ref C) none σ H S A ⟨C, hcm, rfl, .inl ⟨rfl, rfl⟩⟩ Agr.refl en ok (Fr.refl ok)
end

/-! ### try -/
/-- inside the suite -/
@[reducible] def tbE [T : Tb] (a : Addr) (n : Nat) (d : Option Addr) (fs : List (Str × W)) : Tb := ⟨T.T, some ⟨a, n, d, fs⟩, T.clo⟩
section
variable [T : Tb] {G : Gc} {U : L2.WX} {X : Cx} {K : List Nat}

theorem sk_try {i : Nat} {es : List Str} {cn n : Str} {c : Value} {body suite : List Stmt} {b₀ : Stmt} {np pos pos' : Pos} {db : DenS} {ds : Ex → DenS} (ne : T.er = none) (hs : X.stack = X.env :: X.outer) (hf : X.env.frame = some X.env.locals) (hN : X.N.Nodup) (hi : X.N[i]? = some n) (hln : X.env.kindOf n = some .local)
    (hc : Names X cn c) (tk : Takes X U) (hik : i ∉ K) (herr : ∀ x ∈ es, ∀ C, G.cm x = some C → PySem.W.exmOne X.K (.ref C) c = some (errSub x cn))
    (hb : ∀ (W : L2.WX) (pn : List (Addr × Obj)) (xe : Value → Shared → Prop), Takes (X.tr pn xe) W → PassesOwn (model X.prog X.w) X.A X.env xe → PSs (X.tr pn xe) body (tS G W K db))
    (hsu : ∀ (a : Addr) (oe : Obj) (C : Addr) (d : Option Addr) (pn : List (Addr × Obj)) (x : Ex), x.c ∈ es → G.cm x.c = some C → Zc (.ref C) d oe → (∃ vs, oe.data = .fields vs) →
      PSs (X.suite a ((a, oe) :: pn)) (b₀ :: suite) (@tS (tbE a (X.N.length - 1 - i) d x.fs) G U K (ds x))) :
    PS X (.Try body [.ExceptHandler (some (.Name cn np)) (some n) (b₀ :: suite) pos'] [] [] pos) (tS G U K (kTry i es cn db ds)) := by
  have kit := ps_try_as (pos := pos) (pos' := pos') (np := np) (tb := fun W => tS G W K db) (ts := fun a cls d D σ H => ∃ x C, x.c ∈ es ∧ G.cm x.c = some C ∧ cls = .ref C ∧ @tS (tbE a (X.N.length - 1 - i) d x.fs) G U K (ds x) D σ H) hs hf hN hi hln hc tk hb fun a oe cls d pn hz hv =>
    ⟨fun pins s σ H D I ⟨x, C, q1, q2, q3, q4⟩ => by subst q3; exact (hsu a oe C d pn x q1 q2 hz hv).run pins s σ H D I q4⟩
  refine ⟨fun pins s σ0 H0 D I ⟨env, S, A, en, ok, o⟩ => kit.run pins s σ0 H0 D I ⟨env, S, A, en, ok, ?_⟩⟩
  have hl : env.length = X.N.length := by rw [← en.length]; exact I.len
  have hlt : i < X.N.length := (List.getElem?_eq_some_iff.mp hi).1
  unfold kTry at o
  cases e : db env with
  | nx e1 => rw [e] at o; exact o
  | rt z e1 => rw [e] at o; exact o
  | bk e1 => rw [e] at o; exact o
  | ct e1 => rw [e] at o; exact o
  | bad => rw [e] at o; exact o.elim
  | ex x e1 =>
    rw [e] at o
    intro cls d σ' H' S' A' xr ag en' ok' f
    obtain ⟨C, hcm, rfl, xd⟩ := xr
    dsimp only at o
    split at o
    · rename_i hx
      obtain ⟨hx1, hx2⟩ := Bool.and_eq_true_iff.mp hx
      have hxe : x.c ∈ es := by simpa using hx1
      have hle : e1.length = X.N.length := (of_decide_eq_true hx2).trans hl
      refine ⟨errSub x.c cn, herr x.c hxe C hcm, fun hy a ha => ?_, fun hn => ?_⟩
      · rw [if_pos hy] at o
        obtain ⟨R, k1, k2⟩ := EnvR.catch (T' := tbE a (X.N.length - 1 - i) d x.fs) (a := a) en' xd rfl (i := i) (by omega) (by rw [hle]; rfl)
        refine ⟨x, C, hxe, hcm, rfl, _, S', R, k1, ok_tb (T := T) (T' := tbE a (X.N.length - 1 - i) d x.fs) rfl (ok'.sub k2), ?_⟩
        have f2 : Fr S H0 A S' H' R := f.less fun b hb => k2.subset hb
        have fin : ∀ {e2 : Env} {σ2 : L2.St} {S2 : AS} {H2 : Hp} {A2 : List Addr}, @EnvR (tbE a (X.N.length - 1 - i) d x.fs) G S2 H2 e2 σ2 A2 → Agr K (σ'.set i (some (.ref a))) σ2 → ∃ R2, EnvR G S2 H2 (e2.set i none) (σ2.set i none) R2 ∧ List.Sublist R2 A2 ∧ Agr K σ0 (σ2.set i none) := by
          intro e2 σ2 S2 H2 A2 h1 h2
          obtain ⟨R2, j1, j2⟩ := EnvR.drop2 (EnvR.unfit (T' := T) h1 ne rfl) i
          exact ⟨R2, j1, j2, (ag.trans ((Agr.set hik).trans h2)).trans (Agr.set hik)⟩
        cases q : ds x (e1.set i (some .err)) with
        | nx e2 =>
          rw [q] at o
          intro σ2 H2 S2 A2 h1 h2 h3 h4
          obtain ⟨R2, j1, j2, j3⟩ := fin h2 h1
          exact o _ H2 S2 R2 j3 j1 ((ok_tb (T := tbE a (X.N.length - 1 - i) d x.fs) (T' := T) rfl h3).sub j2) ((f2.trans h4).less fun b hb => j2.subset hb)
        | bk e2 =>
          rw [q] at o
          intro σ2 H2 S2 A2 h1 h2 h3 h4
          obtain ⟨R2, j1, j2, j3⟩ := fin h2 h1
          exact o _ H2 S2 R2 j3 j1 ((ok_tb (T := tbE a (X.N.length - 1 - i) d x.fs) (T' := T) rfl h3).sub j2) ((f2.trans h4).less fun b hb => j2.subset hb)
        | ct e2 =>
          rw [q] at o
          intro σ2 H2 S2 A2 h1 h2 h3 h4
          obtain ⟨R2, j1, j2, j3⟩ := fin h2 h1
          exact o _ H2 S2 R2 j3 j1 ((ok_tb (T := tbE a (X.N.length - 1 - i) d x.fs) (T' := T) rfl h3).sub j2) ((f2.trans h4).less fun b hb => j2.subset hb)
        | rt z e2 =>
          rw [q] at o
          intro v σ2 H2 S2 A2 B h1 h2 h0 h3 h4
          obtain ⟨R2, j1, j2, j3⟩ := fin h2 h1
          have sb : List.Sublist (B ++ R2) (B ++ A2) := List.Sublist.append_left j2 B
          exact o v _ H2 S2 R2 B j3 j1 h0 ((ok_tb (T := tbE a (X.N.length - 1 - i) d x.fs) (T' := T) rfl h3).sub sb) ((f2.trans h4).less fun b hb => sb.subset hb)
        | ex y e2 => rw [q] at o; exact o.elim
        | bad => rw [q] at o; exact o.elim
      · rw [if_neg (by rw [hn]; exact Bool.false_ne_true)] at o
        exact o (.ref C) d σ' H' S' A' ⟨C, hcm, rfl, xd⟩ ag en' ok' f
    · exact o.elim
end
end Cb

end
section
set_option maxRecDepth 100000
set_option maxHeartbeats 1000000
/-! own errors: the facts of their classes -/
namespace Cb
open PySem PySem.Spec PyProof.Rows L2
def excB (K : PySem.W.Frag) (D : Addr) : Bool :=
  decide (PySem.W.findIn K (.ref D) "__getattribute__" = some (some (.builtin "BaseException.__getattribute__"))) && (decide (PySem.W.findIn K (.ref D) "__getattr__" = some none) && (decide (PySem.W.subIn K (.ref D) (.type "BaseException") = some true) && (PySem.W.hasDictIn K D &&
  (decide (PySem.W.findIn K (.ref D) "__class__" = some (some (.builtin "object.__class__"))) && (decide (PySem.W.specialIn K (.builtin "object.__class__") "__get__" = some (some (.builtin "getset_descriptor.__get__"))) && (decide (PySem.W.takesIn K (.builtin "object.__class__") = some true) && decide (PySem.W.mroIn K D (.type "object") = some true)))))))
theorem excB_ok {K : PySem.W.Frag} {D : Addr} (h : excB K D = true) : ExcC K D := by
  unfold excB at h
  simp only [Bool.and_eq_true, decide_eq_true_eq] at h
  obtain ⟨h1, h2, h3, h4, h5, h6, h7, h8⟩ := h
  exact ⟨h1, h2, h3, h4, h5, h6, h7, h8⟩
/-- what is asked of the error classes es, in one -/
def errB (es : List Str) (K : PySem.W.Frag) : Bool := es.all fun c => excB K (He.ga K c) && (decide (PySem.W.kitOne K (.ref (He.ga K c)) (.type "ValueError") = some true) && (("BlankError" : Str) :: es).all fun y =>
  decide (PySem.W.kitOne K (.ref (He.ga K c)) (.ref (He.ga K y)) = some (errSub c y)) && decide (PySem.W.exmOne K (.ref (He.ga K c)) (.ref (He.ga K y)) = some (errSub c y)))
structure ErrK (K' : PySem.W.Frag) (cm : Str → Option Addr) (mg : Str → Option Value) (es : List Str) : Prop where
  fe : ∀ c ∈ es, ∀ C, cm c = some C → ExcC K' C ∧ PySem.W.kitOne K' (.ref C) (.type "ValueError") = some true ∧ ∀ y ∈ ("BlankError" : Str) :: es, ∀ D, mg y = some (.ref D) → PySem.W.kitOne K' (.ref C) (.ref D) = some (errSub c y) ∧ PySem.W.exmOne K' (.ref C) (.ref D) = some (errSub c y)
  gl : ∀ y ∈ ("BlankError" : Str) :: es, ∃ D, mg y = some (.ref D)
theorem errK_of {K' : PySem.W.Frag} {cm : Str → Option Addr} {mg : Str → Option Value} {es : List Str} (h : errB es K' = true) (hc : ∀ c ∈ es, ∀ C, cm c = some C → C = He.ga K' c) (hg : ∀ y ∈ ("BlankError" : Str) :: es, mg y = some (.ref (He.ga K' y))) : ErrK K' cm mg es := by
  refine ⟨fun c hce C e => ?_, fun y hy => ⟨_, hg y hy⟩⟩
  obtain rfl := hc c hce C e
  have h1 := List.all_eq_true.mp h c hce
  simp only [Bool.and_eq_true, decide_eq_true_eq] at h1
  obtain ⟨h1, h2, h3⟩ := h1
  refine ⟨excB_ok h1, h2, fun y hy D e => ?_⟩
  have e2 := hg y hy
  rw [e] at e2
  cases e2
  have h4 := List.all_eq_true.mp h3 y hy
  simp only [Bool.and_eq_true, decide_eq_true_eq] at h4
  exact h4
/-- an error class without an own __init__ that is made -/
structure ErrM (K' : PySem.W.Frag) (cm : Str → Option Addr) (mg : Str → Option Value) (c : Str) : Prop where
  ex : ∃ C, cm c = some C ∧ PySem.W.excIn K' C He.veBase "ValueError.__new__" = true ∧ mg c = some (.ref C) ∧ PySem.W.keepIn K' (.ref C) = true ∧ PySem.W.subIn K' (.ref C) (.type "BaseException") = some true ∧ PySem.W.typeIn K' (.ref C) = some (.type "type")
theorem errM_of {K' : PySem.W.Frag} {cm : Str → Option Addr} {mg : Str → Option Value} {c : Str} (h : (He.Fa.exc c).ok K' = true) (h1 : cm c = some (He.ga K' c)) (h2 : mg c = some (.ref (He.ga K' c))) : ErrM K' cm mg c := by
  obtain ⟨a1, a2, a3, a4⟩ := He.exc_ok h
  exact ⟨_, h1, a1, h2, a2, a3, a4⟩
section
variable [T : Tb] {G : Gc} {U : L2.WX} {X : Cx} {K : List Nat}
theorem sk_raiseE {x : Str} {p pos pos2 : Pos} (em : ErrM X.K G.cm X.mg x) (hc : X.calm = true) (tk : Takes X U) (hg : Gl X x) (hdb : (x == ("__debug__" : Str)) = false := by decide) : PS X (.Raise (some (.Call (.Name x p) [] [] pos)) none pos2) (tS G U K (kRaise x)) := by
  obtain ⟨C, h1, h2, h3, h4, h5, h6⟩ := em.ex
  exact sk_raise0 hc tk h1 h2 h3 h4 h5 h6 hg hdb
theorem sk_tryE {i : Nat} {es : List Str} {cn n : Str} {body suite : List Stmt} {b₀ : Stmt} {np pos pos' : Pos} {db : DenS} {ds : Ex → DenS} (ne : T.er = none) (er : ErrK X.K G.cm X.mg es) (hs : X.stack = X.env :: X.outer) (hf : X.env.frame = some X.env.locals) (hN : X.N.Nodup) (hi : X.N[i]? = some n) (hln : X.env.kindOf n = some .local)
    (hcn : cn ∈ ("BlankError" : Str) :: es) (hg : Gl X cn) (hdb : (cn == ("__debug__" : Str)) = false) (tk : Takes X U) (hik : i ∉ K)
    (hb : ∀ (W : L2.WX) (pn : List (Addr × Obj)) (xe : Value → Shared → Prop), Takes (X.tr pn xe) W → PassesOwn (model X.prog X.w) X.A X.env xe → PSs (X.tr pn xe) body (tS G W K db))
    (hsu : ∀ (a : Addr) (oe : Obj) (C : Addr) (d : Option Addr) (pn : List (Addr × Obj)) (x : Ex), x.c ∈ es → G.cm x.c = some C → Zc (.ref C) d oe → (∃ vs, oe.data = .fields vs) →
      ∀ T2 : Tb, T2.er = some ⟨a, X.N.length - 1 - i, d, x.fs⟩ → PSs (X.suite a ((a, oe) :: pn)) (b₀ :: suite) (@tS T2 G U K (ds x))) :
    PS X (.Try body [.ExceptHandler (some (.Name cn np)) (some n) (b₀ :: suite) pos'] [] [] pos) (tS G U K (kTry i es cn db ds)) := by
  obtain ⟨D, gD⟩ := er.gl cn hcn
  exact sk_try (c := .ref D) ne hs hf hN hi hln ⟨hg, hdb, .inl gD⟩ tk hik (fun x hx C hC => (((er.fe x hx C hC).2.2) cn hcn D gD).2) hb fun a oe C d pn x h1 h2 h3 h4 => hsu a oe C d pn x h1 h2 h3 h4 (tbE a (X.N.length - 1 - i) d x.fs) rfl
end
section
variable [T : Tb] {G : Gc} {U : L2.WX} {X : Cx} {K : List Nat} {a C : Addr} {oe : Obj} {d : Option Addr} {pn : List (Addr × Obj)} {xx : Ex} {es : List Str} {i : Nat} {x y : Str} {px pc p pos : Pos}
theorem sx_isEo (hT : T.er = some ⟨a, X.N.length - 1 - i, d, xx.fs⟩) (er : ErrK X.K G.cm X.mg es) (hx : xx.c ∈ es) (hcm : G.cm xx.c = some C) (hz : Zc (.ref C) d oe) (hf : ∃ vs, oe.data = .fields vs) (he : PE (X.suite a ((a, oe) :: pn)) (.Name x px) (tVar i)) (hy : y ∈ ("BlankError" : Str) :: es) (hgy : Gl X y) (hdb : (y == ("__debug__" : Str)) = false) (hg : Gl X "isinstance") (hm : X.mg "isinstance" = none) :
    PE (X.suite a ((a, oe) :: pn)) (.Call (.Name "isinstance" p) [.Name x px, .Name y pc] [] pos) (tD G U (rZ G) (cIsE i (errSub xx.c y))) := by
  obtain ⟨D, gD⟩ := er.gl y hy
  obtain ⟨k1, _, k3⟩ := er.fe _ hx C hcm
  exact @sx_isE T G U X a C oe pn i d xx.fs (errSub xx.c y) x y (.ref D) (.ref D) px pc p pos hT k1 hz hf he (pe_glob hgy gD rfl hdb) (fun u h => h) (k3 y hy D gD).1 hg hm
theorem sx_isEv (hT : T.er = some ⟨a, X.N.length - 1 - i, d, xx.fs⟩) (er : ErrK X.K G.cm X.mg es) (hx : xx.c ∈ es) (hcm : G.cm xx.c = some C) (hz : Zc (.ref C) d oe) (hf : ∃ vs, oe.data = .fields vs) (he : PE (X.suite a ((a, oe) :: pn)) (.Name x px) (tVar i)) (hgy : Gl X "ValueError") (hmy : X.mg "ValueError" = none) (hg : Gl X "isinstance") (hm : X.mg "isinstance" = none) :
    PE (X.suite a ((a, oe) :: pn)) (.Call (.Name "isinstance" p) [.Name x px, .Name "ValueError" pc] [] pos) (tD G U (rZ G) (cIsE i true)) := by
  obtain ⟨k1, k2, _⟩ := er.fe _ hx C hcm
  exact @sx_isE T G U X a C oe pn i d xx.fs true x "ValueError" (.type "ValueError") (.ty "ValueError") px pc p pos hT k1 hz hf he (pe_bltn hgy hmy rfl (by rfl) (by decide) (by decide)) (fun u h => h) k2 hg hm
end
end Cb

end
section
set_option maxRecDepth 100000
set_option maxHeartbeats 1000000
/-! own classes: isinstance, == by the own __eq__ -/
namespace Cb
open PySem PySem.Spec PyProof.Rows L2
structure OwnK (K' : PySem.W.Frag) (C : Addr) : Prop where
  cl : Cls K' C
  ha : PySem.W.findIn K' (.ref C) "__class__" = some (some (.builtin "object.__class__"))
  hn : PySem.W.specialIn K' (.builtin "object.__class__") "__get__" = some (some (.builtin "getset_descriptor.__get__"))
  ht : PySem.W.takesIn K' (.builtin "object.__class__") = some true
  hm : PySem.W.mroIn K' C (.type "object") = some true
  hc : (PySem.W.clsIn K' C).isSome = true
  hy : PySem.W.typeIn K' (.ref C) = some (.type "type")
def ownB (K' : PySem.W.Frag) (C : Addr) : Bool :=
  decide (PySem.W.findIn K' (.ref C) "__class__" = some (some (.builtin "object.__class__"))) && (decide (PySem.W.specialIn K' (.builtin "object.__class__") "__get__" = some (some (.builtin "getset_descriptor.__get__"))) && (decide (PySem.W.takesIn K' (.builtin "object.__class__") = some true) &&
  (decide (PySem.W.mroIn K' C (.type "object") = some true) && ((PySem.W.clsIn K' C).isSome && decide (PySem.W.typeIn K' (.ref C) = some (.type "type"))))))
theorem ownB_ok {K' : PySem.W.Frag} {C : Addr} (h : ownB K' C = true) (cl : Cls K' C) : OwnK K' C := by
  unfold ownB at h
  simp only [Bool.and_eq_true, decide_eq_true_eq] at h
  obtain ⟨h1, h2, h3, h4, h5, h6⟩ := h
  exact ⟨cl, h1, h2, h3, h4, h5, h6⟩
/-- an own class of the program, by its name -/
structure OwnI (K' : PySem.W.Frag) (cm : Str → Option Addr) (mg : Str → Option Value) (c : Str) : Prop where
  ex : ∃ C, cm c = some C ∧ mg c = some (.ref C) ∧ OwnK K' C
/-- isinstance(x, c), c an own class -/
def isOwnW (c : Str) : W → Option Bool
  | .obj d _ => if d = c then some true else none
  | .rng _ _ => none
  | .dW _ => none
  | .fn _ => none
  | _ => some false
def cIsO (c : Str) (d : Den Od) : Den Z := fun env => (d env).bind fun o env => match o.res env with
  | some z => (match isOwnW c (frz z) with
    | some b => .ok (.w (.bl b)) env
    | none => .bad)
  | none => .bad
/-- a == b by the meaning m of a's own __eq__ -/
def eqO (c : Str) (m : Mean) (a b : W) : Option Bool := match a, isOwnW c b, m [.w a, .w b] with
  | .obj d _, some _, .ok (.w (.bl r)) _ => if d = c then some r else none
  | _, _, _ => none
def cEqO (c : Str) (m : Mean) (d e : Den Z) : Den Z := fun env => (d env).bind fun a env => (e env).bind fun b env => match eqO c m (frz a) (frz b) with
  | some r => .ok (.w (.bl r)) env
  | none => .bad
theorem not_first {K' : PySem.W.Frag} {C : Addr} (w : W) (hk : isKit w = true) : PySem.W.notFirst K' C (.type (kindW w)) = true := by
  cases w <;> first | (cases hk; done) | (unfold PySem.W.notFirst kindW; kernel_rfl)
theorem kit_own {K' : PySem.W.Frag} {C : Addr} (o : OwnK K' C) (w : W) (hk : isKit w = true) : PySem.W.kitOne K' (.type (kindW w)) (.ref C) = some false := by
  have h1 : PySem.W.kitCls K' (.type (kindW w)) (.ref C) = PySem.W.subIn K' (.type (kindW w)) (.ref C) := by
    show (if ((PySem.W.clsIn K' C).isSome && PySem.W.typeIn K' (.ref C) == some (.type "type")) = true then _ else _) = _
    rw [if_pos (by rw [o.hc, o.hy]; rfl)]
  have h2 : PySem.W.kitOne K' (.type (kindW w)) (.ref C) = PySem.W.kitCls K' (.type (kindW w)) (.ref C) := by
    unfold PySem.W.kitOne
    rw [if_neg (by simp)]
  rw [h2, h1]
  cases w <;> first | (cases hk; done) | (unfold PySem.W.subIn kindW; kernel_rfl)
section
variable [Tb] {G : Gc} {U : L2.WX} {X : Cx} {S : AS} {H : Hp} {Q : VK}
theorem isKit_iff {w : W} : isKit w = true ∨ (∃ c fs, w = .obj c fs) ∨ (∃ lo hi, w = .rng lo hi) ∨ (∃ d, w = .dW d) ∨ ∃ x, w = .fn x := by
  cases w <;> first | exact .inl rfl | exact .inr (.inl ⟨_, _, rfl⟩) | exact .inr (.inr (.inl ⟨_, _, rfl⟩)) | exact .inr (.inr (.inr (.inl ⟨_, rfl⟩))) | exact .inr (.inr (.inr (.inr ⟨_, rfl⟩)))
theorem own_tyx (hG : G.K = X.K) {c : Str} {C : Addr} (hcm : G.cm c = some C) (o : OwnK X.K C) {w : W} {v : V} {b : Bool} (h : Vw G S H w v) (e : isOwnW c w = some b) : ∃ t, TyX X.K H v t ∧ PySem.W.kitOne X.K t (.ref C) = some b ∧ PySem.W.notFirst X.K C t = true := by
  rcases isKit_iff (w := w) with hk | ⟨d, fs, rfl⟩ | ⟨lo, hi, rfl⟩ | ⟨dd, rfl⟩ | ⟨x, rfl⟩
  · have hb : b = false := by
      cases w <;> first | (cases hk; done) | (cases e; rfl)
    subst hb
    exact ⟨_, tyx_of hG hk h, kit_own o w hk, not_first w hk⟩
  · have e : (if d = c then some true else none) = some b := e
    by_cases hd : d = c
    · subst hd
      rw [if_pos rfl] at e
      obtain rfl : true = b := Option.some.inj e
      obtain ⟨a, D, dx, vs, rfl, hD, h1, _⟩ := h
      rw [hcm] at hD
      cases hD
      refine ⟨.ref C, .base (.ins h1 o.cl o.ha o.hn o.ht o.hm), ?_, ?_⟩
      · unfold PySem.W.kitOne; rw [if_pos (by simp)]
      · unfold PySem.W.notFirst; simp
    · rw [if_neg hd] at e; cases e
  · cases e
  · cases e
  · cases e
theorem sx_isO {c : Str} {e : Expr} {d : Den Od} {p p2 pos : Pos} (hG : G.K = X.K) (ow : OwnI X.K G.cm X.mg c) (ns : Nst e) (he : PE X e (tD G U (rO G) d)) (hg : Gl X "isinstance") (hm : X.mg "isinstance" = none) (hg2 : Gl X c) (hdb : (c == ("__debug__" : Str)) = false) :
    PE X (.Call (.Name "isinstance" p) [e, .Name c p2] [] pos) (tD G U (rZ G) (cIsO c d)) := by
  obtain ⟨C, hcm, hmc, o⟩ := ow.ex
  have h2 : PE X (.Name c p2) (tC (.ref C)) := pe_glob hg2 hmc rfl hdb
  have hs : PA X [e, .Name c p2] (tCons (tD G U (rO G) d) (tCons (tC (.ref C)) tNil)) := pa_cons he (pa_cons h2 pa_nil (by rfl)) (ns _ _)
  refine (pe_callB call_isi hg hm rfl hs (he := ns _ _) (hpl := by rfl)).imp fun σ H Q ⟨env, S, A, en, ok, oo⟩ => ⟨env, S, A, en, ok, ?_⟩
  refine (Out.bind (rel := rO G) (fun h => h.2) oo).mono fun x H1 ⟨oa, env1, S1, A1, _, en1, ok1, ⟨r1, _⟩, f1, o2⟩ => ?_
  show rIsi X.K [x, .ref C] H1 Q
  cases e0 : oa.res env1 with
  | none => rw [e0] at o2; exact o2.elim
  | some z =>
    rw [e0] at o2
    dsimp only at o2
    cases e1 : isOwnW c (frz z) with
    | none => rw [e1] at o2; exact o2.elim
    | some b =>
      rw [e1] at o2
      have hv : Vw G S1 H1 (frz z) x := by
        cases oa with
        | w y =>
          cases e0
          exact Rp.vw r1
        | s i =>
          obtain ⟨v, B, R, hs, rz, _, _⟩ := en1.gets (show gets env1 i = some z from e0)
          have r1' : σ[i]? = some (some x) := r1
          rw [r1'] at hs
          cases hs
          exact rz.vw
      obtain ⟨t, ty, k1, _⟩ := own_tyx hG hcm o hv e1
      exact ⟨x, .ref C, t, _, b, rfl, .own C, ty, k1, o2.here en1 ok1 ⟨rp_bl _ _ _, rfl⟩⟩
/-- what a method's function keeps -/
structure MtS [Tb] (G : Gc) (X : Cx) (c n : Str) (k : Nat) (m : Mean) : Prop where
  ex : ∃ (C f : Addr) (fd : FuncData) (ps : List Str) (j : Nat), G.cm c = some C ∧ PySem.W.findIn X.K (.ref C) n = some (some (.ref f)) ∧ PySem.W.isFn X.K (.ref f) = true ∧ L2.Binds X.K fd ps [] ∧ FnOk X.prog X.w X.K X.mg X.base (L2.CX X.prog X.w) j f fd ps (spM G k m) ∧ Room j X.A
theorem op_eqO (hG : G.K = X.K) {c : Str} {m : Mean} (ow : OwnI X.K G.cm X.mg c) (mt : MtS G X c "__eq__" 2 m) :
    OpR X (compareOp .Eq) (fun x y H Q => ∃ S A a b r, Rp G S H a x ∧ Rp G S H b y ∧ Ok S H A ∧ eqO c m a b = some r ∧ ∀ S' H', Ok S' H' A → Fr S H [] S' H' [] → Q (.bl r) H') := by
  intro pins s σ H x y v u Q I rx ry hq
  obtain ⟨S, A, a, b, r, ra, rb, ok, e, q⟩ := hq
  obtain ⟨C, hcm, hmc, o⟩ := ow.ex
  obtain ⟨C2, f, fd, ps, j, hcm2, hfi, hfn, hb, F, hr⟩ := mt.ex
  rw [hcm] at hcm2
  cases hcm2
  show wpAny (model X.prog X.w) X.A (richCompare .Eq v u) (EP X pins σ Q) X.xe s
  have he : ∃ fs bb back, a = .obj c fs ∧ isOwnW c b = some bb ∧ m [.w a, .w b] = .ok (.w (.bl r)) back := by
    unfold eqO at e
    split at e
    · rename_i d fs bb rr back e1 e2
      by_cases hd : d = c
      · subst hd
        rw [if_pos rfl] at e
        obtain rfl := Option.some.inj e
        exact ⟨fs, bb, back, rfl, e1, e2⟩
      · rw [if_neg hd] at e; cases e
    · cases e
  obtain ⟨fs, bb, back, rfl, e1, e2⟩ := he
  obtain ⟨t, ty, _, nf⟩ := own_tyx hG hcm o (Rp.vw rb) e1
  have ra' := ra
  unfold Rp at ra'
  obtain ⟨p, D, dx, vs, rfl, hD, h1, _⟩ := ra'
  rw [hcm] at hD
  cases hD
  cases rx
  obtain ⟨mA, J, _⟩ := ins_get I.hok h1.2
  obtain ⟨od, J, _⟩ := J.look
  obtain ⟨P', Z, pz, _⟩ := kit_of I ry ty
  obtain ⟨mm, hF⟩ := I.fr
  refine PySem.W.cmp_K (op := .Eq) (tb := t) hr.units0 hF I.ok.mod.kin J (Z.ty _ _ I.kIn pz) nf hfi hfn ?_
  have hsp : spM G 2 m [.ref p, y] H (fun v H' => v = .bl r ∧ ∃ S', Ok S' H' A ∧ Fr S H [] S' H' []) (fun _ _ _ => False) := by
    refine ⟨rfl, [.w (.obj c fs), .w b], S, [[], []], ⟨_, _, [], _, rfl, rfl, ⟨ra, rfl⟩, _, _, [], _, rfl, rfl, ⟨rb, rfl⟩, rfl, rfl⟩, ok.nil, ?_⟩
    rw [e2]
    intro v' H' S' B Bs' rb' rz ok' f'
    obtain ⟨rz1, rfl⟩ := rz
    unfold Rp at rz1
    subst rz1
    have f2 : Fr S H [] S' H' [] := f'.less fun a h => absurd h (by simp)
    exact ⟨rfl, S', f2.off (B := A) ok ok'.nil, f2⟩
  have e0 : Env0 X.prog X.w X.K X.mg X.base X.A X.stack s H := I.env0
  have hl := F.len _ _ _ _ hsp
  refine wpAny_call (codeAny_mono (F.run X.A X.stack s H ⟨[.ref p, u], []⟩ [.ref p, u] [.ref p, y] _ _ hr e0 (by
    have := hb s [.ref p, u] I.kIn (by simpa using hl)
    simpa using this) (.cons rfl (.cons ry .nil)) hsp) fun z s' hq => ?_)
  cases z with
  | error e =>
    obtain ⟨_, _, _, _, _, _, _, _, _, _, _, _, zz⟩ := hq
    exact zz.elim
  | ok fl =>
    cases fl with
    | ret w0 =>
      obtain ⟨z, H', I', rz, ez, S', ok2, f2⟩ := I.after hq
      subst ez
      cases rz
      exact ⟨.bl r, H', I', rfl, q S' H' ok2 f2⟩
    | next => exact False.elim hq
    | brk => exact False.elim hq
    | cont => exact False.elim hq
/-- both operands frozen, then compared -/
theorem fz2 {d e : Den Z} {RR : R2} {σ : L2.St} {H : Hp} {Q : VK} {c : Str} {m : Mean}
    (h : ∀ x y H1 (Q : VK), (∃ S A a b r, Rp G S H1 a x ∧ Rp G S H1 b y ∧ Ok S H1 A ∧ eqO c m a b = some r ∧ ∀ S' H', Ok S' H' A → Fr S H1 [] S' H' [] → Q (.bl r) H') → RR x y H1 Q)
    (t : tD G U (rZ G) (cEqO c m d e) σ H Q) : tOp RR (tD G U (rW G) (cFz d)) (tD G U (rW G) (cFz e)) σ H Q := by
  obtain ⟨env, S, A, en, ok, o⟩ := t
  refine ⟨env, S, A, en, ok, ?_⟩
  have o1 : Out G U σ S H A (rZ G) ((cFz d env).bind fun a env => (cFz e env).bind fun b env => match eqO c m a b with | some r => R.ok (.w (.bl r)) env | none => .bad) Q := by
    have e : ((cFz d env).bind fun a env => (cFz e env).bind fun b env => match eqO c m a b with | some r => R.ok (Z.w (.bl r)) env | none => .bad) = cEqO c m d e env := by
      unfold cFz cEqO
      cases d env with
      | ok z e1 =>
        dsimp only [R.bind]
        cases e e1 <;> rfl
      | _ => rfl
    rw [e]; exact o
  refine (Out.bind (rel := rW G) (fun h => h.2) o1).mono fun x H1 ⟨a, env1, S1, A1, _, en1, ok1, ⟨r1, _⟩, f1, o2⟩ => ⟨env1, S1, A1, en1, ok1, ?_⟩
  refine (Out.bind (rel := rW G) (fun h => h.2) o2).mono fun y H2 ⟨b, env2, S2, A2, _, en2, ok2, ⟨r2, _⟩, f2, o3⟩ => ?_
  cases q : eqO c m a b with
  | none => rw [q] at o3; exact o3.elim
  | some r =>
    rw [q] at o3
    exact h x y H2 Q ⟨S2, A2, a, b, r, r1.mono (f2.kp ok1) f2.up, r2, ok2, q, fun S' H' ok' f' => o3 (.bl r) H' S' A2 [] (en2.mono (f'.kp ok2.nil) f'.up (f'.offK (A := []) (B := A2) ok2)) ⟨rp_bl _ _ _, rfl⟩ ok' ⟨fun a o e _ nt => f'.keep a o e (by simp) nt, f'.up, fun a h => (f'.back a h).imp id fun h => h.elim (fun h => absurd h (by simp)) .inr, fun a h => .inl h, f'.dom⟩⟩
theorem sx_eqO {c : Str} {m : Mean} {a b : Expr} {pos : Pos} {d e : Den Z} (hG : G.K = X.K) (ow : OwnI X.K G.cm X.mg c) (mt : MtS G X c "__eq__" 2 m) (ha : PE X a (tD G U (rZ G) d)) (hb : PE X b (tD G U (rZ G) e)) (hm : behindInMarks .Eq b = false) :
    PE X (.Compare a [.Eq] [b] pos) (tD G U (rZ G) (cEqO c m d e)) := (pe_cmpR (op_eqO hG ow mt) (pe_fz ha) (pe_fz hb) hm).imp fun σ H Q h => fz2 (fun x y H1 Q hh => hh) h
theorem st_eqO {c : Str} {m : Mean} {a b : Expr} {pos : Pos} {d e : Den Z} (hG : G.K = X.K) (ow : OwnI X.K G.cm X.mg c) (mt : MtS G X c "__eq__" 2 m) (ha : PE X a (tD G U (rZ G) d)) (hb : PE X b (tD G U (rZ G) e)) (hm : behindInMarks .Eq b = false) :
    PT X (.Compare a [.Eq] [b] pos) (tD G U rB (cT (cEqO c m d e))) := st_test (pt_cmpR (op_eqO hG ow mt) (pe_fz ha) (pe_fz hb) hm) fun σ H Q h => fz2 (fun x y H1 Q hh => hh) h
end
/-- a method of an own class, laid out -/
structure CalM [Tb] (P : Program) (w : World) (K' : PySem.W.Frag) (mg : Str → Option Value) (base : Heap) (cm : Str → Option Addr) (k : Nat) (c nm : Str) (n : Nat) (m : Mean) : Prop where
  ex : ∃ (C f : Addr) (fd : FuncData) (ps : List Str), cm c = some C ∧ PySem.W.findIn K' (.ref C) nm = some (some (.ref f)) ∧ PySem.W.isFn K' (.ref f) = true ∧ L2.Binds K' fd ps [] ∧ FnOk P w K' mg base (L2.CX P w) k f fd ps (spM ⟨K', cm, w⟩ n m)
theorem CalM.s [Tb] {P : Program} {w : World} {K' : PySem.W.Frag} {mg : Str → Option Value} {base : Heap} {X : Cx} {cm : Str → Option Addr} {k j : Nat} {c nm : Str} {n : Nat} {m : Mean} (h : CalM P w K' mg base cm k c nm n m) (hr : Room j X.A) (hk : k ≤ j)
    (e : X.prog = P ∧ X.w = w ∧ X.K = K' ∧ X.mg = mg ∧ X.base = base := by exact ⟨rfl, rfl, rfl, rfl, rfl⟩) : MtS ⟨K', cm, w⟩ X c nm n m := by
  obtain ⟨rfl, rfl, rfl, rfl, rfl⟩ := e
  obtain ⟨C, f, fd, ps, h1, h2, h3, h4, h5⟩ := h.ex
  exact ⟨C, f, fd, ps, k, h1, h2, h3, h4, h5, hr.mono hk⟩
end Cb

end
section
set_option maxRecDepth 100000
set_option maxHeartbeats 4000000
/-! comprehensions of two clauses -/
namespace Cb
open PySem PySem.Spec PyProof.Rows L2
def lc2Pre (tg : Tg) (t : Den Bool) (k1 : Itk) (di1 : Den (List W)) (w : W) (env : Env) : R (Option (List W)) := match setTg tg w env with
  | none => .bad
  | some env => (t env).bind fun b env => if b then (cIt k1 di1 env).bind fun ws env => .ok (some ws) env else .ok none env
def lc2Loop (vs vs1 : List Nat) (pre : W → Env → R (Option (List W))) (turn : W → Env → R (Option W)) : List W → Env → List W → R (List W)
  | [], env, acc => .ok acc env
  | w :: ws, env, acc => (pre w env).bind fun o env => match o with
    | none => lc2Loop vs vs1 pre turn ws (wipeE env vs) acc
    | some items => (lcLoop turn items (wipeE env vs1) acc).bind fun acc env => lc2Loop vs vs1 pre turn ws (wipeE env vs) acc
def cLc2 (vs vs1 : List Nat) (tg : Tg) (k : Itk) (di : Den (List W)) (t : Den Bool) (tg1 : Tg) (k1 : Itk) (di1 : Den (List W)) (t1 : Den Bool) (d : Den Z) : Den Z := fun env => (cIt k di env).bind fun items env1 =>
  (noX (lc2Loop vs vs1 (lc2Pre tg t k1 di1) (lcTurn vs1 tg1 t1 d) items (wipeE env1 vs) [])).bind fun ys env2 => .ok (.L ys) (restE env1 env2 vs)
section
variable [Tb] {G : Gc} {U : L2.WX} {X : Cx}
/-- how far a loop of one clause is -/
def LcW (G : Gc) (vs : List Nat) (t : Tg) (dt : Den Bool) (d : Den Z) (items : List W) (σ : L2.St) (S1 : AS) (H1 : Hp) (A1 : List Addr) (D : Addr) (ys : List W) (env2 : Env) (i m : Nat) (H : Hp) : Prop :=
  m = items.length - i ∧ i ≤ items.length ∧ ∃ env S A acc vacc, EnvR G S H env (wipe σ vs) A ∧ Ok S H (A ++ [D]) ∧ Fr S1 H1 A1 S H (A ++ [D]) ∧ H D = some (.lst vacc) ∧ Rps G S H acc vacc ∧ lcLoop (lcTurn vs t dt d) (items.drop i) env acc = .ok ys env2
def LcE (G : Gc) (vs : List Nat) (σ : L2.St) (S1 : AS) (H1 : Hp) (A1 : List Addr) (D : Addr) (ys : List W) (env2 : Env) (H : Hp) : Prop :=
  ∃ S A vacc, EnvR G S H env2 (wipe σ vs) A ∧ Ok S H (A ++ [D]) ∧ Fr S1 H1 A1 S H (A ++ [D]) ∧ H D = some (.lst vacc) ∧ Rps G S H ys vacc
theorem lc_turns {t : Tg} {vs : List Nat} {dt : Den Bool} {d : Den Z} {items : List W} {σ : L2.St} {S1 : AS} {H1 : Hp} {A1 : List Addr} {J : It} {D : Addr} {ys : List W} {env2 : Env} (hv : ∀ i ∈ slotsOf t, i ∈ vs) (ok1 : Ok S1 H1 A1) (itk : ItOk G S1 H1 J items) :
    ∀ i m H, LcW G vs t dt d items σ S1 H1 A1 D ys env2 i m H →
      (J.stop i H ∧ LcE G vs σ S1 H1 A1 D ys env2 H) ∨ (J.go i H ∧ ∃ Nx : Hp → Prop, (∀ H', Nx H' → ∃ m', m' < m ∧ LcW G vs t dt d items σ S1 H1 A1 D ys env2 (i + 1) m' H') ∧ ∀ x H', J.yld i H x H' → gTg G.K t x (wipe σ vs) H' fun σ2 H2 => wipe σ2 vs = wipe σ vs ∧ (tD G UF rB dt) σ2 H2 fun b H3 =>
        if b = true then (tD G UF (rW G) (cFz d)) σ2 H3 fun y H4 => ∃ acc, H4 D = some (.lst acc) ∧ acc.length < sizeLine ∧ Nx (upd H4 D (.lst (acc ++ [y]))) else Nx H3) := by
  rintro i m H ⟨rfl, hil, env, S, A, acc, vacc, en, ok, f, hDl, racc, eL⟩
  obtain ⟨j1, j2⟩ := itk i S H (f.kp ok1) f.up
  by_cases hlt : i < items.length
  · have hw : items[i]? = some items[i] := by simp [hlt]
    obtain ⟨g1, g2⟩ := j1 _ hw
    refine .inr ⟨g1, fun H' => ∃ env S A acc vacc, EnvR G S H' env (wipe σ vs) A ∧ Ok S H' (A ++ [D]) ∧ Fr S1 H1 A1 S H' (A ++ [D]) ∧ H' D = some (.lst vacc) ∧ Rps G S H' acc vacc ∧ lcLoop (lcTurn vs t dt d) (items.drop (i + 1)) env acc = .ok ys env2,
      fun H' q => ⟨items.length - (i + 1), by omega, rfl, hlt, q⟩, fun x H2 y => ?_⟩
    obtain ⟨k, rx⟩ := g2 x H2 y
    rw [List.drop_eq_getElem_cons hlt] at eL
    unfold lcLoop lcTurn at eL
    cases e : setTg t items[i] env with
    | none => rw [e] at eL; cases eL
    | some e2 =>
      rw [e] at eL
      dsimp only at eL
      refine tg_out (ext_en k en) (ext_ok k ok.left) rx e fun xs A2 en2 ok2 s2 => ?_
      have hwp : wipe (foldσ (slotsOf t) xs (wipe σ vs)) vs = wipe σ vs := (wipe_fold hv).trans (wipe_wipe fun i h => h)
      refine ⟨hwp, ?_⟩
      generalize hσ2 : foldσ (slotsOf t) xs (wipe σ vs) = σ2 at en2 hwp ⊢
      have okD2 : Ok S H2 (A2 ++ [D]) := by
        have q := ext_ok k ok
        refine ⟨List.nodup_append.mpr ⟨ok2.nd, by simp, fun a ha b hb e => ?_⟩, fun a ha => ?_, q.dom, q.tab⟩
        · exact (List.nodup_append.mp ok.nd).2.2 a (s2 a ha) b hb e
        · rcases List.mem_append.mp ha with h | h
          · exact q.own a (List.mem_append_left _ (s2 a h))
          · exact q.own a (List.mem_append_right _ h)
      have f2 : Fr S1 H1 A1 S H2 (A2 ++ [D]) := (f.trans (ext_fr k)).less fun a ha => by
        rcases List.mem_append.mp ha with h | h
        · exact List.mem_append_left _ (s2 a h)
        · exact List.mem_append_right _ h
      have hD2 : H2 D = some (.lst vacc) := k D _ hDl
      have ra2 : Rps G S H2 acc vacc := racc.mono (ext_kp k) fun _ h => h
      refine ⟨e2, S, A2, en2, ok2, ?_⟩
      cases e3 : dt e2 with
      | bad => rw [e3] at eL; cases eL
      | ex x2 e4 => rw [e3] at eL; cases eL
      | ok b e4 =>
        rw [e3] at eL
        dsimp only [R.bind] at eL
        intro b' H3 S3 A3 B3 en3 r3 ok3 f3
        obtain ⟨rfl, rfl⟩ := r3
        have ok3' : Ok S3 H3 A3 := ok3
        have okD3 : Ok S3 H3 (A3 ++ [D]) := f3.off okD2 ok3
        have hD3 : H3 D = some (.lst vacc) := f3.offK okD2 D (by simp) _ hD2
        have ra3 : Rps G S3 H3 acc vacc := ra2.mono (f3.kp ok2) f3.up
        have f13 : Fr S1 H1 A1 S3 H3 (A3 ++ [D]) := by
          refine (f2.trans (f3.wide (B := A2 ++ [D]) fun a h => List.mem_append_left _ h)) |> fun q => ⟨q.keep, q.up, q.back, fun a ha => ?_, q.dom⟩
          rcases List.mem_append.mp ha with h | h
          · exact q.own a h
          · exact f2.own a (List.mem_append_right _ h)
        cases b with
        | false =>
          rw [if_neg Bool.false_ne_true] at eL ⊢
          obtain ⟨R4, k4, l4⟩ := en3.wiped vs
          rw [hwp] at k4
          exact ⟨wipeE e4 vs, S3, R4, acc, vacc, k4, okD3.sub (List.Sublist.append_right l4 _), f13.less fun a ha => by
            rcases List.mem_append.mp ha with h | h
            · exact List.mem_append_left _ (l4.subset h)
            · exact List.mem_append_right _ h, hD3, ra3, eL⟩
        | true =>
          rw [if_pos rfl] at eL ⊢
          refine ⟨e4, S3, A3, en3, ok3', ?_⟩
          unfold cFz
          cases e5 : d e4 with
          | bad => rw [e5] at eL; cases eL
          | ex x2 e6 => rw [e5] at eL; cases eL
          | ok z e6 =>
            rw [e5] at eL
            dsimp only [R.bind] at eL ⊢
            intro yv H4 S4 A4 B4 en4 r4 ok4 f4
            obtain ⟨r4, rfl⟩ := r4
            by_cases hz : acc.length < 16777216
            · rw [if_pos hz] at eL
              have ok4' : Ok S4 H4 A4 := ok4
              have okD4 : Ok S4 H4 (A4 ++ [D]) := f4.off okD3 ok4
              have hD4 : H4 D = some (.lst vacc) := f4.offK okD3 D (by simp) _ hD3
              have ra4 : Rps G S4 H4 acc vacc := ra3.mono (f4.kp ok3') f4.up
              refine ⟨vacc, hD4, by rw [ra4.length, sizeLine_eq]; exact hz, ?_⟩
              obtain ⟨R5, k5, l5⟩ := en4.wiped vs
              rw [hwp] at k5
              have okD5 : Ok S4 H4 (R5 ++ [D]) := okD4.sub (List.Sublist.append_right l5 _)
              have hp : D ∈ R5 ++ [D] := by simp
              have fm : Fr S4 H4 (R5 ++ [D]) S4 (upd H4 D (.lst (vacc ++ [yv]))) (R5 ++ [D]) := Fr.mutate (u := .lst (vacc ++ [yv])) hp okD5
              have f14 : Fr S1 H1 A1 S4 H4 (A4 ++ [D]) := by
                refine (f13.trans (f4.wide (B := A3 ++ [D]) fun a h => List.mem_append_left _ h)) |> fun q => ⟨q.keep, q.up, q.back, fun a ha => ?_, q.dom⟩
                rcases List.mem_append.mp ha with h | h
                · exact q.own a h
                · exact f13.own a (List.mem_append_right _ h)
              refine ⟨wipeE e6 vs, S4, R5, acc ++ [frz z], vacc ++ [yv], k5.mono (fm.kp okD5) fm.up (fun a ha o ea => ?_), Ok.mutate hp okD5 trivial, (f14.less fun a ha => ?_).trans fm, upd_same, ((ra4.append (.one r4)).mono (fm.kp okD5) fm.up), eL⟩
              · have ne : a ≠ D := fun z => okD5.dis ha (by simp [z])
                rw [upd_ne ne]; exact ea
              · rcases List.mem_append.mp ha with h | h
                · exact List.mem_append_left _ (l5.subset h)
                · exact List.mem_append_right _ h
            · rw [if_neg hz] at eL; cases eL
  · have e : i = items.length := by omega
    subst e
    rw [List.drop_length] at eL
    cases eL
    exact .inl ⟨j2 (by simp), S, A, vacc, en, ok, f, hDl, racc⟩
theorem lc2_out {t t1 : Tg} {vs vs1 : List Nat} {dt dt1 : Den Bool} {k1 : Itk} {di1 : Den (List W)} {d : Den Z} {items : List W} {σ : L2.St} {S1 : AS} {H1 : Hp} {A1 : List Addr} {env1 : Env} {J : It} {Q : VK} (hv : ∀ i ∈ slotsOf t, i ∈ vs) (hv1 : ∀ i ∈ slotsOf t1, i ∈ vs1) (hvv : ∀ i ∈ vs1, i ∈ vs) (en1 : EnvR G S1 H1 env1 σ A1) (ok1 : Ok S1 H1 A1) (itk : ItOk G S1 H1 J items)
    (o : Out G U σ S1 H1 A1 (rZ G) ((noX (lc2Loop vs vs1 (lc2Pre t dt k1 di1) (lcTurn vs1 t1 dt1 d) items (wipeE env1 vs) [])).bind fun ys env2 => .ok (.L ys) (restE env1 env2 vs)) Q) :
    ∀ D, H1 D = none → ∃ W : Nat → Nat → Hp → Prop, (∃ m, W 0 m (upd H1 D (.lst []))) ∧ ∀ i m H, W i m H →
      (J.stop i H ∧ Q (.ref D) H) ∨ (J.go i H ∧ ∃ Nx : Hp → Prop, (∀ H', Nx H' → ∃ m', m' < m ∧ W (i + 1) m' H') ∧ ∀ x H', J.yld i H x H' → gTg G.K t x (wipe σ vs) H' fun σ2 H2 => wipe σ2 vs = wipe σ vs ∧ (tD G UF rB dt) σ2 H2 fun b H3 =>
        if b = true then (tD G UF (rIt G) (cIt k1 di1)) σ2 H3 fun J1 H4 => ∃ W1 : Nat → Nat → Hp → Prop, (∃ m, W1 0 m H4) ∧ ∀ j k H, W1 j k H →
          (J1.stop j H ∧ Nx H) ∨ (J1.go j H ∧ ∃ Nx1 : Hp → Prop, (∀ H', Nx1 H' → ∃ k', k' < k ∧ W1 (j + 1) k' H') ∧ ∀ x H', J1.yld j H x H' → gTg G.K t1 x (wipe σ2 vs1) H' fun σ3 H5 => wipe σ3 vs1 = wipe σ2 vs1 ∧ (tD G UF rB dt1) σ3 H5 fun b H6 =>
            if b = true then (tD G UF (rW G) (cFz d)) σ3 H6 fun y H7 => ∃ acc, H7 D = some (.lst acc) ∧ acc.length < sizeLine ∧ Nx1 (upd H7 D (.lst (acc ++ [y]))) else Nx1 H6)
        else Nx H3) := by
  intro D hD
  cases e0 : noX (lc2Loop vs vs1 (lc2Pre t dt k1 di1) (lcTurn vs1 t1 dt1 d) items (wipeE env1 vs) []) with
  | bad => rw [e0] at o; exact o.elim
  | ex x e => exact absurd e0 (by cases lc2Loop vs vs1 (lc2Pre t dt k1 di1) (lcTurn vs1 t1 dt1 d) items (wipeE env1 vs) [] <;> simp [noX])
  | ok ys env2 =>
    rw [e0] at o
    have e0' := noX_ok e0
    have kN := keep_new (u := .lst []) hD
    obtain ⟨R1, w1, w2⟩ := en1.wiped vs
    have okN : Ok S1 (upd H1 D (.lst [])) (R1 ++ [D]) := Ok.newO (ok1.sub w2) hD trivial
    have frN : Fr S1 H1 A1 S1 (upd H1 D (.lst [])) (R1 ++ [D]) := ⟨fun a u e _ _ => kN a u e, fun _ h => h, fun _ h => .inl h, fun a h => (List.mem_append.mp h).imp (fun h => w2.subset h) fun z => by rw [List.mem_singleton.mp z]; exact hD, fun a u e => ⟨u, kN a u e⟩⟩
    refine ⟨fun i m H => m = items.length - i ∧ i ≤ items.length ∧ ∃ env S A acc vacc, EnvR G S H env (wipe σ vs) A ∧ Ok S H (A ++ [D]) ∧ Fr S1 H1 A1 S H (A ++ [D]) ∧ H D = some (.lst vacc) ∧ Rps G S H acc vacc ∧ lc2Loop vs vs1 (lc2Pre t dt k1 di1) (lcTurn vs1 t1 dt1 d) (items.drop i) env acc = .ok ys env2,
      ⟨items.length, by simp, Nat.zero_le _, wipeE env1 vs, S1, R1, [], [], ext_en kN w1, okN, frN, upd_same, .nil, by simpa using e0'⟩, ?_⟩
    rintro i m H ⟨rfl, hil, env, S, A, acc, vacc, en, ok, f, hDl, racc, eL⟩
    obtain ⟨j1, j2⟩ := itk i S H (f.kp ok1) f.up
    by_cases hlt : i < items.length
    · have hw : items[i]? = some items[i] := by simp [hlt]
      obtain ⟨g1, g2⟩ := j1 _ hw
      refine .inr ⟨g1, fun H' => ∃ env S A acc vacc, EnvR G S H' env (wipe σ vs) A ∧ Ok S H' (A ++ [D]) ∧ Fr S1 H1 A1 S H' (A ++ [D]) ∧ H' D = some (.lst vacc) ∧ Rps G S H' acc vacc ∧ lc2Loop vs vs1 (lc2Pre t dt k1 di1) (lcTurn vs1 t1 dt1 d) (items.drop (i + 1)) env acc = .ok ys env2,
        fun H' q => ⟨items.length - (i + 1), by omega, rfl, hlt, q⟩, fun x H2 y => ?_⟩
      obtain ⟨k, rx⟩ := g2 x H2 y
      rw [List.drop_eq_getElem_cons hlt] at eL
      unfold lc2Loop lc2Pre at eL
      cases e : setTg t items[i] env with
      | none => rw [e] at eL; cases eL
      | some e2 =>
        rw [e] at eL
        dsimp only at eL
        refine tg_out (ext_en k en) (ext_ok k ok.left) rx e fun xs A2 en2 ok2 s2 => ?_
        have hwp : wipe (foldσ (slotsOf t) xs (wipe σ vs)) vs = wipe σ vs := (wipe_fold hv).trans (wipe_wipe fun i h => h)
        refine ⟨hwp, ?_⟩
        generalize hσ2 : foldσ (slotsOf t) xs (wipe σ vs) = σ2 at en2 hwp ⊢
        have okD2 : Ok S H2 (A2 ++ [D]) := by
          have q := ext_ok k ok
          refine ⟨List.nodup_append.mpr ⟨ok2.nd, by simp, fun a ha b hb e => ?_⟩, fun a ha => ?_, q.dom, q.tab⟩
          · exact (List.nodup_append.mp ok.nd).2.2 a (s2 a ha) b hb e
          · rcases List.mem_append.mp ha with h | h
            · exact q.own a (List.mem_append_left _ (s2 a h))
            · exact q.own a (List.mem_append_right _ h)
        have f2 : Fr S1 H1 A1 S H2 (A2 ++ [D]) := (f.trans (ext_fr k)).less fun a ha => by
          rcases List.mem_append.mp ha with h | h
          · exact List.mem_append_left _ (s2 a h)
          · exact List.mem_append_right _ h
        have hD2 : H2 D = some (.lst vacc) := k D _ hDl
        have ra2 : Rps G S H2 acc vacc := racc.mono (ext_kp k) fun _ h => h
        refine ⟨e2, S, A2, en2, ok2, ?_⟩
        cases e3 : dt e2 with
        | bad => rw [e3] at eL; cases eL
        | ex x2 e4 => rw [e3] at eL; cases eL
        | ok b e4 =>
          rw [e3] at eL
          dsimp only [R.bind] at eL
          intro b' H3 S3 A3 B3 en3 r3 ok3 f3
          obtain ⟨rfl, rfl⟩ := r3
          have ok3' : Ok S3 H3 A3 := ok3
          have okD3 : Ok S3 H3 (A3 ++ [D]) := f3.off okD2 ok3
          have hD3 : H3 D = some (.lst vacc) := f3.offK okD2 D (by simp) _ hD2
          have ra3 : Rps G S3 H3 acc vacc := ra2.mono (f3.kp ok2) f3.up
          have f13 : Fr S1 H1 A1 S3 H3 (A3 ++ [D]) := by
            refine (f2.trans (f3.wide (B := A2 ++ [D]) fun a h => List.mem_append_left _ h)) |> fun q => ⟨q.keep, q.up, q.back, fun a ha => ?_, q.dom⟩
            rcases List.mem_append.mp ha with h | h
            · exact q.own a h
            · exact f2.own a (List.mem_append_right _ h)
          cases b with
          | false =>
            rw [if_neg Bool.false_ne_true] at eL ⊢
            obtain ⟨R4, k4, l4⟩ := en3.wiped vs
            rw [hwp] at k4
            exact ⟨wipeE e4 vs, S3, R4, acc, vacc, k4, okD3.sub (List.Sublist.append_right l4 _), f13.less fun a ha => by
              rcases List.mem_append.mp ha with h | h
              · exact List.mem_append_left _ (l4.subset h)
              · exact List.mem_append_right _ h, hD3, ra3, eL⟩
          | true =>
            rw [if_pos rfl] at eL ⊢
            refine ⟨e4, S3, A3, en3, ok3', ?_⟩
            cases e5 : cIt k1 di1 e4 with
            | bad => rw [e5] at eL; cases eL
            | ex x2 e6 => rw [e5] at eL; cases eL
            | ok its e6 =>
              rw [e5] at eL
              dsimp only [R.bind] at eL
              intro J1 H4 S4 A4 B4 en4 r4 ok4 f4
              obtain ⟨itk1, rfl⟩ := r4
              have ok4' : Ok S4 H4 A4 := ok4
              have okD4 : Ok S4 H4 (A4 ++ [D]) := f4.off okD3 ok4
              have hD4 : H4 D = some (.lst vacc) := f4.offK okD3 D (by simp) _ hD3
              have ra4 : Rps G S4 H4 acc vacc := ra3.mono (f4.kp ok3') f4.up
              have f14 : Fr S1 H1 A1 S4 H4 (A4 ++ [D]) := by
                refine (f13.trans (f4.wide (B := A3 ++ [D]) fun a h => List.mem_append_left _ h)) |> fun q => ⟨q.keep, q.up, q.back, fun a ha => ?_, q.dom⟩
                rcases List.mem_append.mp ha with h | h
                · exact q.own a h
                · exact f13.own a (List.mem_append_right _ h)
              obtain ⟨R5, k5, l5⟩ := en4.wiped vs1
              have okD5 : Ok S4 H4 (R5 ++ [D]) := okD4.sub (List.Sublist.append_right l5 _)
              have f5 : Fr S4 H4 (A4 ++ [D]) S4 H4 (R5 ++ [D]) := (Fr.refl okD4).less fun a ha => (List.Sublist.append_right l5 [D]).subset ha
              cases e7 : lcLoop (lcTurn vs1 t1 dt1 d) its (wipeE e6 vs1) acc with
              | bad => rw [e7] at eL; cases eL
              | ex x2 e8 => rw [e7] at eL; cases eL
              | ok acc' e8 =>
                rw [e7] at eL
                dsimp only [R.bind] at eL
                refine ⟨LcW G vs1 t1 dt1 d its σ2 S4 H4 (A4 ++ [D]) D acc' e8, ⟨its.length, by simp, Nat.zero_le _, wipeE e6 vs1, S4, R5, acc, vacc, k5, okD5, f5, hD4, ra4, by simpa using e7⟩, fun j k H q => ?_⟩
                rcases lc_turns hv1 okD4 itk1 j k H q with ⟨st, S6, A6, va6, k6, ok6, f6, hD6, ra6⟩ | q
                · refine .inl ⟨st, ?_⟩
                  obtain ⟨R7, k7, l7⟩ := k6.wiped vs
                  have hw2 : wipe (wipe σ2 vs1) vs = wipe σ vs := (wipe_wipe hvv).trans hwp
                  rw [hw2] at k7
                  exact ⟨wipeE e8 vs, S6, R7, acc', va6, k7, ok6.sub (List.Sublist.append_right l7 _), (f14.trans f6).less fun a ha => (List.Sublist.append_right l7 [D]).subset ha, hD6, ra6, eL⟩
                · exact .inr q
    · have e : i = items.length := by omega
      subst e
      rw [List.drop_length] at eL
      cases eL
      refine .inl ⟨j2 (by simp), ?_⟩
      obtain ⟨R', k1, k2, k3⟩ := en1.rest (f.kp ok1) f.up en.unwipe ok.left.nd vs
      refine o (.ref D) H S R' [D] k1 ⟨D, vacc, rfl, hDl, racc, rfl⟩ ?_ (f.less fun a ha => ?_)
      · refine ⟨List.nodup_append.mpr ⟨by simp, k2, fun a ha b hb e => ?_⟩, fun a ha => ?_, ok.dom, ok.tab⟩
        · rw [List.mem_singleton] at ha
          exact (List.nodup_append.mp ok.nd).2.2 b (k3 b hb) a (by simp [ha]) e.symm
        · rcases List.mem_append.mp ha with h | h
          · exact ok.own a (List.mem_append_right _ h)
          · exact ok.own a (List.mem_append_left _ (k3 a h))
      · rcases List.mem_append.mp ha with h | h
        · exact List.mem_append_right _ h
        · exact List.mem_append_left _ (k3 a h)
theorem sx_lc2 {elt tg iter tg1 iter1 : Expr} {ifs ifs1 : List Expr} {scope : Scope} {own : List (Str × Nat)} {vs1 : List Nat} {pos : Pos} {t t1 : Tg} {k k1 : Itk} {di di1 : Den (List W)} {dt dt1 : Den Bool} {d : Den Z} (hc : X.calm = true) (hN : X.N.Nodup) (hv : ∀ i ∈ slotsOf t, i ∈ own.map (·.2)) (hv1 : ∀ i ∈ slotsOf t1, i ∈ vs1) (hvv : ∀ i ∈ vs1, i ∈ own.map (·.2))
    (hi : PI X tg iter (tD G U (rIt G) (cIt k di))) (ok : BlkOk X.N X.env.scope scope own)
    (hg : ∀ (s : Shared) (H : Hp) (C : Addr) (cl : List (Str × Addr)) (fp : List Addr), PG (X.blk s H scope (compEnvC scope cl C X.env) fp) tg (gTg G.K t)) (ht : ∀ (s : Shared) (H : Hp) (C : Addr) (cl : List (Str × Addr)) (fp : List Addr), PTs (X.blk s H scope (compEnvC scope cl C X.env) fp) ifs (tD G UF rB dt))
    (hi1 : ∀ (s : Shared) (H : Hp) (C : Addr) (cl : List (Str × Addr)) (fp : List Addr), PI (X.blk s H scope (compEnvC scope cl C X.env) fp) tg1 iter1 (tD G UF (rIt G) (cIt k1 di1)))
    (hg1 : ∀ (s : Shared) (H : Hp) (C : Addr) (cl : List (Str × Addr)) (fp : List Addr), PG (X.blk s H scope (compEnvC scope cl C X.env) fp) tg1 (gTg G.K t1)) (ht1 : ∀ (s : Shared) (H : Hp) (C : Addr) (cl : List (Str × Addr)) (fp : List Addr), PTs (X.blk s H scope (compEnvC scope cl C X.env) fp) ifs1 (tD G UF rB dt1))
    (he : ∀ (s : Shared) (H : Hp) (C : Addr) (cl : List (Str × Addr)) (fp : List Addr), PE (X.blk s H scope (compEnvC scope cl C X.env) fp) elt (tD G UF (rZ G) d)) (hs : ∀ x, foldedSetIterable iter X.env x = pure x) (hs1 : ∀ env x, foldedSetIterable iter1 env x = pure x) :
    PE X (.ListComp elt [⟨tg, iter, ifs, 0⟩, ⟨tg1, iter1, ifs1, 0⟩] scope pos) (tD G U (rZ G) (cLc2 (own.map (·.2)) vs1 t k di dt t1 k1 di1 dt1 d)) :=
  (pe_lc2 hc hN hi ok hvv hg ht hi1 hg1 ht1 (fun s H C cl fp => pe_fz (he s H C cl fp)) hs hs1).imp fun σ H Q ⟨env, S, A, en, okk, o⟩ => ⟨env, S, A, en, okk, (Out.bind (rel := rIt G) (fun h => h.2) o).mono fun J H1 ⟨ws, env1, S1, A1, _, en1, ok1, ⟨itk, _⟩, f1, o1⟩ => lc2_out hv hv1 hvv en1 ok1 itk o1⟩
end
end Cb

end
section
set_option maxRecDepth 100000
set_option maxHeartbeats 1000000
/-! ranges as values -/
namespace Cb
open PySem PySem.Spec PyProof.Rows L2
def cRv1 (d : Den Z) : Den Z := fun env => (d env).bind fun z env => match frz z with
  | .int b => .ok (.w (.rng 0 b)) env
  | _ => .bad
section
variable [Tb] {G : Gc} {U : L2.WX} {X : Cx}
theorem cr_rangeA : CallR X (.type "range") (fun vs H Q => ∃ j, vs = [V.int j] ∧ ∀ p, H p = none → Q (.ref p) (upd H p (.rng 0 j))) := by
  intro pins s σ H vs us Q I r h
  obtain ⟨j, rfl, q⟩ := h
  obtain ⟨u1, rfl, ri⟩ := vals1 r
  obtain ⟨t, rfl⟩ := ri
  exact call_range_1 ⟨.ref s.heap.objs.size, upd H s.heap.objs.size (.rng 0 j), I.laid (t' := _) (fun b o e => Heap.get?_push_of_some _ e) (Nat.le_refl _) ⟨_, _, _, Heap.get?_push_size _ rfl⟩, rfl, q _ (I.hok.fresh (Nat.le_refl _))⟩
theorem sx_rv1 {a : Expr} {d : Den Z} {p pos : Pos} (hg : Gl X "range") (hm : X.mg "range" = none) (ns : Nst a) (ha : PE X a (tD G U (rZ G) d)) : PE X (.Call (.Name "range" p) [a] [] pos) (tD G U (rZ G) (cRv1 d)) :=
  (pe_callTy cr_rangeA hg hm rfl (pa_cons (pe_fz ha) pa_nil (ns _ _)) (he := ns _ _) (hpl := by rfl)).imp fun σ H Q ⟨env, S, A, en, ok, o⟩ => by
    refine ⟨env, S, A, en, ok, ?_⟩
    have e0 : cRv1 d env = (cFz d env).bind fun w env => match w with | .int b => .ok (.w (.rng 0 b)) env | _ => .bad := by
      unfold cRv1 cFz
      cases d env <;> rfl
    rw [e0] at o
    refine (Out.bind (rel := rW G) (fun h => h.2) o).mono fun x H1 ⟨a, env1, S1, A1, _, en1, ok1, ⟨r1, _⟩, f1, o2⟩ => ?_
    cases a with
    | int b =>
      unfold Rp at r1
      subst r1
      refine ⟨b, rfl, fun p hp => (Res.out en1 ok1 o2) (.ref p) (upd H1 p (.rng 0 b)) [] (keep_new hp) ⟨by unfold Rp; exact ⟨p, rfl, upd_same⟩, rfl⟩ List.nodup_nil fun a ha => absurd ha (by simp)⟩
    | _ => exact o2.elim
/-- a name that holds a range, walked -/
def iRgv (tl : TE) : TI := fun σ H R => tl σ H fun x H1 => ∃ a lo hi, x = .ref a ∧ H1 a = some (.rng lo hi) ∧ -(2 ^ 62) ≤ lo ∧ lo < 2 ^ 62 ∧ -(2 ^ 62) ≤ hi ∧ hi < 2 ^ 62 ∧ R (Itr lo (hi - lo).toNat) H1
theorem pi_rgv0 {tg l : Expr} {tl : TE} (hl : PE X l tl) : PI X tg l (iRgv tl) := by
  refine ⟨fun pins s σ H R I h => ?_⟩
  refine thn (hl.run pins s σ H _ I h) fun v s1 ⟨x, H1, I1, r1, a, lo, hi, e, ha, h1, h2, h3, h4, q⟩ => ?_
  subst e
  cases r1
  obtain ⟨t, u, v, hget⟩ := (show ObjOk X.prog X.w H1 s1.heap a (.rng lo hi) from I1.hok a _ ha)
  refine wpAny_pyIter_range (a := lo) (b := hi) (c := 1) (t := t) (u := u) (v := v) hget (small_one h1 h2 h3 h4) ?_
  refine ⟨s1.heap.objs.size, [s1.heap.objs.size], _, _, H1, rfl, I1.kept (t' := s1.toks) fun b o e => Heap.get?_push_of_some _ e, turn_range _ lo (hi - lo).toNat, ?_, fun b hb => ?_, q⟩
  · have e1 : lo + ((0 : Nat) : Int) * 1 = lo := by simp
    have e2 : (((hi - lo).toNat : Nat) : Int) - ((0 : Nat) : Int) = Builtin.Range.rangeSize lo hi 1 := by rw [rangeSize_one]; split <;> omega
    show IsRangeIter _ _ (lo + ((0 : Nat) : Int) * 1) ((((hi - lo).toNat : Nat) : Int) - ((0 : Nat) : Int)) 1
    rw [e1, e2]
    exact Heap.get?_push_size _ rfl
  · have e : b = s1.heap.objs.size := by simpa using hb
    subst e
    exact I1.fpOk (Nat.le_refl _) (I1.hok.fresh (Nat.le_refl _))
theorem itW_rgv {ws items : List W} (h : itW .rgv ws = some items) : ∃ m n, ws = [.rng m n] ∧ bnd m = true ∧ bnd n = true ∧ items = (List.range (n - m).toNat).map fun (k : Nat) => .int (m + (k : Int)) := by
  unfold itW at h
  split at h <;> first | cases h | skip
  all_goals simp_all
  all_goals exact ⟨_, _, ⟨rfl, rfl⟩, h.1.1, h.1.2, h.2.symm⟩
theorem pi_rgv {tg l : Expr} {d : Den Z} (hl : PE X l (tD G U (rZ G) d)) : PI X tg l (tD G U (rIt G) (cIt .rgv (cCons d cNil))) := (pi_rgv0 (pe_fz hl)).imp fun σ H Q ⟨env, S, A, en, ok, o⟩ => by
  refine ⟨env, S, A, en, ok, ?_⟩
  have o1 : Out G U σ S H A (rIt G) ((cFz d env).bind fun w env => match itW .rgv [w] with | some ws => .ok ws env | none => .bad) Q := by
    have e : ((cFz d env).bind fun w env => match itW .rgv [w] with | some ws => R.ok ws env | none => .bad) = cIt .rgv (cCons d cNil) env := by
      unfold cIt cFz cCons cNil
      cases d env <;> rfl
    rw [e]; exact o
  refine (Out.bind (rel := rW G) (fun h => h.2) o1).mono fun x H1 ⟨w, env1, S1, A1, _, en1, ok1, ⟨r1, _⟩, f1, o2⟩ => ?_
  cases e : itW .rgv [w] with
  | none => rw [e] at o2; exact o2.elim
  | some ws =>
    rw [e] at o2
    obtain ⟨m, n, q, hb, hb2, rfl⟩ := itW_rgv e
    obtain rfl : w = .rng m n := by simpa using q
    unfold Rp at r1
    obtain ⟨a, rfl, h1⟩ := r1
    obtain ⟨b1, b2⟩ := bnd_iff hb
    obtain ⟨b3, b4⟩ := bnd_iff hb2
    exact ⟨a, m, n, rfl, h1, b1, b2, b3, b4, o2 _ H1 S1 A1 [] en1 ⟨it_rng m (n - m).toNat, rfl⟩ ok1 (Fr.refl ok1)⟩
end
end Cb

end
section
set_option maxRecDepth 100000
set_option maxHeartbeats 4000000
/-! comprehensions over a list that its name keeps -/
namespace Cb
open PySem PySem.Spec PyProof.Rows L2
/-- [.. for tg in x ..], x in slot i a list that stays its own -/
def cLcK (vs : List Nat) (tg : Tg) (i : Nat) (t : Den Bool) (d : Den Z) : Den Z := fun env => match gets env i with
  | some (.L ws) => (noX (lcLoop (lcTurn vs tg t d) ws (wipeE (env.set i none) vs) [])).bind fun ys env2 => .ok (.L ys) ((restE (env.set i none) env2 vs).set i (some (.L ws)))
  | _ => .bad
def cFr (d : Den Z) : Den Z := fun env => (d env).bind fun z env => .ok (.w (frz z)) env
section
variable [Tb] {G : Gc} {U : L2.WX} {X : Cx}
/-- as ItOk, where nothing outside A is changed -/
def ItOkF (G : Gc) (S0 : AS) (H0 : Hp) (A0 : List Addr) (J : It) (ws : List W) : Prop := ∀ i S H A, Fr S0 H0 A0 S H A →
  (∀ w, ws[i]? = some w → J.go i H ∧ ∀ x H2, J.yld i H x H2 → (∀ a o, H a = some o → H2 a = some o) ∧ Rp G S H2 w x) ∧ (ws[i]? = none → J.stop i H)
theorem lk_turns {t : Tg} {vs : List Nat} {dt : Den Bool} {d : Den Z} {items : List W} {σ : L2.St} {S1 : AS} {H1 : Hp} {A1 : List Addr} {J : It} {D : Addr} {ys : List W} {env2 : Env} (hv : ∀ i ∈ slotsOf t, i ∈ vs) (ok1 : Ok S1 H1 A1) (itk : ItOkF G S1 H1 A1 J items) :
    ∀ i m H, LcW G vs t dt d items σ S1 H1 A1 D ys env2 i m H →
      (J.stop i H ∧ LcE G vs σ S1 H1 A1 D ys env2 H) ∨ (J.go i H ∧ ∃ Nx : Hp → Prop, (∀ H', Nx H' → ∃ m', m' < m ∧ LcW G vs t dt d items σ S1 H1 A1 D ys env2 (i + 1) m' H') ∧ ∀ x H', J.yld i H x H' → gTg G.K t x (wipe σ vs) H' fun σ2 H2 => wipe σ2 vs = wipe σ vs ∧ (tD G UF rB dt) σ2 H2 fun b H3 =>
        if b = true then (tD G UF (rW G) (cFz d)) σ2 H3 fun y H4 => ∃ acc, H4 D = some (.lst acc) ∧ acc.length < sizeLine ∧ Nx (upd H4 D (.lst (acc ++ [y]))) else Nx H3) := by
  rintro i m H ⟨rfl, hil, env, S, A, acc, vacc, en, ok, f, hDl, racc, eL⟩
  obtain ⟨j1, j2⟩ := itk i S H _ f
  by_cases hlt : i < items.length
  · have hw : items[i]? = some items[i] := by simp [hlt]
    obtain ⟨g1, g2⟩ := j1 _ hw
    refine .inr ⟨g1, fun H' => ∃ env S A acc vacc, EnvR G S H' env (wipe σ vs) A ∧ Ok S H' (A ++ [D]) ∧ Fr S1 H1 A1 S H' (A ++ [D]) ∧ H' D = some (.lst vacc) ∧ Rps G S H' acc vacc ∧ lcLoop (lcTurn vs t dt d) (items.drop (i + 1)) env acc = .ok ys env2,
      fun H' q => ⟨items.length - (i + 1), by omega, rfl, hlt, q⟩, fun x H2 y => ?_⟩
    obtain ⟨k, rx⟩ := g2 x H2 y
    rw [List.drop_eq_getElem_cons hlt] at eL
    unfold lcLoop lcTurn at eL
    cases e : setTg t items[i] env with
    | none => rw [e] at eL; cases eL
    | some e2 =>
      rw [e] at eL
      dsimp only at eL
      refine tg_out (ext_en k en) (ext_ok k ok.left) rx e fun xs A2 en2 ok2 s2 => ?_
      have hwp : wipe (foldσ (slotsOf t) xs (wipe σ vs)) vs = wipe σ vs := (wipe_fold hv).trans (wipe_wipe fun i h => h)
      refine ⟨hwp, ?_⟩
      generalize hσ2 : foldσ (slotsOf t) xs (wipe σ vs) = σ2 at en2 hwp ⊢
      have okD2 : Ok S H2 (A2 ++ [D]) := by
        have q := ext_ok k ok
        refine ⟨List.nodup_append.mpr ⟨ok2.nd, by simp, fun a ha b hb e => ?_⟩, fun a ha => ?_, q.dom, q.tab⟩
        · exact (List.nodup_append.mp ok.nd).2.2 a (s2 a ha) b hb e
        · rcases List.mem_append.mp ha with h | h
          · exact q.own a (List.mem_append_left _ (s2 a h))
          · exact q.own a (List.mem_append_right _ h)
      have f2 : Fr S1 H1 A1 S H2 (A2 ++ [D]) := (f.trans (ext_fr k)).less fun a ha => by
        rcases List.mem_append.mp ha with h | h
        · exact List.mem_append_left _ (s2 a h)
        · exact List.mem_append_right _ h
      have hD2 : H2 D = some (.lst vacc) := k D _ hDl
      have ra2 : Rps G S H2 acc vacc := racc.mono (ext_kp k) fun _ h => h
      refine ⟨e2, S, A2, en2, ok2, ?_⟩
      cases e3 : dt e2 with
      | bad => rw [e3] at eL; cases eL
      | ex x2 e4 => rw [e3] at eL; cases eL
      | ok b e4 =>
        rw [e3] at eL
        dsimp only [R.bind] at eL
        intro b' H3 S3 A3 B3 en3 r3 ok3 f3
        obtain ⟨rfl, rfl⟩ := r3
        have ok3' : Ok S3 H3 A3 := ok3
        have okD3 : Ok S3 H3 (A3 ++ [D]) := f3.off okD2 ok3
        have hD3 : H3 D = some (.lst vacc) := f3.offK okD2 D (by simp) _ hD2
        have ra3 : Rps G S3 H3 acc vacc := ra2.mono (f3.kp ok2) f3.up
        have f13 : Fr S1 H1 A1 S3 H3 (A3 ++ [D]) := by
          refine (f2.trans (f3.wide (B := A2 ++ [D]) fun a h => List.mem_append_left _ h)) |> fun q => ⟨q.keep, q.up, q.back, fun a ha => ?_, q.dom⟩
          rcases List.mem_append.mp ha with h | h
          · exact q.own a h
          · exact f2.own a (List.mem_append_right _ h)
        cases b with
        | false =>
          rw [if_neg Bool.false_ne_true] at eL ⊢
          obtain ⟨R4, k4, l4⟩ := en3.wiped vs
          rw [hwp] at k4
          exact ⟨wipeE e4 vs, S3, R4, acc, vacc, k4, okD3.sub (List.Sublist.append_right l4 _), f13.less fun a ha => by
            rcases List.mem_append.mp ha with h | h
            · exact List.mem_append_left _ (l4.subset h)
            · exact List.mem_append_right _ h, hD3, ra3, eL⟩
        | true =>
          rw [if_pos rfl] at eL ⊢
          refine ⟨e4, S3, A3, en3, ok3', ?_⟩
          unfold cFz
          cases e5 : d e4 with
          | bad => rw [e5] at eL; cases eL
          | ex x2 e6 => rw [e5] at eL; cases eL
          | ok z e6 =>
            rw [e5] at eL
            dsimp only [R.bind] at eL ⊢
            intro yv H4 S4 A4 B4 en4 r4 ok4 f4
            obtain ⟨r4, rfl⟩ := r4
            by_cases hz : acc.length < 16777216
            · rw [if_pos hz] at eL
              have ok4' : Ok S4 H4 A4 := ok4
              have okD4 : Ok S4 H4 (A4 ++ [D]) := f4.off okD3 ok4
              have hD4 : H4 D = some (.lst vacc) := f4.offK okD3 D (by simp) _ hD3
              have ra4 : Rps G S4 H4 acc vacc := ra3.mono (f4.kp ok3') f4.up
              refine ⟨vacc, hD4, by rw [ra4.length, sizeLine_eq]; exact hz, ?_⟩
              obtain ⟨R5, k5, l5⟩ := en4.wiped vs
              rw [hwp] at k5
              have okD5 : Ok S4 H4 (R5 ++ [D]) := okD4.sub (List.Sublist.append_right l5 _)
              have hp : D ∈ R5 ++ [D] := by simp
              have fm : Fr S4 H4 (R5 ++ [D]) S4 (upd H4 D (.lst (vacc ++ [yv]))) (R5 ++ [D]) := Fr.mutate (u := .lst (vacc ++ [yv])) hp okD5
              have f14 : Fr S1 H1 A1 S4 H4 (A4 ++ [D]) := by
                refine (f13.trans (f4.wide (B := A3 ++ [D]) fun a h => List.mem_append_left _ h)) |> fun q => ⟨q.keep, q.up, q.back, fun a ha => ?_, q.dom⟩
                rcases List.mem_append.mp ha with h | h
                · exact q.own a h
                · exact f13.own a (List.mem_append_right _ h)
              refine ⟨wipeE e6 vs, S4, R5, acc ++ [frz z], vacc ++ [yv], k5.mono (fm.kp okD5) fm.up (fun a ha o ea => ?_), Ok.mutate hp okD5 trivial, (f14.less fun a ha => ?_).trans fm, upd_same, ((ra4.append (.one r4)).mono (fm.kp okD5) fm.up), eL⟩
              · have ne : a ≠ D := fun z => okD5.dis ha (by simp [z])
                rw [upd_ne ne]; exact ea
              · rcases List.mem_append.mp ha with h | h
                · exact List.mem_append_left _ (l5.subset h)
                · exact List.mem_append_right _ h
            · rw [if_neg hz] at eL; cases eL
  · have e : i = items.length := by omega
    subst e
    rw [List.drop_length] at eL
    cases eL
    exact .inl ⟨j2 (by simp), S, A, vacc, en, ok, f, hDl, racc⟩
theorem itF_list {S : AS} {H : Hp} {A : List Addr} {a : Addr} {ws : List W} {vs : List V} (ha : H a = some (.lst vs)) (hn : a ∉ A) (ok : Ok S H A) (r : Rps G S H ws vs) : ItOkF G S H A (Itl G.K a) ws := fun i S' H' A' f => by
  have h2 : H' a = some (.lst vs) := f.keep a _ ha hn fun _ z => nomatch z
  have hq : SqL G.K H' a vs := SqL.of h2
  have r' := r.mono (f.kp ok) f.up
  refine ⟨fun w e => ?_, fun e => ⟨vs, hq, rps_none r' e⟩⟩
  obtain ⟨x, hx, rx⟩ := r'.get e
  refine ⟨⟨vs, x, hq, hx⟩, fun x' H2 ⟨e2, y⟩ => ?_⟩
  subst e2
  exact ⟨fun _ _ e => e, rps_at r' e (y vs hq)⟩
theorem sx_lcK {elt tg : Expr} {x : Str} {px : Pos} {i : Nat} {ifs : List Expr} {scope : Scope} {own : List (Str × Nat)} {pos : Pos} {t : Tg} {dt : Den Bool} {d : Den Z} (hG : G.K = X.K) (hc : X.calm = true) (hN : X.N.Nodup) (hv : ∀ i ∈ slotsOf t, i ∈ own.map (·.2)) (hx : PE X (.Name x px) (tVar i)) (ok : BlkOk X.N X.env.scope scope own)
    (hg : ∀ (s : Shared) (H : Hp) (C : Addr) (cl : List (Str × Addr)) (fp : List Addr), PG (X.blk s H scope (compEnvC scope cl C X.env) fp) tg (gTg G.K t)) (ht : ∀ (s : Shared) (H : Hp) (C : Addr) (cl : List (Str × Addr)) (fp : List Addr), PTs (X.blk s H scope (compEnvC scope cl C X.env) fp) ifs (tD G UF rB dt))
    (he : ∀ (s : Shared) (H : Hp) (C : Addr) (cl : List (Str × Addr)) (fp : List Addr), PE (X.blk s H scope (compEnvC scope cl C X.env) fp) elt (tD G UF (rZ G) d)) (hs : ∀ x', foldedSetIterable (.Name x px) X.env x' = pure x') :
    PE X (.ListComp elt [⟨tg, .Name x px, ifs, 0⟩] scope pos) (tD G U (rZ G) (cLcK (own.map (·.2)) t i dt d)) :=
  (pe_lc hc hN (pi_seq hx) ok hg ht (fun s H C cl fp => pe_fz (he s H C cl fp)) hs).imp fun σ H Q ⟨env, S, A, en, okk, o⟩ => by
    unfold cLcK at o
    cases e : gets env i with
    | none => rw [e] at o; exact o.elim
    | some z =>
      rw [e] at o
      cases z with
      | L ws =>
        dsimp only at o
        obtain ⟨v, B, R, hσ, rz, pm, er⟩ := en.gets e
        obtain ⟨a, vs, rfl, ha, hr, rfl⟩ := rz
        have okB : Ok S H (R ++ [a]) := okk.perm (List.perm_append_comm.trans pm.symm)
        have okR : Ok S H R := okB.left
        have hna : a ∉ R := fun h => okB.dis h (by simp)
        have itk : ItOkF G S H R (Itl X.K a) ws := hG ▸ itF_list ha hna okR hr
        refine ⟨.ref a, hσ, a, rfl, .inl ⟨⟨vs, SqL.of ha⟩, ?_⟩⟩
        intro D hD
        cases e0 : noX (lcLoop (lcTurn (own.map (·.2)) t dt d) ws (wipeE (env.set i none) (own.map (·.2))) []) with
        | bad => rw [e0] at o; exact o.elim
        | ex x e => exact absurd e0 (by cases lcLoop (lcTurn (own.map (·.2)) t dt d) ws (wipeE (env.set i none) (own.map (·.2))) [] <;> simp [noX])
        | ok ys env2 =>
          rw [e0] at o
          have e0' := noX_ok e0
          have kN := keep_new (u := .lst []) hD
          obtain ⟨R1, w1, w2⟩ := er.wiped (own.map (·.2))
          have okN : Ok S (upd H D (.lst [])) (R1 ++ [D]) := Ok.newO (okR.sub w2) hD trivial
          have frN : Fr S H R S (upd H D (.lst [])) (R1 ++ [D]) := ⟨fun a u e _ _ => kN a u e, fun _ h => h, fun _ h => .inl h, fun a h => (List.mem_append.mp h).imp (fun h => w2.subset h) fun z => by rw [List.mem_singleton.mp z]; exact hD, fun a u e => ⟨u, kN a u e⟩⟩
          refine ⟨LcW G (own.map (·.2)) t dt d ws σ S H R D ys env2, ⟨ws.length, by simp, Nat.zero_le _, wipeE (env.set i none) (own.map (·.2)), S, R1, [], [], ext_en kN w1, okN, frN, upd_same, .nil, by simpa using e0'⟩, fun j m H' q => ?_⟩
          rcases lk_turns hv okR itk j m H' q with ⟨st, S2, A2, vacc, k1, k2, k3, k4, k5⟩ | q
          · refine .inl ⟨st, ?_⟩
            obtain ⟨R', r1, r2, r3⟩ := er.rest (k3.kp okR) k3.up k1.unwipe k2.left.nd (own.map (·.2))
            obtain ⟨R'', r4, r5⟩ := r1.drop i
            have hlen : i < (restE (env.set i none) env2 (own.map (·.2))).length := by
              have h1 : σ.length = env.length := en.length
              have h2 : σ.length = _ := r1.length
              have h3 := gets_lt e
              omega
            have okO := k3.off okB k2
            have hHa : H' a = some (.lst vs) := k3.keep a _ ha hna fun _ z => nomatch z
            obtain ⟨A3, p1, p2⟩ := r4.put' (z := .L ws) (B := [a]) hlen hσ ⟨a, vs, rfl, hHa, hr.mono (k3.kp okR) k3.up, rfl⟩
            have sub3 : ∀ b ∈ R'', b ∈ A2 := fun b hb => r3 b (r5.subset hb)
            have perm3 : ([D] ++ A3).Perm ([D] ++ ([a] ++ R'')) := List.Perm.append_left [D] p2
            refine o (.ref D) H' S2 A3 [D] p1 ⟨D, vacc, rfl, k4, k5, rfl⟩ ?_ ?_
            · refine Ok.perm ⟨?_, fun b hb => ?_, okO.dom, okO.tab⟩ perm3
              · have nd := okO.nd
                refine List.nodup_cons.mpr ⟨fun h => ?_, List.nodup_cons.mpr ⟨fun h => ?_, r2.sublist r5⟩⟩
                · rcases List.mem_cons.mp h with h | h
                  · exact okO.dis (A := A2 ++ [D]) (B := [a]) (a := D) (by simp) (by simp [h])
                  · exact k2.dis (sub3 D h) (by simp)
                · exact okO.dis (A := A2 ++ [D]) (B := [a]) (List.mem_append_left _ (sub3 a h)) (by simp)
              · refine okO.own b ?_
                rcases List.mem_cons.mp hb with rfl | hb
                · simp
                · rcases List.mem_cons.mp hb with rfl | hb
                  · simp
                  · exact List.mem_append_left _ (List.mem_append_left _ (sub3 b hb))
            · have hA : ∀ b ∈ R, b ∈ A := fun b hb => pm.mem_iff.mpr (List.mem_append_right _ hb)
              refine ⟨fun b u e hb nt => k3.keep b u e (fun h => hb (hA b h)) nt, k3.up, fun b h => (k3.back b h).imp id (Or.imp (hA b) id), fun b hb => ?_, k3.dom⟩
              rcases List.mem_cons.mp (perm3.mem_iff.mp hb) with rfl | hb
              · exact .inr hD
              · rcases List.mem_cons.mp hb with rfl | hb
                · exact .inl (pm.mem_iff.mpr (by simp))
                · exact (k3.own b (List.mem_append_left _ (sub3 b hb))).imp (hA b) id
          · exact .inr q
      | _ => exact o.elim
/-- what is made is handed on at once -/
theorem sx_fr {e : Expr} {d : Den Z} (h : PE X e (tD G U (rZ G) d)) : PE X e (tD G U (rZ G) (cFr d)) := (pe_fz h).imp fun σ H Q ⟨env, S, A, en, ok, o⟩ => by
  refine ⟨env, S, A, en, ok, ?_⟩
  unfold cFr at o
  unfold cFz
  generalize d env = r at o ⊢
  cases r <;> exact o
end
end Cb

end
section
set_option maxRecDepth 100000
set_option maxHeartbeats 4000000
/-! lambdas with captured names, handed on and called -/
namespace Cb
open PySem PySem.Spec PyProof.Rows L2 LamX NdefX
/-- a lambda of the text: its words, what its body means (slots: its parameters, what it captured) -/
structure CloD where
  qual : Str
  params : Arguments
  body : Expr
  scope : Scope
  ps : List Str
  fr : List Str
  m : Den Z
def asW : Z → Option W
  | .w x => some x
  | _ => none
def asWs : List Z → Option (List W)
  | [] => some []
  | z :: zs => match asW z, asWs zs with
    | some w, some ws => some (w :: ws)
    | _, _ => none
/-- a call of the lambda -/
def cloM (D : CloD) (caps : List W) : Mean := fun zs => match asWs zs with
  | none => .bad
  | some ws => if decide (ws.length = D.ps.length) && decide (caps.length = D.fr.length) then (match D.m ((ws ++ caps).map fun w => some (.w w)) with
    | .ok z _ => .ok z zs
    | .ex x _ => .ex x zs
    | .bad => .bad) else .bad
abbrev CTab := Str → Option CloD
def ctM (CT : CTab) (id : Str) (caps : List W) : Mean := match CT id with
  | some D => cloM D caps
  | none => fun _ => .bad
/-- the call of a name that holds a lambda -/
def cCallV (CT : CTab) (j : Nat) (d : Den (List Od)) : Den Z := fun env => match env[j]? with
  | some (some (.clo id caps)) => (d env).bind (callM (ctM CT id caps))
  | _ => .bad
/-- what a lambda captures -/
def cCaps : List Nat → Den (List W)
  | [] => cNil
  | i :: is => cCons (cVar i) (cCaps is)
/-- nm(.., lambda ..) -/
def cCallL (m : Str → List W → Mean) (id : Str) (is : List Nat) (d : Den (List Od)) : Den Z := fun env => (d env).bind fun ods env => (cCaps is env).bind fun caps env => callM (m id caps) ods env
/-- nm(.., x), x a name that holds a lambda -/
def cCallP (m : Str → List W → Mean) (j : Nat) (d : Den (List Od)) : Den Z := fun env => match env[j]? with
  | some (some (.clo id caps)) => (d env).bind (callM (m id caps))
  | _ => .bad

/-! ### the lambda on the heap -/
/-- the lambda D stands in the heap h, unknown to H -/
structure CloAt (D : CloD) (i : CloI) (h : Heap) (H : Hp) : Prop where
  ex : ∃ (cl : List (Str × Addr)) (pm ctv : Value), h.get? i.f = some (PySem.W.kla_obj "<lambda>" D.qual D.params D.body D.scope cl pm i.c ctv) ∧ H i.f = none ∧ i.q = D.qual ∧ CellsAt cl D.fr (i.vs.map some) h H
theorem CloAt.un {D : CloD} {i : CloI} {fs : List Addr} {H H' : Hp} {h h' : Heap} (c : CloAt D i h H) (u : Un fs [] H H' h h') (hf : i.f ∉ fs) : CloAt D i h' H' := by
  obtain ⟨cl, pm, ctv, h1, h2, h3, ⟨q1, q2, q3, q4⟩⟩ := c
  have cell : ∀ {c : Addr} {v : Option Value}, H c = none → h.IsCell c v → h'.IsCell c v := fun {c v} n ⟨o, ho, hd⟩ => by
    obtain ⟨sl, q⟩ := u.any ho n (by simp)
    exact ⟨_, q, hd⟩
  refine ⟨cl, pm, ctv, u.keep _ _ h1 h2 hf (by simp), u.free _ _ h1 h2 (by simp), h3, q1, fun y c e => ?_, q3, fun j y e => ?_⟩
  · obtain ⟨n, v, o, ho, hd⟩ := q2 y c e
    exact ⟨u.free _ _ ho n (by simp), v, cell n ⟨o, ho, hd⟩⟩
  · obtain ⟨c, e1, e2⟩ := q4 j y e
    refine ⟨c, e1, fun v ev => ?_⟩
    obtain ⟨u', r, z⟩ := e2 v ev
    exact ⟨u', r, cell (q2 y c e1).1 z⟩
theorem CloAt.hp {D : CloD} {i : CloI} {H H' : Hp} {h : Heap} (c : CloAt D i h H) (u : ∀ b, H b = none → (∃ o, h.get? b = some o) → H' b = none) : CloAt D i h H' := by
  obtain ⟨cl, pm, ctv, h1, h2, h3, ⟨q1, q2, q3, q4⟩⟩ := c
  exact ⟨cl, pm, ctv, h1, u _ h2 ⟨_, h1⟩, h3, q1, fun y c e => by
    obtain ⟨n, v, o, ho, hd⟩ := q2 y c e
    exact ⟨u _ n ⟨o, ho⟩, v, o, ho, hd⟩, q3, q4⟩
/-- in this context: the lambda stood when it was entered -/
structure CloX (X : Cx) (D : CloD) (i : CloI) : Prop where
  at_ : CloAt D i X.s_0.heap X.H_0
  out : i.f ∉ X.fs
  ex : X.ex = []
theorem CloX.here {X : Cx} {D : CloD} {i : CloI} {pins : List (Addr × Obj)} {σ : L2.St} {H : Hp} {s : Shared} (c : CloX X D i) (I : Inv X pins σ H s) : CloAt D i s.heap H := by
  have b := I.base
  rw [c.ex] at b
  exact c.at_.un b c.out
/-- the lambda's own promise -/
abbrev nfOf (D : CloD) (cl : List (Str × Addr)) (c' : Addr) : NF := ⟨"<lambda>", D.qual, D.params, [], D.scope, cl, c'⟩
structure CloOk [Tb] (P : Program) (w : World) (K : PySem.W.Frag) (mg : Str → Option Value) (base : Heap) (G : Gc) (k : Nat) (D : CloD) : Prop where
  S : NScope (D.ps ++ D.fr) D.ps D.fr D.scope
  b : ∀ (cl : List (Str × Addr)) (pm ctv : Value) (c' : Addr) (us : List Value), us.length = D.ps.length → bindArgs (PySem.W.kla_fn "<lambda>" D.qual D.params D.body D.scope cl pm (.ref c') ctv) ⟨us, []⟩ = pure (D.ps.zip us)
  body : ∀ (f : Addr) (cl : List (Str × Addr)) (c' : Addr) (A : Around) (outer : List PySem.Env) (s : Shared) (H : Hp) (E : XK), Room k (A.deeper (envF (nfOf D cl c') f s.heap.objs.size)) →
    PE (ncx (L2.CX P w) P w K mg base (D.ps ++ D.fr) (nfOf D cl c') f A outer s H E) D.body (tD G (fun cls d _ H => E cls d H) (rZ G) D.m)
theorem asWs_map : ∀ {zs : List Z} {ws : List W}, asWs zs = some ws → zs = ws.map Z.w
  | [], ws, h => by cases h; rfl
  | z :: zs, ws, h => by
    unfold asWs at h
    cases z with
    | w x =>
      cases q : asWs zs with
      | none => rw [q] at h; cases h
      | some us => rw [q] at h; cases h; rw [asWs_map q]; rfl
    | _ => cases h
theorem rzs_w {G : Gc} {S : AS} {H : Hp} : ∀ {ws : List W} {vs : List V} {Bs : List (List Addr)}, RZs G S H (ws.map Z.w) vs Bs → Rps G S H ws vs ∧ Bs.flatten = []
  | [], vs, Bs, ⟨h1, h2⟩ => by subst h1 h2; exact ⟨.nil, rfl⟩
  | w :: ws, vs, Bs, ⟨v, r, B, Br, e1, e2, ⟨h1, h1'⟩, h2⟩ => by
    subst e1 e2 h1'
    obtain ⟨a, b⟩ := rzs_w h2
    exact ⟨.cons h1 a, by simpa using b⟩
theorem rps_w {G : Gc} {S : AS} {H : Hp} : ∀ {ws : List W} {vs : List V}, Rps G S H ws vs → RZs G S H (ws.map Z.w) vs (ws.map fun _ => [])
  | [], vs, h => by rw [h.inv0]; exact ⟨rfl, rfl⟩
  | w :: ws, vs, h => by
    obtain ⟨v, r, rfl, h1, h2⟩ := h.inv
    exact ⟨v, r, [], _, rfl, rfl, ⟨h1, rfl⟩, rps_w h2⟩
theorem flat_nil {ws : List W} : (ws.map fun _ => ([] : List Addr)).flatten = [] := by induction ws <;> simp_all
/-- the lambda runs -/
theorem clo_run [Tb] {P : Program} {w : World} {K : PySem.W.Frag} {mg : Str → Option Value} {base : Heap} {G : Gc} {k n : Nat} {D : CloD} {i : CloI} {A : Around} {outer : List PySem.Env} {s : Shared} {H : Hp} {us : List Value} {vs : List V} {caps : List W} {S : AS} {Q : VK} {E : XK}
    (F : CloOk P w K mg base G k D) (hr : Room (k + 1) A) (e0 : Env0 P w K mg base A outer s H) (c : CloAt D i s.heap H) (hc : H i.c = some (CodeO i.c i.q)) (hcap : Rps G S H caps i.vs) (r : Vals vs us) (h : spS G S n (cloM D caps) vs H Q E) :
    codeAny (model P w) A (.call (.ref i.f) ⟨us, []⟩) (CR (L2.CX P w) outer P w H s Q E) s := by
  obtain ⟨hl, zs, Bs, rz, ok, h⟩ := h
  unfold cloM at h
  cases ew : asWs zs with
  | none => rw [ew] at h; exact h.elim
  | some ws =>
    rw [ew] at h
    dsimp only at h
    by_cases hlen : (decide (ws.length = D.ps.length) && decide (caps.length = D.fr.length)) = true
    · rw [if_pos hlen] at h
      obtain ⟨l1, l2⟩ := Bool.and_eq_true_iff.mp hlen
      have l1 := of_decide_eq_true l1
      have l2 := of_decide_eq_true l2
      obtain rfl := asWs_map ew
      obtain ⟨rw1, eB⟩ := rzs_w rz
      rw [eB] at ok h
      obtain ⟨cl, pm, ctv, h1, h2, h3, C⟩ := c
      have lim : s.heap.NoLimit := e0.mod.nolimit.keeps fun b o e => (e0.bs b o e).1
      have hvl : vs.length = D.ps.length := by rw [rw1.length]; exact l1
      obtain ⟨⟨oc, cvs, tq, hoc, hdc, hvc⟩, _, _⟩ := e0.hok i.c _ hc
      rw [h3] at hvc
      refine PySem.W.kla_callFunE hr.depth h1 rfl F.S.co F.S.gen rfl ⟨i.c, oc, cvs, tq, rfl, hoc, hdc, hvc⟩ ?_
      rw [F.b cl pm ctv i.c us (by rw [← r.length]; exact hvl)]
      refine wpAny_pure (wpAny_newFunctionEnv F.S.nocell (fun ⟨n, _⟩ hy => F.S.par n (List.of_mem_zip hy).1) (fun h₁ hns hsb => ⟨lim.fresh _ hsb, ?_⟩) F.S.kind)
      show codeAny _ _ (.expr D.body (envF (nfOf D cl i.c) i.f s.heap.objs.size)) _ _
      have kp : ∀ b o, s.heap.get? b = some o → h₁.get? b = some o := fun b o e => hsb.extBut b o (Nat.ne_of_lt (Heap.lt_size e)) (Heap.get?_push_of_some _ e)
      have J : Inv (ncx (L2.CX P w) P w K mg base (D.ps ++ D.fr) (nfOf D cl i.c) i.f A outer s H E) [] (startF (D.ps ++ D.fr) vs (i.vs.map some)) H { s with heap := h₁, toks := s.toks + (D.ps.zip us).length } :=
        inv_startN (F := nfOf D cl i.c) F.S hr.hd e0 hvl r C hns kp
      have est : startF (D.ps ++ D.fr) vs (i.vs.map some) = (vs ++ i.vs).map some ++ List.replicate 0 none := by
        unfold startF
        have e1 : (D.ps ++ D.fr).length - vs.length - (i.vs.map some).length = 0 := by
          rw [List.length_append, List.length_map, hvl, hcap.length, l2]; omega
        rw [e1]; simp
      rw [est] at J
      have en : EnvR G S H (((ws ++ caps).map Z.w).map some ++ List.replicate 0 none) ((vs ++ i.vs).map some ++ List.replicate 0 none) ((ws ++ caps).map fun _ => ([] : List Addr)).flatten := envR_start (rps_w (rw1.append hcap))
      rw [flat_nil] at en
      have ee : ((ws ++ caps).map Z.w).map some ++ List.replicate 0 none = (ws ++ caps).map fun w => some (Z.w w) := by simp [Function.comp_def]
      rw [ee] at en
      refine PySem.W.kla_codeExpr (wpAny_mono ((F.body i.f cl i.c A outer s H E (hr.deeper _)).run [] _ _ H Q J ⟨_, S, [], en, ok, ?_⟩) (fun v s' hq => ?_) fun e s' hq => hq)
      · cases em : D.m ((ws ++ caps).map fun w => some (Z.w w)) with
        | bad => rw [em] at h; exact h.elim
        | ok z e =>
          rw [em] at h
          intro v H' S' A' B k1 k2 k3 k4
          have back : RZs G S' H' (ws.map Z.w) vs (ws.map fun _ => []) := rps_w (rw1.mono (k4.kp ok) k4.up)
          refine h v H' S' B _ back k2 ?_ ?_
          · rw [flat_nil, List.append_nil]; exact k3.left
          · rw [flat_nil, List.append_nil]
            exact k4.less fun a ha => List.mem_append_left _ ha
        | ex x e =>
          rw [em] at h
          intro cls d H' S' A' k0 k1 k3 k4
          have back : RZs G S' H' (ws.map Z.w) vs (ws.map fun _ => []) := rps_w (rw1.mono (k4.kp ok) k4.up)
          refine h cls d H' S' _ k0 back ?_ ?_
          · rw [flat_nil]; exact k3.nil
          · rw [flat_nil]
            exact k4.less fun a ha => absurd ha (by simp)
      · obtain ⟨w', H', J', rv, q⟩ := hq
        exact ⟨w', H', J'.os, J'.bare, J'.base, J'.hok, rv, q⟩
    · rw [if_neg hlen] at h; exact h.elim
end Cb

end
section
set_option maxRecDepth 100000
set_option maxHeartbeats 4000000
namespace Cb
open PySem PySem.Spec PyProof.Rows L2 LamX NdefX
section
variable [T : Tb] {G : Gc} {U : L2.WX} {X : Cx} {CT : CTab}
theorem EnvR.cloAt {S : AS} {H : Hp} {env : Env} {σ : L2.St} {A : List Addr} (h : EnvR G S H env σ A) : ∀ {j : Nat} {id : Str} {caps : List W}, env[j]? = some (some (.clo id caps)) → ∃ o, σ[j]? = some o ∧ ClOk G S H id caps o := by
  induction h with
  | nil => intro j id caps e; simp at e
  | off _ ih =>
    intro j id caps e
    cases j with
    | zero => simp at e
    | succ j => simpa using ih (j := j) (by simpa using e)
  | on r _ ih =>
    intro j id caps e
    cases j with
    | zero => simp at e; subst e; exact r.elim
    | succ j => simpa using ih (j := j) (by simpa using e)
  | er q _ ih =>
    intro j id caps e
    cases j with
    | zero => simp at e
    | succ j => simpa using ih (j := j) (by simpa using e)
  | cl q _ ih =>
    intro j id caps e
    cases j with
    | zero => simp at e; obtain ⟨rfl, rfl⟩ := e; exact ⟨_, rfl, q⟩
    | succ j => simpa using ih (j := j) (by simpa using e)
theorem hp_code {S S1 : AS} {H H1 : Hp} {A A1 : List Addr} (f : Fr S H A S1 H1 A1) (ok : Ok S H A) {c : Addr} {q : Str} (h : H c = some (CodeO c q)) : H1 c = some (CodeO c q) := f.kp ok _ _ h (.inr codeO_nmu) codeO_ne
/-- x(..), x a name that holds the lambda -/
theorem sx_callV {i : CloI} {D : CloD} {k j : Nat} {x : Str} {e : Expr} {es : List Expr} {p pos : Pos} {d : Den (List Od)} (hcl : Tb.clo = some i) (hD : CT i.id = some D) (cx : CloX X D i) (F : CloOk X.prog X.w X.K X.mg X.base G k D) (hr : Room (k + 1) X.A) (tk : Takes X U)
    (hl : ∀ env os env', d env = .ok os env' → os.length = D.ps.length) (ns : Nst e) (ha : PA X (e :: es) (tD G U (rOs G) d)) (hN : X.N[j]? = some x) (hv : Vis X.env.scope x) (hpl : (backTo pos (starEach es X.env)).any (·.1) = false)
    (hd : (x == ("__debug__" : Str)) = false) (hcd : (x == ("__classdict__" : Str)) = false) : PE X (.Call (.Name x p) (e :: es) [] pos) (tD G U (rZ G) (cCallV CT j d)) := by
  refine ⟨fun pins s σ H Q I ⟨env, S, A, en, ok, o⟩ => ?_⟩
  have go : ∀ id caps, env[j]? = some (some (.clo id caps)) → wpAny (model X.prog X.w) X.A (eval (.Call (.Name x p) (e :: es) [] pos) X.env) (EP X pins σ Q) X.xe s := by
    intro id caps ej
    unfold cCallV at o
    rw [ej] at o
    dsimp only at o
    obtain ⟨ov, hσ, i', q1, q2, q3, q4, q5⟩ := en.cloAt ej
    rw [hcl] at q1
    cases q1
    subst q2 q3
    have em : ctM CT i.id caps = cloM D caps := by unfold ctM; rw [hD]
    rw [em] at o
    refine wpAny_Call_Name_kw (thn ((pe_var (pos := p) (i := j) hN hv hd hcd).run pins s σ H (fun v H1 => v = .ref i.f ∧ H1 = H) I ⟨.ref i.f, hσ, rfl, rfl⟩) fun u s1 ⟨v, H1, I1, r1, ev, eH⟩ => ?_)
    subst ev
    rw [eH] at I1
    obtain rfl : u = Value.ref i.f := r1
    have fat : ∀ {s2 : Shared} {H2 : Hp}, Inv X pins σ H2 s2 → PySem.W.FnAt i.f s2.heap := fun {s2 H2} I2 => by
      obtain ⟨cl, pm, ctv, h1, _⟩ := cx.here I2
      exact ⟨_, _, _, _, h1⟩
    refine PySem.W.callWith_F (first := []) (fat I1) (thn (ha.run pos pins s1 σ H (fun vs H1 => ∃ S1, spS G S1 D.ps.length (cloM D caps) vs H1 Q (WE U σ) ∧ Rps G S1 H1 caps i.vs ∧ H1 i.c = some (CodeO i.c i.q)) I1
      ⟨env, S, A, en, ok, (Out.bind (rel := rOs G) (fun h => h.2) o).mono fun vs H1 ⟨os, env1, S1, A1, e1, en1, ok1, ⟨r1, _⟩, f1, o2⟩ => ⟨S1, call_outS (hl _ _ _ e1) en1 ok1 r1 o2, q4.mono (f1.kp ok) f1.up, hp_code f1 ok q5⟩⟩) fun us s2 ⟨vs, H2, I2, r, S1, sp, rc, hc⟩ => ⟨fat I2, ?_⟩) (ns _ _) hpl
    show wpAny _ _ (call (.ref i.f) us) _ _ _
    refine wpAny_call (codeAny_mono (clo_run F hr I2.env0 (cx.here I2) hc rc r sp) fun r s' hq => ?_)
    cases r with
    | error e => exact passAt tk σ pins H2 s2 e s' I2 hq
    | ok fl =>
      cases fl with
      | ret u => exact I2.after hq
      | next => exact False.elim hq
      | brk => exact False.elim hq
      | cont => exact False.elim hq
  unfold cCallV at o
  cases ej : env[j]? with
  | none => rw [ej] at o; exact o.elim
  | some z =>
    cases z with
    | none => rw [ej] at o; exact o.elim
    | some z =>
      cases z with
      | clo id caps => exact go id caps ej
      | _ => rw [ej] at o; exact o.elim

/-! ### a lambda is made -/
theorem lam_new2 {c P : Addr} {qn : Str} {params : Arguments} {body : Expr} {scope : Scope} {pos : Pos} {pins : List (Addr × Obj)} {σ : L2.St} {H : Hp} {s : Shared} {E Q : Value → Shared → Prop} (I : Inv X pins σ H s) (B : TabB X.base X.mg c P) (hc : X.env.code = .ref c) (hq : X.env.qual ++ "<lambda>" = qn)
    (hP : (P, qn) ∈ T.T) (hu : ∀ p ∈ T.T, p.1 = P → p.2 = qn) (hT : Tabs T.T H) (hd : defaultsOf params X.env = ([], [])) (hf : ∀ y ∈ scope.names, y.2 = .free → ∃ c, X.env.cells.lookup y.1 = some c)
    (fin : ∀ (f c' : Addr) (pm ct : Value) (H1 : Hp) (t : Shared), Inv X pins σ H1 t → Made H H1 → Tabs T.T H1 → t.heap.get? f = some (PySem.W.kla_obj "<lambda>" qn params body scope (cloFrom X.env.cells scope.names []) pm c' ct) → H1 f = none → f ∉ frs X.stack → H1 c' = some (CodeO c' qn) → Q (.ref f) t) :
    wpAny (model X.prog X.w) X.A (eval (.Lambda params body scope pos) X.env) Q E s := by
  subst hq
  have clos := closure_ok (scope := scope) (env := X.env) hf
  obtain ⟨tab, a1, a2, a3⟩ := hT _ hP
  have g0 : s.heap.get? P = some { cls := .none, data := .fields tab } := I.hok P _ a1
  have g1 : s.heap.BuiltinsAt X.mg P := B.bm.keeps I.bk
  have g2 := I.mod.glob.keeps I.bk
  have g3 := B.code.keeps I.bk
  have nofr : ∀ f, s.heap.objs.size ≤ f → f ∉ frs X.stack := fun f hf z => by
    rcases List.mem_cons.mp (I.stkSub _ z) with e | e
    · have h1 := I.lt
      rw [← e] at h1
      exact Nat.lt_irrefl _ (Nat.lt_of_lt_of_le h1 hf)
    · exact I.nofs hf e
  refine PySem.W.kla_eval hd ?_
  cases q : codeAmong pos tab.toList with
  | some cv =>
    obtain ⟨c', rfl, hc'⟩ := a3 pos cv q
    refine PySem.W.kla_makeFunctionHit (mg := X.mg) clos I.ok.glob g2 hc g3 g0 a2 q g1 fun ct h tk hk hz => ?_
    have J : Inv X pins σ H { s with heap := h.push (PySem.W.kla_obj "<lambda>" (X.env.qual ++ "<lambda>") params body scope (cloFrom X.env.cells scope.names []) ((X.mg "__name__").getD .none) c' ct), toks := tk } := I.kept fun b o e => Heap.get?_push_of_some _ (hk b o e)
    exact fin h.objs.size c' _ ct H _ J ⟨fun _ _ e _ => e, fun _ o e => ⟨o, e⟩⟩ hT (Heap.get?_push_size _ rfl) (I.hok.fresh hz) (nofr _ hz) hc'
  | none =>
    refine PySem.W.kla_makeFunction (mg := X.mg) clos I.ok.glob g2 hc g3 g0 a2 q B.gP g1 fun c' ct h tk hk hge hlt hr ht => ?_
    obtain ⟨c2, oc, vs, tq, ec, hoc, hdt, hv⟩ := hr
    cases ec
    have n0 : H c' = none := I.hok.fresh hge
    have hsz : s.heap.objs.size ≤ h.objs.size := Nat.le_trans hge (Nat.le_of_lt hlt)
    have J := inv_table (t' := tk) (more := #[rawInt pos.line, rawInt pos.col, .ref c']) (h' := h.push (PySem.W.kla_obj "<lambda>" (X.env.qual ++ "<lambda>") params body scope (cloFrom X.env.cells scope.names []) ((X.mg "__name__").getD .none) c' ct)) I a1
      (fun b o hb e => Heap.get?_push_of_some _ (hk b o hb e)) (Heap.get?_push_of_some _ ht) hge ⟨oc, vs, tq, Heap.get?_push_of_some _ hoc, hdt, hv⟩
    have kp : ∀ b o, H b = some o → NoT o → (upd (upd H P (.tbl (tab ++ #[rawInt pos.line, rawInt pos.col, .ref c']))) c' (CodeO c' (X.env.qual ++ "<lambda>"))) b = some o := fun b o e n => by
      have nP : b ≠ P := fun z => by
        rw [z, a1] at e
        exact n tab (Option.some.inj e).symm
      rw [upd_ne (ne_of_none e n0), upd_ne nP, e]
    have at_P : (upd (upd H P (.tbl (tab ++ #[rawInt pos.line, rawInt pos.col, .ref c']))) c' (CodeO c' (X.env.qual ++ "<lambda>"))) P = some (.tbl (tab ++ #[rawInt pos.line, rawInt pos.col, .ref c'])) := by
      rw [upd_ne (ne_of_none a1 n0), upd_same]
    have lst : (tab ++ #[rawInt pos.line, rawInt pos.col, .ref c']).toList = tab.toList ++ [rawInt pos.line, rawInt pos.col, .ref c'] := by simp
    refine fin h.objs.size c' _ ct _ _ J ⟨kp, fun b o e => ?_⟩ (fun p hp => ?_) (Heap.get?_push_size _ rfl) ?_ (nofr _ hsz) upd_same
    · by_cases z : b = P
      · rw [z]; exact ⟨_, at_P⟩
      · exact ⟨o, by rw [upd_ne (ne_of_none e n0), upd_ne z, e]⟩
    · by_cases z : p.1 = P
      · rw [hu p hp z, z]
        refine ⟨_, at_P, by rw [lst]; exact PySem.TriplesOk_snoc _ _ _ _ a2, fun p' cv hcv => ?_⟩
        rw [lst] at hcv
        rcases among_app _ a2 hcv with k | k
        · obtain ⟨c0, e1, e2⟩ := a3 p' cv k
          exact ⟨c0, e1, kp _ _ e2 codeO_ne⟩
        · exact ⟨c', k, upd_same⟩
      · obtain ⟨ps, b1, b2, b3⟩ := hT p hp
        refine ⟨ps, by rw [upd_ne (ne_of_none b1 n0), upd_ne z, b1], b2, fun p' cv hcv => ?_⟩
        obtain ⟨c0, e1, e2⟩ := b3 p' cv hcv
        exact ⟨c0, e1, kp _ _ e2 codeO_ne⟩
    · have n1 : h.objs.size ≠ c' := Nat.ne_of_gt hlt
      have n2 : h.objs.size ≠ P := Nat.ne_of_gt (Nat.lt_of_lt_of_le (Heap.lt_size g0) hsz)
      rw [upd_ne n1, upd_ne n2]
      exact I.hok.fresh hsz

/-! ### argument lists that end with a lambda -/
def rL (G : Gc) : Rel (List Od × Str × List W) (List V × CloI) := fun σ S H a b B => OdRs G σ S H a.1 b.1 ∧ a.2.1 = b.2.id ∧ Rps G S H a.2.2 b.2.vs ∧ H b.2.c = some (CodeO b.2.c b.2.q) ∧ B = []
structure PAL (G : Gc) (U : L2.WX) (X : Cx) (CT : CTab) (es : List Expr) (d : Den (List Od × Str × List W)) : Prop where
  run : ∀ (pos : Pos) (pins : List (Addr × Obj)) (s : Shared) (σ : L2.St) (H : Hp) (Q : List V × CloI → Hp → Prop), Inv X pins σ H s → tD G U (rL G) d σ H Q → wpAny (model X.prog X.w) X.A (spliced (backTo pos (starEach es X.env)))
    (fun us s' => ∃ vs ci H' D, Inv X pins σ H' s' ∧ Vals (vs ++ [.ref ci.f]) us ∧ CT ci.id = some D ∧ CloAt D ci s'.heap H' ∧ ci.f ∉ frs X.stack ∧ Q (vs, ci) H') X.xe s
/-- the arguments, what the lambda captures -/
def cAL (d : Den (List Od)) (id : Str) (is : List Nat) : Den (List Od × Str × List W) := fun env => (d env).bind fun ods env => (cCaps is env).bind fun caps env => .ok (ods, id, caps) env
def cAP (d : Den (List Od)) (j : Nat) : Den (List Od × Str × List W) := fun env => (d env).bind fun ods env => match env[j]? with
  | some (some (.clo id caps)) => .ok (ods, id, caps) env
  | _ => .bad
def cCallX (m : Str → List W → Mean) (d : Den (List Od × Str × List W)) : Den Z := fun env => (d env).bind fun p env => callM (m p.2.1 p.2.2) p.1 env
def consL (de : Den Od) (d : Den (List Od × Str × List W)) : Den (List Od × Str × List W) := fun env => (de env).bind fun o env => (d env).bind fun p env => .ok (o :: p.1, p.2) env
theorem cAL_cons {de : Den Od} {ds : Den (List Od)} {id : Str} {is : List Nat} : cAL (cConsO de ds) id is = consL de (cAL ds id is) := by
  funext env
  unfold cAL consL cConsO
  cases de env with
  | ok o e1 =>
    dsimp only [R.bind]
    cases ds e1 with
    | ok os e2 => dsimp only [R.bind]; cases cCaps is e2 <;> rfl
    | _ => rfl
  | _ => rfl
theorem cAP_cons {de : Den Od} {ds : Den (List Od)} {j : Nat} : cAP (cConsO de ds) j = consL de (cAP ds j) := by
  funext env
  unfold cAP consL cConsO
  cases de env with
  | ok o e1 =>
    dsimp only [R.bind]
    cases ds e1 with
    | ok os e2 =>
      dsimp only [R.bind]
      cases e2[j]? with
      | none => rfl
      | some z =>
        cases z with
        | none => rfl
        | some z => cases z <;> rfl
    | _ => rfl
  | _ => rfl
theorem pal_cons {e : Expr} {es : List Expr} {de : Den Od} {d : Den (List Od × Str × List W)} (ns : Nst e) (he : PE X e (tD G U (rO G) de)) (hs : PAL G U X CT es d) : PAL G U X CT (e :: es) (consL de d) := by
  refine ⟨fun pos pins s σ H Q I ⟨env, S, A, en, ok, o⟩ => ?_⟩
  rw [ns es X.env]
  show wpAny _ _ (spliced ((false, eval e X.env) :: backTo pos (starEach es X.env))) _ _ s
  refine Calls.spliced_cons (thn (he.run pins s σ H (fun v H1 => Nxt G σ S H A (rO G) (de env) v H1 fun S1 A1 od env1 => Out G U σ S1 H1 A1 (rL G) ((d env1).bind fun p env => .ok (od :: p.1, p.2) env) Q) I ⟨env, S, A, en, ok, Out.bind (rel := rO G) (fun h => h.2) o⟩) fun u s1 ⟨v, H1, I1, rv, od, env1, S1, A1, _, en1, ok1, ⟨r1, _⟩, f1, o1⟩ => ?_)
  refine thn (hs.run pos pins s1 σ H1 (fun b H2 => Q (v :: b.1, b.2) H2) I1 ⟨env1, S1, A1, en1, ok1, (Out.bind (rel := rL G) (fun h => h.2.2.2.2) o1).mono fun b H2 ⟨p, env2, S2, A2, _, en2, ok2, ⟨k1, k2, k3, k4, _⟩, f2, o2⟩ => ?_⟩) fun us s2 ⟨vs, ci, H2, D, I2, r2, q⟩ => ⟨v :: vs, ci, H2, D, I2, .cons rv r2, q⟩
  exact o2 (v :: b.1, b.2) H2 S2 A2 [] en2 ⟨⟨v, b.1, rfl, r1.mono f2 ok1, k1⟩, k2, k3, k4, rfl⟩ ok2 (Fr.refl ok2)
/-- what the slots hold is captured -/
theorem caps_out {σ : L2.St} {H : Hp} : ∀ {is : List Nat} {env : Env} {S : AS} {A : List Addr} {Q : List V → Hp → Prop}, EnvR G S H env σ A → Ok S H A → Out G U σ S H A (rWs G) (cCaps is env) Q → ∃ vs, is.map (slotAt σ) = vs.map some ∧ Q vs H
  | [], env, S, A, Q, en, ok, o => ⟨[], rfl, o [] H S A [] en ⟨.nil, rfl⟩ ok (Fr.refl ok)⟩
  | i :: is, env, S, A, Q, en, ok, o => by
    have o1 : Out G U σ S H A (rWs G) ((cFz (cVar i) env).bind fun w env => (cCaps is env).bind fun ws env => .ok (w :: ws) env) Q := by
      have e : (cFz (cVar i) env).bind (fun w env => (cCaps is env).bind fun ws env => R.ok (w :: ws) env) = cCaps (i :: is) env := by
        show _ = cCons (cVar i) (cCaps is) env
        unfold cFz cCons
        cases cVar i env <;> rfl
      rw [e]; exact o
    have o2 := frz_out (Out.bind (rel := rW G) (fun h => h.2) o1)
    obtain ⟨v, hs, w, env1, S1, A1, _, en1, ok1, ⟨r1, _⟩, f1, o3⟩ := var_out en ok o2
    obtain ⟨vs, e1, ws, env2, S2, A2, _, en2, ok2, ⟨r2, _⟩, f2, o4⟩ := caps_out en1 ok1 (Out.bind (rel := rWs G) (fun h => h.2) o3)
    refine ⟨v :: vs, ?_, o4 (v :: vs) H S2 A2 [] en2 ⟨.cons (r1.mono (f2.kp ok1) f2.up) r2, rfl⟩ ok2 (Fr.refl ok2)⟩
    rw [List.map_cons, List.map_cons, e1, slotAt_of hs]
theorem pal_lam {id : Str} {D : CloD} {c P : Addr} {is : List Nat} {pos : Pos} (hD : CT id = some D) (B : TabB X.base X.mg c P) (hc : X.env.code = .ref c) (hq : X.env.qual ++ "<lambda>" = D.qual)
    (hP : (P, D.qual) ∈ T.T) (hu : ∀ p ∈ T.T, p.1 = P → p.2 = D.qual) (hd : defaultsOf D.params X.env = ([], [])) (hfree : ∀ y ∈ D.scope.names, y.2 = .free → X.env.scope.names.lookup y.1 = some .cell ∨ X.env.scope.names.lookup y.1 = some .free)
    (hfr : ∀ y ∈ D.fr, (y, NameKind.free) ∈ D.scope.names) (hjs : is.map (fun j => X.N[j]?) = D.fr.map some) : PAL G U X CT [.Lambda D.params D.body D.scope pos] (cAL cNil id is) := by
  refine ⟨fun ppos pins s σ H Q I ⟨env, S, A, en, ok, o⟩ => ?_⟩
  have o1 : Out G U σ S H A (rL G) ((cCaps is env).bind fun caps env => .ok ([], id, caps) env) Q := o
  obtain ⟨vs, es, caps, env1, S1, A1, _, en1, ok1, ⟨rc, _⟩, f1, o2⟩ := caps_out en ok (Out.bind (rel := rWs G) (fun h => h.2) o1)
  have hf : ∀ y ∈ D.scope.names, y.2 = .free → ∃ c, X.env.cells.lookup y.1 = some c := fun y hy e => (hfree y hy e).elim (fun z => I.ok.has _ (.inl z)) fun z => I.ok.has _ (.inr z)
  show wpAny _ _ (spliced ((false, eval (.Lambda D.params D.body D.scope pos) X.env) :: [])) _ _ s
  refine Calls.spliced_cons (lam_new2 I B hc hq hP hu ok1.tab hd hf fun f c' pm ct H1 t I1 M hT hg hn hfs hco => Calls.spliced_nil ?_)
  have fr : Fr S1 H A1 S1 H1 A1 := ⟨fun a u e _ nt => M.keep a u e nt, fun _ h => h, fun _ h => .inl h, fun _ h => .inl h, fun a u e => M.dom a u e⟩
  have kA : ∀ a ∈ A1, ∀ u, H a = some u → H1 a = some u := fun a ha u e => M.keep a u e (NoT.mu (e ▸ (ok1.own a ha).2))
  have ok2 : Ok S1 H1 A1 := ⟨ok1.nd, fun a ha => by
    have m := ok1.own a ha
    obtain ⟨u, e⟩ := mut_some m.2
    exact ⟨m.1, by rw [kA a ha u e, ← e]; exact m.2⟩, fun a ha => by
    obtain ⟨u, e⟩ := ok1.dom a ha
    exact M.dom a u e, hT⟩
  have C := cells_of I1 (Caps.made (fr := D.fr) (js := is) I1.ok hfree hfr hjs)
  rw [es] at C
  refine ⟨[], ⟨id, f, c', D.qual, vs⟩, H1, D, I1, .cons rfl .nil, hD, ⟨_, pm, ct, hg, hn, rfl, C⟩, hfs, ?_⟩
  exact o2 ([], ⟨id, f, c', D.qual, vs⟩) H1 S1 A1 [] (en1.mono (fr.kp ok1) fr.up kA) ⟨rfl, rfl, rc.mono (fr.kp ok1) fr.up, hco, rfl⟩ ok2 fr
theorem pal_name {i : CloI} {D : CloD} {j : Nat} {x : Str} {p : Pos} (hcl : Tb.clo = some i) (hD : CT i.id = some D) (cx : CloX X D i) (hN : X.N[j]? = some x) (hv : Vis X.env.scope x)
    (hd : (x == ("__debug__" : Str)) = false) (hcd : (x == ("__classdict__" : Str)) = false) : PAL G U X CT [.Name x p] (cAP cNil j) := by
  refine ⟨fun ppos pins s σ H Q I ⟨env, S, A, en, ok, o⟩ => ?_⟩
  have go : ∀ id caps, env[j]? = some (some (.clo id caps)) → Out G U σ S H A (rL G) (.ok ([], id, caps) env) Q → wpAny (model X.prog X.w) X.A (spliced (backTo ppos (starEach [.Name x p] X.env))) (fun us s' => ∃ vs ci H' D, Inv X pins σ H' s' ∧ Vals (vs ++ [.ref ci.f]) us ∧ CT ci.id = some D ∧ CloAt D ci s'.heap H' ∧ ci.f ∉ frs X.stack ∧ Q (vs, ci) H') X.xe s := by
    intro id caps ej o
    obtain ⟨ov, hσ, i', q1, q2, q3, q4, q5⟩ := en.cloAt ej
    rw [hcl] at q1
    cases q1
    subst q2 q3
    show wpAny _ _ (spliced ((false, eval (.Name x p) X.env) :: [])) _ _ s
    refine Calls.spliced_cons (thn ((pe_var (pos := p) (i := j) hN hv hd hcd).run pins s σ H (fun v H1 => v = .ref i.f ∧ H1 = H) I ⟨.ref i.f, hσ, rfl, rfl⟩) fun u s1 ⟨v, H1, I1, r1, ev, eH⟩ => Calls.spliced_nil ?_)
    subst ev
    rw [eH] at I1
    have nf : i.f ∉ frs X.stack := fun z => by
      rcases List.mem_cons.mp (I1.stkSub _ z) with e | e
      · obtain ⟨cl, pm, ctv, h1, _⟩ := cx.at_
        have h2 := Heap.lt_size h1
        have h3 := I1.ok.above
        rw [e] at h2
        exact Nat.lt_irrefl _ (Nat.lt_of_lt_of_le h2 h3)
      · exact cx.out e
    exact ⟨[], i, H, D, I1, .cons r1 .nil, hD, cx.here I1, nf, o ([], i) H S A [] en ⟨rfl, rfl, q4, q5, rfl⟩ ok (Fr.refl ok)⟩
  have e0 : cAP cNil j env = match env[j]? with | some (some (.clo id caps)) => .ok ([], id, caps) env | _ => .bad := rfl
  rw [e0] at o
  cases ej : env[j]? with
  | none => rw [ej] at o; exact o.elim
  | some z =>
    cases z with
    | none => rw [ej] at o; exact o.elim
    | some z =>
      cases z with
      | clo id caps => rw [ej] at o; exact go id caps ej o
      | _ => rw [ej] at o; exact o.elim

/-! ### calls of defs that take a lambda -/
/-- the promise of a def whose last parameter is a lambda -/
structure FnC (P : Program) (w : World) (K : PySem.W.Frag) (mg : Str → Option Value) (base : Heap) (G : Gc) (CT : CTab) (k : Nat) (f : Addr) (fd : FuncData) (ps : List Str) (n : Nat) (m : Str → List W → Mean) : Prop where
  len : ps.length = n + 1
  run : ∀ (i : CloI) (D : CloD) (caps : List W) (S : AS) (A : Around) (outer : List PySem.Env) (s : Shared) (H : Hp) (args : Args) (us : List Value) (vs : List V) (Q : VK) (E : XK), CT i.id = some D → Room k A → Env0 P w K mg base A outer s H → i.f ∉ frs outer → CloAt D i s.heap H →
    H i.c = some (CodeO i.c i.q) → Rps G S H caps i.vs → BindsTo s fd args (ps.zip us) → Vals (vs ++ [.ref i.f]) us → spS G S n (m i.id caps) vs H Q E → codeAny (model P w) A (.call (.ref f) args) (CR (L2.CX P w) outer P w H s Q E) s
structure FnCS (G : Gc) (X : Cx) (CT : CTab) (nm : Str) (n : Nat) (m : Str → List W → Mean) : Prop where
  ex : ∃ (f : Addr) (fd : FuncData) (ps : List Str) (k : Nat), X.mg nm = some (.ref f) ∧ PySem.W.keepIn X.K (.ref f) = true ∧ L2.Binds X.K fd ps [] ∧ FnC X.prog X.w X.K X.mg X.base G CT k f fd ps n m ∧ Room k X.A
theorem sx_callX {nm : Str} {n : Nat} {m : Str → List W → Mean} {e : Expr} {es : List Expr} {p pos : Pos} {d : Den (List Od × Str × List W)} (F : FnCS G X CT nm n m) (hl : ∀ env q env', d env = .ok q env' → q.1.length = n) (tk : Takes X U) (hg : Gl X nm) (ns : Nst e) (ha : PAL G U X CT (e :: es) d) (hpl : (backTo pos (starEach es X.env)).any (·.1) = false)
    (hdb : (nm == ("__debug__" : Str)) = false) : PE X (.Call (.Name nm p) (e :: es) [] pos) (tD G U (rZ G) (cCallX m d)) := by
  obtain ⟨f, fd, ps, k, h1, h2, h3, h4, h5⟩ := F.ex
  refine ⟨fun pins s σ H Q I ⟨env, S, A, en, ok, o⟩ => ?_⟩
  refine wpAny_Call_Name_kw (ld_glob I hg h1 ?_ hdb)
  refine PySem.W.callWith_K (h₀ := X.base) I.ok.mod.kin h2 (thn (ha.run pos pins s σ H (fun b H1 => ∃ S1 caps, spS G S1 n (m b.2.id caps) b.1 H1 Q (WE U σ) ∧ Rps G S1 H1 caps b.2.vs ∧ H1 b.2.c = some (CodeO b.2.c b.2.q)) I
    ⟨env, S, A, en, ok, (Out.bind (rel := rL G) (fun h => h.2.2.2.2) o).mono fun b H1 ⟨q, env1, S1, A1, e1, en1, ok1, ⟨r1, r2, r3, r4, _⟩, f1, o2⟩ => ⟨S1, q.2.2, by rw [← r2]; exact call_outS (hl _ _ _ e1) en1 ok1 r1 o2, r3, r4⟩⟩) fun us s1 ⟨vs, ci, H1, D, I1, r, hD, hC, hfs, S1, caps, sp, rc, hc⟩ => ⟨I1.kIn, ?_⟩) (ns _ _) hpl
  have hlen : us.length = ps.length := by rw [← r.length, h4.len, List.length_append, sp.1]; rfl
  have b := h3 s1 us I1.kIn (by rw [List.append_nil]; exact hlen)
  rw [List.append_nil] at b
  refine wpAny_call (codeAny_mono (h4.run ci D caps S1 X.A X.stack s1 H1 ⟨us, []⟩ us vs Q (WE U σ) hD h5 I1.env0 hfs hC hc rc b r sp) fun r s' hq => ?_)
  cases r with
  | error e => exact passAt tk σ pins H1 s1 e s' I1 hq
  | ok fl =>
    cases fl with
    | ret u => exact I1.after hq
    | next => exact False.elim hq
    | brk => exact False.elim hq
    | cont => exact False.elim hq
end
end Cb

end
section
set_option maxRecDepth 100000
set_option maxHeartbeats 4000000
/-! a def that takes a lambda, by its body -/
namespace Cb
open PySem PySem.Spec PyProof.Rows L2 LamX NdefX
/-- what it means; np: the parameters but the lambda -/
def evDC (d : Df) (id : Str) (caps : List W) : Mean := fun zs => if zs.length = d.np then (match d.body (zs.map some ++ some (.clo id caps) :: List.replicate (d.ns - d.np - 1) none) with
  | .nx e => (match backOf d zs e with | some b => .ok (.w .non) b | none => .bad)
  | .rt z e => (match backOf d zs e with | some b => .ok z b | none => .bad)
  | .ex x e => (match backOf d zs e with | some b => .ex x b | none => .bad)
  | _ => .bad) else .bad
/-- within it -/
@[reducible] def tbC [T : Tb] (i : CloI) : Tb := ⟨T.T, none, some i⟩
theorem envR_startC [Tb] {G : Gc} {S : AS} {H : Hp} {n : Nat} {id : Str} {caps : List W} {o : Option V} (q : ClOk G S H id caps o) : ∀ {zs : List Z} {vs : List V} {Bs : List (List Addr)}, RZs G S H zs vs Bs → EnvR G S H (zs.map some ++ some (.clo id caps) :: List.replicate n none) (vs.map some ++ o :: List.replicate n none) Bs.flatten
  | [], vs, Bs, ⟨h1, h2⟩ => by subst h1 h2; exact .cl q (envR_none n)
  | z :: zs, vs, Bs, ⟨v, r, B, Br, e1, e2, h1, h2⟩ => by
    subst e1 e2
    exact EnvR.on h1 (envR_startC q h2)
theorem Ok.tb {T T' : Tb} {S : AS} {H : Hp} {A : List Addr} (e : T'.T = T.T) (h : @Ok T S H A) : @Ok T' S H A := @Ok.mk T' _ _ _ (@Ok.nd T _ _ _ h) (@Ok.own T _ _ _ h) (@Ok.dom T _ _ _ h) (by rw [e]; exact @Ok.tab T _ _ _ h)
theorem def_okC [T : Tb] {P : Program} {w : World} {K' : PySem.W.Frag} {mg : Str → Option Value} {base : Heap} {G : Gc} {CT : CTab} {x qual : Str} {params : Arguments} {body : List Stmt} {scope : Scope} {dvs : List V} {kws : List (Str × V)} {f : Addr} {fd : FuncData} {N ps : List Str} {k : Nat} (d : Df)
    (F : FunD K' x qual params body scope dvs kws f fd) (Sc : FnScope N ps scope) (hn : ps.length = d.np + 1) (hs : N.length = d.ns) (hk : ∀ i ∈ d.keeps, i < d.np)
    (hb : ∀ (i : CloI) (D : CloD), CT i.id = some D → ∀ (cdv : Value), CodeIs K' f cdv → ∀ (A : Around) (outer : List PySem.Env) (s : Shared) (H : Hp) (E : XK), Room k (A.deeper (envOfC qual scope s.heap.objs.size f cdv)) → CloX (cxOf (L2.CX P w) P w K' mg base N qual scope f cdv A outer s H E) D i →
      PSs (cxOf (L2.CX P w) P w K' mg base N qual scope f cdv A outer s H E) body (@tS (tbC i) G (fun cls d _ H => E cls d H) d.keeps d.body)) :
    FnC P w K' mg base G CT (k + 1) f fd ps d.np (evDC d) := by
  obtain ⟨oc, od, dV, kV, doc, pm, an, cdv, ct, osl, rfl, lk, hcd, _, _⟩ := F.ex
  obtain ⟨c, rfl⟩ := code_ref hcd
  refine ⟨hn, fun i D caps S A outer s H args us vs0 Q E hD hr e0 hfs hC hc rc b r h => ?_⟩
  obtain ⟨hl, zs, Bs, rz, ok, h⟩ := h
  have hzl : zs.length = d.np := rz.len.trans hl
  unfold evDC at h
  rw [if_pos hzl] at h
  have hNl : ps.length ≤ N.length := by
    rw [hs]
    have q := congrArg List.length Sc.pre
    rw [List.length_take] at q
    omega
  have est : L2.start N (vs0 ++ [V.ref i.f]) = vs0.map some ++ some (V.ref i.f) :: List.replicate (d.ns - d.np - 1) none := by
    unfold L2.start
    rw [hs, List.length_append, hl, List.map_append, List.append_assoc]
    have e1 : d.ns - (d.np + [V.ref i.f].length) = d.ns - d.np - 1 := by simp; omega
    rw [e1]; rfl
  refine run_ofS (N := N) (vs := vs0 ++ [V.ref i.f]) lk hcd Sc hr e0 b r (by rw [List.length_append, hl, hn]; rfl) fun hr' => ⟨_, hb i D hD (.ref c) ⟨c, oc, od, _, osl, rfl, lk, rfl⟩ A outer s H E hr' ⟨hC, hfs, rfl⟩, ?_⟩
  rw [est]
  have en := @envR_startC (tbC i) G S H (d.ns - d.np - 1) i.id caps (some (.ref i.f)) ⟨i, rfl, rfl, rfl, rc, hc⟩ zs vs0 Bs rz
  refine ⟨_, S, Bs.flatten, en, ok.tb (T := T) (T' := tbC i) rfl, ?_⟩
  -- the arguments behind it
  have bk : ∀ {e : Env} {σ' : L2.St} {H' : Hp} {S' : AS} {A' : List Addr} {b : List Z}, Agr d.keeps (vs0.map some ++ some (V.ref i.f) :: List.replicate (d.ns - d.np - 1) none) σ' → @EnvR (tbC i) G S' H' e σ' A' → Kp S H H' → (∀ a, S a → S' a) → backOf d zs e = some b →
      ∃ Bs' R, RZs G S' H' b vs0 Bs' ∧ A'.Perm (Bs'.flatten ++ R) := by
    intro e σ' H' S' A' b ag en' kp up hb
    have z := @back_ok (tbC i) G d.keeps zs S' H' (fun i => vs0.getD i .non) (List.range d.np) e e σ' A' b en' List.nodup_range (fun _ _ => rfl) (fun i hi hk' => by
      have hi' : i < vs0.length := by rw [hl]; exact List.mem_range.mp hi
      rw [ag i hk', List.getElem?_append_left (by simpa using hi'), List.getElem?_map]
      simp [hi']) (fun i hi x q => by
      obtain ⟨v, B, hv, r⟩ := rz.at q
      have e : vs0.getD i .non = v := by simp [hv]
      rw [e]
      exact r.1.mono kp up) hb
    rw [← hl, map_range] at z
    exact z
  have fin : ∀ {z : Z} {e : Env} {v : V} {σ' : L2.St} {H' : Hp} {S' : AS} {A' B : List Addr} {b : List Z}, Agr d.keeps (vs0.map some ++ some (V.ref i.f) :: List.replicate (d.ns - d.np - 1) none) σ' → @EnvR (tbC i) G S' H' e σ' A' → @Ok (tbC i) S' H' (B ++ A') → Fr S H Bs.flatten S' H' (B ++ A') → backOf d zs e = some b →
      ∃ Bs', RZs G S' H' b vs0 Bs' ∧ Ok S' H' (B ++ Bs'.flatten) ∧ Fr S H Bs.flatten S' H' (B ++ Bs'.flatten) := by
    intro z e v σ' H' S' A' B b ag en' ok' f hb
    obtain ⟨Bs', R, k1, k2⟩ := bk ag en' (f.kp ok) f.up hb
    have ok2 := ok'.tb (T := tbC i) (T' := T) rfl
    refine ⟨Bs', k1, (ok2.perm (List.Perm.append_left B k2.symm)).sub (List.Sublist.append_left (List.sublist_append_left _ _) B), f.less fun a ha => ?_⟩
    rcases List.mem_append.mp ha with h | h
    · exact List.mem_append_left _ h
    · exact List.mem_append_right _ (k2.mem_iff.mpr (List.mem_append_left _ h))
  cases e : d.body (zs.map some ++ some (.clo i.id caps) :: List.replicate (d.ns - d.np - 1) none) with
  | nx e1 =>
    rw [e] at h
    dsimp only at h
    cases q : backOf d zs e1 with
    | none => rw [q] at h; exact h.elim
    | some b =>
      rw [q] at h
      intro σ' H' S' A' ag en' ok' f
      obtain ⟨Bs', k1, k2, k3⟩ := fin (z := .w .non) (v := .non) (B := []) ag en' ok' f q
      exact h .non H' S' [] Bs' k1 ⟨rp_non _ _, rfl⟩ k2 k3
  | rt z e1 =>
    rw [e] at h
    dsimp only at h
    cases q : backOf d zs e1 with
    | none => rw [q] at h; exact h.elim
    | some b =>
      rw [q] at h
      intro v σ' H' S' A' B ag en' rz' ok' f
      obtain ⟨Bs', k1, k2, k3⟩ := fin (z := z) (v := v) ag en' ok' f q
      exact h v H' S' B Bs' k1 rz' k2 k3
  | ex x1 e1 =>
    rw [e] at h
    dsimp only at h
    cases q : backOf d zs e1 with
    | none => rw [q] at h; exact h.elim
    | some b =>
      rw [q] at h
      intro cls dd σ' H' S' A' xr ag en' ok' f
      obtain ⟨Bs', k1, k2, k3⟩ := fin (z := .w .non) (v := .non) (B := []) ag en' ok' f q
      exact h cls dd H' S' Bs' xr k1 k2 k3
  | bk e1 => rw [e] at h; exact h.elim
  | ct e1 => rw [e] at h; exact h.elim
  | bad => rw [e] at h; exact h.elim
/-- what stands behind a name: a def that takes a lambda -/
structure CalX [Tb] (P : Program) (w : World) (K' : PySem.W.Frag) (mg : Str → Option Value) (base : Heap) (cm : Str → Option Addr) (CT : CTab) (l : Nat) (nm : Str) (n : Nat) (m : Str → List W → Mean) : Prop where
  ex : ∃ (f : Addr) (fd : FuncData) (ps : List Str), mg nm = some (.ref f) ∧ PySem.W.keepIn K' (.ref f) = true ∧ L2.Binds K' fd ps [] ∧ FnC P w K' mg base ⟨K', cm, w⟩ CT l f fd ps n m
theorem FnC.mono [Tb] {P : Program} {w : World} {K : PySem.W.Frag} {mg : Str → Option Value} {base : Heap} {G : Gc} {CT : CTab} {k j : Nat} {f : Addr} {fd : FuncData} {ps : List Str} {n : Nat} {m : Str → List W → Mean} (F : FnC P w K mg base G CT j f fd ps n m) (h : j ≤ k) : FnC P w K mg base G CT k f fd ps n m :=
  ⟨F.len, fun i D caps S A outer s H args us vs Q E a hr => F.run i D caps S A outer s H args us vs Q E a (hr.mono h)⟩
theorem spS_tb {T T' : Tb} {G : Gc} {S : AS} {H : Hp} {m : Mean} {n : Nat} {vs : List V} {Q : VK} {E : XK} (e : T'.T = T.T) (h : @spS T' G S n m vs H Q E) : @spS T G S n m vs H Q E := by
  obtain ⟨h1, zs, Bs, h2, h3, h4⟩ := h
  refine ⟨h1, zs, Bs, h2, h3.tb (T := T') (T' := T) e.symm, ?_⟩
  cases q : m zs with
  | ok z back => rw [q] at h4; exact fun v H' S' B Bs' r1 r2 r3 r4 => h4 v H' S' B Bs' r1 r2 (r3.tb (T := T) (T' := T') e) r4
  | ex x back => rw [q] at h4; exact fun cls d H' S' Bs' r1 r2 r3 r4 => h4 cls d H' S' Bs' r1 r2 (r3.tb (T := T) (T' := T') e) r4
  | bad => rw [q] at h4; exact h4
theorem CalX.s [T : Tb] {P : Program} {w : World} {K' : PySem.W.Frag} {mg : Str → Option Value} {base : Heap} {cm : Str → Option Addr} {CT : CTab} {l k : Nat} {nm : Str} {n : Nat} {m : Str → List W → Mean} (c : CalX P w K' mg base cm CT l nm n m) {X : Cx} (hr : Room k X.A) (hk : l ≤ k)
    (e : X.prog = P ∧ X.w = w ∧ X.K = K' ∧ X.mg = mg ∧ X.base = base := by exact ⟨rfl, rfl, rfl, rfl, rfl⟩) : FnCS ⟨K', cm, w⟩ X CT nm n m := by
  obtain ⟨f, fd, ps, h1, h2, h3, h4⟩ := c.ex
  obtain ⟨rfl, rfl, rfl, rfl, rfl⟩ := e
  exact ⟨f, fd, ps, k, h1, h2, h3, h4.mono hk, hr⟩
/-- the promises, told within a def that takes a lambda -/
theorem Cal.tb [T : Tb] {P : Program} {w : World} {K' : PySem.W.Frag} {mg : Str → Option Value} {base : Heap} {cm : Str → Option Addr} {l : Nat} {nm : Str} {n : Nat} {m : Mean} (i : CloI) (c : Cal P w K' mg base cm l nm n m) : @Cal (tbC i) P w K' mg base cm l nm n m := by
  obtain ⟨f, fd, ps, h1, h2, h3, h4⟩ := c.ex
  exact @Cal.mk (tbC i) P w K' mg base cm l nm n m ⟨f, fd, ps, h1, h2, h3, h4.imp (sp' := @spM (tbC i) ⟨K', cm, w⟩ n m) fun vs H Q E h => spM_tb (T := T) (T' := tbC i) rfl h⟩
theorem CalX.tb [T : Tb] {P : Program} {w : World} {K' : PySem.W.Frag} {mg : Str → Option Value} {base : Heap} {cm : Str → Option Addr} {CT : CTab} {l : Nat} {nm : Str} {n : Nat} {m : Str → List W → Mean} (i : CloI) (c : CalX P w K' mg base cm CT l nm n m) : @CalX (tbC i) P w K' mg base cm CT l nm n m := by
  obtain ⟨f, fd, ps, h1, h2, h3, h4⟩ := c.ex
  exact @CalX.mk (tbC i) P w K' mg base cm CT l nm n m ⟨f, fd, ps, h1, h2, h3, @FnC.mk (tbC i) P w K' mg base ⟨K', cm, w⟩ CT l f fd ps n m h4.len fun i' D caps S A outer s H args us vs Q E a b c d e f g h k l => h4.run i' D caps S A outer s H args us vs Q E a b c d e f g h k (spS_tb (T := T) (T' := tbC i) (m := m i'.id caps) rfl l)⟩
theorem CloOk.tb [T : Tb] {P : Program} {w : World} {K : PySem.W.Frag} {mg : Str → Option Value} {base : Heap} {G : Gc} {k : Nat} {D : CloD} (i : CloI) (c : ∀ [T' : Tb], T'.T = T.T → @CloOk T' P w K mg base G k D) : @CloOk (tbC i) P w K mg base G k D := @c (tbC i) rfl
end Cb

end
section
set_option maxRecDepth 100000
set_option maxHeartbeats 4000000
/-! a slot's value moved; a call whose first argument is made for it; a loop over a list that its name keeps -/
namespace Cb
open PySem PySem.Spec PyProof.Rows L2
/-- x, never read again: what it holds goes over -/
def cMv (i : Nat) : Den Z := fun env => match gets env i with
  | some z => .ok z (env.set i none)
  | none => .bad
/-- f(a, ..): a is made for the call alone -/
def cZO (d : Den Z) (ds : Den (List Od)) : Den (Z × List Od) := fun env => (d env).bind fun z env => (ds env).bind fun os env => .ok (z, os) env
def callT (m : Mean) (x : Z × List Od) (env : Env) : R Z := match resAll env x.2 with
  | none => .bad
  | some zs => if nodupB (lent x.2 zs) then (match m (x.1 :: zs) with
    | .ok y (b :: back) => if back.length = zs.length then .ok y (putBack x.2 zs back env) else .bad
    | .ex e (b :: back) => if back.length = zs.length then .ex e (putBack x.2 zs back env) else .bad
    | _ => .bad) else .bad
def cCallT (m : Mean) (d : Den (Z × List Od)) : Den Z := fun env => (d env).bind (callT m)
section
variable [Tb] {G : Gc} {U : L2.WX} {X : Cx}
theorem sx_mv {i : Nat} {e : Expr} (h : PE X e (tVar i)) : PE X e (tD G U (rZ G) (cMv i)) := h.imp fun σ H Q ⟨env, S, A, en, ok, o⟩ => by
  unfold cMv at o
  cases e : Cb.gets env i with
  | none => rw [e] at o; exact o.elim
  | some z =>
    rw [e] at o
    obtain ⟨v, B, R, hs, rz, pm, er⟩ := en.gets e
    exact ⟨v, hs, o v H S R B er rz (ok.perm pm.symm) ((Fr.refl ok).less fun a ha => pm.mem_iff.mpr ha)⟩
def rZO (G : Gc) : Rel (Z × List Od) (List V) := fun σ S H x vs B => ∃ v r, vs = v :: r ∧ RZ G S H x.1 v B ∧ OdRs G σ S H x.2 r
theorem pa_zo {e : Expr} {es : List Expr} {d : Den Z} {ds : Den (List Od)} (ns : Nst e) (he : PE X e (tD G U (rZ G) d)) (hs : PA X es (tD G U (rOs G) ds)) : PA X (e :: es) (tD G U (rZO G) (cZO d ds)) :=
  (pa_cons he hs (ns es X.env)).imp fun σ H Q ⟨env, S, A, en, ok, o⟩ => by
    refine ⟨env, S, A, en, ok, ?_⟩
    unfold cZO at o
    cases e1 : d env with
    | bad => rw [e1] at o; exact o.elim
    | ex x e2 => rw [e1] at o; exact o
    | ok z env1 =>
      rw [e1] at o
      have o : Out G U σ S H A (rZO G) ((ds env1).bind fun os env => R.ok (z, os) env) Q := o
      intro v H1 S1 A1 B1 en1 rz1 ok1 f1
      have ok1A : Ok S1 H1 A1 := ok1.swap.left
      refine ⟨env1, S1, A1, en1, ok1A, ?_⟩
      cases e2 : ds env1 with
      | bad => rw [e2] at o; exact o.elim
      | ex x e3 =>
        rw [e2] at o
        intro cls dd H2 S2 A2 x2 en2 ok2 f2
        refine o cls dd H2 S2 A2 x2 en2 ok2 (f1.trans ⟨fun a u e na nt => f2.keep a u e (fun h => na (List.mem_append_right _ h)) nt, f2.up, fun a h => (f2.back a h).imp id (Or.imp (fun h => List.mem_append_right _ h) id), fun a h => (f2.own a h).imp (fun h => List.mem_append_right _ h) id, f2.dom⟩)
      | ok os env2 =>
        rw [e2] at o
        intro vs H2 S2 A2 B2 en2 rs2 ok2 f2
        obtain ⟨rs2, rfl⟩ := rs2
        have okB := f2.off ok1.swap ok2
        have rz2 : RZ G S2 H2 z v B1 := rz1.mono (f2.kp ok1A) f2.up fun a ha => f2.offK ok1.swap a ha
        refine o (v :: vs) H2 S2 A2 B1 en2 ⟨v, vs, rfl, rz2, rs2⟩ okB.swap (f1.trans ⟨fun a u e na nt => f2.keep a u e (fun h => na (List.mem_append_right _ h)) nt, f2.up, fun a h => (f2.back a h).imp id (Or.imp (fun h => List.mem_append_right _ h) id), fun a h => ?_, f2.dom⟩)
        rcases List.mem_append.mp h with h | h
        · exact .inl (List.mem_append_left _ h)
        · exact (f2.own a h).imp (fun h => List.mem_append_right _ h) id
theorem call_outT {m : Mean} {n : Nat} {ods : List Od} {vs : List V} {z : Z} {v : V} {B : List Addr} {σ : L2.St} {S : AS} {H : Hp} {env : Env} {A : List Addr} {Q : VK} (hn : ods.length + 1 = n) (en : EnvR G S H env σ A) (ok : Ok S H (B ++ A)) (rz : RZ G S H z v B) (h : OdRs G σ S H ods vs) (o : Out G U σ S H (B ++ A) (rZ G) (callT m (z, ods) env) Q) :
    spM G n m (v :: vs) H Q fun cls d H' => U cls d σ H' := by
  unfold callT at o
  dsimp only at o
  cases e : resAll env ods with
  | none => rw [e] at o; exact o.elim
  | some zs =>
    rw [e] at o
    dsimp only at o
    cases hnd : nodupB (lent ods zs) with
    | false => rw [hnd, if_neg Bool.false_ne_true] at o; exact o.elim
    | true =>
      rw [hnd, if_pos rfl] at o
      have nd := nodupB_iff hnd
      obtain ⟨Bs, R, k1, k2, k3⟩ := lend en h e nd
      have pmA : (B ++ A).Perm ((B :: Bs).flatten ++ R) := by
        rw [List.flatten_cons, List.append_assoc]
        exact List.Perm.append_left B k2
      have ok2 : Ok S H ((B :: Bs).flatten ++ R) := ok.perm pmA.symm
      refine ⟨by rw [List.length_cons, h.len, hn], z :: zs, S, B :: Bs, ⟨v, vs, B, Bs, rfl, rfl, rz, k1⟩, ok2.left, ?_⟩
      cases q : m (z :: zs) with
      | bad => rw [q] at o; exact o.elim
      | ok y back0 =>
        rw [q] at o
        cases back0 with
        | nil => exact o.elim
        | cons b back =>
        dsimp only at o ⊢
        by_cases hb : back.length = zs.length
        · rw [if_pos hb] at o
          intro v' H' S' C0 Bs0 rb0 rz' ok0 f0
          obtain ⟨v1, vr, Bb, Bs', e1, rfl, rbb, rb⟩ := rb0
          cases e1
          have ok' : Ok S' H' ((C0 ++ Bs'.flatten) ++ Bb) := by
            rw [List.flatten_cons] at ok0
            refine ok0.perm ?_
            rw [List.append_assoc]
            exact List.Perm.append_left C0 List.perm_append_comm
          have f : Fr S H (B :: Bs).flatten S' H' (C0 ++ Bs'.flatten) := f0.less fun a ha => by
            rw [List.flatten_cons]
            rcases List.mem_append.mp ha with h | h
            · exact List.mem_append_left _ h
            · exact List.mem_append_right _ (List.mem_append_right _ h)
          have kp : EnvR G S' H' (clr env (lent ods zs)) σ R := k3.mono (f.kp ok2.left) f.up (f.offK ok2)
          obtain ⟨A', C, j1, j2⟩ := giveBack (S := S) (H := H) h nd (res_len e) (lent_lt e) rb kp
          have ok3 : Ok S' H' ((C0 ++ Bs'.flatten) ++ R) := f.off ok2 ok'.left
          have pm : (C0 ++ (A' ++ C)).Perm ((C0 ++ Bs'.flatten) ++ R) := by
            rw [List.append_assoc]
            exact List.Perm.append_left C0 j2.symm
          have ok4 : Ok S' H' (C0 ++ A') := (ok3.perm pm).sub (List.Sublist.append_left (List.sublist_append_left _ _) C0)
          refine o v' H' S' A' C0 j1 rz' ok4 ⟨fun a u ea na => f.keep a u ea fun hm => na (pmA.mem_iff.mpr (List.mem_append_left _ hm)), f.up, fun a ha => ?_, fun a ha => ?_, f.dom⟩
          · rcases f.back a ha with h | h | h
            · exact .inl h
            · exact .inr (.inl (pmA.mem_iff.mpr (List.mem_append_left _ h)))
            · exact .inr (.inr h)
          · have hm : a ∈ (C0 ++ Bs'.flatten) ++ R := pm.mem_iff.mp (by
              rcases List.mem_append.mp ha with h | h
              · exact List.mem_append_left _ h
              · exact List.mem_append_right _ (List.mem_append_left _ h))
            rcases List.mem_append.mp hm with h | h
            · rcases f.own a h with h | h
              · exact .inl (pmA.mem_iff.mpr (List.mem_append_left _ h))
              · exact .inr h
            · exact .inl (pmA.mem_iff.mpr (List.mem_append_right _ h))
        · rw [if_neg hb] at o; exact o.elim
      | ex x back0 =>
        rw [q] at o
        cases back0 with
        | nil => exact o.elim
        | cons b back =>
        dsimp only at o ⊢
        by_cases hb : back.length = zs.length
        · rw [if_pos hb] at o
          intro cls d H' S' Bs0 xr rb0 ok0 f0
          obtain ⟨v1, vr, Bb, Bs', e1, rfl, rbb, rb⟩ := rb0
          cases e1
          have ok' : Ok S' H' (Bs'.flatten ++ Bb) := by
            rw [List.flatten_cons] at ok0
            exact ok0.swap
          have f : Fr S H (B :: Bs).flatten S' H' Bs'.flatten := f0.less fun a ha => by
            rw [List.flatten_cons]
            exact List.mem_append_right _ ha
          have kp : EnvR G S' H' (clr env (lent ods zs)) σ R := k3.mono (f.kp ok2.left) f.up (f.offK ok2)
          obtain ⟨A', C, j1, j2⟩ := giveBack (S := S) (H := H) h nd (res_len e) (lent_lt e) rb kp
          have ok3 : Ok S' H' (Bs'.flatten ++ R) := f.off ok2 ok'.left
          have ok4 : Ok S' H' A' := (ok3.perm j2.symm).sub (List.sublist_append_left _ _)
          refine o cls d H' S' A' xr j1 ok4 ⟨fun a u ea na => f.keep a u ea fun hm => na (pmA.mem_iff.mpr (List.mem_append_left _ hm)), f.up, fun a ha => ?_, fun a ha => ?_, f.dom⟩
          · rcases f.back a ha with h | h | h
            · exact .inl h
            · exact .inr (.inl (pmA.mem_iff.mpr (List.mem_append_left _ h)))
            · exact .inr (.inr h)
          · have hm : a ∈ Bs'.flatten ++ R := j2.mem_iff.mpr (List.mem_append_left _ ha)
            rcases List.mem_append.mp hm with h | h
            · rcases f.own a h with h | h
              · exact .inl (pmA.mem_iff.mpr (List.mem_append_left _ h))
              · exact .inr h
            · exact .inl (pmA.mem_iff.mpr (List.mem_append_right _ h))
        · rw [if_neg hb] at o; exact o.elim
theorem ln_zo {d : Den Z} {ds : Den (List Od)} {n : Nat} (h : ∀ env os env', ds env = .ok os env' → os.length = n) : ∀ env x env', cZO d ds env = .ok x env' → x.2.length + 1 = n + 1 := fun env x env' e => by
  unfold cZO at e
  cases e1 : d env with
  | ok o env1 =>
    rw [e1] at e
    dsimp only [R.bind] at e
    cases e2 : ds env1 with
    | ok os1 env2 =>
      rw [e2] at e
      cases e
      simp [h _ _ _ e2]
    | ex x e3 => rw [e2] at e; cases e
    | bad => rw [e2] at e; cases e
  | ex x e3 => rw [e1] at e; cases e
  | bad => rw [e1] at e; cases e
theorem sx_callT {nm : Str} {n : Nat} {m : Mean} {e : Expr} {es : List Expr} {p pos : Pos} {d : Den (Z × List Od)} (F : FnS G X nm n m) (hl : ∀ env x env', d env = .ok x env' → x.2.length + 1 = n) (tk : Takes X U) (hg : Gl X nm) (ns : Nst e) (ha : PA X (e :: es) (tD G U (rZO G) d)) (hpl : (backTo pos (starEach es X.env)).any (·.1) = false)
    (hdb : (nm == ("__debug__" : Str)) = false) : PE X (.Call (.Name nm p) (e :: es) [] pos) (tD G U (rZ G) (cCallT m d)) := by
  obtain ⟨f, fd, ps, k, h1, h2, h3, h4, h5⟩ := F.ex
  refine (pe_callS (E := WE U) h4 h5 hg h1 h2 h3 (passAt tk) ha hdb (ns _ _) hpl).imp fun σ H Q ⟨env, S, A, en, ok, o⟩ => ⟨env, S, A, en, ok, ?_⟩
  unfold cCallT at o
  cases e1 : d env with
  | bad => rw [e1] at o; exact o.elim
  | ex x e2 => rw [e1] at o; exact o
  | ok x env1 =>
    rw [e1] at o
    obtain ⟨z, os⟩ := x
    intro vs H1 S1 A1 B1 en1 r1 ok1 f1
    obtain ⟨v, r, rfl, rz, ro⟩ := r1
    exact call_outT (hl _ _ _ e1) en1 ok1 rz ro (Out.from o f1)

/-! ### for x in xs, xs the name's own list that stays its own -/
def holdR (i : Nat) (ws : List W) : SR → SR
  | .nx e => .nx (e.set i (some (.L ws)))
  | .bk e => .bk (e.set i (some (.L ws)))
  | .ct e => .ct (e.set i (some (.L ws)))
  | .rt z e => .rt z (e.set i (some (.L ws)))
  | .ex x e => .ex x (e.set i (some (.L ws)))
  | .bad => .bad
def kForK (tg : Tg) (i : Nat) (b : DenS) : DenS := fun env => match gets env i with
  | some (.L ws) => holdR i ws (evFor (setTg tg) b ws (env.set i none))
  | _ => .bad
theorem hold {i : Nat} {ws : List W} {a : Addr} {vs : List V} {σ : L2.St} {e : Env} {S S' : AS} {H H' : Hp} {A R A' B : List Addr} (pm : A.Perm ([a] ++ R)) (okA : Ok S H A) (ha : H a = some (.lst vs)) (hr : Rps G S H ws vs) (hσ : σ[i]? = some (some (.ref a)))
    (en : EnvR G S' H' e σ A') (ok' : Ok S' H' (B ++ A')) (f : Fr S H R S' H' (B ++ A')) : ∃ A3, EnvR G S' H' (e.set i (some (.L ws))) σ A3 ∧ Ok S' H' (B ++ A3) ∧ Fr S H A S' H' (B ++ A3) := by
  have okB : Ok S H (R ++ [a]) := okA.perm (List.perm_append_comm.trans pm.symm)
  have okR : Ok S H R := okB.left
  have hna : a ∉ R := fun h => okB.dis h (by simp)
  have hlen : i < e.length := by
    have := (List.getElem?_eq_some_iff.mp hσ).1
    rw [en.length] at this
    exact this
  obtain ⟨R'', r4, r5⟩ := en.drop i
  have okO := f.off okB ok'
  have hHa : H' a = some (.lst vs) := f.keep a _ ha hna fun _ z => nomatch z
  obtain ⟨A3, p1, p2⟩ := r4.put' (z := .L ws) (B := [a]) hlen hσ ⟨a, vs, rfl, hHa, hr.mono (f.kp okR) f.up, rfl⟩
  have perm3 : (B ++ A3).Perm (B ++ ([a] ++ R'')) := List.Perm.append_left B p2
  have hA : ∀ b ∈ R, b ∈ A := fun b hb => pm.mem_iff.mpr (List.mem_append_right _ hb)
  refine ⟨A3, p1, ?_, ?_⟩
  · have q : Ok S' H' (B ++ (R'' ++ [a])) := by
      rw [← List.append_assoc]
      exact okO.sub (List.Sublist.append_right (List.Sublist.append_left r5 B) [a])
    exact q.perm (perm3.trans (List.Perm.append_left B List.perm_append_comm))
  · refine ⟨fun b u e hb nt => f.keep b u e (fun h => hb (hA b h)) nt, f.up, fun b h => (f.back b h).imp id (Or.imp (hA b) id), fun b hb => ?_, f.dom⟩
    rcases List.mem_append.mp (perm3.mem_iff.mp hb) with hb | hb
    · exact (f.own b (List.mem_append_left _ hb)).imp (hA b) id
    · rcases List.mem_append.mp hb with hb | hb
      · exact .inl (pm.mem_iff.mpr (List.mem_append_left _ hb))
      · exact (f.own b (List.mem_append_right _ (r5.subset hb))).imp (hA b) id
variable {K : List Nat}
theorem sk_forK {tg : Expr} {x : Str} {px : Pos} {body : List Stmt} {pos : Pos} {t : Tg} {i : Nat} {db : DenS} (hp : PassesOwn (model X.prog X.w) X.A X.env X.xe) (hc : X.calm = true) (hG : G.K = X.K) (hx : PE X (.Name x px) (tVar i)) (hg : PG X tg (gTg G.K t))
    (hb : PSs X body (tS G U K db)) (hs : ∀ x', foldedSetIterable (.Name x px) X.env x' = pure x') (hk : ∀ i ∈ slotsOf t, i ∉ K) (hi : i ∈ K) : PS X (.For tg (.Name x px) body [] pos) (tS G U K (kForK t i db)) :=
  (ps_for hp hc (pi_seq hx) hg hb hs).imp fun D σ H ⟨env, S, A, en, okk, o⟩ => by
    unfold kForK at o
    cases e : gets env i with
    | none => rw [e] at o; exact o.elim
    | some z =>
      rw [e] at o
      cases z with
      | L ws =>
        dsimp only at o
        obtain ⟨v, B, R, hσ, rz, pm, er⟩ := en.gets e
        obtain ⟨a, vs, rfl, ha, hr, rfl⟩ := rz
        have okB : Ok S H (R ++ [a]) := okk.perm (List.perm_append_comm.trans pm.symm)
        have okR : Ok S H R := okB.left
        have hna : a ∉ R := fun h => okB.dis h (by simp)
        have itk : ItOkF G S H R (Itl X.K a) ws := hG ▸ itF_list ha hna okR hr
        refine ⟨.ref a, hσ, a, rfl, .inl ⟨⟨vs, SqL.of ha⟩, ?_⟩⟩
        refine ⟨fun j m σ' H' => m = ws.length - j ∧ j ≤ ws.length ∧ ∃ env' S' A', Agr K σ σ' ∧ EnvR G S' H' env' σ' A' ∧ Ok S' H' A' ∧ Fr S H R S' H' A' ∧ OutS G U K σ S H A (holdR i ws (evFor (setTg t) db (ws.drop j) env')) D,
          ⟨ws.length, by simp, Nat.zero_le _, env.set i none, S, R, Agr.refl, er, okR, Fr.refl okR, by simpa using o⟩, ?_⟩
        rintro j m σ' H' ⟨rfl, hil, env', S', A', ag', en', ok', f', o'⟩
        obtain ⟨j1, j2⟩ := itk j S' H' A' f'
        by_cases hlt : j < ws.length
        · have hw : ws[j]? = some ws[j] := by simp [hlt]
          obtain ⟨g1, g2⟩ := j1 _ hw
          refine .inr ⟨g1, fun σ2 H2 => ∃ env2 S2 A2, Agr K σ σ2 ∧ EnvR G S2 H2 env2 σ2 A2 ∧ Ok S2 H2 A2 ∧ Fr S H R S2 H2 A2 ∧ OutS G U K σ S H A (holdR i ws (evFor (setTg t) db (ws.drop (j + 1)) env2)) D,
            fun σ2 H2 q => ⟨ws.length - (j + 1), by omega, rfl, hlt, q⟩, fun x H2 y => ?_⟩
          obtain ⟨k, rx⟩ := g2 x H2 y
          rw [List.drop_eq_getElem_cons hlt] at o'
          unfold evFor at o'
          cases e : setTg t ws[j] env' with
          | none => rw [e] at o'; exact o'.elim
          | some e2 =>
            rw [e] at o'
            dsimp only at o'
            refine tg_out (ext_en k en') (ext_ok k ok') rx e fun xs A2 en2 ok2 s2 => ?_
            have f2 : Fr S' H' A' S' H2 A2 := (ext_fr k).less s2
            have ag2 : Agr K σ (foldσ (slotsOf t) xs σ') := ag'.trans (agr_fold hk)
            have f12 : Fr S H R S' H2 A2 := f'.trans f2
            refine ⟨e2, S', A2, en2, ok2, ?_⟩
            have back : ∀ {σ3 : L2.St} {H3 : Hp} {S3 : AS} {A3 B3 : List Addr} {e4 : Env}, Agr K (foldσ (slotsOf t) xs σ') σ3 → EnvR G S3 H3 e4 σ3 A3 → Ok S3 H3 (B3 ++ A3) → Fr S' H2 A2 S3 H3 (B3 ++ A3) →
                Agr K σ σ3 ∧ ∃ A4, EnvR G S3 H3 (e4.set i (some (.L ws))) σ3 A4 ∧ Ok S3 H3 (B3 ++ A4) ∧ Fr S H A S3 H3 (B3 ++ A4) := fun ag3 en3 ok3 f3 =>
              ⟨ag2.trans ag3, hold pm okk ha hr (((ag2.trans ag3) i hi).trans hσ) en3 ok3 (f12.trans f3)⟩
            cases e3 : db e2 with
            | nx e4 =>
              rw [e3] at o'
              exact fun σ3 H3 S3 A3 ag3 en3 ok3 f3 => ⟨e4, S3, A3, ag2.trans ag3, en3, ok3, f12.trans f3, o'⟩
            | ct e4 =>
              rw [e3] at o'
              exact fun σ3 H3 S3 A3 ag3 en3 ok3 f3 => ⟨e4, S3, A3, ag2.trans ag3, en3, ok3, f12.trans f3, o'⟩
            | bk e4 =>
              rw [e3] at o'
              intro σ3 H3 S3 A3 ag3 en3 ok3 f3
              obtain ⟨g, A4, q1, q2, q3⟩ := back (B3 := []) ag3 en3 ok3 f3
              exact o' σ3 H3 S3 A4 g q1 q2 q3
            | rt z e4 =>
              rw [e3] at o'
              intro v3 σ3 H3 S3 A3 B3 ag3 en3 rz3 ok3 f3
              obtain ⟨g, A4, q1, q2, q3⟩ := back ag3 en3 ok3 f3
              exact o' v3 σ3 H3 S3 A4 B3 g q1 rz3 q2 q3
            | ex x e4 =>
              rw [e3] at o'
              intro cls d σ3 H3 S3 A3 xr ag3 en3 ok3 f3
              obtain ⟨g, A4, q1, q2, q3⟩ := back (B3 := []) ag3 en3 ok3 f3
              exact o' cls d σ3 H3 S3 A4 xr g q1 q2 q3
            | bad => rw [e3] at o'; exact o'
        · have e : j = ws.length := by omega
          subst e
          rw [List.drop_length] at o'
          obtain ⟨A4, q1, q2, q3⟩ := hold (B := []) pm okk ha hr ((ag' i hi).trans hσ) en' ok' f'
          exact .inl ⟨j2 (by simp), o' σ' H' S' A4 ag' q1 q2 q3⟩
      | _ => exact o.elim
end
end Cb

end
section
set_option maxRecDepth 100000
set_option maxHeartbeats 4000000
/-! xs[::-1], shifts, &, count, len(set(..)) -/
namespace Cb
open PySem PySem.Spec PyProof.Rows L2 HT
section
variable {prog : Program} {w : World} {A : Around} {E : Value → Shared → Prop} {s : Shared}
theorem fm_congr {α β : Type} {f g : α → Option β} : ∀ {l : List α}, (∀ x ∈ l, f x = g x) → l.filterMap f = l.filterMap g
  | [], _ => rfl
  | x :: l, h => by
    rw [List.filterMap_cons, List.filterMap_cons, h x List.mem_cons_self, fm_congr fun y hy => h y (List.mem_cons_of_mem _ hy)]
theorem back_adjust (n : Nat) : Builtin.Slice.sliceAdjust none none (-1) (n : Int) = ((n : Int) - 1, -1) := by
  have h1 : (-1 : Int) < 0 := by decide
  unfold Builtin.Slice.sliceAdjust
  simp only [h1, if_true]
theorem back_places (n : Nat) : Builtin.Slice.slicePlaces ((n : Int) - 1) (-1) (-1) = n := by
  unfold Builtin.Slice.slicePlaces
  have h1 : ¬ ((-1 : Int) > 0) := by decide
  simp only [h1, if_false, show (- -1 : Int) = 1 from rfl, Int.ediv_one]
  split <;> omega
theorem back_pick (xs : Array Value) : ((List.range xs.size).filterMap fun (m : Nat) => xs[(((xs.size : Int) - 1) + (m : Int) * (-1)).toNat]?).toArray = xs.toList.reverse.toArray := by
  have e : (List.range xs.size).filterMap (fun (m : Nat) => xs[(((xs.size : Int) - 1) + (m : Int) * (-1)).toNat]?) = ((List.range xs.size).map fun k => xs.size - 1 - k).filterMap (xs[·]?) := by
    rw [List.filterMap_map]
    refine fm_congr fun m hm => ?_
    have := List.mem_range.mp hm
    show xs[_]? = xs[xs.size - 1 - m]?
    rw [show (((xs.size : Int) - 1) + (m : Int) * (-1)).toNat = xs.size - 1 - m by omega]
  rw [e, PySem.W.krv_range, List.filterMap_reverse, PySem.W.krv_all]
theorem back_applied {sl : Addr} {vs : Value} {n : Nat} {Q : Int × Int × Nat → Shared → Prop} (hs : s.heap.IsSliceOf sl .none .none vs) (ps : IsPart vs (some (-1)))
    (h : Q ((n : Int) - 1, -1, n) s) : wpAny (model prog w) A (Builtin.Slice.sliceApplied (.ref sl) (pure (n : Int))) Q E s := by
  obtain ⟨os, hos, hcs, hds⟩ := id hs
  unfold Builtin.Slice.sliceApplied Builtin.Slice.sliceFields
  refine wpAny_bind (wpAny_bind (wpAny_field hos hds (x := .none) rfl (wpAny_bind (wpAny_field hos hds (x := .none) rfl (wpAny_bind (wpAny_field hos hds (x := vs) rfl (wpAny_pure ?_)))))))
  refine wpAny_bind (slicePart_ ps ?_)
  show wpAny _ _ (if ((-1 : Int) == 0) = true then _ else _) _ _ s
  rw [if_neg (by decide)]
  refine wpAny_bind (slicePart_ .none (wpAny_bind (slicePart_ .none (wpAny_bind (wpAny_pure ?_)))))
  show wpAny _ _ (match Builtin.Slice.sliceAdjust none none (-1) (n : Int) with | (lo, hi) => pure (lo, (-1 : Int), Builtin.Slice.slicePlaces lo hi (-1))) _ _ s
  rw [back_adjust n]
  show wpAny _ _ (pure ((n : Int) - 1, (-1 : Int), Builtin.Slice.slicePlaces ((n : Int) - 1) (-1) (-1))) _ _ s
  rw [back_places]
  exact wpAny_pure h
theorem back_tuple {t sl : Addr} {items : Array Value} {vs : Value} {Q : Value → Shared → Prop} (ht : IsTup s.heap t items) (hs : s.heap.IsSliceOf sl .none .none vs) (ps : IsPart vs (some (-1)))
    (h : Q (.ref s.heap.objs.size) { s with heap := s.heap.push { cls := .type "tuple", data := .seq items.toList.reverse.toArray } }) (hsz : items.size ≤ sizeLine) : wpAny (model prog w) A (getItem (.ref t) (.ref sl)) Q E s := by
  have htake : PySem.sizeOk (.seq items.toList.reverse.toArray) := by
    show items.toList.reverse.toArray.size ≤ sizeLine
    rw [List.size_toArray, List.length_reverse, Array.length_toList]
    exact hsz
  obtain ⟨os, hos, hcs, hds⟩ := id hs
  have hTs : s.TypeIs (.ref sl) "slice" := ⟨os, hos, hcs⟩
  unfold getItem
  try with_reducible refine wpAny_holding ?_
  first | refine wpAny_bind (wpAny_pure ?_) | skip
  refine wpAny_bind (wpAny_sequenceKey ht.typeIs (by decide) ?_)
  refine wpAny_bind (wpAny_callSpecial?_slot (name := Str.ofString "__getitem__") ht.typeIs PyProof.Rows.slot_tuple_getitem
    (wpAny_call_entry PyProof.Rows.slot_tuple_getitem ht.typeIs entry_tuple_getitem ?_ (args_tuple_getitem _ _)))
  show wpAny _ _ (Builtin.Tuple.tupleItemsOf (.ref t) >>= _) _ _ s
  refine wpAny_bind (tupleItemsOf_ ht ?_)
  refine wpAny_bind (wpAny_typeOf hTs ?_)
  rw [if_pos (by decide)]
  refine wpAny_bind (back_applied hs ps ?_)
  have hno : ¬ ((((items.size : Int) - 1) == 0 && (-1 : Int) == 1 && items.size == items.size) = true) := by
    rw [show ((-1 : Int) == 1) = false from rfl, Bool.and_false, Bool.false_and]
    exact Bool.false_ne_true
  show wpAny _ _ (if (((items.size : Int) - 1) == 0 && (-1 : Int) == 1 && items.size == items.size) = true then _ else _) _ _ s
  rw [if_neg hno, back_pick]
  first
    | exact wpAny_bind (m := Builtin.Tuple.tupleExact _) (wpAny_newObj_type (wpAny_pure ⟨_, rfl, wpAny_pure h⟩) htake)
    | exact wpAny_bind (m := Builtin.Tuple.tupleExact _) (wpAny_newObj_type (wpAny_bind (wpAny_pure (wpAny_pure ⟨_, rfl, wpAny_pure h⟩))) htake)
    | exact wpAny_bind (wpAny_bind (m := Builtin.Tuple.tupleExact _) (wpAny_newObj_type (wpAny_pure (wpAny_pure ⟨_, rfl, wpAny_pure h⟩)) htake))
    | exact wpAny_bind (wpAny_bind (m := Builtin.Tuple.tupleExact _) (wpAny_newObj_type (wpAny_pure ⟨_, rfl, wpAny_pure h⟩) htake))
end
section
variable {X : Cx}
/-- xs[::-1], a list or a tuple -/
def rBack (K : PySem.W.Frag) : V → Hp → VK → Prop := fun x H Q => ∃ a xs, x = .ref a ∧ ((SqL K H a xs ∧ ∀ p, H p = none → Q (.ref p) (upd H p (.lst xs.reverse))) ∨ (SqT K H a xs ∧ ∀ p, H p = none → Q (.ref p) (upd H p (.tup xs.reverse))))
def tBack (K : PySem.W.Frag) (te : TE) : TE := fun σ H Q => te σ H fun x H1 => rBack K x H1 Q
theorem pe_back {e : Expr} {te : TE} {k : Nat} {p1 p2 p3 pos : Pos} (he : PE X e te) : PE X (.Subscript e (.Slice none none (some (.UnaryOp .USub (.Constant (.int 1) k p1) p2)) p3) pos) (tBack X.K te) := by
  refine ⟨fun pins s σ H Q I h => ?_⟩
  refine Subscript_ (thn (he.run pins s σ H _ I h) fun v s1 ⟨x, H1, I1, r1, q1⟩ => ?_)
  obtain ⟨a, xs, ex, q⟩ := q1
  subst ex
  cases r1
  have hst : PO X (some (.UnaryOp .USub (.Constant (.int 1) k p1) p2)) (tPart (tUn (rU fun i => .int (-i)) (tC (.int 1)))) := po_some (pe_un un_neg pe_int)
  refine wpAny_Slice (thn (L2.po_none.run pins s1 σ H1 (fun o H2 => o = none ∧ H2 = H1) I1 ⟨rfl, rfl⟩) fun vl s2 ⟨l, H2, I2, pl, el, e2⟩ => ?_)
  subst el e2
  refine thn (L2.po_none.run pins s2 σ H2 (fun o H3 => o = none ∧ H3 = H2) I2 ⟨rfl, rfl⟩) fun vu s3 ⟨u, H3, I3, pu, eu, e3⟩ => ?_
  subst eu e3
  refine thn (hst.run pins s3 σ H3 (fun o H4 => o = some (-1) ∧ H4 = H3) I3 ⟨1, rfl, -1, rfl, rfl, rfl⟩) fun vs s4 ⟨o, H4, I4, ps, eo, e4⟩ => ?_
  subst eo e4
  have I5 : Inv X pins σ H4 { s4 with heap := s4.heap.push { cls := .type "slice", data := .fields #[vl, vu, vs] } } := I4.kept (t' := s4.toks) fun b ob q => Heap.get?_push_of_some _ q
  rcases q with ⟨hx, q⟩ | ⟨hx, q⟩
  · obtain ⟨its, r, ht, hz⟩ := I5.list hx
    have hlen := r.length
    show wpAny (model X.prog X.w) X.A (subscriptTail e (.Slice none none (some (.UnaryOp .USub (.Constant (.int 1) k p1) p2)) p3) (.ref a) (.ref s4.heap.objs.size)) (EP X pins σ Q) X.xe { s4 with heap := s4.heap.push { cls := .type "slice", data := .fields #[vl, vu, vs] } }
    refine tail_any (ops := [.ref a, .ref s4.heap.objs.size]) ht.isList.typeIs (PySem.slot_list_getitem.lookup) ?_ (by with_unfolding_all rfl)
    refine wpAny_getItem_list_slice ht.isList (Heap.IsSliceOf.new _ vl vu vs) pl pu ps (by decide) ?_ (by rw [List.size_toArray]; omega)
    rw [PySem.W.krv_pick]
    refine ⟨.ref _, _, I5.laid (t' := s4.toks) (o := .lst xs.reverse) (fun b ob q => Heap.get?_push_of_some _ q) (Nat.le_refl _) ?_, rfl, q _ (I5.hok.fresh (Nat.le_refl _))⟩
    exact ⟨by rw [List.length_reverse]; exact hz, _, 0, r.reverse, Heap.get?_push_size _ rfl⟩
  · obtain ⟨its, r, ht, hz⟩ := I5.tuple hx
    have hlen := r.length
    cases pl
    cases pu
    show wpAny (model X.prog X.w) X.A (subscriptTail e (.Slice none none (some (.UnaryOp .USub (.Constant (.int 1) k p1) p2)) p3) (.ref a) (.ref s4.heap.objs.size)) (EP X pins σ Q) X.xe { s4 with heap := s4.heap.push { cls := .type "slice", data := .fields #[.none, .none, vs] } }
    refine tail_any (ops := [.ref a, .ref s4.heap.objs.size]) ht.typeIs (PyProof.Rows.slot_tuple_getitem.lookup) ?_ (by with_unfolding_all rfl)
    refine back_tuple ht (Heap.IsSliceOf.new _ .none .none vs) ps ?_ (by rw [List.size_toArray]; omega)
    refine ⟨.ref _, _, I5.laid (t' := s4.toks) (o := .tup xs.reverse) (fun b ob q => Heap.get?_push_of_some _ q) (Nat.le_refl _) ?_, rfl, q _ (I5.hok.fresh (Nat.le_refl _))⟩
    exact ⟨by rw [List.length_reverse]; exact hz, _, r.reverse, IsTup.new _ _⟩
variable [Tb] {G : Gc} {U : L2.WX}
theorem Rps.rev {S : AS} {H : Hp} : ∀ {ws : List W} {vs : List V}, Rps G S H ws vs → Rps G S H ws.reverse vs.reverse
  | [], vs, h => by rw [h.inv0]; exact .nil
  | w :: ws, vs, h => by
    obtain ⟨v, r, rfl, h1, h2⟩ := h.inv
    rw [List.reverse_cons, List.reverse_cons]
    exact h2.rev.append (.one h1)
theorem pk_rev (hG : G.K = X.K) : PrOk G (fun vs H Q => ∃ x, vs = [x] ∧ rBack X.K x H Q) (prW .rev) := by
  intro S H ws vs z Q hv e q
  change p_rev ws = some z at e
  unfold p_rev at e
  split at e
  · rename_i a
    obtain ⟨v, rfl, h1⟩ := vws1 hv
    obtain ⟨p, xs, rfl, k1, k2⟩ := vw_tup h1
    by_cases hz : Cb.sizeOk a.length = true
    · rw [if_pos hz] at e
      cases e
      exact ⟨_, rfl, p, xs, rfl, .inr ⟨hG ▸ k1, fun d hd => q.tup k2.rev d hd⟩⟩
    · rw [if_neg hz] at e; cases e
  · rename_i a
    obtain ⟨v, rfl, h1⟩ := vws1 hv
    obtain ⟨p, xs, rfl, k1, k2⟩ := h1
    cases e
    exact ⟨_, rfl, p, xs, rfl, .inl ⟨SqL.of k1, fun d hd => q.lst k2.rev d hd⟩⟩
  · cases e
theorem sx_rev {e : Expr} {k : Nat} {p1 p2 p3 pos : Pos} {d : Den Od} (hG : G.K = X.K) (he : PE X e (tD G U (rO G) d)) :
    PE X (.Subscript e (.Slice none none (some (.UnaryOp .USub (.Constant (.int 1) k p1) p2)) p3) pos) (tD G U (rZ G) (cPr .rev (cConsO d cNil))) := sx_pr1 (pk_rev hG) he fun t ht => pe_back ht
/-! ### shifts, & -/
theorem pk_shl : PrOk G (two (rI CPow fun i j => .int (i * 2 ^ j.toNat))) (prW .shl) := by
  intro S H ws vs z Q hv e q
  change p_shl ws = some z at e
  unfold p_shl at e
  split at e
  · rename_i i j
    obtain ⟨v, v', rfl, h1, h2⟩ := vws2 hv
    obtain rfl := vw_int h1
    obtain rfl := vw_int h2
    by_cases hm : (small i && decide (0 ≤ j) && decide (j ≤ 1000000)) = true
    · rw [if_pos hm] at e
      cases e
      rw [Bool.and_eq_true, Bool.and_eq_true] at hm
      have hs := small_iff hm.1.1
      exact ⟨_, _, rfl, i, j, rfl, rfl, ⟨of_decide_eq_true hm.1.2, of_decide_eq_true hm.2, by omega⟩, q.w (rp_int S H (i * 2 ^ j.toNat))⟩
    · rw [if_neg hm] at e; cases e
  · cases e
theorem pk_shr : PrOk G (two (rI (fun _ j => 0 ≤ j) fun i j => .int (i / 2 ^ j.toNat))) (prW .shr) := by
  intro S H ws vs z Q hv e q
  change p_shr ws = some z at e
  unfold p_shr at e
  split at e
  · rename_i i j
    obtain ⟨v, v', rfl, h1, h2⟩ := vws2 hv
    obtain rfl := vw_int h1
    obtain rfl := vw_int h2
    by_cases hm : decide (0 ≤ j) = true
    · rw [if_pos hm] at e
      cases e
      exact ⟨_, _, rfl, i, j, rfl, rfl, of_decide_eq_true hm, q.w (rp_int S H (i / 2 ^ j.toNat))⟩
    · rw [if_neg hm] at e; cases e
  · cases e
theorem pk_band : PrOk G (two (rI0 fun i j => .int (Builtin.bitAnd i j))) (prW .band) := by
  intro S H ws vs z Q hv e q
  change p_band ws = some z at e
  unfold p_band at e
  split at e
  · rename_i i j
    obtain ⟨v, v', rfl, h1, h2⟩ := vws2 hv
    obtain rfl := vw_int h1
    obtain rfl := vw_int h2
    cases e
    exact ⟨_, _, rfl, i, j, rfl, rfl, q.w (rp_int S H _)⟩
  · cases e
/-! ### count -/
def rCntD (K : PySem.W.Frag) : V → List V → Hp → VK → Prop := fun x xs H Q => ∃ (a : Addr) (y : V) (d : PyData) (ds : List PyData), x = V.ref a ∧ xs = [y] ∧ Dp K H (V.ref a) (.list ds) ∧ Dp K H y d ∧
  SeqAt.shaped (.list ds) = true ∧ SeqAt.shaped d = true ∧ Q (.int (ds.countP fun z => PyData.eqv z d : Nat)) H
theorem mt_count (hu : X.A.units + 65 < cLine) : MtR X "list.count" (rCntD X.K) := by
  intro pins s σ H x xs v us Q I rx rxs h
  obtain ⟨a, y, d, ds, rfl, rfl, hl, hy, sl, sd, q⟩ := h
  cases rx
  cases rxs with
  | cons ry rt =>
    rename_i uy ut
    cases rt
    obtain ⟨bs, r1⟩ := Dp.reads I d y uy hy ry
    have hxs : PyData.canLayAll0 ds = true := SeqAt.canLay_of_shaped sl
    have hroom : X.A.units + 1 + min (PyData.depthAll ds) d.depth < cLine := room_in_shaped sd hu
    cases hl with
    | lst hs ha =>
      obtain ⟨its, rv, ⟨⟨cls, dd, data, sls⟩, n, ho, hc, hdn, hdt⟩, hlen⟩ := I.list hs
      simp only at hc hdt
      subst hc hdt
      obtain ⟨as, h4⟩ := Dp.readsAll I ds _ its ha rv
      have hmap : its.map (SeqAt.readOf s.heap) = ds := SeqAt.readsAll_map ds its as hxs h4
      have ec : its.toArray.toList.countP (fun u => PyData.eqv (SeqAt.readOf s.heap u) d) = ds.countP fun z => PyData.eqv z d := by
        conv => rhs; rw [← hmap]
        rw [List.countP_map]
        rfl
      refine call_meets PySem.F.slot_list_count ⟨_, ho, rfl⟩ PySem.F.entry_list_count (PySem.F.args_list_count_2 _ _)
        (SeqAt.list_countAt a its.toArray n dd sls uy (fun u => PyData.eqv (SeqAt.readOf s.heap u) d)) ⟨ho, SeqAt.items_eqAt (vs := its.toArray) (show ReadsAll s.heap its.toArray.toList ds as from h4) r1 hxs (SeqAt.canLay_of_shaped sd) hroom, ?_⟩
      rw [ec]
      exact ⟨.int (ds.countP fun z => PyData.eqv z d : Nat), H, I.tok _, ⟨_, rfl⟩, q⟩
theorem count_toDs {a : W} (pa : plainW a = true) : ∀ {b : List W}, plainWs b = true → ((toDs b).countP fun z => PyData.eqv z (toD a)) = b.countP fun x => eqW x a
  | [], _ => rfl
  | w :: b, h => by
    unfold plainWs at h
    rw [Bool.and_eq_true] at h
    simp only [toDs, List.countP_cons, eqv_toD h.1 pa, count_toDs pa h.2]
theorem pk_count (hG : G.K = X.K) : PrOk G (fun vs H Q => ∃ x y, vs = [x, y] ∧ rCntD X.K x [y] H Q) (prW .count) := by
  intro S H ws vs z Q hv e q
  change p_count ws = some z at e
  unfold p_count at e
  split at e
  · rename_i b a
    obtain ⟨v, v', rfl, h1, h2⟩ := vws2 hv
    by_cases hs : (shW a && shWs b) = true
    · rw [if_pos hs] at e
      cases e
      rw [Bool.and_eq_true] at hs
      have hl := vw_dp (w := .lst b) hG (by unfold plainW; exact (shWs_iff hs.2).1) h1
      obtain ⟨p, xs, rfl, k1, k2⟩ := h1
      refine ⟨_, _, rfl, p, v', toD a, toDs b, rfl, rfl, by simpa [toD] using hl, vw_dp hG (shW_iff hs.1).1 h2, shaped_list hs.2, shaped_of hs.1, ?_⟩
      rw [count_toDs (shW_iff hs.1).1 (shWs_iff hs.2).1]
      exact q.w (rp_int S H _)
    · rw [if_neg hs] at e; cases e
  · cases e
/-- x.count(a), x in slot i a list -/
def isLw : Option Z → Bool
  | some (.L _) => true
  | some (.w (.lst _)) => true
  | _ => false
def cCnt (i : Nat) (d : Den Od) : Den Z := fun env => if isLw (gets env i) then (d env).bind fun o env => primM .count [.s i, o] env else .bad
theorem sx_cnt {i : Nat} {e el : Expr} {d : Den Od} {apos cpos : Pos} (hG : G.K = X.K) (hu : X.A.units + 65 < cLine) (ns : Nst el) (he : PE X e (tVar i)) (hd : PE X el (tD G U (rO G) d)) (hb : attributeBase e "count" X.env (eval e X.env) = eval e X.env)
    (hfew : ((backTo cpos (starEach [el] X.env)).all (fun x => !x.1) && (backToKw cpos (keywordEach [] X.env)).all (fun x => x.1.isSome) && decide ([el].length + ([] : List Keyword).length + (if ([] : List Keyword).isEmpty then 0 else 1) < 30)) = true) (hline : (apos.endLine == cpos.line) = true) :
    PE X (.Call (.Attribute e "count" apos) [el] [] cpos) (tD G U (rZ G) (cCnt i d)) :=
  (pe_bm PySem.F.plainAttrs_list PySem.F.slot_list_count rfl (mt_count hu) he (pa_cons hd pa_nil (ns _ _)) hb hfew hline (ns _ _) (by rfl)).imp fun σ H Q ⟨env, S, A, en, ok, o⟩ => by
    unfold cCnt at o
    cases e1 : gets env i with
    | none => rw [e1, if_neg (by exact Bool.false_ne_true)] at o; exact o.elim
    | some z =>
      cases hz : isLw (some z) with
      | false => rw [e1, hz, if_neg Bool.false_ne_true] at o; exact o.elim
      | true =>
        rw [e1, hz, if_pos rfl] at o
        obtain ⟨v, B, R, hs, rz, pm, er⟩ := en.gets e1
        have hty : tyV X.K "list" v H := by
          cases z with
          | L ws =>
            obtain ⟨a, vs, rfl, ha, hr, rfl⟩ := rz
            exact .inl ⟨rfl, vs, SqL.of ha⟩
          | w x =>
            cases x with
            | lst ws =>
              obtain ⟨r1, _⟩ := rz
              unfold Rp at r1
              obtain ⟨a, vs, rfl, f1, _⟩ := r1
              exact .inl ⟨rfl, vs, SqL.of f1.2⟩
            | _ => cases hz
          | _ => cases hz
        refine ⟨v, hs, hty, env, S, A, en, ok, ?_⟩
        refine (Out.bind (rel := rO G) (fun h => h.2) o).mono fun x H1 ⟨oa, env1, S1, A1, _, en1, ok1, ⟨r1, _⟩, f1, o2⟩ => ?_
        obtain ⟨x', y', e, q⟩ := prim_out (pk_count hG) (ods := [.s i, oa]) (vs := [v, x]) en1 ok1 ⟨v, [x], rfl, hs, x, [], rfl, r1, rfl⟩ o2
        cases e
        exact q
/-! ### len(set(t)), t a tuple of ints -/
def rLenS (w : World) : List V → Hp → VK → Prop := fun vs H Q => ∃ (a : Addr) (S : Int → Bool) (n : Nat), vs = [V.ref a] ∧ H a = some (SetO w a S n) ∧ ∀ ks : List Int, ks.Nodup → (∀ k, S k = true ↔ k ∈ ks) → Q (.int ks.length) H
theorem call_lenS : CallR X (.builtin "len") (rLenS X.w) := by
  intro pins s σ H vs us Q I r h
  obtain ⟨a, S, n, rfl, ha, q⟩ := h
  have R := setO_get I ha
  rw [Vals.ref1 r]
  obtain ⟨o, es, ep, t, ho, hex, hd, _, nd, hm, hb, hf, hn, _⟩ := R
  have e : (es.toList.map keyOf).length = es.size := by rw [List.length_map, Array.length_toList]
  have q := q (es.toList.map keyOf) nd hm
  rw [e] at q
  exact call_len_set ho hex hd hf (by unfold scanBound at hb; omega) ⟨.int es.size, H, I.tok _, ⟨_, rfl⟩, q⟩
def rLS (K : PySem.W.Frag) (w : World) : List V → Hp → VK → Prop := fun vs H Q => rSetIt K w vs H fun v H1 => rLenS w [v] H1 Q
theorem pk_lset (hG : G.K = X.K) : PrOk G (rLS X.K X.w) (prW .lset) := by
  intro S H ws vs z Q hv e q
  change p_lset ws = some z at e
  unfold p_lset at e
  split at e
  · rename_i a
    obtain ⟨v, rfl, h1⟩ := vws1 hv
    obtain ⟨t, xs, rfl, k1, k2⟩ := vw_tup h1
    by_cases hs : (a.all isI && decide (a.length < 64)) = true
    · rw [if_pos hs] at e
      cases e
      rw [Bool.and_eq_true] at hs
      obtain ⟨ns, rfl⟩ := isI_ints hs.1
      have hl := of_decide_eq_true hs.2
      have e2 : xs = ns.map V.int := asInts_vals (G := G) (S := S) (H := H) k2 (asInts_map ns)
      subst e2
      rw [List.length_map] at hl
      rw [hG] at k1
      refine ⟨t, ns, rfl, k1, hl, fun a c ha hc => ⟨a, _, c, rfl, upd_same, fun ks nd hm => ?_⟩⟩
      have kp1 := keep_new (u := SetO X.w a (fun j => decide (j ∈ ns)) c) ha
      have srt : sortable (ns.map W.int) = true := by
        unfold sortable shWs
        rw [Bool.and_eq_true, Bool.and_eq_true]
        have p1 : ∀ l : List Int, plainWs (l.map W.int) = true := fun l => by
          induction l with
          | nil => rfl
          | cons x l ih => unfold List.map plainWs plainW; rw [ih]; rfl
        have p2 : ∀ l : List Int, depWs (l.map W.int) = 0 := fun l => by
          induction l with
          | nil => rfl
          | cons x l ih => unfold List.map depWs depW; rw [ih]; rfl
        refine ⟨⟨p1 ns, by rw [p2 ns]; rfl⟩, List.all_eq_true.mpr fun x hx => List.all_eq_true.mpr fun y hy => ?_⟩
        obtain ⟨i, _, rfl⟩ := List.mem_map.mp hx
        obtain ⟨j, _, rfl⟩ := List.mem_map.mp hy
        rfl
      have inj : ∀ {l : List Int}, l.Nodup → (l.map W.int).Nodup := fun nd => List.pairwise_map.mpr (nd.imp fun {x y} hne e => hne (by injection e))
      have em : ∀ x, x ∈ dedupW (ns.map W.int) ↔ x ∈ ks.map W.int := fun x => (dd_mem srt (fun _ h => h) x).trans (by
        constructor
        · intro hx
          obtain ⟨i, hi, rfl⟩ := List.mem_map.mp hx
          exact List.mem_map.mpr ⟨i, (hm i).mp (decide_eq_true hi), rfl⟩
        · intro hx
          obtain ⟨i, hi, rfl⟩ := List.mem_map.mp hx
          exact List.mem_map.mpr ⟨i, of_decide_eq_true ((hm i).mpr hi), rfl⟩)
      have el : (dedupW (ns.map W.int)).length = ks.length := by
        rw [((List.perm_ext_iff_of_nodup (dd_nodup srt fun _ h => h) (inj nd)).mpr em).length_eq, List.length_map]
      rw [el] at q
      exact q _ _ [] kp1 ⟨rp_int _ _ _, rfl⟩ List.nodup_nil fun b hb => absurd hb (by simp)
    · rw [if_neg hs] at e; cases e
  · cases e
theorem q_lset {e : Expr} {p p2 pos pos2 : Pos} {d : Den Od} (hG : G.K = X.K) (hc : X.calm = true) (hg : Gl X "len") (hm : X.mg "len" = none) (hg2 : Gl X "set") (hm2 : X.mg "set" = none) (ns : Nst e) (he : PE X e (tD G U (rO G) d)) :
    PE X (.Call (.Name "len" p) [.Call (.Name "set" p2) [e] [] pos2] [] pos) (tD G U (rZ G) (cPr .lset (cConsO d cNil))) :=
  sx_prA (pk_lset hG) (pa_csO ns he pa_nlO) fun t ht => by
    have h1 : PE X (.Call (.Name "set" p2) [e] [] pos2) (tCB (rSetIt X.K X.w) t) := pe_callTy (cr_setIt hc) hg2 hm2 rfl ht (he := ns _ _) (hpl := rfl)
    have h2 : PE X (.Call (.Name "len" p) [.Call (.Name "set" p2) [e] [] pos2] [] pos) (tCB (rLenS X.w) (tCons (tCB (rSetIt X.K X.w) t) tNil)) :=
      pe_callB call_lenS hg hm rfl (pa_cons h1 pa_nil (by rfl)) (he := by rfl) (hpl := rfl)
    exact h2
end
end Cb

end
section
set_option maxRecDepth 100000
set_option maxHeartbeats 4000000
/-! x += y, x -= y, x *= y of ints -/
namespace Cb
open PySem PySem.Spec PyProof.Rows L2
section
variable [Tb] {G : Gc} {U : L2.WX} {X : Cx} {K : List Nat}
theorem aug_mul : PIp X .Mult fun x y H Q => ∃ i j, x = .int i ∧ y = .int j ∧ (CMul i j ∨ CMulW i j) ∧ Q (.int (i * j)) H := by
  intro pins s σ H x y v u Q I rx ry h
  obtain ⟨i, j, rfl, rfl, c, q⟩ := h
  obtain ⟨t, rfl⟩ := rx
  obtain ⟨t', rfl⟩ := ry
  refine imul_int ⟨.int _, H, I.tok _, ⟨_, rfl⟩, q⟩ ?_
  rcases c with c | c
  · exact c.ok
  · exact c.ok
theorem aug_add : PIp X .Add fun x y H Q => ∃ i j, x = .int i ∧ y = .int j ∧ True ∧ Q (.int (i + j)) H := fun pins s σ H x y v u Q I rx ry ⟨i, j, e1, e2, _, q⟩ => ip_add pins s σ H x y v u Q I rx ry ⟨i, j, e1, e2, q⟩
theorem aug_sub : PIp X .Sub fun x y H Q => ∃ i j, x = .int i ∧ y = .int j ∧ True ∧ Q (.int (i - j)) H := fun pins s σ H x y v u Q I rx ry ⟨i, j, e1, e2, _, q⟩ => ip_sub pins s σ H x y v u Q I rx ry ⟨i, j, e1, e2, q⟩
theorem sk_augMul {i : Nat} {x : Str} {e : Expr} {pos pos' : Pos} {d : Den Z} (hN : X.N.Nodup) (hi : X.N[i]? = some x) (hx : Loc X.env.scope x) (hf : X.fn x = true) (he : PE X e (tD G U (rZ G) d)) (hk : i ∉ K) : PS X (.AugAssign (.Name x pos') .Mult e pos) (tS G U K (kAug i .mul d)) :=
  sk_aug (f := fun i j => i * j) (C := fun i j => CMul i j ∨ CMulW i j) hN hi hx hf he aug_mul (fun a w z e => by
    change p_mul _ = _ at e
    unfold p_mul at e
    split at e
    · rename_i i j h
      obtain ⟨e1, e2⟩ := List.cons.inj h
      cases e1
      obtain ⟨e2, _⟩ := List.cons.inj e2
      by_cases hm : mulOk a j = true
      · rw [if_pos hm] at e
        cases e
        exact ⟨j, e2, mulOk_iff hm, rfl⟩
      · rw [if_neg hm] at e; cases e
    · rename_i h; cases h
    · cases e) hk
theorem sk_augAdd {i : Nat} {x : Str} {e : Expr} {pos pos' : Pos} {d : Den Z} (hN : X.N.Nodup) (hi : X.N[i]? = some x) (hx : Loc X.env.scope x) (hf : X.fn x = true) (he : PE X e (tD G U (rZ G) d)) (hk : i ∉ K) : PS X (.AugAssign (.Name x pos') .Add e pos) (tS G U K (kAug i .add d)) :=
  sk_aug (f := fun i j => i + j) (C := fun _ _ => True) hN hi hx hf he aug_add (fun a w z e => by
    change p_add _ = _ at e
    unfold p_add at e
    split at e
    · rename_i i j h
      obtain ⟨e1, e2⟩ := List.cons.inj h
      cases e1
      obtain ⟨e2, _⟩ := List.cons.inj e2
      cases e
      exact ⟨j, e2, trivial, rfl⟩
    · rename_i h; cases h
    · rename_i h; cases h
    · cases e) hk
theorem sk_augSub {i : Nat} {x : Str} {e : Expr} {pos pos' : Pos} {d : Den Z} (hN : X.N.Nodup) (hi : X.N[i]? = some x) (hx : Loc X.env.scope x) (hf : X.fn x = true) (he : PE X e (tD G U (rZ G) d)) (hk : i ∉ K) : PS X (.AugAssign (.Name x pos') .Sub e pos) (tS G U K (kAug i .sub d)) :=
  sk_aug (f := fun i j => i - j) (C := fun _ _ => True) hN hi hx hf he aug_sub (fun a w z e => by
    change p_sub _ = _ at e
    unfold p_sub at e
    split at e
    · rename_i i j h
      obtain ⟨e1, e2⟩ := List.cons.inj h
      cases e1
      obtain ⟨e2, _⟩ := List.cons.inj e2
      cases e
      exact ⟨j, e2, trivial, rfl⟩
    · cases e) hk
end
end Cb

end
section
set_option maxRecDepth 100000
set_option maxHeartbeats 0
namespace Hd
open PySem PySem.Spec PyProof.Rows L2
def top (i : Nat) : Stmt := PySem.Challenge.pw_calmblanks_k01_whole_contents_patterns_v.main.body.getD i (.Pass ⟨0, 0, 0, 0⟩)
def d_is_integer : He.DefD := ⟨("is_integer", none), "is_integer", "is_integer", defArgs (top 1), defBody (top 1), defScope (top 1), [], []⟩
def d_is_within : He.DefD := ⟨("is_within", none), "is_within", "is_within", defArgs (top 2), defBody (top 2), defScope (top 2), [], []⟩
def d_is_lot : He.DefD := ⟨("is_lot", none), "is_lot", "is_lot", defArgs (top 3), defBody (top 3), defScope (top 3), [], []⟩
def d_all_lots : He.DefD := ⟨("all_lots", none), "all_lots", "all_lots", defArgs (top 4), defBody (top 4), defScope (top 4), [], []⟩
def d_is_sizes : He.DefD := ⟨("is_sizes", none), "is_sizes", "is_sizes", defArgs (top 15), defBody (top 15), defScope (top 15), [], []⟩
def d_check_sizes : He.DefD := ⟨("check_sizes", none), "check_sizes", "check_sizes", defArgs (top 16), defBody (top 16), defScope (top 16), [], []⟩
def d_check_pattern : He.DefD := ⟨("check_pattern", none), "check_pattern", "check_pattern", defArgs (top 17), defBody (top 17), defScope (top 17), [], []⟩
def d_is_content : He.DefD := ⟨("is_content", none), "is_content", "is_content", defArgs (top 18), defBody (top 18), defScope (top 18), [], []⟩
def d_tuples_of : He.DefD := ⟨("tuples_of", none), "tuples_of", "tuples_of", defArgs (top 19), defBody (top 19), defScope (top 19), [], []⟩
def d_contents_of : He.DefD := ⟨("contents_of", none), "contents_of", "contents_of", defArgs (top 20), defBody (top 20), defScope (top 20), [], []⟩
def d_patterns_of : He.DefD := ⟨("patterns_of", none), "patterns_of", "patterns_of", defArgs (top 21), defBody (top 21), defScope (top 21), [], []⟩
def d_views_of : He.DefD := ⟨("views_of", none), "views_of", "views_of", defArgs (top 22), defBody (top 22), defScope (top 22), [], []⟩
def d_view_of : He.DefD := ⟨("view_of", none), "view_of", "view_of", defArgs (top 23), defBody (top 23), defScope (top 23), [], []⟩
def d_contents : He.DefD := ⟨("contents", none), "contents", "contents", defArgs (top 24), defBody (top 24), defScope (top 24), [], []⟩
def d_patterns : He.DefD := ⟨("patterns", none), "patterns", "patterns", defArgs (top 25), defBody (top 25), defScope (top 25), [], []⟩
def d_views : He.DefD := ⟨("views", none), "views", "views", defArgs (top 26), defBody (top 26), defScope (top 26), [], []⟩
def d_view : He.DefD := ⟨("view", none), "view", "view", defArgs (top 27), defBody (top 27), defScope (top 27), [], []⟩
def d__law_hand : He.DefD := ⟨("_law_hand", none), "_law_hand", "_law_hand", defArgs (top 29), defBody (top 29), defScope (top 29), [], []⟩
def d__law_draw : He.DefD := ⟨("_law_draw", none), "_law_draw", "_law_draw", defArgs (top 30), defBody (top 30), defScope (top 30), [], []⟩
def d__law_any : He.DefD := ⟨("_law_any", none), "_law_any", "_law_any", defArgs (top 31), defBody (top 31), defScope (top 31), [], []⟩
def d__law_sizes : He.DefD := ⟨("_law_sizes", none), "_law_sizes", "_law_sizes", defArgs (top 32), defBody (top 32), defScope (top 32), [], []⟩
def d__law_contents : He.DefD := ⟨("_law_contents", none), "_law_contents", "_law_contents", defArgs (top 33), defBody (top 33), defScope (top 33), [], []⟩
def d__law_patterns : He.DefD := ⟨("_law_patterns", none), "_law_patterns", "_law_patterns", defArgs (top 34), defBody (top 34), defScope (top 34), [], []⟩
def d__law_view : He.DefD := ⟨("_law_view", none), "_law_view", "_law_view", defArgs (top 35), defBody (top 35), defScope (top 35), [], []⟩
def d__law_views : He.DefD := ⟨("_law_views", none), "_law_views", "_law_views", defArgs (top 36), defBody (top 36), defScope (top 36), [], []⟩
def d__law_is_list : He.DefD := ⟨("_law_is_list", none), "_law_is_list", "_law_is_list", defArgs (top 37), defBody (top 37), defScope (top 37), [], []⟩
def d_law : He.DefD := ⟨("law", none), "law", "law", defArgs (top 38), defBody (top 38), defScope (top 38), [], []⟩
def fn : List He.DefD := [d_is_integer, d_is_within, d_is_lot, d_all_lots, d_is_sizes, d_check_sizes, d_check_pattern, d_is_content, d_tuples_of, d_contents_of, d_patterns_of, d_views_of, d_view_of, d_contents, d_patterns, d_views, d_view, d__law_hand, d__law_draw, d__law_any, d__law_sizes, d__law_contents, d__law_patterns, d__law_view, d__law_views, d__law_is_list, d_law]
def fa : List He.Fa := [.glo "is_integer", .glo "is_within", .glo "is_lot", .glo "all_lots", .glo "is_sizes", .glo "check_sizes", .glo "check_pattern", .glo "is_content", .glo "tuples_of", .glo "contents_of", .glo "patterns_of", .glo "views_of", .glo "view_of", .glo "contents", .glo "patterns", .glo "views", .glo "view", .glo "_law_hand", .glo "_law_draw", .glo "_law_any", .glo "_law_sizes", .glo "_law_contents", .glo "_law_patterns", .glo "_law_view", .glo "_law_views", .glo "_law_is_list", .glo "law", .free "len", .free "isinstance", .free "range", .free "sorted", .free "list", .free "tuple", .free "set", .free "all", .free "any", .free "abs", .free "int", .free "enumerate", .free "zip", .free "bool", .free "ValueError", .int "MOST_COLUMNS" 4, .int "MOST_WORTHS" 4, .int "MOST_CONTENTS" 64, .int "BLANK" (-1)]
abbrev R : PySem.W.OpenRow := PySem.W.OpenLaw.row PySem.Challenge.rw_calmblanks_k01_whole_contents_patterns_v
def tf : List He.Defn := [("all_lots", none)]
def ex (K : PySem.W.Frag) : Bool := true
abbrev hk : PySem.W.Hook := He.hookX 6 fa fn [] tf ex
def ob (s : PySem.W.SharedT) : He.AlX := He.obsX 6 fa fn [] tf ex (HandSHeadRun.getT s)
theorem ob_eq (s : PySem.W.SharedT) : ob s = hk.obs s.abs := He.obsX_eq (HandSHeadRun.getT_eq s)
def loose : List PySem.Str := [("__name__" : PySem.Str), ("is_integer" : PySem.Str), ("is_within" : PySem.Str), ("is_lot" : PySem.Str), ("all_lots" : PySem.Str), ("BlankError" : PySem.Str), ("BadSizes" : PySem.Str), ("NoPattern" : PySem.Str), ("NoContent" : PySem.Str), ("MOST_COLUMNS" : PySem.Str), ("MOST_WORTHS" : PySem.Str), ("MOST_CONTENTS" : PySem.Str), ("BLANK" : PySem.Str), ("is_sizes" : PySem.Str), ("check_sizes" : PySem.Str), ("check_pattern" : PySem.Str), ("is_content" : PySem.Str), ("tuples_of" : PySem.Str), ("contents_of" : PySem.Str), ("patterns_of" : PySem.Str), ("views_of" : PySem.Str), ("view_of" : PySem.Str), ("contents" : PySem.Str), ("patterns" : PySem.Str), ("views" : PySem.Str), ("view" : PySem.Str), ("_law_hand" : PySem.Str), ("_law_draw" : PySem.Str), ("_law_any" : PySem.Str), ("_law_sizes" : PySem.Str), ("_law_contents" : PySem.Str), ("_law_patterns" : PySem.Str), ("_law_view" : PySem.Str), ("_law_views" : PySem.Str), ("_law_is_list" : PySem.Str)]
theorem run (w : World) : HandSHeadRun.RunEq R (PySem.W.view R.prog [38]) hk ob 4000 loose w := by
  intro os
  kernel_rfl
end Hd


end
section
set_option maxRecDepth 100000
set_option maxHeartbeats 0
namespace Wk
open PySem PySem.Spec PyProof.Rows L2 Cb

def N_is_integer : List PySem.Str := ["thing"]
def b_is_integer : DenS := kSeq (kRet (cB (cAnd (cT (cPr (.isinst [.int]) (cConsO (cOs 0) cNil))) (cAnd (cT (cB (cNot (cT (cPr (.isinst [.bool]) (cConsO (cOs 0) cNil)))))) cTrue)))) (kNx)
def f_is_integer : Df := ⟨1, 1, [0], b_is_integer⟩
def m_is_integer : Mean := evD f_is_integer
def N_is_within : List PySem.Str := ["thing", "least", "most"]
def b_is_within : DenS := kSeq (kRet (cB (cAnd (cT (cCall m_is_integer (cConsO (cOs 0) (cNil)))) (cAnd (cT (cCh (cVar 1) (cVar 0) (cVar 2))) cTrue)))) (kNx)
def f_is_within : Df := ⟨3, 3, [0, 1, 2], b_is_within⟩
def m_is_within : Mean := evD f_is_within
def N_is_lot : List PySem.Str := ["thing", "many", "last", "number"]
def z_is_lot_1 : DenS := kSeq (kIte (cNot (cT (cCall m_is_within (cConsO (cOs 3) (cConsO (cOd (cPr .add (cConsO (cOs 2) (cConsO (cOd (cC (.int 1))) cNil)))) (cConsO (cOd (cPr .sub (cConsO (cOs 1) (cConsO (cOd (cC (.int 1))) cNil)))) (cNil))))))) (kSeq (kRet (cC (.bl false))) (kNx)) (kNx)) (kSeq (kSet 2 (cVar 3)) (kNx))
def y_is_lot_1 : DenS := kFor (.nm 3) .val (cCons (cVar 0) cNil) z_is_lot_1
def b_is_lot : DenS := kSeq (kIte (cNot (cT (cPr (.isinst [.tuple]) (cConsO (cOs 0) cNil)))) (kSeq (kRet (cC (.bl false))) (kNx)) (kNx)) (kSeq (kSet 2 (cPr .neg (cConsO (cOd (cC (.int 1))) cNil))) (kSeq (y_is_lot_1) (kSeq (kRet (cC (.bl true))) (kNx))))
def f_is_lot : Df := ⟨2, 4, [0, 1], b_is_lot⟩
def m_is_lot : Mean := evD f_is_lot
def N_all_lots : List PySem.Str := ["many", "found", "number", "lot"]
def x_all_lots_1 : Den Z := cLc (([("lot", 3)] : List (PySem.Str × Nat)).map (·.2)) (.nm 3) .val (cCons (cVar 1) cNil) (cTrue) (cPr .add (cConsO (cOs 3) (cConsO (cOd (cTup (cCons (cVar 2) (cNil)))) cNil)))
def z_all_lots_1 : DenS := kSeq (kSet 1 (cPr .add (cConsO (cOs 1) (cConsO (cOd (x_all_lots_1)) cNil)))) (kNx)
def y_all_lots_1 : DenS := kFor (.nm 2) .rng1 (cCons (cVar 0) (cNil)) z_all_lots_1
def b_all_lots : DenS := kSeq (kSet 1 (cLst (cCons (cTup (cNil)) (cNil)))) (kSeq (y_all_lots_1) (kSeq (kRet (cPr .sortLT (cConsO (cOs 1) cNil))) (kNx)))
def f_all_lots : Df := ⟨1, 4, [0], b_all_lots⟩
def m_all_lots : Mean := evD f_all_lots
def N_is_sizes : List PySem.Str := ["thing", "product", "size"]
def z_is_sizes_1 : DenS := kSeq (kAug 1 .mul (cVar 2)) (kNx)
def y_is_sizes_1 : DenS := kFor (.nm 2) .val (cCons (cVar 0) cNil) z_is_sizes_1
def x_is_sizes_1 : Den Z := cLc (([("size", 2)] : List (PySem.Str × Nat)).map (·.2)) (.nm 2) .val (cCons (cVar 0) cNil) (cTrue) (cCall m_is_within (cConsO (cOs 2) (cConsO (cOd (cC (.int 2))) (cConsO (cOd (cC (.int 4))) (cNil)))))
def b_is_sizes : DenS := kSeq (kIte (cOr (cNot (cT (cPr (.isinst [.tuple]) (cConsO (cOs 0) cNil)))) (cOr (cNot (cT (cCh (cC (.int 1)) (cPr .len (cConsO (cOs 0) cNil)) (cC (.int 4))))) cFalse)) (kSeq (kRet (cC (.bl false))) (kNx)) (kNx)) (kSeq (kIte (cNot (cT (cPr .all (cConsO (cOd (x_is_sizes_1)) cNil)))) (kSeq (kRet (cC (.bl false))) (kNx)) (kNx)) (kSeq (kSet 1 (cC (.int 1))) (kSeq (y_is_sizes_1) (kSeq (kRet (cPr .le (cConsO (cOs 1) (cConsO (cOd (cC (.int 64))) cNil)))) (kNx)))))
def f_is_sizes : Df := ⟨1, 3, [0], b_is_sizes⟩
def m_is_sizes : Mean := evD f_is_sizes
def N_check_sizes : List PySem.Str := ["thing"]
def b_check_sizes : DenS := kSeq (kIte (cNot (cT (cCall m_is_sizes (cConsO (cOs 0) (cNil))))) (kSeq (kBad) (kNx)) (kNx)) (kNx)
def f_check_sizes : Df := ⟨1, 1, [0], b_check_sizes⟩
def m_check_sizes : Mean := evD f_check_sizes
def N_check_pattern : List PySem.Str := ["sizes", "thing"]
def b_check_pattern : DenS := kSeq (kIte (cNot (cT (cCall m_is_lot (cConsO (cOs 1) (cConsO (cOd (cPr .len (cConsO (cOs 0) cNil))) (cNil)))))) (kSeq (kBad) (kNx)) (kNx)) (kNx)
def f_check_pattern : Df := ⟨2, 2, [0, 1], b_check_pattern⟩
def m_check_pattern : Mean := evD f_check_pattern
def N_is_content : List PySem.Str := ["sizes", "thing", "worth", "size"]
def x_is_content_1 : Den Z := cLc (([("worth", 2), ("size", 3)] : List (PySem.Str × Nat)).map (·.2)) (.tup [2, 3]) .zip (cCons (cVar 1) (cCons (cVar 0) (cNil))) (cTrue) (cCall m_is_within (cConsO (cOs 2) (cConsO (cOd (cC (.int 0))) (cConsO (cOd (cPr .sub (cConsO (cOs 3) (cConsO (cOd (cC (.int 1))) cNil)))) (cNil)))))
def b_is_content : DenS := kSeq (kIte (cOr (cNot (cT (cPr (.isinst [.tuple]) (cConsO (cOs 1) cNil)))) (cOr (cT (cPr .ne (cConsO (cOd (cPr .len (cConsO (cOs 1) cNil))) (cConsO (cOd (cPr .len (cConsO (cOs 0) cNil))) cNil)))) cFalse)) (kSeq (kRet (cC (.bl false))) (kNx)) (kNx)) (kSeq (kRet (cPr .all (cConsO (cOd (x_is_content_1)) cNil))) (kNx))
def f_is_content : Df := ⟨2, 4, [0, 1], b_is_content⟩
def m_is_content : Mean := evD f_is_content
def N_tuples_of : List PySem.Str := ["rows", "found", "row", "longer", "front", "item"]
def x_tuples_of_1 : Den Z := cLc (([("item", 5)] : List (PySem.Str × Nat)).map (·.2)) (.nm 5) .val (cCons (cVar 2) cNil) (cTrue) (cPr .add (cConsO (cOs 4) (cConsO (cOd (cTup (cCons (cVar 5) (cNil)))) cNil)))
def z_tuples_of_1 : DenS := kSeq (kEx (cMut .extend 3 (cCons (x_tuples_of_1) cNil))) (kNx)
def y_tuples_of_1 : DenS := kFor (.nm 4) .val (cCons (cVar 1) cNil) z_tuples_of_1
def z_tuples_of_2 : DenS := kSeq (kSet 3 (cLst (cNil))) (kSeq (y_tuples_of_1) (kSeq (kSet 1 (cMv 3)) (kNx)))
def y_tuples_of_2 : DenS := kFor (.nm 2) .val (cCons (cVar 0) cNil) z_tuples_of_2
def b_tuples_of : DenS := kSeq (kSet 1 (cLst (cCons (cTup (cNil)) (cNil)))) (kSeq (y_tuples_of_2) (kSeq (kRetv 1) (kNx)))
def f_tuples_of : Df := ⟨1, 6, [0], b_tuples_of⟩
def m_tuples_of : Mean := evD f_tuples_of
def N_contents_of : List PySem.Str := ["sizes", "size"]
def x_contents_of_1 : Den Z := cLc (([("size", 1)] : List (PySem.Str × Nat)).map (·.2)) (.nm 1) .val (cCons (cVar 0) cNil) (cTrue) (cRg1 (cVar 1))
def b_contents_of : DenS := kSeq (kRet (cCall m_tuples_of (cConsO (cOd (x_contents_of_1)) (cNil)))) (kNx)
def f_contents_of : Df := ⟨1, 2, [0], b_contents_of⟩
def m_contents_of : Mean := evD f_contents_of
def N_patterns_of : List PySem.Str := ["many"]
def b_patterns_of : DenS := kSeq (kRet (cPr .sorted (cConsO (cOd (cCall m_all_lots (cConsO (cOs 0) (cNil)))) cNil))) (kNx)
def f_patterns_of : Df := ⟨1, 1, [0], b_patterns_of⟩
def m_patterns_of : Mean := evD f_patterns_of
def N_views_of : List PySem.Str := ["sizes", "pattern", "column", "size"]
def x_views_of_1 : Den Z := cLc (([("column", 2), ("size", 3)] : List (PySem.Str × Nat)).map (·.2)) (.tup [2, 3]) .enT (cCons (cVar 0) (cNil)) (cTrue) (cIte (cT (cPr .inn (cConsO (cOs 2) (cConsO (cOs 1) cNil)))) (cRg1 (cVar 3)) (cLst (cCons (cC (.int (-1))) (cNil))))
def b_views_of : DenS := kSeq (kRet (cCall m_tuples_of (cConsO (cOd (x_views_of_1)) (cNil)))) (kNx)
def f_views_of : Df := ⟨2, 4, [0, 1], b_views_of⟩
def m_views_of : Mean := evD f_views_of
def N_view_of : List PySem.Str := ["content", "pattern", "column", "worth"]
def x_view_of_1 : Den Z := cLc (([("column", 2), ("worth", 3)] : List (PySem.Str × Nat)).map (·.2)) (.tup [2, 3]) .enT (cCons (cVar 0) (cNil)) (cTrue) (cIte (cT (cPr .inn (cConsO (cOs 2) (cConsO (cOs 1) cNil)))) (cVar 3) (cC (.int (-1))))
def b_view_of : DenS := kSeq (kRet (cPr .tuple (cConsO (cOd (x_view_of_1)) cNil))) (kNx)
def f_view_of : Df := ⟨2, 4, [0, 1], b_view_of⟩
def m_view_of : Mean := evD f_view_of
def N_contents : List PySem.Str := ["sizes"]
def b_contents : DenS := kSeq (kEx (cCall m_check_sizes (cConsO (cOs 0) (cNil)))) (kSeq (kRet (cCall m_contents_of (cConsO (cOs 0) (cNil)))) (kNx))
def f_contents : Df := ⟨1, 1, [0], b_contents⟩
def m_contents : Mean := evD f_contents
def N_patterns : List PySem.Str := ["sizes"]
def b_patterns : DenS := kSeq (kEx (cCall m_check_sizes (cConsO (cOs 0) (cNil)))) (kSeq (kRet (cCall m_patterns_of (cConsO (cOd (cPr .len (cConsO (cOs 0) cNil))) (cNil)))) (kNx))
def f_patterns : Df := ⟨1, 1, [0], b_patterns⟩
def m_patterns : Mean := evD f_patterns
def N_views : List PySem.Str := ["sizes", "pattern"]
def b_views : DenS := kSeq (kEx (cCall m_check_sizes (cConsO (cOs 0) (cNil)))) (kSeq (kEx (cCall m_check_pattern (cConsO (cOs 0) (cConsO (cOs 1) (cNil))))) (kSeq (kRet (cCall m_views_of (cConsO (cOs 0) (cConsO (cOs 1) (cNil))))) (kNx)))
def f_views : Df := ⟨2, 2, [0, 1], b_views⟩
def m_views : Mean := evD f_views
def N_view : List PySem.Str := ["sizes", "content", "pattern"]
def b_view : DenS := kSeq (kEx (cCall m_check_sizes (cConsO (cOs 0) (cNil)))) (kSeq (kIte (cNot (cT (cCall m_is_content (cConsO (cOs 0) (cConsO (cOs 1) (cNil)))))) (kSeq (kBad) (kNx)) (kNx)) (kSeq (kEx (cCall m_check_pattern (cConsO (cOs 0) (cConsO (cOs 2) (cNil))))) (kSeq (kRet (cCall m_view_of (cConsO (cOs 1) (cConsO (cOs 2) (cNil))))) (kNx))))
def f_view : Df := ⟨3, 3, [0, 1, 2], b_view⟩
def m_view : Mean := evD f_view
def N__law_hand : List PySem.Str := ["_law_script", "_law_cells", "_law_cell"]
def x__law_hand_1 : Den Z := cLc (([("_law_cell", 2)] : List (PySem.Str × Nat)).map (·.2)) (.nm 2) .val (cCons (cSl (cOs 0) (cNoP) (cP (cC (.int 63)))) cNil) (cTrue) (cPr .abs (cConsO (cOd (cPr .int (cConsO (cOs 2) cNil))) cNil))
def b__law_hand : DenS := kSeq (kSet 1 (x__law_hand_1)) (kSeq (kRet (cDic ["cells", "at", "great", "seed", "turn"] (cCons (cVar 1) (cCons (cC (.int 0)) (cCons (cC (.int 0)) (cCons (cPr .add (cConsO (cOd (cC (.int 977))) (cConsO (cOd (cPr .len (cConsO (cOs 1) cNil))) cNil))) (cCons (cC (.int 0)) (cNil)))))))) (kNx))
def f__law_hand : Df := ⟨1, 3, [0], b__law_hand⟩
def m__law_hand : Mean := evD f__law_hand
def N__law_draw : List PySem.Str := ["_law_hand_here", "_law_many", "_law_cell", "_law_digit", "_law_number"]
def b__law_draw : DenS := kSeq (kIte (cAnd (cT (cPr .eq (cConsO (cOd (cPr .ix (cConsO (cOs 0) (cConsO (cOd (cC (.str "great"))) cNil)))) (cConsO (cOd (cC (.int 0))) cNil)))) (cAnd (cT (cPr .lt (cConsO (cOd (cPr .ix (cConsO (cOs 0) (cConsO (cOd (cC (.str "at"))) cNil)))) (cConsO (cOd (cPr .len (cConsO (cOd (cPr .ix (cConsO (cOs 0) (cConsO (cOd (cC (.str "cells"))) cNil)))) cNil))) cNil)))) cTrue)) (kSeq (kSet 2 (cPr .ix (cConsO (cOd (cPr .ix (cConsO (cOs 0) (cConsO (cOd (cC (.str "cells"))) cNil)))) (cConsO (cOd (cPr .ix (cConsO (cOs 0) (cConsO (cOd (cC (.str "at"))) cNil)))) cNil)))) (kSeq (kSetSub 0 (cC (.str "at")) (cPr .add (cConsO (cOd (cPr .ix (cConsO (cOs 0) (cConsO (cOd (cC (.str "at"))) cNil)))) (cConsO (cOd (cC (.int 1))) cNil)))) (kSeq (kSetSub 0 (cC (.str "seed")) (cPr .mod (cConsO (cOd (cPr .int (cConsO (cOd (cPr .add (cConsO (cOd (cPr .add (cConsO (cOd (cPr .mul (cConsO (cOd (cPr .ix (cConsO (cOs 0) (cConsO (cOd (cC (.str "seed"))) cNil)))) (cConsO (cOd (cC (.int 48271))) cNil)))) (cConsO (cOs 2) cNil)))) (cConsO (cOd (cC (.int 7))) cNil)))) cNil))) (cConsO (cOd (cC (.int 2147483629))) cNil)))) (kSeq (kIte (cT (cPr .ge (cConsO (cOs 2) (cConsO (cOd (cPr .pow (cConsO (cOd (cC (.int 10))) (cConsO (cOd (cC (.int 18))) cNil)))) cNil)))) (kSeq (kSetSub 0 (cC (.str "great")) (cVar 2)) (kNx)) (kNx)) (kNx))))) (kNx)) (kSeq (kIte (cT (cPr .gt (cConsO (cOd (cPr .ix (cConsO (cOs 0) (cConsO (cOd (cC (.str "great"))) cNil)))) (cConsO (cOd (cC (.int 0))) cNil)))) (kSeq (kSet 3 (cPr .mod (cConsO (cOd (cPr .int (cConsO (cOd (cPr .ix (cConsO (cOs 0) (cConsO (cOd (cC (.str "great"))) cNil)))) cNil))) (cConsO (cOs 1) cNil)))) (kSeq (kSetSub 0 (cC (.str "great")) (cPr .fdiv (cConsO (cOd (cPr .ix (cConsO (cOs 0) (cConsO (cOd (cC (.str "great"))) cNil)))) (cConsO (cOs 1) cNil)))) (kSeq (kRetv 3) (kNx)))) (kNx)) (kSeq (kSetSub 0 (cC (.str "turn")) (cPr .add (cConsO (cOd (cPr .ix (cConsO (cOs 0) (cConsO (cOd (cC (.str "turn"))) cNil)))) (cConsO (cOd (cC (.int 1))) cNil)))) (kSeq (kSet 4 (cPr .mod (cConsO (cOd (cPr .int (cConsO (cOd (cPr .mul (cConsO (cOd (cPr .int (cConsO (cOd (cPr .add (cConsO (cOd (cPr .add (cConsO (cOd (cPr .ix (cConsO (cOs 0) (cConsO (cOd (cC (.str "seed"))) cNil)))) (cConsO (cOd (cC (.int 1))) cNil)))) (cConsO (cOd (cPr .mul (cConsO (cOd (cC (.int 7919))) (cConsO (cOd (cPr .ix (cConsO (cOs 0) (cConsO (cOd (cC (.str "turn"))) cNil)))) cNil)))) cNil)))) cNil))) (cConsO (cOd (cC (.int 69621))) cNil)))) cNil))) (cConsO (cOd (cC (.int 2147483647))) cNil)))) (kSeq (kSet 4 (cPr .mod (cConsO (cOd (cPr .int (cConsO (cOd (cPr .mul (cConsO (cOs 4) (cConsO (cOd (cPr .add (cConsO (cOd (cPr .fdiv (cConsO (cOs 4) (cConsO (cOd (cC (.int 1009))) cNil)))) (cConsO (cOd (cC (.int 48271))) cNil)))) cNil)))) cNil))) (cConsO (cOd (cC (.int 2147483647))) cNil)))) (kSeq (kSet 4 (cPr .mod (cConsO (cOd (cPr .int (cConsO (cOd (cPr .mul (cConsO (cOs 4) (cConsO (cOd (cPr .add (cConsO (cOd (cPr .fdiv (cConsO (cOs 4) (cConsO (cOd (cC (.int 2003))) cNil)))) (cConsO (cOd (cC (.int 40692))) cNil)))) cNil)))) cNil))) (cConsO (cOd (cC (.int 2147483399))) cNil)))) (kSeq (kRet (cPr .mod (cConsO (cOd (cPr .int (cConsO (cOd (cPr .fdiv (cConsO (cOs 4) (cConsO (cOd (cC (.int 16))) cNil)))) cNil))) (cConsO (cOs 1) cNil)))) (kNx)))))))
def f__law_draw : Df := ⟨2, 5, [0, 1], b__law_draw⟩
def m__law_draw : Mean := evD f__law_draw
def N__law_any : List PySem.Str := ["_law_hand_here", "_law_things"]
def b__law_any : DenS := kSeq (kRet (cPr .ix (cConsO (cOs 1) (cConsO (cOd (cCall m__law_draw (cConsO (cOs 0) (cConsO (cOd (cPr .len (cConsO (cOs 1) cNil))) (cNil))))) cNil)))) (kNx)
def f__law_any : Df := ⟨2, 2, [0, 1], b__law_any⟩
def m__law_any : Mean := evD f__law_any
def N__law_sizes : List PySem.Str := ["_law_hand_here", "_law_some"]
def b__law_sizes : DenS := kSeq (kIte (cT (cPr .eq (cConsO (cOd (cCall m__law_draw (cConsO (cOs 0) (cConsO (cOd (cC (.int 20))) (cNil))))) (cConsO (cOd (cC (.int 0))) cNil)))) (kSeq (kRet (cCall m__law_any (cConsO (cOs 0) (cConsO (cOd (cLst (cCons (cTup (cCons (cC (.int 2)) (cCons (cC (.int 2)) (cCons (cC (.int 2)) (cCons (cC (.int 2)) (cNil)))))) (cCons (cTup (cCons (cC (.int 4)) (cCons (cC (.int 4)) (cCons (cC (.int 4)) (cNil))))) (cCons (cTup (cCons (cC (.int 4)) (cCons (cC (.int 2)) (cCons (cC (.int 2)) (cCons (cC (.int 4)) (cNil)))))) (cCons (cTup (cCons (cC (.int 2)) (cCons (cC (.int 2)) (cCons (cC (.int 2)) (cCons (cC (.int 4)) (cNil)))))) (cCons (cTup (cCons (cC (.int 4)) (cCons (cC (.int 4)) (cCons (cC (.int 2)) (cCons (cC (.int 2)) (cNil)))))) (cCons (cTup (cCons (cC (.int 3)) (cCons (cC (.int 2)) (cCons (cC (.int 3)) (cCons (cC (.int 3)) (cNil)))))) (cNil))))))))) (cNil))))) (kNx)) (kNx)) (kSeq (kSet 1 (cLst (cCons (cTup (cCons (cC (.int 2)) (cNil))) (cCons (cTup (cCons (cC (.int 3)) (cNil))) (cCons (cTup (cCons (cC (.int 4)) (cNil))) (cCons (cTup (cCons (cC (.int 2)) (cCons (cC (.int 2)) (cNil)))) (cCons (cTup (cCons (cC (.int 2)) (cCons (cC (.int 2)) (cNil)))) (cCons (cTup (cCons (cC (.int 2)) (cCons (cC (.int 2)) (cNil)))) (cCons (cTup (cCons (cC (.int 2)) (cCons (cC (.int 3)) (cNil)))) (cCons (cTup (cCons (cC (.int 3)) (cCons (cC (.int 2)) (cNil)))) (cCons (cTup (cCons (cC (.int 3)) (cCons (cC (.int 3)) (cNil)))) (cCons (cTup (cCons (cC (.int 2)) (cCons (cC (.int 4)) (cNil)))) (cCons (cTup (cCons (cC (.int 4)) (cCons (cC (.int 3)) (cNil)))) (cCons (cTup (cCons (cC (.int 2)) (cCons (cC (.int 2)) (cCons (cC (.int 2)) (cNil))))) (cCons (cTup (cCons (cC (.int 3)) (cCons (cC (.int 2)) (cCons (cC (.int 2)) (cNil))))) (cNil)))))))))))))))) (kSeq (kRet (cCall m__law_any (cConsO (cOs 0) (cConsO (cOs 1) (cNil))))) (kNx)))
def f__law_sizes : Df := ⟨1, 2, [0], b__law_sizes⟩
def m__law_sizes : Mean := evD f__law_sizes
def N__law_contents : List PySem.Str := ["_law_sizes_here", "_law_many", "_law_size", "_law_found", "_law_number", "_law_rest", "_law_content"]
def z__law_contents_1 : DenS := kSeq (kSet 6 (cPr .add (cConsO (cOd (cTup (cCons (cPr .mod (cConsO (cOd (cPr .int (cConsO (cOs 5) cNil))) (cConsO (cOs 2) cNil))) (cNil)))) (cConsO (cOs 6) cNil)))) (kSeq (kSet 5 (cPr .fdiv (cConsO (cOs 5) (cConsO (cOs 2) cNil)))) (kNx))
def y__law_contents_1 : DenS := kFor (.nm 2) .val (cCons (cPr .rev (cConsO (cOs 0) cNil)) cNil) z__law_contents_1
def z__law_contents_2 : DenS := kSeq (kParZ 5 6 (cVar 4) (cTup (cNil))) (kSeq (y__law_contents_1) (kSeq (kEx (cMut .append 3 (cCons (cVar 6) cNil))) (kNx)))
def y__law_contents_2 : DenS := kFor (.nm 4) .rng1 (cCons (cVar 1) (cNil)) z__law_contents_2
def z__law_contents_3 : DenS := kSeq (kSet 1 (cPr .mul (cConsO (cOs 1) (cConsO (cOs 2) cNil)))) (kNx)
def y__law_contents_3 : DenS := kFor (.nm 2) .val (cCons (cVar 0) cNil) z__law_contents_3
def b__law_contents : DenS := kSeq (kSet 1 (cC (.int 1))) (kSeq (y__law_contents_3) (kSeq (kSet 3 (cLst (cNil))) (kSeq (y__law_contents_2) (kSeq (kRetv 3) (kNx)))))
def f__law_contents : Df := ⟨1, 7, [0], b__law_contents⟩
def m__law_contents : Mean := evD f__law_contents
def N__law_patterns : List PySem.Str := ["_law_many", "_law_mask", "_law_k"]
def x__law_patterns_1 : Den Z := cLc (([("_law_k", 2)] : List (PySem.Str × Nat)).map (·.2)) (.nm 2) .rng1 (cCons (cVar 0) (cNil)) (cT (cPr .eq (cConsO (cOd (cPr .band (cConsO (cOd (cPr .shr (cConsO (cOs 1) (cConsO (cOs 2) cNil)))) (cConsO (cOd (cC (.int 1))) cNil)))) (cConsO (cOd (cC (.int 1))) cNil)))) (cVar 2)
def x__law_patterns_2 : Den Z := cLc (([("_law_mask", 1)] : List (PySem.Str × Nat)).map (·.2)) (.nm 1) .rng1 (cCons (cPr .shl (cConsO (cOd (cC (.int 1))) (cConsO (cOs 0) cNil))) (cNil)) (cTrue) (cPr .tuple (cConsO (cOd (x__law_patterns_1)) cNil))
def b__law_patterns : DenS := kSeq (kRet (cPr .sorted (cConsO (cOd (x__law_patterns_2)) cNil))) (kNx)
def f__law_patterns : Df := ⟨1, 3, [0], b__law_patterns⟩
def m__law_patterns : Mean := evD f__law_patterns
def N__law_view : List PySem.Str := ["_law_content", "_law_pattern", "_law_k"]
def x__law_view_1 : Den Z := cLc (([("_law_k", 2)] : List (PySem.Str × Nat)).map (·.2)) (.nm 2) .rng1 (cCons (cPr .len (cConsO (cOs 0) cNil)) (cNil)) (cTrue) (cIte (cT (cPr .inn (cConsO (cOs 2) (cConsO (cOs 1) cNil)))) (cPr .ix (cConsO (cOs 0) (cConsO (cOs 2) cNil))) (cPr .neg (cConsO (cOd (cC (.int 1))) cNil)))
def b__law_view : DenS := kSeq (kRet (cPr .tuple (cConsO (cOd (x__law_view_1)) cNil))) (kNx)
def f__law_view : Df := ⟨2, 3, [0, 1], b__law_view⟩
def m__law_view : Mean := evD f__law_view
def N__law_views : List PySem.Str := ["_law_sizes_here", "_law_pattern", "_law_content"]
def x__law_views_1 : Den Z := cLc (([("_law_content", 2)] : List (PySem.Str × Nat)).map (·.2)) (.nm 2) .val (cCons (cCall m__law_contents (cConsO (cOs 0) (cNil))) cNil) (cTrue) (cCall m__law_view (cConsO (cOs 2) (cConsO (cOs 1) (cNil))))
def b__law_views : DenS := kSeq (kRet (cPr .sset (cConsO (cOd (x__law_views_1)) cNil))) (kNx)
def f__law_views : Df := ⟨2, 3, [0, 1], b__law_views⟩
def m__law_views : Mean := evD f__law_views
def N__law_is_list : List PySem.Str := ["_law_told", "_law_due", "_law_item", "_law_one"]
def x__law_is_list_1 : Den Z := cLc (([("_law_one", 3)] : List (PySem.Str × Nat)).map (·.2)) (.nm 3) .val (cCons (cVar 2) cNil) (cTrue) (cPr (.isinst [.bool]) (cConsO (cOs 3) cNil))
def z__law_is_list_1 : DenS := kSeq (kIte (cOr (cNot (cT (cPr (.isinst [.tuple]) (cConsO (cOs 2) cNil)))) (cOr (cT (cPr .any (cConsO (cOd (x__law_is_list_1)) cNil))) cFalse)) (kSeq (kRet (cC (.bl false))) (kNx)) (kNx)) (kNx)
def y__law_is_list_1 : DenS := kForK (.nm 2) 0 z__law_is_list_1
def b__law_is_list : DenS := kSeq (kIte (cOr (cNot (cT (cPr (.isinst [.list]) (cConsO (cOs 0) cNil)))) (cOr (cT (cPr .ne (cConsO (cOs 0) (cConsO (cOs 1) cNil)))) cFalse)) (kSeq (kRet (cC (.bl false))) (kNx)) (kNx)) (kSeq (y__law_is_list_1) (kSeq (kEx (cMut .append 0 (cCons (cC .non) cNil))) (kSeq (kRet (cC (.bl true))) (kNx))))
def f__law_is_list : Df := ⟨2, 4, [0, 1], b__law_is_list⟩
def m__law_is_list : Mean := evD f__law_is_list
def N_law : List PySem.Str := ["_law_script", "_law_hand_here", "_law_turn", "_law_sizes_here", "_law_every", "_law_some", "_law_again", "_law_pattern", "_law_due", "_law_blank", "_law_told", "_law_content", "_law_one"]
def x_law_1 : Den Z := cLc (([("_law_one", 12)] : List (PySem.Str × Nat)).map (·.2)) (.nm 12) .val (cCons (cVar 8) cNil) (cTrue) (cPr .eq (cConsO (cOd (cCnt 10 (cOs 12))) (cConsO (cOs 9) cNil)))
def x_law_2 : Den Z := cLc (([("_law_content", 11)] : List (PySem.Str × Nat)).map (·.2)) (.nm 11) .val (cCons (cVar 4) cNil) (cTrue) (cCall m__law_view (cConsO (cOs 11) (cConsO (cOs 7) (cNil))))
def x_law_3 : Den Z := cLc (([("_law_content", 11)] : List (PySem.Str × Nat)).map (·.2)) (.nm 11) .val (cCons (cVar 4) cNil) (cTrue) (cCall m_view (cConsO (cOs 3) (cConsO (cOs 11) (cConsO (cOs 7) (cNil)))))
def z_law_1 : DenS := kSeq (kSet 8 (cCall m__law_views (cConsO (cOs 3) (cConsO (cOs 7) (cNil))))) (kSeq (kIte (cOr (cNot (cT (cCallT m__law_is_list (cZO (cCall m_views (cConsO (cOs 3) (cConsO (cOs 7) (cNil)))) (cConsO (cOs 8) (cNil)))))) (cOr (cT (cPr .ne (cConsO (cOd (cCall m_views (cConsO (cOs 3) (cConsO (cOs 7) (cNil))))) (cConsO (cOs 8) cNil)))) cFalse)) (kSeq (kRet (cC (.bl false))) (kNx)) (kNx)) (kSeq (kSet 9 (cPr .fdiv (cConsO (cOd (cPr .len (cConsO (cOs 4) cNil))) (cConsO (cOd (cPr .len (cConsO (cOs 8) cNil))) cNil)))) (kSeq (kSet 10 (x_law_3)) (kSeq (kIte (cT (cPr .ne (cConsO (cOs 10) (cConsO (cOd (x_law_2)) cNil)))) (kSeq (kRet (cC (.bl false))) (kNx)) (kNx)) (kSeq (kIte (cNot (cT (cPr .all (cConsO (cOd (x_law_1)) cNil)))) (kSeq (kRet (cC (.bl false))) (kNx)) (kNx)) (kNx))))))
def y_law_1 : DenS := kFor (.nm 7) .val (cCons (cVar 5) cNil) z_law_1
def z_law_2 : DenS := kSeq (kIte (cOr (cNot (cT (cCallT m__law_is_list (cZO (cCall m_contents (cConsO (cOs 3) (cNil))) (cConsO (cOs 4) (cNil)))))) (cOr (cNot (cT (cCallT m__law_is_list (cZO (cCall m_patterns (cConsO (cOs 3) (cNil))) (cConsO (cOs 5) (cNil)))))) cFalse)) (kSeq (kRet (cC (.bl false))) (kNx)) (kNx)) (kNx)
def y_law_2 : DenS := kFor (.nm 6) .rng1 (cCons (cC (.int 2)) (cNil)) z_law_2
def z_law_3 : DenS := kSeq (kSet 3 (cCall m__law_sizes (cConsO (cOs 1) (cNil)))) (kSeq (kParZ 4 5 (cCall m__law_contents (cConsO (cOs 3) (cNil))) (cCall m__law_patterns (cConsO (cOd (cPr .len (cConsO (cOs 3) cNil))) (cNil)))) (kSeq (y_law_2) (kSeq (y_law_1) (kNx))))
def y_law_3 : DenS := kFor (.nm 2) .rng1 (cCons (cC (.int 3)) (cNil)) z_law_3
def b_law : DenS := kSeq (kSet 1 (cCall m__law_hand (cConsO (cOs 0) (cNil)))) (kSeq (y_law_3) (kSeq (kRet (cC (.bl true))) (kNx)))
def f_law : Df := ⟨1, 13, [0], b_law⟩
def m_law : Mean := evD f_law
section
variable [Tb] {P : Program} {w : World} {K : PySem.W.Frag} {mg : PySem.Str → Option Value} {base : Heap} {cm : PySem.Str → Option Addr}
theorem w_is_integer {f : Addr} (n_bool : mg "bool" = none) (n_int : mg "int" = none) (n_isinstance : mg "isinstance" = none) (cdv : Value) (hcv : CodeIs K f cdv) (A : Around) (outer : List PySem.Env) (s : Shared) (H : Hp) (E : XK) (hr : Room 0 (A.deeper (envOfC Hd.d_is_integer.qual Hd.d_is_integer.scope s.heap.objs.size f cdv))) :
    PSs (cxOf (L2.CX P w) P w K mg base N_is_integer Hd.d_is_integer.qual Hd.d_is_integer.scope f cdv A outer s H E) Hd.d_is_integer.body (tS ⟨K, cm, w⟩ (fun cls d _ H => E cls d H) f_is_integer.keeps f_is_integer.body) := by
  have hN : N_is_integer.Nodup := by decide
  have hu65 : (A.deeper (envOfC Hd.d_is_integer.qual Hd.d_is_integer.scope s.heap.objs.size f cdv)).units + 65 < cLine := by have := hr.un; omega
  have hu64 : (A.deeper (envOfC Hd.d_is_integer.qual Hd.d_is_integer.scope s.heap.objs.size f cdv)).units + 64 < cLine := by omega
  have hu1 : (A.deeper (envOfC Hd.d_is_integer.qual Hd.d_is_integer.scope s.heap.objs.size f cdv)).units + 1 < cLine := by omega
  exact (ss_cons (sk_ret (sx_and (sx_isi (t := .int) (q := ⟨0, 0, 0, 0⟩) rfl rfl (fun _ _ => rfl) (sx_slot (pe_var rfl (by (first | exact .inl rfl | exact .inr (.inl rfl) | exact .inr (.inr rfl))))) (by rfl) n_isinstance (by rfl) n_int) (sx_and1 (sx_not (sx_isi (t := .bool) (q := ⟨0, 0, 0, 0⟩) rfl rfl (fun _ _ => rfl) (sx_slot (pe_var rfl (by (first | exact .inl rfl | exact .inr (.inl rfl) | exact .inr (.inr rfl))))) (by rfl) n_isinstance (by rfl) n_bool))))) q_nil)
theorem w_is_within {f : Addr} (c_is_integer : Cal P w K mg base cm 1 "is_integer" 1 m_is_integer) (cdv : Value) (hcv : CodeIs K f cdv) (A : Around) (outer : List PySem.Env) (s : Shared) (H : Hp) (E : XK) (hr : Room 1 (A.deeper (envOfC Hd.d_is_within.qual Hd.d_is_within.scope s.heap.objs.size f cdv))) :
    PSs (cxOf (L2.CX P w) P w K mg base N_is_within Hd.d_is_within.qual Hd.d_is_within.scope f cdv A outer s H E) Hd.d_is_within.body (tS ⟨K, cm, w⟩ (fun cls d _ H => E cls d H) f_is_within.keeps f_is_within.body) := by
  have hN : N_is_within.Nodup := by decide
  have hu65 : (A.deeper (envOfC Hd.d_is_within.qual Hd.d_is_within.scope s.heap.objs.size f cdv)).units + 65 < cLine := by have := hr.un; omega
  have hu64 : (A.deeper (envOfC Hd.d_is_within.qual Hd.d_is_within.scope s.heap.objs.size f cdv)).units + 64 < cLine := by omega
  have hu1 : (A.deeper (envOfC Hd.d_is_within.qual Hd.d_is_within.scope s.heap.objs.size f cdv)).units + 1 < cLine := by omega
  have lv_is_integer : 1 ≤ 1 := by decide
  exact (ss_cons (sk_ret (sx_and (sx_call (c_is_integer.s hr lv_is_integer) (ln_cons ln0) takes_c (by rfl) (fun _ _ => rfl) (pa_csO (fun _ _ => rfl) (sx_slot (pe_var rfl (by (first | exact .inl rfl | exact .inr (.inl rfl) | exact .inr (.inr rfl))))) pa_nlO) (by rfl) (by decide)) (sx_and1 (sx_ch (sx_var (pe_var rfl (by (first | exact .inl rfl | exact .inr (.inl rfl) | exact .inr (.inr rfl))))) (sx_var (pe_var rfl (by (first | exact .inl rfl | exact .inr (.inl rfl) | exact .inr (.inr rfl))))) (sx_var (pe_var rfl (by (first | exact .inl rfl | exact .inr (.inl rfl) | exact .inr (.inr rfl))))) (by with_unfolding_all rfl))))) q_nil)
theorem w_is_lot {f : Addr} (n_isinstance : mg "isinstance" = none) (n_tuple : mg "tuple" = none) (c_is_within : Cal P w K mg base cm 2 "is_within" 3 m_is_within) (cdv : Value) (hcv : CodeIs K f cdv) (A : Around) (outer : List PySem.Env) (s : Shared) (H : Hp) (E : XK) (hr : Room 2 (A.deeper (envOfC Hd.d_is_lot.qual Hd.d_is_lot.scope s.heap.objs.size f cdv))) :
    PSs (cxOf (L2.CX P w) P w K mg base N_is_lot Hd.d_is_lot.qual Hd.d_is_lot.scope f cdv A outer s H E) Hd.d_is_lot.body (tS ⟨K, cm, w⟩ (fun cls d _ H => E cls d H) f_is_lot.keeps f_is_lot.body) := by
  have hN : N_is_lot.Nodup := by decide
  have hu65 : (A.deeper (envOfC Hd.d_is_lot.qual Hd.d_is_lot.scope s.heap.objs.size f cdv)).units + 65 < cLine := by have := hr.un; omega
  have hu64 : (A.deeper (envOfC Hd.d_is_lot.qual Hd.d_is_lot.scope s.heap.objs.size f cdv)).units + 64 < cLine := by omega
  have hu1 : (A.deeper (envOfC Hd.d_is_lot.qual Hd.d_is_lot.scope s.heap.objs.size f cdv)).units + 1 < cLine := by omega
  have lv_is_within : 2 ≤ 2 := by decide
  exact (ss_cons (sk_if (st_not (st_val (sx_isi (t := .tuple) (q := ⟨0, 0, 0, 0⟩) rfl rfl (fun _ _ => rfl) (sx_slot (pe_var rfl (by (first | exact .inl rfl | exact .inr (.inl rfl) | exact .inr (.inr rfl))))) (by rfl) n_isinstance (by rfl) n_tuple) (fun _ => rfl))) (ss_cons (sk_ret q_bl) q_nil) q_nil) (ss_cons (sk_set hN rfl (by first | exact .inl rfl | exact .inr rfl) rfl (sx_pr1 pk_neg (pe_od q_int) fun _ h => pe_un un_neg h) (by rfl) (by decide)) (ss_cons (sk_for passes_c rfl (pi_val rfl (sx_var (pe_var rfl (by (first | exact .inl rfl | exact .inr (.inl rfl) | exact .inr (.inr rfl)))))) (nm_pg hN (by (first | exact ⟨rfl, .inl rfl, .inl rfl⟩ | exact ⟨rfl, .inl rfl, .inr rfl⟩ | exact ⟨rfl, .inr rfl, .inl rfl⟩))) (ss_cons (sk_if (st_not (st_val (sx_call (c_is_within.s hr lv_is_within) (ln_cons (ln_cons (ln_cons ln0))) takes_c (by rfl) (fun _ _ => rfl) (pa_csO (fun _ _ => rfl) (sx_slot (pe_var rfl (by (first | exact .inl rfl | exact .inr (.inl rfl) | exact .inr (.inr rfl))))) (pa_csO (fun _ _ => rfl) (pe_od (sx_op (pk_add rfl) op_add3 (sx_slot (pe_var rfl (by (first | exact .inl rfl | exact .inr (.inl rfl) | exact .inr (.inr rfl))))) (pe_od q_int))) (pa_csO (fun _ _ => rfl) (pe_od (sx_op pk_sub op_sub (sx_slot (pe_var rfl (by (first | exact .inl rfl | exact .inr (.inl rfl) | exact .inr (.inr rfl))))) (pe_od q_int))) pa_nlO))) (by rfl) (by decide)) (fun _ => rfl))) (ss_cons (sk_ret q_bl) q_nil) q_nil) (ss_cons (sk_set hN rfl (by first | exact .inl rfl | exact .inr rfl) rfl (sx_var (pe_var rfl (by (first | exact .inl rfl | exact .inr (.inl rfl) | exact .inr (.inr rfl))))) (by rfl) (by decide)) q_nil)) (fun _ => rfl) (by decide)) (ss_cons (sk_ret q_bl) q_nil))))
theorem w_all_lots {f : Addr} (n_len : mg "len" = none) (n_range : mg "range" = none) (n_sorted : mg "sorted" = none) (lam : LamH K mg base f "all_lots.<locals>.<lambda>") (cdv : Value) (hcv : CodeIs K f cdv) (A : Around) (outer : List PySem.Env) (s : Shared) (H : Hp) (E : XK) (hr : Room 0 (A.deeper (envOfC Hd.d_all_lots.qual Hd.d_all_lots.scope s.heap.objs.size f cdv))) :
    PSs (cxOf (L2.CX P w) P w K mg base N_all_lots Hd.d_all_lots.qual Hd.d_all_lots.scope f cdv A outer s H E) Hd.d_all_lots.body (tS ⟨K, cm, w⟩ (fun cls d _ H => E cls d H) f_all_lots.keeps f_all_lots.body) := by
  have hN : N_all_lots.Nodup := by decide
  have hu65 : (A.deeper (envOfC Hd.d_all_lots.qual Hd.d_all_lots.scope s.heap.objs.size f cdv)).units + 65 < cLine := by have := hr.un; omega
  have hu64 : (A.deeper (envOfC Hd.d_all_lots.qual Hd.d_all_lots.scope s.heap.objs.size f cdv)).units + 64 < cLine := by omega
  have hu1 : (A.deeper (envOfC Hd.d_all_lots.qual Hd.d_all_lots.scope s.heap.objs.size f cdv)).units + 1 < cLine := by omega
  exact (ss_cons (sk_set hN rfl (by first | exact .inl rfl | exact .inr rfl) rfl (sx_lst (pa_cs (fun _ _ => rfl) (sx_tup pa_nl) pa_nl)) (by rfl) (by decide)) (ss_cons (sk_for passes_c rfl (pi_rng1 (by rfl) n_range (fun _ _ => rfl) (pa_cs (fun _ _ => rfl) (sx_var (pe_var rfl (by (first | exact .inl rfl | exact .inr (.inl rfl) | exact .inr (.inr rfl))))) pa_nl)) (nm_pg hN (by (first | exact ⟨rfl, .inl rfl, .inl rfl⟩ | exact ⟨rfl, .inl rfl, .inr rfl⟩ | exact ⟨rfl, .inr rfl, .inl rfl⟩))) (ss_cons (sk_set hN rfl (by first | exact .inl rfl | exact .inr rfl) rfl (sx_op (pk_add rfl) op_add3 (sx_slot (pe_var rfl (by (first | exact .inl rfl | exact .inr (.inl rfl) | exact .inr (.inr rfl))))) (pe_od (sx_lc rfl hN (by simp [slotsOf]) (pi_val rfl (sx_var (pe_var rfl (by (first | exact .inl rfl | exact .inr (.inl rfl) | exact .inr (.inr rfl)))))) (blkOk_by (by first | rfl | decide +kernel)) (fun _ _ _ _ _ => (nm_pg hN (by (first | exact ⟨rfl, .inl rfl, .inl rfl⟩ | exact ⟨rfl, .inl rfl, .inr rfl⟩ | exact ⟨rfl, .inr rfl, .inl rfl⟩)))) (fun _ _ _ _ _ => q_pts0) (fun _ _ _ _ _ => (sx_op (pk_add rfl) op_add3 (sx_slot (pe_var rfl (by (first | exact .inl rfl | exact .inr (.inl rfl) | exact .inr (.inr rfl))))) (pe_od (sx_tup (pa_cs (fun _ _ => rfl) (sx_var (pe_var rfl (by (first | exact .inl rfl | exact .inr (.inl rfl) | exact .inr (.inr rfl))))) pa_nl))))) (fun _ => rfl)))) (by rfl) (by decide)) q_nil) (fun _ => rfl) (by decide)) (ss_cons (sk_ret (sx_sortLT (x := "lot") rfl rfl hr.depth hu65 (fun _ _ => rfl) (sx_slot (pe_var rfl (by (first | exact .inl rfl | exact .inr (.inl rfl) | exact .inr (.inr rfl))))) (by rfl) n_sorted (lamAt (qn := "all_lots.<locals>.<lambda>") lam hcv rfl (by rfl) (fun _ _ _ _ => rfl) (fun _ _ _ => rfl) (by rfl) (by decide) (C8.fnScope_by (N := ["lot"]) (P := ["lot"]) (by decide +kernel)) (.inl rfl) ⟨rfl, rfl, rfl⟩ (by decide) (by decide)) n_len (by rfl) (by rfl) (by rfl) (by rfl) (by rfl))) q_nil)))
theorem w_is_sizes {f : Addr} (n_all : mg "all" = none) (n_isinstance : mg "isinstance" = none) (n_len : mg "len" = none) (n_tuple : mg "tuple" = none) {u_MOST_COLUMNS : Value} (g_MOST_COLUMNS : mg "MOST_COLUMNS" = some u_MOST_COLUMNS) (r_MOST_COLUMNS : RelV (.int 4) u_MOST_COLUMNS) {u_MOST_CONTENTS : Value} (g_MOST_CONTENTS : mg "MOST_CONTENTS" = some u_MOST_CONTENTS) (r_MOST_CONTENTS : RelV (.int 64) u_MOST_CONTENTS) {u_MOST_WORTHS : Value} (g_MOST_WORTHS : mg "MOST_WORTHS" = some u_MOST_WORTHS) (r_MOST_WORTHS : RelV (.int 4) u_MOST_WORTHS) (c_is_within : Cal P w K mg base cm 2 "is_within" 3 m_is_within) (cdv : Value) (hcv : CodeIs K f cdv) (A : Around) (outer : List PySem.Env) (s : Shared) (H : Hp) (E : XK) (hr : Room 2 (A.deeper (envOfC Hd.d_is_sizes.qual Hd.d_is_sizes.scope s.heap.objs.size f cdv))) :
    PSs (cxOf (L2.CX P w) P w K mg base N_is_sizes Hd.d_is_sizes.qual Hd.d_is_sizes.scope f cdv A outer s H E) Hd.d_is_sizes.body (tS ⟨K, cm, w⟩ (fun cls d _ H => E cls d H) f_is_sizes.keeps f_is_sizes.body) := by
  have hN : N_is_sizes.Nodup := by decide
  have hu65 : (A.deeper (envOfC Hd.d_is_sizes.qual Hd.d_is_sizes.scope s.heap.objs.size f cdv)).units + 65 < cLine := by have := hr.un; omega
  have hu64 : (A.deeper (envOfC Hd.d_is_sizes.qual Hd.d_is_sizes.scope s.heap.objs.size f cdv)).units + 64 < cLine := by omega
  have hu1 : (A.deeper (envOfC Hd.d_is_sizes.qual Hd.d_is_sizes.scope s.heap.objs.size f cdv)).units + 1 < cLine := by omega
  have lv_is_within : 2 ≤ 2 := by decide
  exact (ss_cons (sk_if (PW.pt (sw_or (st_not (st_val (sx_isi (t := .tuple) (q := ⟨0, 0, 0, 0⟩) rfl rfl (fun _ _ => rfl) (sx_slot (pe_var rfl (by (first | exact .inl rfl | exact .inr (.inl rfl) | exact .inr (.inr rfl))))) (by rfl) n_isinstance (by rfl) n_tuple) (fun _ => rfl))) (sw_or1 (st_not (st_ch q_int (q_len rfl rfl (by rfl) n_len (fun _ _ => rfl) (sx_slot (pe_var rfl (by (first | exact .inl rfl | exact .inr (.inl rfl) | exact .inr (.inr rfl)))))) (q_gint (by rfl) g_MOST_COLUMNS r_MOST_COLUMNS (by decide)) (by with_unfolding_all rfl)))))) (ss_cons (sk_ret q_bl) q_nil) q_nil) (ss_cons (sk_if (st_not (st_val (q_all rfl rfl (by rfl) n_all (fun _ _ => rfl) (pe_od (sx_lc rfl hN (by simp [slotsOf]) (pi_val rfl (sx_var (pe_var rfl (by (first | exact .inl rfl | exact .inr (.inl rfl) | exact .inr (.inr rfl)))))) (blkOk_by (by first | rfl | decide +kernel)) (fun _ _ _ _ _ => (nm_pg hN (by (first | exact ⟨rfl, .inl rfl, .inl rfl⟩ | exact ⟨rfl, .inl rfl, .inr rfl⟩ | exact ⟨rfl, .inr rfl, .inl rfl⟩)))) (fun _ _ _ _ _ => q_pts0) (fun _ _ _ _ _ => (sx_call (c_is_within.s hr lv_is_within) (ln_cons (ln_cons (ln_cons ln0))) takes_b (by rfl) (fun _ _ => rfl) (pa_csO (fun _ _ => rfl) (sx_slot (pe_var rfl (by (first | exact .inl rfl | exact .inr (.inl rfl) | exact .inr (.inr rfl))))) (pa_csO (fun _ _ => rfl) (pe_od q_int) (pa_csO (fun _ _ => rfl) (pe_od (q_gint (by rfl) g_MOST_WORTHS r_MOST_WORTHS (by decide))) pa_nlO))) (by rfl) (by decide))) (fun _ => rfl)))) (fun _ => rfl))) (ss_cons (sk_ret q_bl) q_nil) q_nil) (ss_cons (sk_set hN rfl (by first | exact .inl rfl | exact .inr rfl) rfl q_int (by rfl) (by decide)) (ss_cons (sk_for passes_c rfl (pi_val rfl (sx_var (pe_var rfl (by (first | exact .inl rfl | exact .inr (.inl rfl) | exact .inr (.inr rfl)))))) (nm_pg hN (by (first | exact ⟨rfl, .inl rfl, .inl rfl⟩ | exact ⟨rfl, .inl rfl, .inr rfl⟩ | exact ⟨rfl, .inr rfl, .inl rfl⟩))) (ss_cons (sk_augMul hN rfl (by first | exact .inl rfl | exact .inr rfl) rfl (sx_var (pe_var rfl (by (first | exact .inl rfl | exact .inr (.inl rfl) | exact .inr (.inr rfl))))) (by decide)) q_nil) (fun _ => rfl) (by decide)) (ss_cons (sk_ret (sx_cmp pk_le op_le (sx_slot (pe_var rfl (by (first | exact .inl rfl | exact .inr (.inl rfl) | exact .inr (.inr rfl))))) (pe_od (q_gint (by rfl) g_MOST_CONTENTS r_MOST_CONTENTS (by decide))) (nomark _))) q_nil)))))
theorem w_check_sizes {f : Addr} (c_is_sizes : Cal P w K mg base cm 3 "is_sizes" 1 m_is_sizes) (cdv : Value) (hcv : CodeIs K f cdv) (A : Around) (outer : List PySem.Env) (s : Shared) (H : Hp) (E : XK) (hr : Room 3 (A.deeper (envOfC Hd.d_check_sizes.qual Hd.d_check_sizes.scope s.heap.objs.size f cdv))) :
    PSs (cxOf (L2.CX P w) P w K mg base N_check_sizes Hd.d_check_sizes.qual Hd.d_check_sizes.scope f cdv A outer s H E) Hd.d_check_sizes.body (tS ⟨K, cm, w⟩ (fun cls d _ H => E cls d H) f_check_sizes.keeps f_check_sizes.body) := by
  have hN : N_check_sizes.Nodup := by decide
  have hu65 : (A.deeper (envOfC Hd.d_check_sizes.qual Hd.d_check_sizes.scope s.heap.objs.size f cdv)).units + 65 < cLine := by have := hr.un; omega
  have hu64 : (A.deeper (envOfC Hd.d_check_sizes.qual Hd.d_check_sizes.scope s.heap.objs.size f cdv)).units + 64 < cLine := by omega
  have hu1 : (A.deeper (envOfC Hd.d_check_sizes.qual Hd.d_check_sizes.scope s.heap.objs.size f cdv)).units + 1 < cLine := by omega
  have lv_is_sizes : 3 ≤ 3 := by decide
  exact (ss_cons (sk_if (st_not (st_val (sx_call (c_is_sizes.s hr lv_is_sizes) (ln_cons ln0) takes_c (by rfl) (fun _ _ => rfl) (pa_csO (fun _ _ => rfl) (sx_slot (pe_var rfl (by (first | exact .inl rfl | exact .inr (.inl rfl) | exact .inr (.inr rfl))))) pa_nlO) (by rfl) (by decide)) (fun _ => rfl))) (ss_cons q_bad q_nil) q_nil) q_nil)
theorem w_check_pattern {f : Addr} (n_len : mg "len" = none) (c_is_lot : Cal P w K mg base cm 3 "is_lot" 2 m_is_lot) (cdv : Value) (hcv : CodeIs K f cdv) (A : Around) (outer : List PySem.Env) (s : Shared) (H : Hp) (E : XK) (hr : Room 3 (A.deeper (envOfC Hd.d_check_pattern.qual Hd.d_check_pattern.scope s.heap.objs.size f cdv))) :
    PSs (cxOf (L2.CX P w) P w K mg base N_check_pattern Hd.d_check_pattern.qual Hd.d_check_pattern.scope f cdv A outer s H E) Hd.d_check_pattern.body (tS ⟨K, cm, w⟩ (fun cls d _ H => E cls d H) f_check_pattern.keeps f_check_pattern.body) := by
  have hN : N_check_pattern.Nodup := by decide
  have hu65 : (A.deeper (envOfC Hd.d_check_pattern.qual Hd.d_check_pattern.scope s.heap.objs.size f cdv)).units + 65 < cLine := by have := hr.un; omega
  have hu64 : (A.deeper (envOfC Hd.d_check_pattern.qual Hd.d_check_pattern.scope s.heap.objs.size f cdv)).units + 64 < cLine := by omega
  have hu1 : (A.deeper (envOfC Hd.d_check_pattern.qual Hd.d_check_pattern.scope s.heap.objs.size f cdv)).units + 1 < cLine := by omega
  have lv_is_lot : 3 ≤ 3 := by decide
  exact (ss_cons (sk_if (st_not (st_val (sx_call (c_is_lot.s hr lv_is_lot) (ln_cons (ln_cons ln0)) takes_c (by rfl) (fun _ _ => rfl) (pa_csO (fun _ _ => rfl) (sx_slot (pe_var rfl (by (first | exact .inl rfl | exact .inr (.inl rfl) | exact .inr (.inr rfl))))) (pa_csO (fun _ _ => rfl) (pe_od (q_len rfl rfl (by rfl) n_len (fun _ _ => rfl) (sx_slot (pe_var rfl (by (first | exact .inl rfl | exact .inr (.inl rfl) | exact .inr (.inr rfl))))))) pa_nlO)) (by rfl) (by decide)) (fun _ => rfl))) (ss_cons q_bad q_nil) q_nil) q_nil)
theorem w_is_content {f : Addr} (n_all : mg "all" = none) (n_isinstance : mg "isinstance" = none) (n_len : mg "len" = none) (n_tuple : mg "tuple" = none) (n_zip : mg "zip" = none) (c_is_within : Cal P w K mg base cm 2 "is_within" 3 m_is_within) (cdv : Value) (hcv : CodeIs K f cdv) (A : Around) (outer : List PySem.Env) (s : Shared) (H : Hp) (E : XK) (hr : Room 2 (A.deeper (envOfC Hd.d_is_content.qual Hd.d_is_content.scope s.heap.objs.size f cdv))) :
    PSs (cxOf (L2.CX P w) P w K mg base N_is_content Hd.d_is_content.qual Hd.d_is_content.scope f cdv A outer s H E) Hd.d_is_content.body (tS ⟨K, cm, w⟩ (fun cls d _ H => E cls d H) f_is_content.keeps f_is_content.body) := by
  have hN : N_is_content.Nodup := by decide
  have hu65 : (A.deeper (envOfC Hd.d_is_content.qual Hd.d_is_content.scope s.heap.objs.size f cdv)).units + 65 < cLine := by have := hr.un; omega
  have hu64 : (A.deeper (envOfC Hd.d_is_content.qual Hd.d_is_content.scope s.heap.objs.size f cdv)).units + 64 < cLine := by omega
  have hu1 : (A.deeper (envOfC Hd.d_is_content.qual Hd.d_is_content.scope s.heap.objs.size f cdv)).units + 1 < cLine := by omega
  have lv_is_within : 2 ≤ 2 := by decide
  exact (ss_cons (sk_if (PW.pt (sw_or (st_not (st_val (sx_isi (t := .tuple) (q := ⟨0, 0, 0, 0⟩) rfl rfl (fun _ _ => rfl) (sx_slot (pe_var rfl (by (first | exact .inl rfl | exact .inr (.inl rfl) | exact .inr (.inr rfl))))) (by rfl) n_isinstance (by rfl) n_tuple) (fun _ => rfl))) (sw_or1 (st_cmp (pk_ne rfl) (op_neD hu64) (pe_od (q_len rfl rfl (by rfl) n_len (fun _ _ => rfl) (sx_slot (pe_var rfl (by (first | exact .inl rfl | exact .inr (.inl rfl) | exact .inr (.inr rfl))))))) (pe_od (q_len rfl rfl (by rfl) n_len (fun _ _ => rfl) (sx_slot (pe_var rfl (by (first | exact .inl rfl | exact .inr (.inl rfl) | exact .inr (.inr rfl))))))) (nomark _))))) (ss_cons (sk_ret q_bl) q_nil) q_nil) (ss_cons (sk_ret (q_all rfl rfl (by rfl) n_all (fun _ _ => rfl) (pe_od (sx_lc rfl hN (by simp [slotsOf]) (pi_zp rfl (by rfl) n_zip (fun _ _ => rfl) (fun _ _ => rfl) (pa_cs (fun _ _ => rfl) (sx_var (pe_var rfl (by (first | exact .inl rfl | exact .inr (.inl rfl) | exact .inr (.inr rfl))))) (pa_cs (fun _ _ => rfl) (sx_var (pe_var rfl (by (first | exact .inl rfl | exact .inr (.inl rfl) | exact .inr (.inr rfl))))) pa_nl))) (blkOk_by (by first | rfl | decide +kernel)) (fun _ _ _ _ _ => (pg_tup rfl (nms_pgs hN (is := [2, 3]) ⟨(by (first | exact ⟨rfl, .inl rfl, .inl rfl⟩ | exact ⟨rfl, .inl rfl, .inr rfl⟩ | exact ⟨rfl, .inr rfl, .inl rfl⟩)), (by (first | exact ⟨rfl, .inl rfl, .inl rfl⟩ | exact ⟨rfl, .inl rfl, .inr rfl⟩ | exact ⟨rfl, .inr rfl, .inl rfl⟩)), trivial⟩) rfl rfl)) (fun _ _ _ _ _ => q_pts0) (fun _ _ _ _ _ => (sx_call (c_is_within.s hr lv_is_within) (ln_cons (ln_cons (ln_cons ln0))) takes_b (by rfl) (fun _ _ => rfl) (pa_csO (fun _ _ => rfl) (sx_slot (pe_var rfl (by (first | exact .inl rfl | exact .inr (.inl rfl) | exact .inr (.inr rfl))))) (pa_csO (fun _ _ => rfl) (pe_od q_int) (pa_csO (fun _ _ => rfl) (pe_od (sx_op pk_sub op_sub (sx_slot (pe_var rfl (by (first | exact .inl rfl | exact .inr (.inl rfl) | exact .inr (.inr rfl))))) (pe_od q_int))) pa_nlO))) (by rfl) (by decide))) (fun _ => rfl))))) q_nil))
theorem w_tuples_of {f : Addr}  (cdv : Value) (hcv : CodeIs K f cdv) (A : Around) (outer : List PySem.Env) (s : Shared) (H : Hp) (E : XK) (hr : Room 0 (A.deeper (envOfC Hd.d_tuples_of.qual Hd.d_tuples_of.scope s.heap.objs.size f cdv))) :
    PSs (cxOf (L2.CX P w) P w K mg base N_tuples_of Hd.d_tuples_of.qual Hd.d_tuples_of.scope f cdv A outer s H E) Hd.d_tuples_of.body (tS ⟨K, cm, w⟩ (fun cls d _ H => E cls d H) f_tuples_of.keeps f_tuples_of.body) := by
  have hN : N_tuples_of.Nodup := by decide
  have hu65 : (A.deeper (envOfC Hd.d_tuples_of.qual Hd.d_tuples_of.scope s.heap.objs.size f cdv)).units + 65 < cLine := by have := hr.un; omega
  have hu64 : (A.deeper (envOfC Hd.d_tuples_of.qual Hd.d_tuples_of.scope s.heap.objs.size f cdv)).units + 64 < cLine := by omega
  have hu1 : (A.deeper (envOfC Hd.d_tuples_of.qual Hd.d_tuples_of.scope s.heap.objs.size f cdv)).units + 1 < cLine := by omega
  exact (ss_cons (sk_set hN rfl (by first | exact .inl rfl | exact .inr rfl) rfl (sx_lst (pa_cs (fun _ _ => rfl) (sx_tup pa_nl) pa_nl)) (by rfl) (by decide)) (ss_cons (sk_for passes_c rfl (pi_val rfl (sx_var (pe_var rfl (by (first | exact .inl rfl | exact .inr (.inl rfl) | exact .inr (.inr rfl)))))) (nm_pg hN (by (first | exact ⟨rfl, .inl rfl, .inl rfl⟩ | exact ⟨rfl, .inl rfl, .inr rfl⟩ | exact ⟨rfl, .inr rfl, .inl rfl⟩))) (ss_cons (sk_set hN rfl (by first | exact .inl rfl | exact .inr rfl) rfl (sx_lst pa_nl) (by rfl) (by decide)) (ss_cons (sk_for passes_c rfl (pi_val rfl (sx_var (pe_var rfl (by (first | exact .inl rfl | exact .inr (.inl rfl) | exact .inr (.inr rfl)))))) (nm_pg hN (by (first | exact ⟨rfl, .inl rfl, .inl rfl⟩ | exact ⟨rfl, .inl rfl, .inr rfl⟩ | exact ⟨rfl, .inr rfl, .inl rfl⟩))) (ss_cons (sk_ex (sx_extend (fun _ _ => rfl) (pe_var rfl (by (first | exact .inl rfl | exact .inr (.inl rfl) | exact .inr (.inr rfl)))) (sx_lc rfl hN (by simp [slotsOf]) (pi_val rfl (sx_var (pe_var rfl (by (first | exact .inl rfl | exact .inr (.inl rfl) | exact .inr (.inr rfl)))))) (blkOk_by (by first | rfl | decide +kernel)) (fun _ _ _ _ _ => (nm_pg hN (by (first | exact ⟨rfl, .inl rfl, .inl rfl⟩ | exact ⟨rfl, .inl rfl, .inr rfl⟩ | exact ⟨rfl, .inr rfl, .inl rfl⟩)))) (fun _ _ _ _ _ => q_pts0) (fun _ _ _ _ _ => (sx_op (pk_add rfl) op_add3 (sx_slot (pe_var rfl (by (first | exact .inl rfl | exact .inr (.inl rfl) | exact .inr (.inr rfl))))) (pe_od (sx_tup (pa_cs (fun _ _ => rfl) (sx_var (pe_var rfl (by (first | exact .inl rfl | exact .inr (.inl rfl) | exact .inr (.inr rfl))))) pa_nl))))) (fun _ => rfl)) (by rfl) (by rfl) (by rfl)) (by rfl)) q_nil) (fun _ => rfl) (by decide)) (ss_cons (sk_set hN rfl (by first | exact .inl rfl | exact .inr rfl) rfl (sx_mv (pe_var rfl (by (first | exact .inl rfl | exact .inr (.inl rfl) | exact .inr (.inr rfl))))) (by rfl) (by decide)) q_nil))) (fun _ => rfl) (by decide)) (ss_cons (sk_retv (pe_var rfl (by (first | exact .inl rfl | exact .inr (.inl rfl) | exact .inr (.inr rfl))))) q_nil)))
theorem w_contents_of {f : Addr} (n_list : mg "list" = none) (n_range : mg "range" = none) (c_tuples_of : Cal P w K mg base cm 1 "tuples_of" 1 m_tuples_of) (cdv : Value) (hcv : CodeIs K f cdv) (A : Around) (outer : List PySem.Env) (s : Shared) (H : Hp) (E : XK) (hr : Room 1 (A.deeper (envOfC Hd.d_contents_of.qual Hd.d_contents_of.scope s.heap.objs.size f cdv))) :
    PSs (cxOf (L2.CX P w) P w K mg base N_contents_of Hd.d_contents_of.qual Hd.d_contents_of.scope f cdv A outer s H E) Hd.d_contents_of.body (tS ⟨K, cm, w⟩ (fun cls d _ H => E cls d H) f_contents_of.keeps f_contents_of.body) := by
  have hN : N_contents_of.Nodup := by decide
  have hu65 : (A.deeper (envOfC Hd.d_contents_of.qual Hd.d_contents_of.scope s.heap.objs.size f cdv)).units + 65 < cLine := by have := hr.un; omega
  have hu64 : (A.deeper (envOfC Hd.d_contents_of.qual Hd.d_contents_of.scope s.heap.objs.size f cdv)).units + 64 < cLine := by omega
  have hu1 : (A.deeper (envOfC Hd.d_contents_of.qual Hd.d_contents_of.scope s.heap.objs.size f cdv)).units + 1 < cLine := by omega
  have lv_tuples_of : 1 ≤ 1 := by decide
  exact (ss_cons (sk_ret (sx_call (c_tuples_of.s hr lv_tuples_of) (ln_cons ln0) takes_c (by rfl) (fun _ _ => rfl) (pa_csO (fun _ _ => rfl) (pe_od (sx_lc rfl hN (by simp [slotsOf]) (pi_val rfl (sx_var (pe_var rfl (by (first | exact .inl rfl | exact .inr (.inl rfl) | exact .inr (.inr rfl)))))) (blkOk_by (by first | rfl | decide +kernel)) (fun _ _ _ _ _ => (nm_pg hN (by (first | exact ⟨rfl, .inl rfl, .inl rfl⟩ | exact ⟨rfl, .inl rfl, .inr rfl⟩ | exact ⟨rfl, .inr rfl, .inl rfl⟩)))) (fun _ _ _ _ _ => q_pts0) (fun _ _ _ _ _ => (q_lrg1 rfl (by rfl) n_list (by rfl) n_range (fun _ _ => rfl) (sx_var (pe_var rfl (by (first | exact .inl rfl | exact .inr (.inl rfl) | exact .inr (.inr rfl))))))) (fun _ => rfl))) pa_nlO) (by rfl) (by decide))) q_nil)
theorem w_patterns_of {f : Addr} (n_sorted : mg "sorted" = none) (c_all_lots : Cal P w K mg base cm 1 "all_lots" 1 m_all_lots) (cdv : Value) (hcv : CodeIs K f cdv) (A : Around) (outer : List PySem.Env) (s : Shared) (H : Hp) (E : XK) (hr : Room 1 (A.deeper (envOfC Hd.d_patterns_of.qual Hd.d_patterns_of.scope s.heap.objs.size f cdv))) :
    PSs (cxOf (L2.CX P w) P w K mg base N_patterns_of Hd.d_patterns_of.qual Hd.d_patterns_of.scope f cdv A outer s H E) Hd.d_patterns_of.body (tS ⟨K, cm, w⟩ (fun cls d _ H => E cls d H) f_patterns_of.keeps f_patterns_of.body) := by
  have hN : N_patterns_of.Nodup := by decide
  have hu65 : (A.deeper (envOfC Hd.d_patterns_of.qual Hd.d_patterns_of.scope s.heap.objs.size f cdv)).units + 65 < cLine := by have := hr.un; omega
  have hu64 : (A.deeper (envOfC Hd.d_patterns_of.qual Hd.d_patterns_of.scope s.heap.objs.size f cdv)).units + 64 < cLine := by omega
  have hu1 : (A.deeper (envOfC Hd.d_patterns_of.qual Hd.d_patterns_of.scope s.heap.objs.size f cdv)).units + 1 < cLine := by omega
  have lv_all_lots : 1 ≤ 1 := by decide
  exact (ss_cons (sk_ret (q_sorted rfl rfl rfl hu65 (by rfl) n_sorted (fun _ _ => rfl) (pe_od (sx_call (c_all_lots.s hr lv_all_lots) (ln_cons ln0) takes_c (by rfl) (fun _ _ => rfl) (pa_csO (fun _ _ => rfl) (sx_slot (pe_var rfl (by (first | exact .inl rfl | exact .inr (.inl rfl) | exact .inr (.inr rfl))))) pa_nlO) (by rfl) (by decide))))) q_nil)
theorem w_views_of {f : Addr} (n_enumerate : mg "enumerate" = none) (n_list : mg "list" = none) (n_range : mg "range" = none) {u_BLANK : Value} (g_BLANK : mg "BLANK" = some u_BLANK) (r_BLANK : RelV (.int (-1)) u_BLANK) (c_tuples_of : Cal P w K mg base cm 1 "tuples_of" 1 m_tuples_of) (cdv : Value) (hcv : CodeIs K f cdv) (A : Around) (outer : List PySem.Env) (s : Shared) (H : Hp) (E : XK) (hr : Room 1 (A.deeper (envOfC Hd.d_views_of.qual Hd.d_views_of.scope s.heap.objs.size f cdv))) :
    PSs (cxOf (L2.CX P w) P w K mg base N_views_of Hd.d_views_of.qual Hd.d_views_of.scope f cdv A outer s H E) Hd.d_views_of.body (tS ⟨K, cm, w⟩ (fun cls d _ H => E cls d H) f_views_of.keeps f_views_of.body) := by
  have hN : N_views_of.Nodup := by decide
  have hu65 : (A.deeper (envOfC Hd.d_views_of.qual Hd.d_views_of.scope s.heap.objs.size f cdv)).units + 65 < cLine := by have := hr.un; omega
  have hu64 : (A.deeper (envOfC Hd.d_views_of.qual Hd.d_views_of.scope s.heap.objs.size f cdv)).units + 64 < cLine := by omega
  have hu1 : (A.deeper (envOfC Hd.d_views_of.qual Hd.d_views_of.scope s.heap.objs.size f cdv)).units + 1 < cLine := by omega
  have lv_tuples_of : 1 ≤ 1 := by decide
  exact (ss_cons (sk_ret (sx_call (c_tuples_of.s hr lv_tuples_of) (ln_cons ln0) takes_c (by rfl) (fun _ _ => rfl) (pa_csO (fun _ _ => rfl) (pe_od (sx_lc rfl hN (by simp [slotsOf]) (pi_enT rfl (by rfl) n_enumerate (fun _ _ => rfl) (pa_cs (fun _ _ => rfl) (sx_var (pe_var rfl (by (first | exact .inl rfl | exact .inr (.inl rfl) | exact .inr (.inr rfl))))) pa_nl)) (blkOk_by (by first | rfl | decide +kernel)) (fun _ _ _ _ _ => (pg_tup rfl (nms_pgs hN (is := [2, 3]) ⟨(by (first | exact ⟨rfl, .inl rfl, .inl rfl⟩ | exact ⟨rfl, .inl rfl, .inr rfl⟩ | exact ⟨rfl, .inr rfl, .inl rfl⟩)), (by (first | exact ⟨rfl, .inl rfl, .inl rfl⟩ | exact ⟨rfl, .inl rfl, .inr rfl⟩ | exact ⟨rfl, .inr rfl, .inl rfl⟩)), trivial⟩) rfl rfl)) (fun _ _ _ _ _ => q_pts0) (fun _ _ _ _ _ => (sx_ite (st_cmp (pk_inn rfl) (op_in3 rfl rfl hu65) (sx_slot (pe_var rfl (by (first | exact .inl rfl | exact .inr (.inl rfl) | exact .inr (.inr rfl))))) (sx_slot (pe_var rfl (by (first | exact .inl rfl | exact .inr (.inl rfl) | exact .inr (.inr rfl))))) (by with_unfolding_all rfl)) (q_lrg1 rfl (by rfl) n_list (by rfl) n_range (fun _ _ => rfl) (sx_var (pe_var rfl (by (first | exact .inl rfl | exact .inr (.inl rfl) | exact .inr (.inr rfl)))))) (sx_lst (pa_cs (fun _ _ => rfl) (q_gint (by rfl) g_BLANK r_BLANK (by decide)) pa_nl)))) (fun _ => rfl))) pa_nlO) (by rfl) (by decide))) q_nil)
theorem w_view_of {f : Addr} (n_enumerate : mg "enumerate" = none) (n_tuple : mg "tuple" = none) {u_BLANK : Value} (g_BLANK : mg "BLANK" = some u_BLANK) (r_BLANK : RelV (.int (-1)) u_BLANK) (cdv : Value) (hcv : CodeIs K f cdv) (A : Around) (outer : List PySem.Env) (s : Shared) (H : Hp) (E : XK) (hr : Room 0 (A.deeper (envOfC Hd.d_view_of.qual Hd.d_view_of.scope s.heap.objs.size f cdv))) :
    PSs (cxOf (L2.CX P w) P w K mg base N_view_of Hd.d_view_of.qual Hd.d_view_of.scope f cdv A outer s H E) Hd.d_view_of.body (tS ⟨K, cm, w⟩ (fun cls d _ H => E cls d H) f_view_of.keeps f_view_of.body) := by
  have hN : N_view_of.Nodup := by decide
  have hu65 : (A.deeper (envOfC Hd.d_view_of.qual Hd.d_view_of.scope s.heap.objs.size f cdv)).units + 65 < cLine := by have := hr.un; omega
  have hu64 : (A.deeper (envOfC Hd.d_view_of.qual Hd.d_view_of.scope s.heap.objs.size f cdv)).units + 64 < cLine := by omega
  have hu1 : (A.deeper (envOfC Hd.d_view_of.qual Hd.d_view_of.scope s.heap.objs.size f cdv)).units + 1 < cLine := by omega
  exact (ss_cons (sk_ret (q_tuple rfl (by rfl) n_tuple (fun _ _ => rfl) (pe_od (sx_lc rfl hN (by simp [slotsOf]) (pi_enT rfl (by rfl) n_enumerate (fun _ _ => rfl) (pa_cs (fun _ _ => rfl) (sx_var (pe_var rfl (by (first | exact .inl rfl | exact .inr (.inl rfl) | exact .inr (.inr rfl))))) pa_nl)) (blkOk_by (by first | rfl | decide +kernel)) (fun _ _ _ _ _ => (pg_tup rfl (nms_pgs hN (is := [2, 3]) ⟨(by (first | exact ⟨rfl, .inl rfl, .inl rfl⟩ | exact ⟨rfl, .inl rfl, .inr rfl⟩ | exact ⟨rfl, .inr rfl, .inl rfl⟩)), (by (first | exact ⟨rfl, .inl rfl, .inl rfl⟩ | exact ⟨rfl, .inl rfl, .inr rfl⟩ | exact ⟨rfl, .inr rfl, .inl rfl⟩)), trivial⟩) rfl rfl)) (fun _ _ _ _ _ => q_pts0) (fun _ _ _ _ _ => (sx_ite (st_cmp (pk_inn rfl) (op_in3 rfl rfl hu65) (sx_slot (pe_var rfl (by (first | exact .inl rfl | exact .inr (.inl rfl) | exact .inr (.inr rfl))))) (sx_slot (pe_var rfl (by (first | exact .inl rfl | exact .inr (.inl rfl) | exact .inr (.inr rfl))))) (by with_unfolding_all rfl)) (sx_var (pe_var rfl (by (first | exact .inl rfl | exact .inr (.inl rfl) | exact .inr (.inr rfl))))) (q_gint (by rfl) g_BLANK r_BLANK (by decide)))) (fun _ => rfl))))) q_nil)
theorem w_contents {f : Addr} (c_check_sizes : Cal P w K mg base cm 4 "check_sizes" 1 m_check_sizes) (c_contents_of : Cal P w K mg base cm 2 "contents_of" 1 m_contents_of) (cdv : Value) (hcv : CodeIs K f cdv) (A : Around) (outer : List PySem.Env) (s : Shared) (H : Hp) (E : XK) (hr : Room 4 (A.deeper (envOfC Hd.d_contents.qual Hd.d_contents.scope s.heap.objs.size f cdv))) :
    PSs (cxOf (L2.CX P w) P w K mg base N_contents Hd.d_contents.qual Hd.d_contents.scope f cdv A outer s H E) Hd.d_contents.body (tS ⟨K, cm, w⟩ (fun cls d _ H => E cls d H) f_contents.keeps f_contents.body) := by
  have hN : N_contents.Nodup := by decide
  have hu65 : (A.deeper (envOfC Hd.d_contents.qual Hd.d_contents.scope s.heap.objs.size f cdv)).units + 65 < cLine := by have := hr.un; omega
  have hu64 : (A.deeper (envOfC Hd.d_contents.qual Hd.d_contents.scope s.heap.objs.size f cdv)).units + 64 < cLine := by omega
  have hu1 : (A.deeper (envOfC Hd.d_contents.qual Hd.d_contents.scope s.heap.objs.size f cdv)).units + 1 < cLine := by omega
  have lv_contents_of : 2 ≤ 4 := by decide
  have lv_check_sizes : 4 ≤ 4 := by decide
  exact (ss_cons (sk_ex (sx_call (c_check_sizes.s hr lv_check_sizes) (ln_cons ln0) takes_c (by rfl) (fun _ _ => rfl) (pa_csO (fun _ _ => rfl) (sx_slot (pe_var rfl (by (first | exact .inl rfl | exact .inr (.inl rfl) | exact .inr (.inr rfl))))) pa_nlO) (by rfl) (by decide)) (by rfl)) (ss_cons (sk_ret (sx_call (c_contents_of.s hr lv_contents_of) (ln_cons ln0) takes_c (by rfl) (fun _ _ => rfl) (pa_csO (fun _ _ => rfl) (sx_slot (pe_var rfl (by (first | exact .inl rfl | exact .inr (.inl rfl) | exact .inr (.inr rfl))))) pa_nlO) (by rfl) (by decide))) q_nil))
theorem w_patterns {f : Addr} (n_len : mg "len" = none) (c_check_sizes : Cal P w K mg base cm 4 "check_sizes" 1 m_check_sizes) (c_patterns_of : Cal P w K mg base cm 2 "patterns_of" 1 m_patterns_of) (cdv : Value) (hcv : CodeIs K f cdv) (A : Around) (outer : List PySem.Env) (s : Shared) (H : Hp) (E : XK) (hr : Room 4 (A.deeper (envOfC Hd.d_patterns.qual Hd.d_patterns.scope s.heap.objs.size f cdv))) :
    PSs (cxOf (L2.CX P w) P w K mg base N_patterns Hd.d_patterns.qual Hd.d_patterns.scope f cdv A outer s H E) Hd.d_patterns.body (tS ⟨K, cm, w⟩ (fun cls d _ H => E cls d H) f_patterns.keeps f_patterns.body) := by
  have hN : N_patterns.Nodup := by decide
  have hu65 : (A.deeper (envOfC Hd.d_patterns.qual Hd.d_patterns.scope s.heap.objs.size f cdv)).units + 65 < cLine := by have := hr.un; omega
  have hu64 : (A.deeper (envOfC Hd.d_patterns.qual Hd.d_patterns.scope s.heap.objs.size f cdv)).units + 64 < cLine := by omega
  have hu1 : (A.deeper (envOfC Hd.d_patterns.qual Hd.d_patterns.scope s.heap.objs.size f cdv)).units + 1 < cLine := by omega
  have lv_patterns_of : 2 ≤ 4 := by decide
  have lv_check_sizes : 4 ≤ 4 := by decide
  exact (ss_cons (sk_ex (sx_call (c_check_sizes.s hr lv_check_sizes) (ln_cons ln0) takes_c (by rfl) (fun _ _ => rfl) (pa_csO (fun _ _ => rfl) (sx_slot (pe_var rfl (by (first | exact .inl rfl | exact .inr (.inl rfl) | exact .inr (.inr rfl))))) pa_nlO) (by rfl) (by decide)) (by rfl)) (ss_cons (sk_ret (sx_call (c_patterns_of.s hr lv_patterns_of) (ln_cons ln0) takes_c (by rfl) (fun _ _ => rfl) (pa_csO (fun _ _ => rfl) (pe_od (q_len rfl rfl (by rfl) n_len (fun _ _ => rfl) (sx_slot (pe_var rfl (by (first | exact .inl rfl | exact .inr (.inl rfl) | exact .inr (.inr rfl))))))) pa_nlO) (by rfl) (by decide))) q_nil))
theorem w_views {f : Addr} (c_check_pattern : Cal P w K mg base cm 4 "check_pattern" 2 m_check_pattern) (c_check_sizes : Cal P w K mg base cm 4 "check_sizes" 1 m_check_sizes) (c_views_of : Cal P w K mg base cm 2 "views_of" 2 m_views_of) (cdv : Value) (hcv : CodeIs K f cdv) (A : Around) (outer : List PySem.Env) (s : Shared) (H : Hp) (E : XK) (hr : Room 4 (A.deeper (envOfC Hd.d_views.qual Hd.d_views.scope s.heap.objs.size f cdv))) :
    PSs (cxOf (L2.CX P w) P w K mg base N_views Hd.d_views.qual Hd.d_views.scope f cdv A outer s H E) Hd.d_views.body (tS ⟨K, cm, w⟩ (fun cls d _ H => E cls d H) f_views.keeps f_views.body) := by
  have hN : N_views.Nodup := by decide
  have hu65 : (A.deeper (envOfC Hd.d_views.qual Hd.d_views.scope s.heap.objs.size f cdv)).units + 65 < cLine := by have := hr.un; omega
  have hu64 : (A.deeper (envOfC Hd.d_views.qual Hd.d_views.scope s.heap.objs.size f cdv)).units + 64 < cLine := by omega
  have hu1 : (A.deeper (envOfC Hd.d_views.qual Hd.d_views.scope s.heap.objs.size f cdv)).units + 1 < cLine := by omega
  have lv_views_of : 2 ≤ 4 := by decide
  have lv_check_pattern : 4 ≤ 4 := by decide
  have lv_check_sizes : 4 ≤ 4 := by decide
  exact (ss_cons (sk_ex (sx_call (c_check_sizes.s hr lv_check_sizes) (ln_cons ln0) takes_c (by rfl) (fun _ _ => rfl) (pa_csO (fun _ _ => rfl) (sx_slot (pe_var rfl (by (first | exact .inl rfl | exact .inr (.inl rfl) | exact .inr (.inr rfl))))) pa_nlO) (by rfl) (by decide)) (by rfl)) (ss_cons (sk_ex (sx_call (c_check_pattern.s hr lv_check_pattern) (ln_cons (ln_cons ln0)) takes_c (by rfl) (fun _ _ => rfl) (pa_csO (fun _ _ => rfl) (sx_slot (pe_var rfl (by (first | exact .inl rfl | exact .inr (.inl rfl) | exact .inr (.inr rfl))))) (pa_csO (fun _ _ => rfl) (sx_slot (pe_var rfl (by (first | exact .inl rfl | exact .inr (.inl rfl) | exact .inr (.inr rfl))))) pa_nlO)) (by rfl) (by decide)) (by rfl)) (ss_cons (sk_ret (sx_call (c_views_of.s hr lv_views_of) (ln_cons (ln_cons ln0)) takes_c (by rfl) (fun _ _ => rfl) (pa_csO (fun _ _ => rfl) (sx_slot (pe_var rfl (by (first | exact .inl rfl | exact .inr (.inl rfl) | exact .inr (.inr rfl))))) (pa_csO (fun _ _ => rfl) (sx_slot (pe_var rfl (by (first | exact .inl rfl | exact .inr (.inl rfl) | exact .inr (.inr rfl))))) pa_nlO)) (by rfl) (by decide))) q_nil)))
theorem w_view {f : Addr} (c_check_pattern : Cal P w K mg base cm 4 "check_pattern" 2 m_check_pattern) (c_check_sizes : Cal P w K mg base cm 4 "check_sizes" 1 m_check_sizes) (c_is_content : Cal P w K mg base cm 3 "is_content" 2 m_is_content) (c_view_of : Cal P w K mg base cm 1 "view_of" 2 m_view_of) (cdv : Value) (hcv : CodeIs K f cdv) (A : Around) (outer : List PySem.Env) (s : Shared) (H : Hp) (E : XK) (hr : Room 4 (A.deeper (envOfC Hd.d_view.qual Hd.d_view.scope s.heap.objs.size f cdv))) :
    PSs (cxOf (L2.CX P w) P w K mg base N_view Hd.d_view.qual Hd.d_view.scope f cdv A outer s H E) Hd.d_view.body (tS ⟨K, cm, w⟩ (fun cls d _ H => E cls d H) f_view.keeps f_view.body) := by
  have hN : N_view.Nodup := by decide
  have hu65 : (A.deeper (envOfC Hd.d_view.qual Hd.d_view.scope s.heap.objs.size f cdv)).units + 65 < cLine := by have := hr.un; omega
  have hu64 : (A.deeper (envOfC Hd.d_view.qual Hd.d_view.scope s.heap.objs.size f cdv)).units + 64 < cLine := by omega
  have hu1 : (A.deeper (envOfC Hd.d_view.qual Hd.d_view.scope s.heap.objs.size f cdv)).units + 1 < cLine := by omega
  have lv_check_pattern : 4 ≤ 4 := by decide
  have lv_is_content : 3 ≤ 4 := by decide
  have lv_view_of : 1 ≤ 4 := by decide
  have lv_check_sizes : 4 ≤ 4 := by decide
  exact (ss_cons (sk_ex (sx_call (c_check_sizes.s hr lv_check_sizes) (ln_cons ln0) takes_c (by rfl) (fun _ _ => rfl) (pa_csO (fun _ _ => rfl) (sx_slot (pe_var rfl (by (first | exact .inl rfl | exact .inr (.inl rfl) | exact .inr (.inr rfl))))) pa_nlO) (by rfl) (by decide)) (by rfl)) (ss_cons (sk_if (st_not (st_val (sx_call (c_is_content.s hr lv_is_content) (ln_cons (ln_cons ln0)) takes_c (by rfl) (fun _ _ => rfl) (pa_csO (fun _ _ => rfl) (sx_slot (pe_var rfl (by (first | exact .inl rfl | exact .inr (.inl rfl) | exact .inr (.inr rfl))))) (pa_csO (fun _ _ => rfl) (sx_slot (pe_var rfl (by (first | exact .inl rfl | exact .inr (.inl rfl) | exact .inr (.inr rfl))))) pa_nlO)) (by rfl) (by decide)) (fun _ => rfl))) (ss_cons q_bad q_nil) q_nil) (ss_cons (sk_ex (sx_call (c_check_pattern.s hr lv_check_pattern) (ln_cons (ln_cons ln0)) takes_c (by rfl) (fun _ _ => rfl) (pa_csO (fun _ _ => rfl) (sx_slot (pe_var rfl (by (first | exact .inl rfl | exact .inr (.inl rfl) | exact .inr (.inr rfl))))) (pa_csO (fun _ _ => rfl) (sx_slot (pe_var rfl (by (first | exact .inl rfl | exact .inr (.inl rfl) | exact .inr (.inr rfl))))) pa_nlO)) (by rfl) (by decide)) (by rfl)) (ss_cons (sk_ret (sx_call (c_view_of.s hr lv_view_of) (ln_cons (ln_cons ln0)) takes_c (by rfl) (fun _ _ => rfl) (pa_csO (fun _ _ => rfl) (sx_slot (pe_var rfl (by (first | exact .inl rfl | exact .inr (.inl rfl) | exact .inr (.inr rfl))))) (pa_csO (fun _ _ => rfl) (sx_slot (pe_var rfl (by (first | exact .inl rfl | exact .inr (.inl rfl) | exact .inr (.inr rfl))))) pa_nlO)) (by rfl) (by decide))) q_nil))))
theorem w__law_hand {f : Addr} (n_abs : mg "abs" = none) (n_int : mg "int" = none) (n_len : mg "len" = none) (cdv : Value) (hcv : CodeIs K f cdv) (A : Around) (outer : List PySem.Env) (s : Shared) (H : Hp) (E : XK) (hr : Room 0 (A.deeper (envOfC Hd.d__law_hand.qual Hd.d__law_hand.scope s.heap.objs.size f cdv))) :
    PSs (cxOf (L2.CX P w) P w K mg base N__law_hand Hd.d__law_hand.qual Hd.d__law_hand.scope f cdv A outer s H E) Hd.d__law_hand.body (tS ⟨K, cm, w⟩ (fun cls d _ H => E cls d H) f__law_hand.keeps f__law_hand.body) := by
  have hN : N__law_hand.Nodup := by decide
  have hu65 : (A.deeper (envOfC Hd.d__law_hand.qual Hd.d__law_hand.scope s.heap.objs.size f cdv)).units + 65 < cLine := by have := hr.un; omega
  have hu64 : (A.deeper (envOfC Hd.d__law_hand.qual Hd.d__law_hand.scope s.heap.objs.size f cdv)).units + 64 < cLine := by omega
  have hu1 : (A.deeper (envOfC Hd.d__law_hand.qual Hd.d__law_hand.scope s.heap.objs.size f cdv)).units + 1 < cLine := by omega
  exact (ss_cons (sk_setLc rfl hN rfl rfl (by first | rfl | with_unfolding_all rfl | kernel_rfl) (by decide) (by simp [slotsOf]) (pi_val rfl (sx_sl rfl (sx_slot (pe_var rfl (by (first | exact .inl rfl | exact .inr (.inl rfl) | exact .inr (.inr rfl))))) po_no (po_so q_int))) (blkOk_by (by first | rfl | decide +kernel)) (fun _ _ _ _ _ => (nm_pg hN (by (first | exact ⟨rfl, .inl rfl, .inl rfl⟩ | exact ⟨rfl, .inl rfl, .inr rfl⟩ | exact ⟨rfl, .inr rfl, .inl rfl⟩)))) (fun _ _ _ _ _ => q_pts0) (fun _ _ _ _ _ => (q_abs  (by rfl) n_abs (fun _ _ => rfl) (pe_od (q_intC  (by rfl) n_int (fun _ _ => rfl) (sx_slot (pe_var rfl (by (first | exact .inl rfl | exact .inr (.inl rfl) | exact .inr (.inr rfl))))))))) (fun _ => rfl)) (ss_cons (sk_ret (sx_dic (pd_cons (sx_var (pe_var rfl (by (first | exact .inl rfl | exact .inr (.inl rfl) | exact .inr (.inr rfl))))) (pd_cons q_int (pd_cons q_int (pd_cons (sx_op (pk_add rfl) op_add3 (pe_od q_int) (pe_od (q_len rfl rfl (by rfl) n_len (fun _ _ => rfl) (sx_slot (pe_var rfl (by (first | exact .inl rfl | exact .inr (.inl rfl) | exact .inr (.inr rfl)))))))) (pd_cons q_int pd_nil))))) (fun h => nomatch h) (by decide))) q_nil))
theorem w__law_draw {f : Addr} (n_int : mg "int" = none) (n_len : mg "len" = none) (cdv : Value) (hcv : CodeIs K f cdv) (A : Around) (outer : List PySem.Env) (s : Shared) (H : Hp) (E : XK) (hr : Room 0 (A.deeper (envOfC Hd.d__law_draw.qual Hd.d__law_draw.scope s.heap.objs.size f cdv))) :
    PSs (cxOf (L2.CX P w) P w K mg base N__law_draw Hd.d__law_draw.qual Hd.d__law_draw.scope f cdv A outer s H E) Hd.d__law_draw.body (tS ⟨K, cm, w⟩ (fun cls d _ H => E cls d H) f__law_draw.keeps f__law_draw.body) := by
  have hN : N__law_draw.Nodup := by decide
  have hu65 : (A.deeper (envOfC Hd.d__law_draw.qual Hd.d__law_draw.scope s.heap.objs.size f cdv)).units + 65 < cLine := by have := hr.un; omega
  have hu64 : (A.deeper (envOfC Hd.d__law_draw.qual Hd.d__law_draw.scope s.heap.objs.size f cdv)).units + 64 < cLine := by omega
  have hu1 : (A.deeper (envOfC Hd.d__law_draw.qual Hd.d__law_draw.scope s.heap.objs.size f cdv)).units + 1 < cLine := by omega
  exact (ss_cons (sk_if (PW.pt (sw_and (st_cmp (pk_eq rfl) (op_eqD hu64) (pe_od (sx_ix rfl rfl hu64 (sx_slot (pe_var rfl (by (first | exact .inl rfl | exact .inr (.inl rfl) | exact .inr (.inr rfl))))) (pe_od q_str) (fun _ _ => rfl))) (pe_od q_int) (nomark _)) (sw_and1 (st_cmp pk_lt (op_lt2 rfl hu64) (pe_od (sx_ix rfl rfl hu64 (sx_slot (pe_var rfl (by (first | exact .inl rfl | exact .inr (.inl rfl) | exact .inr (.inr rfl))))) (pe_od q_str) (fun _ _ => rfl))) (pe_od (q_len rfl rfl (by rfl) n_len (fun _ _ => rfl) (pe_od (sx_ix rfl rfl hu64 (sx_slot (pe_var rfl (by (first | exact .inl rfl | exact .inr (.inl rfl) | exact .inr (.inr rfl))))) (pe_od q_str) (fun _ _ => rfl))))) (nomark _))))) (ss_cons (sk_set hN rfl (by first | exact .inl rfl | exact .inr rfl) rfl (sx_ix rfl rfl hu64 (pe_od (sx_ix rfl rfl hu64 (sx_slot (pe_var rfl (by (first | exact .inl rfl | exact .inr (.inl rfl) | exact .inr (.inr rfl))))) (pe_od q_str) (fun _ _ => rfl))) (pe_od (sx_ix rfl rfl hu64 (sx_slot (pe_var rfl (by (first | exact .inl rfl | exact .inr (.inl rfl) | exact .inr (.inr rfl))))) (pe_od q_str) (fun _ _ => rfl))) (fun _ _ => rfl)) (by rfl) (by decide)) (ss_cons (sk_setSub rfl rfl hu64 (pe_var rfl (by (first | exact .inl rfl | exact .inr (.inl rfl) | exact .inr (.inr rfl)))) q_str (sx_op (pk_add rfl) op_add3 (pe_od (sx_ix rfl rfl hu64 (sx_slot (pe_var rfl (by (first | exact .inl rfl | exact .inr (.inl rfl) | exact .inr (.inr rfl))))) (pe_od q_str) (fun _ _ => rfl))) (pe_od q_int)) (by rfl) (fun _ => rfl)) (ss_cons (sk_setSub rfl rfl hu64 (pe_var rfl (by (first | exact .inl rfl | exact .inr (.inl rfl) | exact .inr (.inr rfl)))) q_str (sx_op pk_mod op_mod (pe_od (q_intC  (by rfl) n_int (fun _ _ => rfl) (pe_od (sx_op (pk_add rfl) op_add3 (pe_od (sx_op (pk_add rfl) op_add3 (pe_od (sx_op pk_mul op_mul2 (pe_od (sx_ix rfl rfl hu64 (sx_slot (pe_var rfl (by (first | exact .inl rfl | exact .inr (.inl rfl) | exact .inr (.inr rfl))))) (pe_od q_str) (fun _ _ => rfl))) (pe_od q_int))) (sx_slot (pe_var rfl (by (first | exact .inl rfl | exact .inr (.inl rfl) | exact .inr (.inr rfl))))))) (pe_od q_int))))) (pe_od q_int)) (by rfl) (fun _ => rfl)) (ss_cons (sk_if (st_cmp pk_ge op_ge (sx_slot (pe_var rfl (by (first | exact .inl rfl | exact .inr (.inl rfl) | exact .inr (.inr rfl))))) (pe_od (sx_op pk_pow op_pow (pe_od q_int) (pe_od q_int))) (nomark _)) (ss_cons (sk_setSub rfl rfl hu64 (pe_var rfl (by (first | exact .inl rfl | exact .inr (.inl rfl) | exact .inr (.inr rfl)))) q_str (sx_var (pe_var rfl (by (first | exact .inl rfl | exact .inr (.inl rfl) | exact .inr (.inr rfl))))) (by rfl) (fun _ => rfl)) q_nil) q_nil) q_nil)))) q_nil) (ss_cons (sk_if (st_cmp pk_gt op_gt (pe_od (sx_ix rfl rfl hu64 (sx_slot (pe_var rfl (by (first | exact .inl rfl | exact .inr (.inl rfl) | exact .inr (.inr rfl))))) (pe_od q_str) (fun _ _ => rfl))) (pe_od q_int) (nomark _)) (ss_cons (sk_set hN rfl (by first | exact .inl rfl | exact .inr rfl) rfl (sx_op pk_mod op_mod (pe_od (q_intC  (by rfl) n_int (fun _ _ => rfl) (pe_od (sx_ix rfl rfl hu64 (sx_slot (pe_var rfl (by (first | exact .inl rfl | exact .inr (.inl rfl) | exact .inr (.inr rfl))))) (pe_od q_str) (fun _ _ => rfl))))) (sx_slot (pe_var rfl (by (first | exact .inl rfl | exact .inr (.inl rfl) | exact .inr (.inr rfl)))))) (by rfl) (by decide)) (ss_cons (sk_setSub rfl rfl hu64 (pe_var rfl (by (first | exact .inl rfl | exact .inr (.inl rfl) | exact .inr (.inr rfl)))) q_str (sx_op pk_fdiv op_fdivW (pe_od (sx_ix rfl rfl hu64 (sx_slot (pe_var rfl (by (first | exact .inl rfl | exact .inr (.inl rfl) | exact .inr (.inr rfl))))) (pe_od q_str) (fun _ _ => rfl))) (sx_slot (pe_var rfl (by (first | exact .inl rfl | exact .inr (.inl rfl) | exact .inr (.inr rfl)))))) (by rfl) (fun _ => rfl)) (ss_cons (sk_retv (pe_var rfl (by (first | exact .inl rfl | exact .inr (.inl rfl) | exact .inr (.inr rfl))))) q_nil))) q_nil) (ss_cons (sk_setSub rfl rfl hu64 (pe_var rfl (by (first | exact .inl rfl | exact .inr (.inl rfl) | exact .inr (.inr rfl)))) q_str (sx_op (pk_add rfl) op_add3 (pe_od (sx_ix rfl rfl hu64 (sx_slot (pe_var rfl (by (first | exact .inl rfl | exact .inr (.inl rfl) | exact .inr (.inr rfl))))) (pe_od q_str) (fun _ _ => rfl))) (pe_od q_int)) (by rfl) (fun _ => rfl)) (ss_cons (sk_set hN rfl (by first | exact .inl rfl | exact .inr rfl) rfl (sx_op pk_mod op_mod (pe_od (q_intC  (by rfl) n_int (fun _ _ => rfl) (pe_od (sx_op pk_mul op_mul2 (pe_od (q_intC  (by rfl) n_int (fun _ _ => rfl) (pe_od (sx_op (pk_add rfl) op_add3 (pe_od (sx_op (pk_add rfl) op_add3 (pe_od (sx_ix rfl rfl hu64 (sx_slot (pe_var rfl (by (first | exact .inl rfl | exact .inr (.inl rfl) | exact .inr (.inr rfl))))) (pe_od q_str) (fun _ _ => rfl))) (pe_od q_int))) (pe_od (sx_op pk_mul op_mul2 (pe_od q_int) (pe_od (sx_ix rfl rfl hu64 (sx_slot (pe_var rfl (by (first | exact .inl rfl | exact .inr (.inl rfl) | exact .inr (.inr rfl))))) (pe_od q_str) (fun _ _ => rfl))))))))) (pe_od q_int))))) (pe_od q_int)) (by rfl) (by decide)) (ss_cons (sk_set hN rfl (by first | exact .inl rfl | exact .inr rfl) rfl (sx_op pk_mod op_mod (pe_od (q_intC  (by rfl) n_int (fun _ _ => rfl) (pe_od (sx_op pk_mul op_mul2 (sx_slot (pe_var rfl (by (first | exact .inl rfl | exact .inr (.inl rfl) | exact .inr (.inr rfl))))) (pe_od (sx_op (pk_add rfl) op_add3 (pe_od (sx_op pk_fdiv op_fdivW (sx_slot (pe_var rfl (by (first | exact .inl rfl | exact .inr (.inl rfl) | exact .inr (.inr rfl))))) (pe_od q_int))) (pe_od q_int))))))) (pe_od q_int)) (by rfl) (by decide)) (ss_cons (sk_set hN rfl (by first | exact .inl rfl | exact .inr rfl) rfl (sx_op pk_mod op_mod (pe_od (q_intC  (by rfl) n_int (fun _ _ => rfl) (pe_od (sx_op pk_mul op_mul2 (sx_slot (pe_var rfl (by (first | exact .inl rfl | exact .inr (.inl rfl) | exact .inr (.inr rfl))))) (pe_od (sx_op (pk_add rfl) op_add3 (pe_od (sx_op pk_fdiv op_fdivW (sx_slot (pe_var rfl (by (first | exact .inl rfl | exact .inr (.inl rfl) | exact .inr (.inr rfl))))) (pe_od q_int))) (pe_od q_int))))))) (pe_od q_int)) (by rfl) (by decide)) (ss_cons (sk_ret (sx_op pk_mod op_mod (pe_od (q_intC  (by rfl) n_int (fun _ _ => rfl) (pe_od (sx_op pk_fdiv op_fdivW (sx_slot (pe_var rfl (by (first | exact .inl rfl | exact .inr (.inl rfl) | exact .inr (.inr rfl))))) (pe_od q_int))))) (sx_slot (pe_var rfl (by (first | exact .inl rfl | exact .inr (.inl rfl) | exact .inr (.inr rfl))))))) q_nil)))))))
theorem w__law_any {f : Addr} (n_len : mg "len" = none) (c__law_draw : Cal P w K mg base cm 1 "_law_draw" 2 m__law_draw) (cdv : Value) (hcv : CodeIs K f cdv) (A : Around) (outer : List PySem.Env) (s : Shared) (H : Hp) (E : XK) (hr : Room 1 (A.deeper (envOfC Hd.d__law_any.qual Hd.d__law_any.scope s.heap.objs.size f cdv))) :
    PSs (cxOf (L2.CX P w) P w K mg base N__law_any Hd.d__law_any.qual Hd.d__law_any.scope f cdv A outer s H E) Hd.d__law_any.body (tS ⟨K, cm, w⟩ (fun cls d _ H => E cls d H) f__law_any.keeps f__law_any.body) := by
  have hN : N__law_any.Nodup := by decide
  have hu65 : (A.deeper (envOfC Hd.d__law_any.qual Hd.d__law_any.scope s.heap.objs.size f cdv)).units + 65 < cLine := by have := hr.un; omega
  have hu64 : (A.deeper (envOfC Hd.d__law_any.qual Hd.d__law_any.scope s.heap.objs.size f cdv)).units + 64 < cLine := by omega
  have hu1 : (A.deeper (envOfC Hd.d__law_any.qual Hd.d__law_any.scope s.heap.objs.size f cdv)).units + 1 < cLine := by omega
  have lv__law_draw : 1 ≤ 1 := by decide
  exact (ss_cons (sk_ret (sx_ix rfl rfl hu64 (sx_slot (pe_var rfl (by (first | exact .inl rfl | exact .inr (.inl rfl) | exact .inr (.inr rfl))))) (pe_od (sx_call (c__law_draw.s hr lv__law_draw) (ln_cons (ln_cons ln0)) takes_c (by rfl) (fun _ _ => rfl) (pa_csO (fun _ _ => rfl) (sx_slot (pe_var rfl (by (first | exact .inl rfl | exact .inr (.inl rfl) | exact .inr (.inr rfl))))) (pa_csO (fun _ _ => rfl) (pe_od (q_len rfl rfl (by rfl) n_len (fun _ _ => rfl) (sx_slot (pe_var rfl (by (first | exact .inl rfl | exact .inr (.inl rfl) | exact .inr (.inr rfl))))))) pa_nlO)) (by rfl) (by decide))) (fun _ _ => rfl))) q_nil)
theorem w__law_sizes {f : Addr} (c__law_any : Cal P w K mg base cm 2 "_law_any" 2 m__law_any) (c__law_draw : Cal P w K mg base cm 1 "_law_draw" 2 m__law_draw) (cdv : Value) (hcv : CodeIs K f cdv) (A : Around) (outer : List PySem.Env) (s : Shared) (H : Hp) (E : XK) (hr : Room 2 (A.deeper (envOfC Hd.d__law_sizes.qual Hd.d__law_sizes.scope s.heap.objs.size f cdv))) :
    PSs (cxOf (L2.CX P w) P w K mg base N__law_sizes Hd.d__law_sizes.qual Hd.d__law_sizes.scope f cdv A outer s H E) Hd.d__law_sizes.body (tS ⟨K, cm, w⟩ (fun cls d _ H => E cls d H) f__law_sizes.keeps f__law_sizes.body) := by
  have hN : N__law_sizes.Nodup := by decide
  have hu65 : (A.deeper (envOfC Hd.d__law_sizes.qual Hd.d__law_sizes.scope s.heap.objs.size f cdv)).units + 65 < cLine := by have := hr.un; omega
  have hu64 : (A.deeper (envOfC Hd.d__law_sizes.qual Hd.d__law_sizes.scope s.heap.objs.size f cdv)).units + 64 < cLine := by omega
  have hu1 : (A.deeper (envOfC Hd.d__law_sizes.qual Hd.d__law_sizes.scope s.heap.objs.size f cdv)).units + 1 < cLine := by omega
  have lv__law_draw : 1 ≤ 2 := by decide
  have lv__law_any : 2 ≤ 2 := by decide
  exact (ss_cons (sk_if (st_cmp (pk_eq rfl) (op_eqD hu64) (pe_od (sx_call (c__law_draw.s hr lv__law_draw) (ln_cons (ln_cons ln0)) takes_c (by rfl) (fun _ _ => rfl) (pa_csO (fun _ _ => rfl) (sx_slot (pe_var rfl (by (first | exact .inl rfl | exact .inr (.inl rfl) | exact .inr (.inr rfl))))) (pa_csO (fun _ _ => rfl) (pe_od q_int) pa_nlO)) (by rfl) (by decide))) (pe_od q_int) (nomark _)) (ss_cons (sk_ret (sx_call (c__law_any.s hr lv__law_any) (ln_cons (ln_cons ln0)) takes_c (by rfl) (fun _ _ => rfl) (pa_csO (fun _ _ => rfl) (sx_slot (pe_var rfl (by (first | exact .inl rfl | exact .inr (.inl rfl) | exact .inr (.inr rfl))))) (pa_csO (fun _ _ => rfl) (pe_od (sx_lst (pa_cs (fun _ _ => rfl) (sx_tup (pa_cs (fun _ _ => rfl) q_int (pa_cs (fun _ _ => rfl) q_int (pa_cs (fun _ _ => rfl) q_int (pa_cs (fun _ _ => rfl) q_int pa_nl))))) (pa_cs (fun _ _ => rfl) (sx_tup (pa_cs (fun _ _ => rfl) q_int (pa_cs (fun _ _ => rfl) q_int (pa_cs (fun _ _ => rfl) q_int pa_nl)))) (pa_cs (fun _ _ => rfl) (sx_tup (pa_cs (fun _ _ => rfl) q_int (pa_cs (fun _ _ => rfl) q_int (pa_cs (fun _ _ => rfl) q_int (pa_cs (fun _ _ => rfl) q_int pa_nl))))) (pa_cs (fun _ _ => rfl) (sx_tup (pa_cs (fun _ _ => rfl) q_int (pa_cs (fun _ _ => rfl) q_int (pa_cs (fun _ _ => rfl) q_int (pa_cs (fun _ _ => rfl) q_int pa_nl))))) (pa_cs (fun _ _ => rfl) (sx_tup (pa_cs (fun _ _ => rfl) q_int (pa_cs (fun _ _ => rfl) q_int (pa_cs (fun _ _ => rfl) q_int (pa_cs (fun _ _ => rfl) q_int pa_nl))))) (pa_cs (fun _ _ => rfl) (sx_tup (pa_cs (fun _ _ => rfl) q_int (pa_cs (fun _ _ => rfl) q_int (pa_cs (fun _ _ => rfl) q_int (pa_cs (fun _ _ => rfl) q_int pa_nl))))) pa_nl)))))))) pa_nlO)) (by rfl) (by decide))) q_nil) q_nil) (ss_cons (sk_set hN rfl (by first | exact .inl rfl | exact .inr rfl) rfl (sx_lst (pa_cs (fun _ _ => rfl) (sx_tup (pa_cs (fun _ _ => rfl) q_int pa_nl)) (pa_cs (fun _ _ => rfl) (sx_tup (pa_cs (fun _ _ => rfl) q_int pa_nl)) (pa_cs (fun _ _ => rfl) (sx_tup (pa_cs (fun _ _ => rfl) q_int pa_nl)) (pa_cs (fun _ _ => rfl) (sx_tup (pa_cs (fun _ _ => rfl) q_int (pa_cs (fun _ _ => rfl) q_int pa_nl))) (pa_cs (fun _ _ => rfl) (sx_tup (pa_cs (fun _ _ => rfl) q_int (pa_cs (fun _ _ => rfl) q_int pa_nl))) (pa_cs (fun _ _ => rfl) (sx_tup (pa_cs (fun _ _ => rfl) q_int (pa_cs (fun _ _ => rfl) q_int pa_nl))) (pa_cs (fun _ _ => rfl) (sx_tup (pa_cs (fun _ _ => rfl) q_int (pa_cs (fun _ _ => rfl) q_int pa_nl))) (pa_cs (fun _ _ => rfl) (sx_tup (pa_cs (fun _ _ => rfl) q_int (pa_cs (fun _ _ => rfl) q_int pa_nl))) (pa_cs (fun _ _ => rfl) (sx_tup (pa_cs (fun _ _ => rfl) q_int (pa_cs (fun _ _ => rfl) q_int pa_nl))) (pa_cs (fun _ _ => rfl) (sx_tup (pa_cs (fun _ _ => rfl) q_int (pa_cs (fun _ _ => rfl) q_int pa_nl))) (pa_cs (fun _ _ => rfl) (sx_tup (pa_cs (fun _ _ => rfl) q_int (pa_cs (fun _ _ => rfl) q_int pa_nl))) (pa_cs (fun _ _ => rfl) (sx_tup (pa_cs (fun _ _ => rfl) q_int (pa_cs (fun _ _ => rfl) q_int (pa_cs (fun _ _ => rfl) q_int pa_nl)))) (pa_cs (fun _ _ => rfl) (sx_tup (pa_cs (fun _ _ => rfl) q_int (pa_cs (fun _ _ => rfl) q_int (pa_cs (fun _ _ => rfl) q_int pa_nl)))) pa_nl)))))))))))))) (by rfl) (by decide)) (ss_cons (sk_ret (sx_call (c__law_any.s hr lv__law_any) (ln_cons (ln_cons ln0)) takes_c (by rfl) (fun _ _ => rfl) (pa_csO (fun _ _ => rfl) (sx_slot (pe_var rfl (by (first | exact .inl rfl | exact .inr (.inl rfl) | exact .inr (.inr rfl))))) (pa_csO (fun _ _ => rfl) (sx_slot (pe_var rfl (by (first | exact .inl rfl | exact .inr (.inl rfl) | exact .inr (.inr rfl))))) pa_nlO)) (by rfl) (by decide))) q_nil)))
theorem w__law_contents {f : Addr} (n_int : mg "int" = none) (n_range : mg "range" = none) (cdv : Value) (hcv : CodeIs K f cdv) (A : Around) (outer : List PySem.Env) (s : Shared) (H : Hp) (E : XK) (hr : Room 0 (A.deeper (envOfC Hd.d__law_contents.qual Hd.d__law_contents.scope s.heap.objs.size f cdv))) :
    PSs (cxOf (L2.CX P w) P w K mg base N__law_contents Hd.d__law_contents.qual Hd.d__law_contents.scope f cdv A outer s H E) Hd.d__law_contents.body (tS ⟨K, cm, w⟩ (fun cls d _ H => E cls d H) f__law_contents.keeps f__law_contents.body) := by
  have hN : N__law_contents.Nodup := by decide
  have hu65 : (A.deeper (envOfC Hd.d__law_contents.qual Hd.d__law_contents.scope s.heap.objs.size f cdv)).units + 65 < cLine := by have := hr.un; omega
  have hu64 : (A.deeper (envOfC Hd.d__law_contents.qual Hd.d__law_contents.scope s.heap.objs.size f cdv)).units + 64 < cLine := by omega
  have hu1 : (A.deeper (envOfC Hd.d__law_contents.qual Hd.d__law_contents.scope s.heap.objs.size f cdv)).units + 1 < cLine := by omega
  exact (ss_cons (sk_set hN rfl (by first | exact .inl rfl | exact .inr rfl) rfl q_int (by rfl) (by decide)) (ss_cons (sk_for passes_c rfl (pi_val rfl (sx_var (pe_var rfl (by (first | exact .inl rfl | exact .inr (.inl rfl) | exact .inr (.inr rfl)))))) (nm_pg hN (by (first | exact ⟨rfl, .inl rfl, .inl rfl⟩ | exact ⟨rfl, .inl rfl, .inr rfl⟩ | exact ⟨rfl, .inr rfl, .inl rfl⟩))) (ss_cons (sk_set hN rfl (by first | exact .inl rfl | exact .inr rfl) rfl (sx_op pk_mul op_mul2 (sx_slot (pe_var rfl (by (first | exact .inl rfl | exact .inr (.inl rfl) | exact .inr (.inr rfl))))) (sx_slot (pe_var rfl (by (first | exact .inl rfl | exact .inr (.inl rfl) | exact .inr (.inr rfl)))))) (by rfl) (by decide)) q_nil) (fun _ => rfl) (by decide)) (ss_cons (sk_set hN rfl (by first | exact .inl rfl | exact .inr rfl) rfl (sx_lst pa_nl) (by rfl) (by decide)) (ss_cons (sk_for passes_c rfl (pi_rng1 (by rfl) n_range (fun _ _ => rfl) (pa_cs (fun _ _ => rfl) (sx_var (pe_var rfl (by (first | exact .inl rfl | exact .inr (.inl rfl) | exact .inr (.inr rfl))))) pa_nl)) (nm_pg hN (by (first | exact ⟨rfl, .inl rfl, .inl rfl⟩ | exact ⟨rfl, .inl rfl, .inr rfl⟩ | exact ⟨rfl, .inr rfl, .inl rfl⟩))) (ss_cons (sk_parZ rfl hN rfl rfl (by decide) rfl rfl (fun _ _ => rfl) (fun _ _ => rfl) (sx_var (pe_var rfl (by (first | exact .inl rfl | exact .inr (.inl rfl) | exact .inr (.inr rfl))))) (sx_tup pa_nl) (by rfl) (by decide)) (ss_cons (sk_for passes_c rfl (pi_val rfl (sx_rev rfl (sx_slot (pe_var rfl (by (first | exact .inl rfl | exact .inr (.inl rfl) | exact .inr (.inr rfl))))))) (nm_pg hN (by (first | exact ⟨rfl, .inl rfl, .inl rfl⟩ | exact ⟨rfl, .inl rfl, .inr rfl⟩ | exact ⟨rfl, .inr rfl, .inl rfl⟩))) (ss_cons (sk_set hN rfl (by first | exact .inl rfl | exact .inr rfl) rfl (sx_op (pk_add rfl) op_add3 (pe_od (sx_tup (pa_cs (fun _ _ => rfl) (sx_op pk_mod op_mod (pe_od (q_intC  (by rfl) n_int (fun _ _ => rfl) (sx_slot (pe_var rfl (by (first | exact .inl rfl | exact .inr (.inl rfl) | exact .inr (.inr rfl))))))) (sx_slot (pe_var rfl (by (first | exact .inl rfl | exact .inr (.inl rfl) | exact .inr (.inr rfl)))))) pa_nl))) (sx_slot (pe_var rfl (by (first | exact .inl rfl | exact .inr (.inl rfl) | exact .inr (.inr rfl)))))) (by rfl) (by decide)) (ss_cons (sk_set hN rfl (by first | exact .inl rfl | exact .inr rfl) rfl (sx_op pk_fdiv op_fdivW (sx_slot (pe_var rfl (by (first | exact .inl rfl | exact .inr (.inl rfl) | exact .inr (.inr rfl))))) (sx_slot (pe_var rfl (by (first | exact .inl rfl | exact .inr (.inl rfl) | exact .inr (.inr rfl)))))) (by rfl) (by decide)) q_nil)) (fun _ => rfl) (by decide)) (ss_cons (sk_ex (sx_append (fun _ _ => rfl) (pe_var rfl (by (first | exact .inl rfl | exact .inr (.inl rfl) | exact .inr (.inr rfl)))) (sx_var (pe_var rfl (by (first | exact .inl rfl | exact .inr (.inl rfl) | exact .inr (.inr rfl))))) (by rfl) (by rfl) (by rfl)) (by rfl)) q_nil))) (fun _ => rfl) (by decide)) (ss_cons (sk_retv (pe_var rfl (by (first | exact .inl rfl | exact .inr (.inl rfl) | exact .inr (.inr rfl))))) q_nil)))))
theorem w__law_patterns {f : Addr} (n_range : mg "range" = none) (n_sorted : mg "sorted" = none) (n_tuple : mg "tuple" = none) (cdv : Value) (hcv : CodeIs K f cdv) (A : Around) (outer : List PySem.Env) (s : Shared) (H : Hp) (E : XK) (hr : Room 0 (A.deeper (envOfC Hd.d__law_patterns.qual Hd.d__law_patterns.scope s.heap.objs.size f cdv))) :
    PSs (cxOf (L2.CX P w) P w K mg base N__law_patterns Hd.d__law_patterns.qual Hd.d__law_patterns.scope f cdv A outer s H E) Hd.d__law_patterns.body (tS ⟨K, cm, w⟩ (fun cls d _ H => E cls d H) f__law_patterns.keeps f__law_patterns.body) := by
  have hN : N__law_patterns.Nodup := by decide
  have hu65 : (A.deeper (envOfC Hd.d__law_patterns.qual Hd.d__law_patterns.scope s.heap.objs.size f cdv)).units + 65 < cLine := by have := hr.un; omega
  have hu64 : (A.deeper (envOfC Hd.d__law_patterns.qual Hd.d__law_patterns.scope s.heap.objs.size f cdv)).units + 64 < cLine := by omega
  have hu1 : (A.deeper (envOfC Hd.d__law_patterns.qual Hd.d__law_patterns.scope s.heap.objs.size f cdv)).units + 1 < cLine := by omega
  exact (ss_cons (sk_ret (q_sorted rfl rfl rfl hu65 (by rfl) n_sorted (fun _ _ => rfl) (pe_od (sx_lc rfl hN (by simp [slotsOf]) (pi_rng1 (by rfl) n_range (fun _ _ => rfl) (pa_cs (fun _ _ => rfl) (sx_op pk_shl op_shl (pe_od q_int) (sx_slot (pe_var rfl (by (first | exact .inl rfl | exact .inr (.inl rfl) | exact .inr (.inr rfl)))))) pa_nl)) (blkOk_by (by first | rfl | decide +kernel)) (fun _ _ _ _ _ => (nm_pg hN (by (first | exact ⟨rfl, .inl rfl, .inl rfl⟩ | exact ⟨rfl, .inl rfl, .inr rfl⟩ | exact ⟨rfl, .inr rfl, .inl rfl⟩)))) (fun _ _ _ _ _ => q_pts0) (fun _ _ _ _ _ => (q_tuple rfl (by rfl) n_tuple (fun _ _ => rfl) (pe_od (sx_lc rfl hN (by simp [slotsOf]) (pi_rng1 (by rfl) n_range (fun _ _ => rfl) (pa_cs (fun _ _ => rfl) (sx_var (pe_var rfl (by (first | exact .inl rfl | exact .inr (.inl rfl) | exact .inr (.inr rfl))))) pa_nl)) (blkOk_by (by first | rfl | decide +kernel)) (fun _ _ _ _ _ => (nm_pg hN (by (first | exact ⟨rfl, .inl rfl, .inl rfl⟩ | exact ⟨rfl, .inl rfl, .inr rfl⟩ | exact ⟨rfl, .inr rfl, .inl rfl⟩)))) (fun _ _ _ _ _ => (pts_one (st_cmp (pk_eq rfl) (op_eqD hu64) (pe_od (sx_op pk_band op_and (pe_od (sx_op pk_shr op_shr (sx_slot (pe_var rfl (by (first | exact .inl rfl | exact .inr (.inl rfl) | exact .inr (.inr rfl))))) (sx_slot (pe_var rfl (by (first | exact .inl rfl | exact .inr (.inl rfl) | exact .inr (.inr rfl))))))) (pe_od q_int))) (pe_od q_int) (nomark _)))) (fun _ _ _ _ _ => (sx_var (pe_var rfl (by (first | exact .inl rfl | exact .inr (.inl rfl) | exact .inr (.inr rfl)))))) (fun _ => rfl))))) (fun _ => rfl))))) q_nil)
theorem w__law_view {f : Addr} (n_len : mg "len" = none) (n_range : mg "range" = none) (n_tuple : mg "tuple" = none) (cdv : Value) (hcv : CodeIs K f cdv) (A : Around) (outer : List PySem.Env) (s : Shared) (H : Hp) (E : XK) (hr : Room 0 (A.deeper (envOfC Hd.d__law_view.qual Hd.d__law_view.scope s.heap.objs.size f cdv))) :
    PSs (cxOf (L2.CX P w) P w K mg base N__law_view Hd.d__law_view.qual Hd.d__law_view.scope f cdv A outer s H E) Hd.d__law_view.body (tS ⟨K, cm, w⟩ (fun cls d _ H => E cls d H) f__law_view.keeps f__law_view.body) := by
  have hN : N__law_view.Nodup := by decide
  have hu65 : (A.deeper (envOfC Hd.d__law_view.qual Hd.d__law_view.scope s.heap.objs.size f cdv)).units + 65 < cLine := by have := hr.un; omega
  have hu64 : (A.deeper (envOfC Hd.d__law_view.qual Hd.d__law_view.scope s.heap.objs.size f cdv)).units + 64 < cLine := by omega
  have hu1 : (A.deeper (envOfC Hd.d__law_view.qual Hd.d__law_view.scope s.heap.objs.size f cdv)).units + 1 < cLine := by omega
  exact (ss_cons (sk_ret (q_tuple rfl (by rfl) n_tuple (fun _ _ => rfl) (pe_od (sx_lc rfl hN (by simp [slotsOf]) (pi_rng1 (by rfl) n_range (fun _ _ => rfl) (pa_cs (fun _ _ => rfl) (q_len rfl rfl (by rfl) n_len (fun _ _ => rfl) (sx_slot (pe_var rfl (by (first | exact .inl rfl | exact .inr (.inl rfl) | exact .inr (.inr rfl)))))) pa_nl)) (blkOk_by (by first | rfl | decide +kernel)) (fun _ _ _ _ _ => (nm_pg hN (by (first | exact ⟨rfl, .inl rfl, .inl rfl⟩ | exact ⟨rfl, .inl rfl, .inr rfl⟩ | exact ⟨rfl, .inr rfl, .inl rfl⟩)))) (fun _ _ _ _ _ => q_pts0) (fun _ _ _ _ _ => (sx_ite (st_cmp (pk_inn rfl) (op_in3 rfl rfl hu65) (sx_slot (pe_var rfl (by (first | exact .inl rfl | exact .inr (.inl rfl) | exact .inr (.inr rfl))))) (sx_slot (pe_var rfl (by (first | exact .inl rfl | exact .inr (.inl rfl) | exact .inr (.inr rfl))))) (by with_unfolding_all rfl)) (sx_ix rfl rfl hu64 (sx_slot (pe_var rfl (by (first | exact .inl rfl | exact .inr (.inl rfl) | exact .inr (.inr rfl))))) (sx_slot (pe_var rfl (by (first | exact .inl rfl | exact .inr (.inl rfl) | exact .inr (.inr rfl))))) (fun _ _ => rfl)) (sx_pr1 pk_neg (pe_od q_int) fun _ h => pe_un un_neg h))) (fun _ => rfl))))) q_nil)
theorem w__law_views {f : Addr} (n_set : mg "set" = none) (n_sorted : mg "sorted" = none) (c__law_contents : Cal P w K mg base cm 1 "_law_contents" 1 m__law_contents) (c__law_view : Cal P w K mg base cm 1 "_law_view" 2 m__law_view) (cdv : Value) (hcv : CodeIs K f cdv) (A : Around) (outer : List PySem.Env) (s : Shared) (H : Hp) (E : XK) (hr : Room 1 (A.deeper (envOfC Hd.d__law_views.qual Hd.d__law_views.scope s.heap.objs.size f cdv))) :
    PSs (cxOf (L2.CX P w) P w K mg base N__law_views Hd.d__law_views.qual Hd.d__law_views.scope f cdv A outer s H E) Hd.d__law_views.body (tS ⟨K, cm, w⟩ (fun cls d _ H => E cls d H) f__law_views.keeps f__law_views.body) := by
  have hN : N__law_views.Nodup := by decide
  have hu65 : (A.deeper (envOfC Hd.d__law_views.qual Hd.d__law_views.scope s.heap.objs.size f cdv)).units + 65 < cLine := by have := hr.un; omega
  have hu64 : (A.deeper (envOfC Hd.d__law_views.qual Hd.d__law_views.scope s.heap.objs.size f cdv)).units + 64 < cLine := by omega
  have hu1 : (A.deeper (envOfC Hd.d__law_views.qual Hd.d__law_views.scope s.heap.objs.size f cdv)).units + 1 < cLine := by omega
  have lv__law_view : 1 ≤ 1 := by decide
  have lv__law_contents : 1 ≤ 1 := by decide
  exact (ss_cons (sk_ret (q_sset rfl rfl hu65 (by rfl) n_sorted (by rfl) n_set (fun _ _ => rfl) (pe_od (sx_lc rfl hN (by simp [slotsOf]) (pi_val rfl (sx_call (c__law_contents.s hr lv__law_contents) (ln_cons ln0) takes_c (by rfl) (fun _ _ => rfl) (pa_csO (fun _ _ => rfl) (sx_slot (pe_var rfl (by (first | exact .inl rfl | exact .inr (.inl rfl) | exact .inr (.inr rfl))))) pa_nlO) (by rfl) (by decide))) (blkOk_by (by first | rfl | decide +kernel)) (fun _ _ _ _ _ => (nm_pg hN (by (first | exact ⟨rfl, .inl rfl, .inl rfl⟩ | exact ⟨rfl, .inl rfl, .inr rfl⟩ | exact ⟨rfl, .inr rfl, .inl rfl⟩)))) (fun _ _ _ _ _ => q_pts0) (fun _ _ _ _ _ => (sx_call (c__law_view.s hr lv__law_view) (ln_cons (ln_cons ln0)) takes_b (by rfl) (fun _ _ => rfl) (pa_csO (fun _ _ => rfl) (sx_slot (pe_var rfl (by (first | exact .inl rfl | exact .inr (.inl rfl) | exact .inr (.inr rfl))))) (pa_csO (fun _ _ => rfl) (sx_slot (pe_var rfl (by (first | exact .inl rfl | exact .inr (.inl rfl) | exact .inr (.inr rfl))))) pa_nlO)) (by rfl) (by decide))) (fun _ => rfl))))) q_nil)
theorem w__law_is_list {f : Addr} (n_any : mg "any" = none) (n_bool : mg "bool" = none) (n_isinstance : mg "isinstance" = none) (n_list : mg "list" = none) (n_tuple : mg "tuple" = none) (cdv : Value) (hcv : CodeIs K f cdv) (A : Around) (outer : List PySem.Env) (s : Shared) (H : Hp) (E : XK) (hr : Room 0 (A.deeper (envOfC Hd.d__law_is_list.qual Hd.d__law_is_list.scope s.heap.objs.size f cdv))) :
    PSs (cxOf (L2.CX P w) P w K mg base N__law_is_list Hd.d__law_is_list.qual Hd.d__law_is_list.scope f cdv A outer s H E) Hd.d__law_is_list.body (tS ⟨K, cm, w⟩ (fun cls d _ H => E cls d H) f__law_is_list.keeps f__law_is_list.body) := by
  have hN : N__law_is_list.Nodup := by decide
  have hu65 : (A.deeper (envOfC Hd.d__law_is_list.qual Hd.d__law_is_list.scope s.heap.objs.size f cdv)).units + 65 < cLine := by have := hr.un; omega
  have hu64 : (A.deeper (envOfC Hd.d__law_is_list.qual Hd.d__law_is_list.scope s.heap.objs.size f cdv)).units + 64 < cLine := by omega
  have hu1 : (A.deeper (envOfC Hd.d__law_is_list.qual Hd.d__law_is_list.scope s.heap.objs.size f cdv)).units + 1 < cLine := by omega
  exact (ss_cons (sk_if (PW.pt (sw_or (st_not (st_val (sx_isi (t := .list) (q := ⟨0, 0, 0, 0⟩) rfl rfl (fun _ _ => rfl) (sx_slot (pe_var rfl (by (first | exact .inl rfl | exact .inr (.inl rfl) | exact .inr (.inr rfl))))) (by rfl) n_isinstance (by rfl) n_list) (fun _ => rfl))) (sw_or1 (st_cmp (pk_ne rfl) (op_neD hu64) (sx_slot (pe_var rfl (by (first | exact .inl rfl | exact .inr (.inl rfl) | exact .inr (.inr rfl))))) (sx_slot (pe_var rfl (by (first | exact .inl rfl | exact .inr (.inl rfl) | exact .inr (.inr rfl))))) (nomark _))))) (ss_cons (sk_ret q_bl) q_nil) q_nil) (ss_cons (sk_forK passes_c rfl rfl (pe_var rfl (by (first | exact .inl rfl | exact .inr (.inl rfl) | exact .inr (.inr rfl)))) (nm_pg hN (by (first | exact ⟨rfl, .inl rfl, .inl rfl⟩ | exact ⟨rfl, .inl rfl, .inr rfl⟩ | exact ⟨rfl, .inr rfl, .inl rfl⟩))) (ss_cons (sk_if (PW.pt (sw_or (st_not (st_val (sx_isi (t := .tuple) (q := ⟨0, 0, 0, 0⟩) rfl rfl (fun _ _ => rfl) (sx_slot (pe_var rfl (by (first | exact .inl rfl | exact .inr (.inl rfl) | exact .inr (.inr rfl))))) (by rfl) n_isinstance (by rfl) n_tuple) (fun _ => rfl))) (sw_or1 (st_val (q_any rfl rfl (by rfl) n_any (fun _ _ => rfl) (pe_od (sx_lc rfl hN (by simp [slotsOf]) (pi_val rfl (sx_var (pe_var rfl (by (first | exact .inl rfl | exact .inr (.inl rfl) | exact .inr (.inr rfl)))))) (blkOk_by (by first | rfl | decide +kernel)) (fun _ _ _ _ _ => (nm_pg hN (by (first | exact ⟨rfl, .inl rfl, .inl rfl⟩ | exact ⟨rfl, .inl rfl, .inr rfl⟩ | exact ⟨rfl, .inr rfl, .inl rfl⟩)))) (fun _ _ _ _ _ => q_pts0) (fun _ _ _ _ _ => (sx_isi (t := .bool) (q := ⟨0, 0, 0, 0⟩) rfl rfl (fun _ _ => rfl) (sx_slot (pe_var rfl (by (first | exact .inl rfl | exact .inr (.inl rfl) | exact .inr (.inr rfl))))) (by rfl) n_isinstance (by rfl) n_bool)) (fun _ => rfl)))) (fun _ => rfl))))) (ss_cons (sk_ret q_bl) q_nil) q_nil) q_nil) (fun _ => rfl) (by decide) (by decide)) (ss_cons (sk_ex (sx_append (fun _ _ => rfl) (pe_var rfl (by (first | exact .inl rfl | exact .inr (.inl rfl) | exact .inr (.inr rfl)))) q_non (by rfl) (by rfl) (by rfl)) (by rfl)) (ss_cons (sk_ret q_bl) q_nil))))
theorem w_law {f : Addr} (n_all : mg "all" = none) (n_len : mg "len" = none) (n_range : mg "range" = none) (c__law_contents : Cal P w K mg base cm 1 "_law_contents" 1 m__law_contents) (c__law_hand : Cal P w K mg base cm 1 "_law_hand" 1 m__law_hand) (c__law_is_list : Cal P w K mg base cm 1 "_law_is_list" 2 m__law_is_list) (c__law_patterns : Cal P w K mg base cm 1 "_law_patterns" 1 m__law_patterns) (c__law_sizes : Cal P w K mg base cm 3 "_law_sizes" 1 m__law_sizes) (c__law_view : Cal P w K mg base cm 1 "_law_view" 2 m__law_view) (c__law_views : Cal P w K mg base cm 2 "_law_views" 2 m__law_views) (c_contents : Cal P w K mg base cm 5 "contents" 1 m_contents) (c_patterns : Cal P w K mg base cm 5 "patterns" 1 m_patterns) (c_view : Cal P w K mg base cm 5 "view" 3 m_view) (c_views : Cal P w K mg base cm 5 "views" 2 m_views) (cdv : Value) (hcv : CodeIs K f cdv) (A : Around) (outer : List PySem.Env) (s : Shared) (H : Hp) (E : XK) (hr : Room 5 (A.deeper (envOfC Hd.d_law.qual Hd.d_law.scope s.heap.objs.size f cdv))) :
    PSs (cxOf (L2.CX P w) P w K mg base N_law Hd.d_law.qual Hd.d_law.scope f cdv A outer s H E) Hd.d_law.body (tS ⟨K, cm, w⟩ (fun cls d _ H => E cls d H) f_law.keeps f_law.body) := by
  have hN : N_law.Nodup := by decide
  have hu65 : (A.deeper (envOfC Hd.d_law.qual Hd.d_law.scope s.heap.objs.size f cdv)).units + 65 < cLine := by have := hr.un; omega
  have hu64 : (A.deeper (envOfC Hd.d_law.qual Hd.d_law.scope s.heap.objs.size f cdv)).units + 64 < cLine := by omega
  have hu1 : (A.deeper (envOfC Hd.d_law.qual Hd.d_law.scope s.heap.objs.size f cdv)).units + 1 < cLine := by omega
  have lv_view : 5 ≤ 5 := by decide
  have lv__law_sizes : 3 ≤ 5 := by decide
  have lv__law_is_list : 1 ≤ 5 := by decide
  have lv__law_views : 2 ≤ 5 := by decide
  have lv__law_contents : 1 ≤ 5 := by decide
  have lv__law_hand : 1 ≤ 5 := by decide
  have lv__law_view : 1 ≤ 5 := by decide
  have lv__law_patterns : 1 ≤ 5 := by decide
  have lv_views : 5 ≤ 5 := by decide
  have lv_patterns : 5 ≤ 5 := by decide
  have lv_contents : 5 ≤ 5 := by decide
  exact (ss_cons (sk_set hN rfl (by first | exact .inl rfl | exact .inr rfl) rfl (sx_call (c__law_hand.s hr lv__law_hand) (ln_cons ln0) takes_c (by rfl) (fun _ _ => rfl) (pa_csO (fun _ _ => rfl) (sx_slot (pe_var rfl (by (first | exact .inl rfl | exact .inr (.inl rfl) | exact .inr (.inr rfl))))) pa_nlO) (by rfl) (by decide)) (by rfl) (by decide)) (ss_cons (sk_for passes_c rfl (pi_rng1 (by rfl) n_range (fun _ _ => rfl) (pa_cs (fun _ _ => rfl) q_int pa_nl)) (nm_pg hN (by (first | exact ⟨rfl, .inl rfl, .inl rfl⟩ | exact ⟨rfl, .inl rfl, .inr rfl⟩ | exact ⟨rfl, .inr rfl, .inl rfl⟩))) (ss_cons (sk_set hN rfl (by first | exact .inl rfl | exact .inr rfl) rfl (sx_call (c__law_sizes.s hr lv__law_sizes) (ln_cons ln0) takes_c (by rfl) (fun _ _ => rfl) (pa_csO (fun _ _ => rfl) (sx_slot (pe_var rfl (by (first | exact .inl rfl | exact .inr (.inl rfl) | exact .inr (.inr rfl))))) pa_nlO) (by rfl) (by decide)) (by rfl) (by decide)) (ss_cons (sk_parZ rfl hN rfl rfl (by decide) rfl rfl (fun _ _ => rfl) (fun _ _ => rfl) (sx_call (c__law_contents.s hr lv__law_contents) (ln_cons ln0) takes_c (by rfl) (fun _ _ => rfl) (pa_csO (fun _ _ => rfl) (sx_slot (pe_var rfl (by (first | exact .inl rfl | exact .inr (.inl rfl) | exact .inr (.inr rfl))))) pa_nlO) (by rfl) (by decide)) (sx_call (c__law_patterns.s hr lv__law_patterns) (ln_cons ln0) takes_c (by rfl) (fun _ _ => rfl) (pa_csO (fun _ _ => rfl) (pe_od (q_len rfl rfl (by rfl) n_len (fun _ _ => rfl) (sx_slot (pe_var rfl (by (first | exact .inl rfl | exact .inr (.inl rfl) | exact .inr (.inr rfl))))))) pa_nlO) (by rfl) (by decide)) (by rfl) (by decide)) (ss_cons (sk_for passes_c rfl (pi_rng1 (by rfl) n_range (fun _ _ => rfl) (pa_cs (fun _ _ => rfl) q_int pa_nl)) (nm_pg hN (by (first | exact ⟨rfl, .inl rfl, .inl rfl⟩ | exact ⟨rfl, .inl rfl, .inr rfl⟩ | exact ⟨rfl, .inr rfl, .inl rfl⟩))) (ss_cons (sk_if (PW.pt (sw_or (st_not (st_val (sx_callT (c__law_is_list.s hr lv__law_is_list) (ln_zo (ln_cons ln0)) takes_c (by rfl) (fun _ _ => rfl) (pa_zo (fun _ _ => rfl) (sx_call (c_contents.s hr lv_contents) (ln_cons ln0) takes_c (by rfl) (fun _ _ => rfl) (pa_csO (fun _ _ => rfl) (sx_slot (pe_var rfl (by (first | exact .inl rfl | exact .inr (.inl rfl) | exact .inr (.inr rfl))))) pa_nlO) (by rfl) (by decide)) (pa_csO (fun _ _ => rfl) (sx_slot (pe_var rfl (by (first | exact .inl rfl | exact .inr (.inl rfl) | exact .inr (.inr rfl))))) pa_nlO)) (by rfl) (by decide)) (fun _ => rfl))) (sw_or1 (st_not (st_val (sx_callT (c__law_is_list.s hr lv__law_is_list) (ln_zo (ln_cons ln0)) takes_c (by rfl) (fun _ _ => rfl) (pa_zo (fun _ _ => rfl) (sx_call (c_patterns.s hr lv_patterns) (ln_cons ln0) takes_c (by rfl) (fun _ _ => rfl) (pa_csO (fun _ _ => rfl) (sx_slot (pe_var rfl (by (first | exact .inl rfl | exact .inr (.inl rfl) | exact .inr (.inr rfl))))) pa_nlO) (by rfl) (by decide)) (pa_csO (fun _ _ => rfl) (sx_slot (pe_var rfl (by (first | exact .inl rfl | exact .inr (.inl rfl) | exact .inr (.inr rfl))))) pa_nlO)) (by rfl) (by decide)) (fun _ => rfl)))))) (ss_cons (sk_ret q_bl) q_nil) q_nil) q_nil) (fun _ => rfl) (by decide)) (ss_cons (sk_for passes_c rfl (pi_val rfl (sx_var (pe_var rfl (by (first | exact .inl rfl | exact .inr (.inl rfl) | exact .inr (.inr rfl)))))) (nm_pg hN (by (first | exact ⟨rfl, .inl rfl, .inl rfl⟩ | exact ⟨rfl, .inl rfl, .inr rfl⟩ | exact ⟨rfl, .inr rfl, .inl rfl⟩))) (ss_cons (sk_set hN rfl (by first | exact .inl rfl | exact .inr rfl) rfl (sx_call (c__law_views.s hr lv__law_views) (ln_cons (ln_cons ln0)) takes_c (by rfl) (fun _ _ => rfl) (pa_csO (fun _ _ => rfl) (sx_slot (pe_var rfl (by (first | exact .inl rfl | exact .inr (.inl rfl) | exact .inr (.inr rfl))))) (pa_csO (fun _ _ => rfl) (sx_slot (pe_var rfl (by (first | exact .inl rfl | exact .inr (.inl rfl) | exact .inr (.inr rfl))))) pa_nlO)) (by rfl) (by decide)) (by rfl) (by decide)) (ss_cons (sk_if (PW.pt (sw_or (st_not (st_val (sx_callT (c__law_is_list.s hr lv__law_is_list) (ln_zo (ln_cons ln0)) takes_c (by rfl) (fun _ _ => rfl) (pa_zo (fun _ _ => rfl) (sx_call (c_views.s hr lv_views) (ln_cons (ln_cons ln0)) takes_c (by rfl) (fun _ _ => rfl) (pa_csO (fun _ _ => rfl) (sx_slot (pe_var rfl (by (first | exact .inl rfl | exact .inr (.inl rfl) | exact .inr (.inr rfl))))) (pa_csO (fun _ _ => rfl) (sx_slot (pe_var rfl (by (first | exact .inl rfl | exact .inr (.inl rfl) | exact .inr (.inr rfl))))) pa_nlO)) (by rfl) (by decide)) (pa_csO (fun _ _ => rfl) (sx_slot (pe_var rfl (by (first | exact .inl rfl | exact .inr (.inl rfl) | exact .inr (.inr rfl))))) pa_nlO)) (by rfl) (by decide)) (fun _ => rfl))) (sw_or1 (st_cmp (pk_ne rfl) (op_neD hu64) (pe_od (sx_call (c_views.s hr lv_views) (ln_cons (ln_cons ln0)) takes_c (by rfl) (fun _ _ => rfl) (pa_csO (fun _ _ => rfl) (sx_slot (pe_var rfl (by (first | exact .inl rfl | exact .inr (.inl rfl) | exact .inr (.inr rfl))))) (pa_csO (fun _ _ => rfl) (sx_slot (pe_var rfl (by (first | exact .inl rfl | exact .inr (.inl rfl) | exact .inr (.inr rfl))))) pa_nlO)) (by rfl) (by decide))) (sx_slot (pe_var rfl (by (first | exact .inl rfl | exact .inr (.inl rfl) | exact .inr (.inr rfl))))) (nomark _))))) (ss_cons (sk_ret q_bl) q_nil) q_nil) (ss_cons (sk_set hN rfl (by first | exact .inl rfl | exact .inr rfl) rfl (sx_op pk_fdiv op_fdivW (pe_od (q_len rfl rfl (by rfl) n_len (fun _ _ => rfl) (sx_slot (pe_var rfl (by (first | exact .inl rfl | exact .inr (.inl rfl) | exact .inr (.inr rfl))))))) (pe_od (q_len rfl rfl (by rfl) n_len (fun _ _ => rfl) (sx_slot (pe_var rfl (by (first | exact .inl rfl | exact .inr (.inl rfl) | exact .inr (.inr rfl)))))))) (by rfl) (by decide)) (ss_cons (sk_set hN rfl (by first | exact .inl rfl | exact .inr rfl) rfl (sx_lc rfl hN (by simp [slotsOf]) (pi_val rfl (sx_var (pe_var rfl (by (first | exact .inl rfl | exact .inr (.inl rfl) | exact .inr (.inr rfl)))))) (blkOk_by (by first | rfl | decide +kernel)) (fun _ _ _ _ _ => (nm_pg hN (by (first | exact ⟨rfl, .inl rfl, .inl rfl⟩ | exact ⟨rfl, .inl rfl, .inr rfl⟩ | exact ⟨rfl, .inr rfl, .inl rfl⟩)))) (fun _ _ _ _ _ => q_pts0) (fun _ _ _ _ _ => (sx_call (c_view.s hr lv_view) (ln_cons (ln_cons (ln_cons ln0))) takes_b (by rfl) (fun _ _ => rfl) (pa_csO (fun _ _ => rfl) (sx_slot (pe_var rfl (by (first | exact .inl rfl | exact .inr (.inl rfl) | exact .inr (.inr rfl))))) (pa_csO (fun _ _ => rfl) (sx_slot (pe_var rfl (by (first | exact .inl rfl | exact .inr (.inl rfl) | exact .inr (.inr rfl))))) (pa_csO (fun _ _ => rfl) (sx_slot (pe_var rfl (by (first | exact .inl rfl | exact .inr (.inl rfl) | exact .inr (.inr rfl))))) pa_nlO))) (by rfl) (by decide))) (fun _ => rfl)) (by rfl) (by decide)) (ss_cons (sk_if (st_cmp (pk_ne rfl) (op_neD hu64) (sx_slot (pe_var rfl (by (first | exact .inl rfl | exact .inr (.inl rfl) | exact .inr (.inr rfl))))) (pe_od (sx_lc rfl hN (by simp [slotsOf]) (pi_val rfl (sx_var (pe_var rfl (by (first | exact .inl rfl | exact .inr (.inl rfl) | exact .inr (.inr rfl)))))) (blkOk_by (by first | rfl | decide +kernel)) (fun _ _ _ _ _ => (nm_pg hN (by (first | exact ⟨rfl, .inl rfl, .inl rfl⟩ | exact ⟨rfl, .inl rfl, .inr rfl⟩ | exact ⟨rfl, .inr rfl, .inl rfl⟩)))) (fun _ _ _ _ _ => q_pts0) (fun _ _ _ _ _ => (sx_call (c__law_view.s hr lv__law_view) (ln_cons (ln_cons ln0)) takes_b (by rfl) (fun _ _ => rfl) (pa_csO (fun _ _ => rfl) (sx_slot (pe_var rfl (by (first | exact .inl rfl | exact .inr (.inl rfl) | exact .inr (.inr rfl))))) (pa_csO (fun _ _ => rfl) (sx_slot (pe_var rfl (by (first | exact .inl rfl | exact .inr (.inl rfl) | exact .inr (.inr rfl))))) pa_nlO)) (by rfl) (by decide))) (fun _ => rfl))) (nomark _)) (ss_cons (sk_ret q_bl) q_nil) q_nil) (ss_cons (sk_if (st_not (st_val (q_all rfl rfl (by rfl) n_all (fun _ _ => rfl) (pe_od (sx_lc rfl hN (by simp [slotsOf]) (pi_val rfl (sx_var (pe_var rfl (by (first | exact .inl rfl | exact .inr (.inl rfl) | exact .inr (.inr rfl)))))) (blkOk_by (by first | rfl | decide +kernel)) (fun _ _ _ _ _ => (nm_pg hN (by (first | exact ⟨rfl, .inl rfl, .inl rfl⟩ | exact ⟨rfl, .inl rfl, .inr rfl⟩ | exact ⟨rfl, .inr rfl, .inl rfl⟩)))) (fun _ _ _ _ _ => q_pts0) (fun _ _ _ _ _ => (sx_cmp (pk_eq rfl) (op_eqD hu64) (pe_od (sx_cnt rfl hu65 (fun _ _ => rfl) (pe_var rfl (by (first | exact .inl rfl | exact .inr (.inl rfl) | exact .inr (.inr rfl)))) (sx_slot (pe_var rfl (by (first | exact .inl rfl | exact .inr (.inl rfl) | exact .inr (.inr rfl))))) (by rfl) (by rfl) (by rfl))) (sx_slot (pe_var rfl (by (first | exact .inl rfl | exact .inr (.inl rfl) | exact .inr (.inr rfl))))) (nomark _))) (fun _ => rfl)))) (fun _ => rfl))) (ss_cons (sk_ret q_bl) q_nil) q_nil) q_nil)))))) (fun _ => rfl) (by decide)) q_nil)))) (fun _ => rfl) (by decide)) (ss_cons (sk_ret q_bl) q_nil)))
end
end Wk

end
section
set_option maxRecDepth 100000
set_option maxHeartbeats 0
namespace Jn
open PySem PySem.Spec PyProof.Rows L2 Cb
def cm (K : PySem.W.Frag) (x : PySem.Str) : Option Addr := none
theorem facts {P : Program} {w : World} {K : PySem.W.Frag} {h : Heap} {mg : PySem.Str → Option Value} {f : Addr} (X : K.In h) (G : h.Ns mainGlobals mg) (hfa : mg ("law" : PySem.Str) = some (.ref f)) (c : He.SaysD Hd.fa Hd.fn K) :
    ∃ fd : FuncData, (∀ (s : Shared) (v : Value), BindsTo s fd ⟨[v], []⟩ [("_law_script", v)]) ∧ ∀ base : Heap, K.In base → base.Ns mainGlobals mg → (∀ p ∈ Hd.tf.map (He.cT K), LamX.TabB base mg p.1 p.2) → FnOk P w K mg base (L2.CX P w) 6 f fd ["_law_script"] (@spM (tbs K [(("all_lots", none), "all_lots.<locals>.<lambda>")]) ⟨K, cm K, w⟩ 1 Wk.m_law) := by
  letI : Tb := (tbs K [(("all_lots", none), "all_lots.<locals>.<lambda>")])
  have n_abs : mg ("abs" : PySem.Str) = none := He.free_ok X G (c.fact 36 (f := .free "abs") rfl)
  have n_all : mg ("all" : PySem.Str) = none := He.free_ok X G (c.fact 34 (f := .free "all") rfl)
  have n_any : mg ("any" : PySem.Str) = none := He.free_ok X G (c.fact 35 (f := .free "any") rfl)
  have n_bool : mg ("bool" : PySem.Str) = none := He.free_ok X G (c.fact 40 (f := .free "bool") rfl)
  have n_enumerate : mg ("enumerate" : PySem.Str) = none := He.free_ok X G (c.fact 38 (f := .free "enumerate") rfl)
  have n_int : mg ("int" : PySem.Str) = none := He.free_ok X G (c.fact 37 (f := .free "int") rfl)
  have n_isinstance : mg ("isinstance" : PySem.Str) = none := He.free_ok X G (c.fact 28 (f := .free "isinstance") rfl)
  have n_len : mg ("len" : PySem.Str) = none := He.free_ok X G (c.fact 27 (f := .free "len") rfl)
  have n_list : mg ("list" : PySem.Str) = none := He.free_ok X G (c.fact 31 (f := .free "list") rfl)
  have n_range : mg ("range" : PySem.Str) = none := He.free_ok X G (c.fact 29 (f := .free "range") rfl)
  have n_set : mg ("set" : PySem.Str) = none := He.free_ok X G (c.fact 33 (f := .free "set") rfl)
  have n_sorted : mg ("sorted" : PySem.Str) = none := He.free_ok X G (c.fact 30 (f := .free "sorted") rfl)
  have n_tuple : mg ("tuple" : PySem.Str) = none := He.free_ok X G (c.fact 32 (f := .free "tuple") rfl)
  have n_zip : mg ("zip" : PySem.Str) = none := He.free_ok X G (c.fact 39 (f := .free "zip") rfl)
  obtain ⟨t_BLANK, g_BLANK⟩ := He.int_ok X G (c.fact 45 (f := .int "BLANK" (-1)) rfl)
  have r_BLANK : L2.RelV (.int (-1)) (Value.int (-1) t_BLANK) := ⟨_, rfl⟩
  obtain ⟨t_MOST_COLUMNS, g_MOST_COLUMNS⟩ := He.int_ok X G (c.fact 42 (f := .int "MOST_COLUMNS" 4) rfl)
  have r_MOST_COLUMNS : L2.RelV (.int 4) (Value.int 4 t_MOST_COLUMNS) := ⟨_, rfl⟩
  obtain ⟨t_MOST_CONTENTS, g_MOST_CONTENTS⟩ := He.int_ok X G (c.fact 44 (f := .int "MOST_CONTENTS" 64) rfl)
  have r_MOST_CONTENTS : L2.RelV (.int 64) (Value.int 64 t_MOST_CONTENTS) := ⟨_, rfl⟩
  obtain ⟨t_MOST_WORTHS, g_MOST_WORTHS⟩ := He.int_ok X G (c.fact 43 (f := .int "MOST_WORTHS" 4) rfl)
  have r_MOST_WORTHS : L2.RelV (.int 4) (Value.int 4 t_MOST_WORTHS) := ⟨_, rfl⟩
  obtain ⟨fd_is_integer, F_is_integer⟩ := c.def_ 0 (d := Hd.d_is_integer) rfl
  have B_is_integer : L2.Binds K fd_is_integer ["thing"] [] := FunD.bindsN F_is_integer fun _ _ _ _ _ _ us hl => match us, hl with | [_], _ => rfl
  obtain ⟨fd_is_within, F_is_within⟩ := c.def_ 1 (d := Hd.d_is_within) rfl
  have B_is_within : L2.Binds K fd_is_within ["thing", "least", "most"] [] := FunD.bindsN F_is_within fun _ _ _ _ _ _ us hl => match us, hl with | [_, _, _], _ => rfl
  obtain ⟨fd_is_lot, F_is_lot⟩ := c.def_ 2 (d := Hd.d_is_lot) rfl
  have B_is_lot : L2.Binds K fd_is_lot ["thing", "many"] [] := FunD.bindsN F_is_lot fun _ _ _ _ _ _ us hl => match us, hl with | [_, _], _ => rfl
  obtain ⟨fd_all_lots, F_all_lots⟩ := c.def_ 3 (d := Hd.d_all_lots) rfl
  have B_all_lots : L2.Binds K fd_all_lots ["many"] [] := FunD.bindsN F_all_lots fun _ _ _ _ _ _ us hl => match us, hl with | [_], _ => rfl
  obtain ⟨fd_is_sizes, F_is_sizes⟩ := c.def_ 4 (d := Hd.d_is_sizes) rfl
  have B_is_sizes : L2.Binds K fd_is_sizes ["thing"] [] := FunD.bindsN F_is_sizes fun _ _ _ _ _ _ us hl => match us, hl with | [_], _ => rfl
  obtain ⟨fd_check_sizes, F_check_sizes⟩ := c.def_ 5 (d := Hd.d_check_sizes) rfl
  have B_check_sizes : L2.Binds K fd_check_sizes ["thing"] [] := FunD.bindsN F_check_sizes fun _ _ _ _ _ _ us hl => match us, hl with | [_], _ => rfl
  obtain ⟨fd_check_pattern, F_check_pattern⟩ := c.def_ 6 (d := Hd.d_check_pattern) rfl
  have B_check_pattern : L2.Binds K fd_check_pattern ["sizes", "thing"] [] := FunD.bindsN F_check_pattern fun _ _ _ _ _ _ us hl => match us, hl with | [_, _], _ => rfl
  obtain ⟨fd_is_content, F_is_content⟩ := c.def_ 7 (d := Hd.d_is_content) rfl
  have B_is_content : L2.Binds K fd_is_content ["sizes", "thing"] [] := FunD.bindsN F_is_content fun _ _ _ _ _ _ us hl => match us, hl with | [_, _], _ => rfl
  obtain ⟨fd_tuples_of, F_tuples_of⟩ := c.def_ 8 (d := Hd.d_tuples_of) rfl
  have B_tuples_of : L2.Binds K fd_tuples_of ["rows"] [] := FunD.bindsN F_tuples_of fun _ _ _ _ _ _ us hl => match us, hl with | [_], _ => rfl
  obtain ⟨fd_contents_of, F_contents_of⟩ := c.def_ 9 (d := Hd.d_contents_of) rfl
  have B_contents_of : L2.Binds K fd_contents_of ["sizes"] [] := FunD.bindsN F_contents_of fun _ _ _ _ _ _ us hl => match us, hl with | [_], _ => rfl
  obtain ⟨fd_patterns_of, F_patterns_of⟩ := c.def_ 10 (d := Hd.d_patterns_of) rfl
  have B_patterns_of : L2.Binds K fd_patterns_of ["many"] [] := FunD.bindsN F_patterns_of fun _ _ _ _ _ _ us hl => match us, hl with | [_], _ => rfl
  obtain ⟨fd_views_of, F_views_of⟩ := c.def_ 11 (d := Hd.d_views_of) rfl
  have B_views_of : L2.Binds K fd_views_of ["sizes", "pattern"] [] := FunD.bindsN F_views_of fun _ _ _ _ _ _ us hl => match us, hl with | [_, _], _ => rfl
  obtain ⟨fd_view_of, F_view_of⟩ := c.def_ 12 (d := Hd.d_view_of) rfl
  have B_view_of : L2.Binds K fd_view_of ["content", "pattern"] [] := FunD.bindsN F_view_of fun _ _ _ _ _ _ us hl => match us, hl with | [_, _], _ => rfl
  obtain ⟨fd_contents, F_contents⟩ := c.def_ 13 (d := Hd.d_contents) rfl
  have B_contents : L2.Binds K fd_contents ["sizes"] [] := FunD.bindsN F_contents fun _ _ _ _ _ _ us hl => match us, hl with | [_], _ => rfl
  obtain ⟨fd_patterns, F_patterns⟩ := c.def_ 14 (d := Hd.d_patterns) rfl
  have B_patterns : L2.Binds K fd_patterns ["sizes"] [] := FunD.bindsN F_patterns fun _ _ _ _ _ _ us hl => match us, hl with | [_], _ => rfl
  obtain ⟨fd_views, F_views⟩ := c.def_ 15 (d := Hd.d_views) rfl
  have B_views : L2.Binds K fd_views ["sizes", "pattern"] [] := FunD.bindsN F_views fun _ _ _ _ _ _ us hl => match us, hl with | [_, _], _ => rfl
  obtain ⟨fd_view, F_view⟩ := c.def_ 16 (d := Hd.d_view) rfl
  have B_view : L2.Binds K fd_view ["sizes", "content", "pattern"] [] := FunD.bindsN F_view fun _ _ _ _ _ _ us hl => match us, hl with | [_, _, _], _ => rfl
  obtain ⟨fd__law_hand, F__law_hand⟩ := c.def_ 17 (d := Hd.d__law_hand) rfl
  have B__law_hand : L2.Binds K fd__law_hand ["_law_script"] [] := FunD.bindsN F__law_hand fun _ _ _ _ _ _ us hl => match us, hl with | [_], _ => rfl
  obtain ⟨fd__law_draw, F__law_draw⟩ := c.def_ 18 (d := Hd.d__law_draw) rfl
  have B__law_draw : L2.Binds K fd__law_draw ["_law_hand_here", "_law_many"] [] := FunD.bindsN F__law_draw fun _ _ _ _ _ _ us hl => match us, hl with | [_, _], _ => rfl
  obtain ⟨fd__law_any, F__law_any⟩ := c.def_ 19 (d := Hd.d__law_any) rfl
  have B__law_any : L2.Binds K fd__law_any ["_law_hand_here", "_law_things"] [] := FunD.bindsN F__law_any fun _ _ _ _ _ _ us hl => match us, hl with | [_, _], _ => rfl
  obtain ⟨fd__law_sizes, F__law_sizes⟩ := c.def_ 20 (d := Hd.d__law_sizes) rfl
  have B__law_sizes : L2.Binds K fd__law_sizes ["_law_hand_here"] [] := FunD.bindsN F__law_sizes fun _ _ _ _ _ _ us hl => match us, hl with | [_], _ => rfl
  obtain ⟨fd__law_contents, F__law_contents⟩ := c.def_ 21 (d := Hd.d__law_contents) rfl
  have B__law_contents : L2.Binds K fd__law_contents ["_law_sizes_here"] [] := FunD.bindsN F__law_contents fun _ _ _ _ _ _ us hl => match us, hl with | [_], _ => rfl
  obtain ⟨fd__law_patterns, F__law_patterns⟩ := c.def_ 22 (d := Hd.d__law_patterns) rfl
  have B__law_patterns : L2.Binds K fd__law_patterns ["_law_many"] [] := FunD.bindsN F__law_patterns fun _ _ _ _ _ _ us hl => match us, hl with | [_], _ => rfl
  obtain ⟨fd__law_view, F__law_view⟩ := c.def_ 23 (d := Hd.d__law_view) rfl
  have B__law_view : L2.Binds K fd__law_view ["_law_content", "_law_pattern"] [] := FunD.bindsN F__law_view fun _ _ _ _ _ _ us hl => match us, hl with | [_, _], _ => rfl
  obtain ⟨fd__law_views, F__law_views⟩ := c.def_ 24 (d := Hd.d__law_views) rfl
  have B__law_views : L2.Binds K fd__law_views ["_law_sizes_here", "_law_pattern"] [] := FunD.bindsN F__law_views fun _ _ _ _ _ _ us hl => match us, hl with | [_, _], _ => rfl
  obtain ⟨fd__law_is_list, F__law_is_list⟩ := c.def_ 25 (d := Hd.d__law_is_list) rfl
  have B__law_is_list : L2.Binds K fd__law_is_list ["_law_told", "_law_due"] [] := FunD.bindsN F__law_is_list fun _ _ _ _ _ _ us hl => match us, hl with | [_, _], _ => rfl
  obtain ⟨fd_law, F_law⟩ := c.def_ 26 (d := Hd.d_law) rfl
  have B_law : L2.Binds K fd_law ["_law_script"] [] := FunD.bindsN F_law fun _ _ _ _ _ _ us hl => match us, hl with | [_], _ => rfl
  have e := hfa.symm.trans (He.glo_ok X G (c.fact 26 (f := .glo "law") rfl))
  cases e
  have b := FunD.bindsA (ps := ["_law_script"]) F_law fun _ _ _ _ _ _ us hl => match us, hl with | [_], _ => rfl
  refine ⟨fd_law, fun s v => b s [v] rfl, fun base _ _ TB => ?_⟩
  have lam_ : LamH K mg base (He.fAd K ("all_lots", none)) "all_lots.<locals>.<lambda>" := lamH_one TB
  have c_is_integer : Cal P w K mg base (cm K) 1 "is_integer" 1 Wk.m_is_integer := Cal.of (d := Wk.f_is_integer) (He.glo_ok X G (c.fact 0 (f := .glo "is_integer") rfl)) F_is_integer B_is_integer (C8.fnScope_by (N := Wk.N_is_integer) (P := ["thing"]) (by decide +kernel)) rfl rfl (by decide) (fun cdv hcv A outer s H E hr => Wk.w_is_integer n_bool n_int n_isinstance cdv hcv A outer s H E hr)
  have c_is_within : Cal P w K mg base (cm K) 2 "is_within" 3 Wk.m_is_within := Cal.of (d := Wk.f_is_within) (He.glo_ok X G (c.fact 1 (f := .glo "is_within") rfl)) F_is_within B_is_within (C8.fnScope_by (N := Wk.N_is_within) (P := ["thing", "least", "most"]) (by decide +kernel)) rfl rfl (by decide) (fun cdv hcv A outer s H E hr => Wk.w_is_within c_is_integer cdv hcv A outer s H E hr)
  have c_is_lot : Cal P w K mg base (cm K) 3 "is_lot" 2 Wk.m_is_lot := Cal.of (d := Wk.f_is_lot) (He.glo_ok X G (c.fact 2 (f := .glo "is_lot") rfl)) F_is_lot B_is_lot (C8.fnScope_by (N := Wk.N_is_lot) (P := ["thing", "many"]) (by decide +kernel)) rfl rfl (by decide) (fun cdv hcv A outer s H E hr => Wk.w_is_lot n_isinstance n_tuple c_is_within cdv hcv A outer s H E hr)
  have c_all_lots : Cal P w K mg base (cm K) 1 "all_lots" 1 Wk.m_all_lots := Cal.of (d := Wk.f_all_lots) (He.glo_ok X G (c.fact 3 (f := .glo "all_lots") rfl)) F_all_lots B_all_lots (C8.fnScope_by (N := Wk.N_all_lots) (P := ["many"]) (by decide +kernel)) rfl rfl (by decide) (fun cdv hcv A outer s H E hr => Wk.w_all_lots n_len n_range n_sorted lam_ cdv hcv A outer s H E hr)
  have c_is_sizes : Cal P w K mg base (cm K) 3 "is_sizes" 1 Wk.m_is_sizes := Cal.of (d := Wk.f_is_sizes) (He.glo_ok X G (c.fact 4 (f := .glo "is_sizes") rfl)) F_is_sizes B_is_sizes (C8.fnScope_by (N := Wk.N_is_sizes) (P := ["thing"]) (by decide +kernel)) rfl rfl (by decide) (fun cdv hcv A outer s H E hr => Wk.w_is_sizes n_all n_isinstance n_len n_tuple g_MOST_COLUMNS r_MOST_COLUMNS g_MOST_CONTENTS r_MOST_CONTENTS g_MOST_WORTHS r_MOST_WORTHS c_is_within cdv hcv A outer s H E hr)
  have c_check_sizes : Cal P w K mg base (cm K) 4 "check_sizes" 1 Wk.m_check_sizes := Cal.of (d := Wk.f_check_sizes) (He.glo_ok X G (c.fact 5 (f := .glo "check_sizes") rfl)) F_check_sizes B_check_sizes (C8.fnScope_by (N := Wk.N_check_sizes) (P := ["thing"]) (by decide +kernel)) rfl rfl (by decide) (fun cdv hcv A outer s H E hr => Wk.w_check_sizes c_is_sizes cdv hcv A outer s H E hr)
  have c_check_pattern : Cal P w K mg base (cm K) 4 "check_pattern" 2 Wk.m_check_pattern := Cal.of (d := Wk.f_check_pattern) (He.glo_ok X G (c.fact 6 (f := .glo "check_pattern") rfl)) F_check_pattern B_check_pattern (C8.fnScope_by (N := Wk.N_check_pattern) (P := ["sizes", "thing"]) (by decide +kernel)) rfl rfl (by decide) (fun cdv hcv A outer s H E hr => Wk.w_check_pattern n_len c_is_lot cdv hcv A outer s H E hr)
  have c_is_content : Cal P w K mg base (cm K) 3 "is_content" 2 Wk.m_is_content := Cal.of (d := Wk.f_is_content) (He.glo_ok X G (c.fact 7 (f := .glo "is_content") rfl)) F_is_content B_is_content (C8.fnScope_by (N := Wk.N_is_content) (P := ["sizes", "thing"]) (by decide +kernel)) rfl rfl (by decide) (fun cdv hcv A outer s H E hr => Wk.w_is_content n_all n_isinstance n_len n_tuple n_zip c_is_within cdv hcv A outer s H E hr)
  have c_tuples_of : Cal P w K mg base (cm K) 1 "tuples_of" 1 Wk.m_tuples_of := Cal.of (d := Wk.f_tuples_of) (He.glo_ok X G (c.fact 8 (f := .glo "tuples_of") rfl)) F_tuples_of B_tuples_of (C8.fnScope_by (N := Wk.N_tuples_of) (P := ["rows"]) (by decide +kernel)) rfl rfl (by decide) (fun cdv hcv A outer s H E hr => Wk.w_tuples_of  cdv hcv A outer s H E hr)
  have c_contents_of : Cal P w K mg base (cm K) 2 "contents_of" 1 Wk.m_contents_of := Cal.of (d := Wk.f_contents_of) (He.glo_ok X G (c.fact 9 (f := .glo "contents_of") rfl)) F_contents_of B_contents_of (C8.fnScope_by (N := Wk.N_contents_of) (P := ["sizes"]) (by decide +kernel)) rfl rfl (by decide) (fun cdv hcv A outer s H E hr => Wk.w_contents_of n_list n_range c_tuples_of cdv hcv A outer s H E hr)
  have c_patterns_of : Cal P w K mg base (cm K) 2 "patterns_of" 1 Wk.m_patterns_of := Cal.of (d := Wk.f_patterns_of) (He.glo_ok X G (c.fact 10 (f := .glo "patterns_of") rfl)) F_patterns_of B_patterns_of (C8.fnScope_by (N := Wk.N_patterns_of) (P := ["many"]) (by decide +kernel)) rfl rfl (by decide) (fun cdv hcv A outer s H E hr => Wk.w_patterns_of n_sorted c_all_lots cdv hcv A outer s H E hr)
  have c_views_of : Cal P w K mg base (cm K) 2 "views_of" 2 Wk.m_views_of := Cal.of (d := Wk.f_views_of) (He.glo_ok X G (c.fact 11 (f := .glo "views_of") rfl)) F_views_of B_views_of (C8.fnScope_by (N := Wk.N_views_of) (P := ["sizes", "pattern"]) (by decide +kernel)) rfl rfl (by decide) (fun cdv hcv A outer s H E hr => Wk.w_views_of n_enumerate n_list n_range g_BLANK r_BLANK c_tuples_of cdv hcv A outer s H E hr)
  have c_view_of : Cal P w K mg base (cm K) 1 "view_of" 2 Wk.m_view_of := Cal.of (d := Wk.f_view_of) (He.glo_ok X G (c.fact 12 (f := .glo "view_of") rfl)) F_view_of B_view_of (C8.fnScope_by (N := Wk.N_view_of) (P := ["content", "pattern"]) (by decide +kernel)) rfl rfl (by decide) (fun cdv hcv A outer s H E hr => Wk.w_view_of n_enumerate n_tuple g_BLANK r_BLANK cdv hcv A outer s H E hr)
  have c_contents : Cal P w K mg base (cm K) 5 "contents" 1 Wk.m_contents := Cal.of (d := Wk.f_contents) (He.glo_ok X G (c.fact 13 (f := .glo "contents") rfl)) F_contents B_contents (C8.fnScope_by (N := Wk.N_contents) (P := ["sizes"]) (by decide +kernel)) rfl rfl (by decide) (fun cdv hcv A outer s H E hr => Wk.w_contents c_check_sizes c_contents_of cdv hcv A outer s H E hr)
  have c_patterns : Cal P w K mg base (cm K) 5 "patterns" 1 Wk.m_patterns := Cal.of (d := Wk.f_patterns) (He.glo_ok X G (c.fact 14 (f := .glo "patterns") rfl)) F_patterns B_patterns (C8.fnScope_by (N := Wk.N_patterns) (P := ["sizes"]) (by decide +kernel)) rfl rfl (by decide) (fun cdv hcv A outer s H E hr => Wk.w_patterns n_len c_check_sizes c_patterns_of cdv hcv A outer s H E hr)
  have c_views : Cal P w K mg base (cm K) 5 "views" 2 Wk.m_views := Cal.of (d := Wk.f_views) (He.glo_ok X G (c.fact 15 (f := .glo "views") rfl)) F_views B_views (C8.fnScope_by (N := Wk.N_views) (P := ["sizes", "pattern"]) (by decide +kernel)) rfl rfl (by decide) (fun cdv hcv A outer s H E hr => Wk.w_views c_check_pattern c_check_sizes c_views_of cdv hcv A outer s H E hr)
  have c_view : Cal P w K mg base (cm K) 5 "view" 3 Wk.m_view := Cal.of (d := Wk.f_view) (He.glo_ok X G (c.fact 16 (f := .glo "view") rfl)) F_view B_view (C8.fnScope_by (N := Wk.N_view) (P := ["sizes", "content", "pattern"]) (by decide +kernel)) rfl rfl (by decide) (fun cdv hcv A outer s H E hr => Wk.w_view c_check_pattern c_check_sizes c_is_content c_view_of cdv hcv A outer s H E hr)
  have c__law_hand : Cal P w K mg base (cm K) 1 "_law_hand" 1 Wk.m__law_hand := Cal.of (d := Wk.f__law_hand) (He.glo_ok X G (c.fact 17 (f := .glo "_law_hand") rfl)) F__law_hand B__law_hand (C8.fnScope_by (N := Wk.N__law_hand) (P := ["_law_script"]) (by decide +kernel)) rfl rfl (by decide) (fun cdv hcv A outer s H E hr => Wk.w__law_hand n_abs n_int n_len cdv hcv A outer s H E hr)
  have c__law_draw : Cal P w K mg base (cm K) 1 "_law_draw" 2 Wk.m__law_draw := Cal.of (d := Wk.f__law_draw) (He.glo_ok X G (c.fact 18 (f := .glo "_law_draw") rfl)) F__law_draw B__law_draw (C8.fnScope_by (N := Wk.N__law_draw) (P := ["_law_hand_here", "_law_many"]) (by decide +kernel)) rfl rfl (by decide) (fun cdv hcv A outer s H E hr => Wk.w__law_draw n_int n_len cdv hcv A outer s H E hr)
  have c__law_any : Cal P w K mg base (cm K) 2 "_law_any" 2 Wk.m__law_any := Cal.of (d := Wk.f__law_any) (He.glo_ok X G (c.fact 19 (f := .glo "_law_any") rfl)) F__law_any B__law_any (C8.fnScope_by (N := Wk.N__law_any) (P := ["_law_hand_here", "_law_things"]) (by decide +kernel)) rfl rfl (by decide) (fun cdv hcv A outer s H E hr => Wk.w__law_any n_len c__law_draw cdv hcv A outer s H E hr)
  have c__law_sizes : Cal P w K mg base (cm K) 3 "_law_sizes" 1 Wk.m__law_sizes := Cal.of (d := Wk.f__law_sizes) (He.glo_ok X G (c.fact 20 (f := .glo "_law_sizes") rfl)) F__law_sizes B__law_sizes (C8.fnScope_by (N := Wk.N__law_sizes) (P := ["_law_hand_here"]) (by decide +kernel)) rfl rfl (by decide) (fun cdv hcv A outer s H E hr => Wk.w__law_sizes c__law_any c__law_draw cdv hcv A outer s H E hr)
  have c__law_contents : Cal P w K mg base (cm K) 1 "_law_contents" 1 Wk.m__law_contents := Cal.of (d := Wk.f__law_contents) (He.glo_ok X G (c.fact 21 (f := .glo "_law_contents") rfl)) F__law_contents B__law_contents (C8.fnScope_by (N := Wk.N__law_contents) (P := ["_law_sizes_here"]) (by decide +kernel)) rfl rfl (by decide) (fun cdv hcv A outer s H E hr => Wk.w__law_contents n_int n_range cdv hcv A outer s H E hr)
  have c__law_patterns : Cal P w K mg base (cm K) 1 "_law_patterns" 1 Wk.m__law_patterns := Cal.of (d := Wk.f__law_patterns) (He.glo_ok X G (c.fact 22 (f := .glo "_law_patterns") rfl)) F__law_patterns B__law_patterns (C8.fnScope_by (N := Wk.N__law_patterns) (P := ["_law_many"]) (by decide +kernel)) rfl rfl (by decide) (fun cdv hcv A outer s H E hr => Wk.w__law_patterns n_range n_sorted n_tuple cdv hcv A outer s H E hr)
  have c__law_view : Cal P w K mg base (cm K) 1 "_law_view" 2 Wk.m__law_view := Cal.of (d := Wk.f__law_view) (He.glo_ok X G (c.fact 23 (f := .glo "_law_view") rfl)) F__law_view B__law_view (C8.fnScope_by (N := Wk.N__law_view) (P := ["_law_content", "_law_pattern"]) (by decide +kernel)) rfl rfl (by decide) (fun cdv hcv A outer s H E hr => Wk.w__law_view n_len n_range n_tuple cdv hcv A outer s H E hr)
  have c__law_views : Cal P w K mg base (cm K) 2 "_law_views" 2 Wk.m__law_views := Cal.of (d := Wk.f__law_views) (He.glo_ok X G (c.fact 24 (f := .glo "_law_views") rfl)) F__law_views B__law_views (C8.fnScope_by (N := Wk.N__law_views) (P := ["_law_sizes_here", "_law_pattern"]) (by decide +kernel)) rfl rfl (by decide) (fun cdv hcv A outer s H E hr => Wk.w__law_views n_set n_sorted c__law_contents c__law_view cdv hcv A outer s H E hr)
  have c__law_is_list : Cal P w K mg base (cm K) 1 "_law_is_list" 2 Wk.m__law_is_list := Cal.of (d := Wk.f__law_is_list) (He.glo_ok X G (c.fact 25 (f := .glo "_law_is_list") rfl)) F__law_is_list B__law_is_list (C8.fnScope_by (N := Wk.N__law_is_list) (P := ["_law_told", "_law_due"]) (by decide +kernel)) rfl rfl (by decide) (fun cdv hcv A outer s H E hr => Wk.w__law_is_list n_any n_bool n_isinstance n_list n_tuple cdv hcv A outer s H E hr)
  exact def_ok Wk.f_law F_law (C8.fnScope_by (N := Wk.N_law) (P := ["_law_script"]) (by decide +kernel)) rfl rfl (by decide) (fun cdv hcv A outer s H E hr => Wk.w_law n_all n_len n_range c__law_contents c__law_hand c__law_is_list c__law_patterns c__law_sizes c__law_view c__law_views c_contents c_patterns c_view c_views cdv hcv A outer s H E hr)
end Jn
open PySem PySem.W PySem.Calls PyProof.Rows
theorem joined (hm : ∀ ns : List Int, ns.length ≤ 63 → ∃ back, Wk.m_law [.w (.scr ns)] = .ok (.w (.bl true)) back) : PySem.Challenge.rw_calmblanks_k01_whole_contents_patterns_v.Holds := by
  w_on; o_law
  refine HandSHeadRun.head_any (r := OpenLaw.row PySem.Challenge.rw_calmblanks_k01_whole_contents_patterns_v) (q := view (OpenLaw.row PySem.Challenge.rw_calmblanks_k01_whole_contents_patterns_v).prog [38]) (H := Hd.hk) (ob := Hd.ob) (M := 4000) (loose := Hd.loose) (d := HandSHeadRun.topDef (OpenLaw.row PySem.Challenge.rw_calmblanks_k01_whole_contents_patterns_v).prog 38) (kwd := []) Hd.ob_eq
    (by kernel_rfl) (fun s => by kernel_rfl) Hd.run (by kernel_rfl) (by kernel_rfl) (by kernel_rfl) (by rfl) (by first | assumption | decide +kernel) (by decide +kernel) ⟨rfl, rfl, rfl, rfl, rfl, by decide +kernel⟩ ?hw ?hc
  case hw => w_witness2

  case hc =>
    refine Cb.end_tabs (l := PySem.Challenge.rw_calmblanks_k01_whole_contents_patterns_v) (n := 63) (k := 6) (x := "_law_script") rfl (by decide) (by kernel_rfl) ⟨rfl, by decide, by decide⟩ ?F
    intro w mg fa h K KX Y G hmg0
    have hmg : mg ("law" : PySem.Str) = some (.ref fa) := by
      have e : (HandSHeadRun.topDef (OpenLaw.row PySem.Challenge.rw_calmblanks_k01_whole_contents_patterns_v).prog 38).name = ("law" : PySem.Str) := by kernel_rfl
      rw [← e]
      exact hmg0
    obtain ⟨fd, hb, hF⟩ := Jn.facts (P := (PySem.Challenge.rw_calmblanks_k01_whole_contents_patterns_v).prog) (w := w) KX G hmg Y.t.d
    exact ⟨fd, _, hb, fun H a ns hl hH hS => @Cb.end_w (Cb.tbs K [(("all_lots", none), "all_lots.<locals>.<lambda>")]) K (Jn.cm K) Wk.m_law w hm H a ns hl (Cb.tbs_start hH) hS, hF⟩

end
section
set_option maxRecDepth 100000
set_option maxHeartbeats 4000000
/-! tools for plain laws: what the combinators do, one equation each; a part is worked out before what stands behind it -/
namespace Pl
open PySem L2 Cb
variable {α β : Type} {env : Cb.Env}
theorem bind_cong {r r' : R α} {k : α → Cb.Env → R β} (h : r = r') : r.bind k = r'.bind k := by rw [h]
@[simp] theorem bind_ok {a : α} {e : Cb.Env} {k : α → Cb.Env → R β} : (R.ok a e).bind k = k a e := rfl
@[simp] theorem bind_ite {c : Prop} [Decidable c] {a b : R α} {k : α → Cb.Env → R β} : (if c then a else b).bind k = if c then a.bind k else b.bind k := by split <;> rfl
@[simp] theorem of_ok {s : SR} {e : Cb.Env} : SR.of (R.ok s e) = s := rfl
@[simp] theorem of_ite {c : Prop} [Decidable c] {a b : R SR} : SR.of (if c then a else b) = if c then SR.of a else SR.of b := by split <;> rfl
@[simp] theorem gets_0 {o : Option Z} {r : Cb.Env} : gets (o :: r) 0 = okZ o := rfl
@[simp] theorem okZ_n : okZ none = none := rfl
@[simp] theorem okZ_w {x : W} : okZ (some (.w x)) = some (.w x) := rfl
@[simp] theorem okZ_L {x : List W} : okZ (some (.L x)) = some (.L x) := rfl
@[simp] theorem okZ_dK {x : List (Key × W)} : okZ (some (.dK x)) = some (.dK x) := rfl
@[simp] theorem okZ_dW {x : List (W × W)} : okZ (some (.dW x)) = some (.dW x) := rfl
@[simp] theorem okZ_c {a : Str} {b : List W} : okZ (some (.clo a b)) = none := rfl
@[simp] theorem okZ_o {c : Str} {x : List (Str × W)} : okZ (some (.obj c x)) = some (.obj c x) := rfl
theorem okZ_of {z : Z} {l : List W} (h : frz z = .lst l) : okZ (some z) = some z := by cases z <;> first | rfl | (cases h)
@[simp] theorem okZ_e : okZ (some .err) = none := rfl
@[simp] theorem gets_s {o : Option Z} {r : Cb.Env} {i : Nat} : gets (o :: r) (i + 1) = gets r i := rfl
@[simp] theorem frz_w {x : W} : frz (.w x) = x := rfl
@[simp] theorem frz_L {x : List W} : frz (.L x) = .lst x := rfl
@[simp] theorem frz_o {c : Str} {x : List (Str × W)} : frz (.obj c x) = .obj c x := rfl
@[simp] theorem asB_bl {b : Bool} : asB (.w (.bl b)) = some b := rfl
@[simp] theorem asI_int {b : Int} : asI (.w (.int b)) = some b := rfl
/-- a slot's value, frozen -/
def vF (i : Nat) (env : Cb.Env) : Option Z → R Z
  | some z => .ok (.w (frz z)) (env.set i (some (.w (frz z))))
  | none => .bad
@[simp] theorem vF_s {i : Nat} {z : Z} : vF i env (some z) = .ok (.w (frz z)) (env.set i (some (.w (frz z)))) := rfl
theorem cVar_e {i : Nat} : cVar i env = vF i env (gets env i) := by unfold cVar vF; rfl
def oF (i : Nat) (env : Cb.Env) : Option Z → R Od
  | some _ => .ok (.s i) env
  | none => .bad
@[simp] theorem oF_s {i : Nat} {z : Z} : oF i env (some z) = .ok (.s i) env := rfl
theorem cOs_e {i : Nat} : cOs i env = oF i env (gets env i) := by unfold cOs oF; rfl
theorem cC_e {w : W} : cC w env = .ok (.w w) env := rfl
theorem cNil_e : (cNil : Den (List α)) env = .ok [] env := rfl
theorem cCons_e {d : Den Z} {ds : Den (List W)} : cCons d ds env = (d env).bind fun z env => (ds env).bind fun ws env => .ok (frz z :: ws) env := rfl
theorem cConsO_e {d : Den Od} {ds : Den (List Od)} : cConsO d ds env = (d env).bind fun z env => (ds env).bind fun ws env => .ok (z :: ws) env := rfl
theorem cOd_e {d : Den Z} : cOd d env = (d env).bind fun z env => .ok (.w (frz z)) env := rfl
theorem cTup_e {d : Den (List W)} : cTup d env = (d env).bind fun ws env => if Cb.sizeOk ws.length then .ok (.w (.tup ws)) env else .bad := rfl
theorem cLst_e {d : Den (List W)} : cLst d env = (d env).bind fun ws env => if Cb.sizeOk ws.length then .ok (.L ws) env else .bad := rfl
theorem cPr_e {p : Pr} {d : Den (List Od)} : cPr p d env = (d env).bind fun os env => primM p os env := rfl
theorem cB_e {d : Den Bool} : cB d env = (d env).bind fun b env => .ok (.w (.bl b)) env := rfl
def tF (env : Cb.Env) : Option Bool → R Bool
  | some b => .ok b env
  | none => .bad
@[simp] theorem tF_s {b : Bool} : tF env (some b) = .ok b env := rfl
theorem cT_e {d : Den Z} : cT d env = (d env).bind fun z env => tF env (asB z) := by unfold cT tF; rfl
theorem cNot_e {d : Den Bool} : cNot d env = (d env).bind fun b env => .ok (!b) env := rfl
theorem cIte_e {t : Den Bool} {a b : Den α} : cIte t a b env = (t env).bind fun t env => if t then a env else b env := rfl
theorem cAnd_e {d e : Den Bool} : cAnd d e env = (d env).bind fun b env => if b then e env else .ok false env := rfl
theorem cOr_e {d e : Den Bool} : cOr d e env = (d env).bind fun b env => if b then .ok true env else e env := rfl
theorem cTrue_e : cTrue env = .ok true env := rfl
theorem cFalse_e : cFalse env = .ok false env := rfl
def leF (env : Cb.Env) (i : Int) : Option Int → R Z
  | some j => .ok (.w (.bl (decide (i ≤ j)))) env
  | none => .bad
@[simp] theorem leF_s {i j : Int} : leF env i (some j) = .ok (.w (.bl (decide (i ≤ j)))) env := rfl
theorem cLe_e {i : Int} {d : Den Z} : cLe i d env = (d env).bind fun z env => leF env i (asI z) := by unfold cLe leF; rfl
def chF (env : Cb.Env) (dc : Den Z) : Option Int → Option Int → R Z
  | some i, some j => if i ≤ j then cLe j dc env else .ok (.w (.bl false)) env
  | _, _ => .bad
@[simp] theorem chF_s {i j : Int} {dc : Den Z} : chF env dc (some i) (some j) = if i ≤ j then cLe j dc env else .ok (.w (.bl false)) env := rfl
theorem cCh_e {a b c : Den Z} : cCh a b c env = (a env).bind fun x env => (b env).bind fun y env => chF env c (asI x) (asI y) := by
  have h : ∀ (x y : Z) (e2 : Cb.Env), (match asI x, asI y with | some i, some j => if i ≤ j then cLe j c e2 else .ok (.w (.bl false)) e2 | _, _ => .bad) = chF e2 c (asI x) (asI y) := fun x y e2 => by
    cases asI x <;> cases asI y <;> rfl
  show ((a env).bind fun x env => (b env).bind fun y env => match asI x, asI y with | some i, some j => if i ≤ j then cLe j c env else .ok (.w (.bl false)) env | _, _ => .bad) = _
  simp only [h]
theorem cCall_e {m : Mean} {d : Den (List Od)} : cCall m d env = (d env).bind fun os env => callM m os env := rfl
theorem cMk_e {c : Str} {m : Mean} {d : Den (List Od)} : cMk c m d env = (d env).bind fun os env => makeM c m os env := rfl
/-! calls -/
@[simp] theorem res_w {x : W} {os : List Od} : resAll env (.w x :: os) = (resAll env os).map (Z.w x :: ·) := by
  show (match some (Z.w x), resAll env os with | some z, some zs => some (z :: zs) | _, _ => none) = _
  cases resAll env os <;> rfl
def rsF (os : Option (List Z)) : Option Z → Option (List Z)
  | some z => os.map (z :: ·)
  | none => none
@[simp] theorem rsF_s {os : Option (List Z)} {z : Z} : rsF os (some z) = os.map (z :: ·) := rfl
@[simp] theorem res_s {i : Nat} {os : List Od} : resAll env (.s i :: os) = rsF (resAll env os) (gets env i) := by
  show (match gets env i, resAll env os with | some z, some zs => some (z :: zs) | _, _ => none) = _
  cases gets env i <;> cases resAll env os <;> rfl
@[simp] theorem res_n : resAll env [] = some [] := rfl
def prF (p : Pr) (env : Cb.Env) : Option (List Z) → R Z
  | none => .bad
  | some zs => match prW p (zs.map frz) with
    | some z => .ok z env
    | none => .bad
def pzF (env : Cb.Env) : Option Z → R Z
  | some z => .ok z env
  | none => .bad
@[simp] theorem pzF_s {z : Z} : pzF env (some z) = .ok z env := rfl
@[simp] theorem prF_s {p : Pr} {zs : List Z} : prF p env (some zs) = pzF env (prW p (zs.map frz)) := rfl
theorem primM_e {p : Pr} {os : List Od} : primM p os env = prF p env (resAll env os) := by unfold primM prF; rfl
/-- what comes of a call -/
def clF (os : List Od) (env : Cb.Env) (zs : List Z) : MR → R Z
  | .ok z back => if back.length = zs.length then .ok z (putBack os zs back env) else .bad
  | .ex x back => if back.length = zs.length then .ex x (putBack os zs back env) else .bad
  | .bad => .bad
@[simp] theorem clF_s {os : List Od} {zs : List Z} {z : Z} {back : List Z} : clF os env zs (.ok z back) = if back.length = zs.length then .ok z (putBack os zs back env) else .bad := rfl
def caF (m : Mean) (os : List Od) (env : Cb.Env) : Option (List Z) → R Z
  | none => .bad
  | some zs => if nodupB (lent os zs) then clF os env zs (m zs) else .bad
@[simp] theorem caF_s {m : Mean} {os : List Od} {zs : List Z} : caF m os env (some zs) = if nodupB (lent os zs) then clF os env zs (m zs) else .bad := rfl
theorem callM_e {m : Mean} {os : List Od} : callM m os env = caF m os env (resAll env os) := by
  unfold callM caF
  cases resAll env os with
  | none => rfl
  | some zs =>
    dsimp only
    split
    · cases m zs <;> rfl
    · rfl
@[simp] theorem lent_n {zs : List Z} : lent [] zs = [] := by cases zs <;> rfl
@[simp] theorem lent_sw {i : Nat} {os : List Od} {x : W} {zs : List Z} : lent (.s i :: os) (.w x :: zs) = lent os zs := rfl
@[simp] theorem lent_sL {i : Nat} {os : List Od} {x : List W} {zs : List Z} : lent (.s i :: os) (.L x :: zs) = i :: lent os zs := rfl
@[simp] theorem lent_so {i : Nat} {os : List Od} {c : Str} {x : List (Str × W)} {zs : List Z} : lent (.s i :: os) (.obj c x :: zs) = i :: lent os zs := rfl
@[simp] theorem lent_w {x : W} {os : List Od} {z : Z} {zs : List Z} : lent (.w x :: os) (z :: zs) = lent os zs := rfl
@[simp] theorem pb_n {zs bs : List Z} : putBack [] zs bs env = env := by cases zs <;> rfl
@[simp] theorem pb_sw {i : Nat} {os : List Od} {x : W} {zs : List Z} {b : Z} {bs : List Z} : putBack (.s i :: os) (.w x :: zs) (b :: bs) env = putBack os zs bs env := rfl
@[simp] theorem pb_sL {i : Nat} {os : List Od} {x : List W} {zs : List Z} {b : Z} {bs : List Z} : putBack (.s i :: os) (.L x :: zs) (b :: bs) env = putBack os zs bs (env.set i (some b)) := rfl
@[simp] theorem pb_so {i : Nat} {os : List Od} {c : Str} {x : List (Str × W)} {zs : List Z} {b : Z} {bs : List Z} : putBack (.s i :: os) (.obj c x :: zs) (b :: bs) env = putBack os zs bs (env.set i (some b)) := rfl
@[simp] theorem pb_w {x : W} {os : List Od} {z : Z} {zs : List Z} {b : Z} {bs : List Z} : putBack (.w x :: os) (z :: zs) (b :: bs) env = putBack os zs bs env := rfl
@[simp] theorem nd_n : nodupB [] = true := rfl
@[simp] theorem nd_1 {i : Nat} : nodupB [i] = true := rfl
def mkR (env : Cb.Env) : MR → R Z
  | .ok (.w .non) (z :: _) => .ok z env
  | .ex x _ => .ex x env
  | _ => .bad
@[simp] theorem mkR_s {z : Z} {bs : List Z} : mkR env (.ok (.w .non) (z :: bs)) = .ok z env := rfl
def mkF (c : Str) (m : Mean) (os : List Od) (env : Cb.Env) : Option (List Z) → R Z
  | none => .bad
  | some zs => if (lent os zs).isEmpty then mkR env (m (.obj c [] :: zs)) else .bad
@[simp] theorem mkF_s {c : Str} {m : Mean} {os : List Od} {zs : List Z} : mkF c m os env (some zs) = if (lent os zs).isEmpty then mkR env (m (.obj c [] :: zs)) else .bad := rfl
theorem makeM_e {c : Str} {m : Mean} {os : List Od} : makeM c m os env = mkF c m os env (resAll env os) := by
  unfold makeM mkF
  cases resAll env os with
  | none => rfl
  | some zs =>
    dsimp only
    split
    · unfold mkR; rfl
    · rfl
/-! statements -/
def sqF (b : DenS) : SR → SR
  | .nx env => b env
  | r => r
theorem sqF_cong {b : DenS} {r r' : SR} (h : r = r') : sqF b r = sqF b r' := by rw [h]
@[simp] theorem sqF_nx {b : DenS} : sqF b (.nx env) = b env := rfl
@[simp] theorem sqF_rt {b : DenS} {z : Z} : sqF b (.rt z env) = .rt z env := rfl
@[simp] theorem sqF_bk {b : DenS} : sqF b (.bk env) = .bk env := rfl
@[simp] theorem sqF_ct {b : DenS} : sqF b (.ct env) = .ct env := rfl
@[simp] theorem sqF_ite {b : DenS} {c : Prop} [Decidable c] {x y : SR} : sqF b (if c then x else y) = if c then sqF b x else sqF b y := by split <;> rfl
theorem kSeq_e {a b : DenS} : kSeq a b env = sqF b (a env) := by unfold kSeq sqF; rfl
theorem kNx_e : kNx env = .nx env := rfl
theorem kRet_e {d : Den Z} : kRet d env = SR.of ((d env).bind fun z env => .ok (.rt z env) env) := rfl
def rvF (i : Nat) (env : Cb.Env) : Option Z → SR
  | some z => .rt z (env.set i none)
  | none => .bad
@[simp] theorem rvF_s {i : Nat} {z : Z} : rvF i env (some z) = .rt z (env.set i none) := rfl
theorem kRetv_e {i : Nat} : kRetv i env = rvF i env (gets env i) := by unfold kRetv rvF; rfl
theorem kSet_e {i : Nat} {d : Den Z} : kSet i d env = SR.of ((d env).bind fun z env => .ok (setSl i z env) env) := rfl
theorem kIte_e {t : Den Bool} {a b : DenS} : kIte t a b env = SR.of ((t env).bind fun t env => .ok (if t then a env else b env) env) := rfl
theorem kEx_e {d : Den Z} : kEx d env = SR.of ((d env).bind fun _ env => .ok (.nx env) env) := rfl
theorem kParZ_e {i j : Nat} {d e : Den Z} : kParZ i j d e env = SR.of ((d env).bind fun z env => (e env).bind fun y env => .ok (if i < env.length ∧ j < env.length then .nx ((env.set i (some z)).set j (some y)) else .bad) env) := rfl
theorem setSl_e {i : Nat} {z : Z} : setSl i z env = if i < env.length then .nx (env.set i (some z)) else .bad := rfl
theorem kFor_e {tg : Tg} {k : Itk} {d : Den (List W)} {b : DenS} : kFor tg k d b env = SR.of ((cIt k d env).bind fun items env => .ok (evFor (setTg tg) b items env) env) := rfl
def itF (env : Cb.Env) : Option (List W) → R (List W)
  | some l => .ok l env
  | none => .bad
@[simp] theorem itF_s {l : List W} : itF env (some l) = .ok l env := rfl
theorem cIt_e {k : Itk} {d : Den (List W)} : cIt k d env = (d env).bind fun zs env => itF env (itW k zs) := by unfold cIt itF; rfl
/-! defs -/
def bkAt (keeps : List Nat) (zs : List Z) (env : Cb.Env) (i : Nat) : Option Z := if keeps.contains i then gets env i else (match zs[i]? with | some (.w x) => some (.w x) | _ => none)
def bkF : Option Z → Option (List Z) → Option (List Z)
  | some z, some r => some (z :: r)
  | _, _ => none
@[simp] theorem bkF_s {z : Z} {r : List Z} : bkF (some z) (some r) = some (z :: r) := rfl
def backL (keeps : List Nat) (zs : List Z) (env : Cb.Env) : Nat → Nat → Option (List Z)
  | _, 0 => some []
  | i, n + 1 => bkF (bkAt keeps zs env i) (backL keeps zs env (i + 1) n)
theorem back_e {d : Df} {zs : List Z} : backOf d zs env = backL d.keeps zs env 0 d.np := by
  have h : ∀ (n i : Nat), ((List.range n).map (· + i)).mapM (bkAt d.keeps zs env) = backL d.keeps zs env i n := by
    intro n
    induction n with
    | zero => intro i; rfl
    | succ n ih =>
      intro i
      rw [List.range_succ_eq_map, List.map_cons, List.map_map, List.mapM_cons]
      have e : ((fun x => x + i) ∘ Nat.succ) = fun x => x + (i + 1) := by funext x; simp; omega
      rw [e, ih (i + 1), Nat.zero_add]
      show _ = bkF (bkAt d.keeps zs env i) (backL d.keeps zs env (i + 1) n)
      cases bkAt d.keeps zs env i with
      | none => rfl
      | some z => cases backL d.keeps zs env (i + 1) n <;> rfl
  have h0 := h d.np 0
  have e : ((List.range d.np).map (· + 0)) = List.range d.np := by simp
  rw [e] at h0
  rw [← h0]
  rfl
def fiF (d : Df) (zs : List Z) : SR → MR
  | .nx e => (match backOf d zs e with | some b => .ok (.w .non) b | none => .bad)
  | .rt z e => (match backOf d zs e with | some b => .ok z b | none => .bad)
  | .ex x e => (match backOf d zs e with | some b => .ex x b | none => .bad)
  | _ => .bad
theorem fiF_cong {d : Df} {zs : List Z} {r r' : SR} (h : r = r') : fiF d zs r = fiF d zs r' := by rw [h]
def fbF (z : Z) : Option (List Z) → MR
  | some b => .ok z b
  | none => .bad
@[simp] theorem fbF_s {z : Z} {b : List Z} : fbF z (some b) = .ok z b := rfl
@[simp] theorem fiF_nx {d : Df} {zs : List Z} : fiF d zs (.nx env) = fbF (.w .non) (backL d.keeps zs env 0 d.np) := by rw [← back_e]; rfl
@[simp] theorem fiF_rt {d : Df} {zs : List Z} {z : Z} : fiF d zs (.rt z env) = fbF z (backL d.keeps zs env 0 d.np) := by rw [← back_e]; rfl
@[simp] theorem fiF_ite {d : Df} {zs : List Z} {c : Prop} [Decidable c] {x y : SR} : fiF d zs (if c then x else y) = if c then fiF d zs x else fiF d zs y := by split <;> rfl
theorem evD_e {d : Df} {zs : List Z} (h : zs.length = d.np) : evD d zs = fiF d zs (d.body (zs.map some ++ List.replicate (d.ns - d.np) none)) := by
  unfold evD fiF
  exact (if_pos h).trans rfl
@[simp] theorem mapmr {z : Z} {os : List Z} : (some os).map (z :: ·) = some (z :: os) := rfl
/-! loops -/
theorem lc_spec {body : W → Cb.Env → R (Option W)} {f : W → Option W} : ∀ {items : List W} {acc : List W}, (∀ w ∈ items, body w env = .ok (f w) env) → acc.length + items.length ≤ 16777216 → lcLoop body items env acc = .ok (acc ++ items.filterMap f) env
  | [], acc, _, _ => by simp [lcLoop]
  | w :: ws, acc, h, hl => by
    unfold lcLoop
    rw [h w List.mem_cons_self]
    cases e : f w with
    | none =>
      show lcLoop body ws env acc = _
      rw [lc_spec (fun x hx => h x (List.mem_cons_of_mem _ hx)) (by simp at hl; omega), List.filterMap_cons, e]
    | some y =>
      show (if acc.length < 16777216 then lcLoop body ws env (acc ++ [y]) else .bad) = _
      simp at hl
      rw [if_pos (by omega), lc_spec (fun x hx => h x (List.mem_cons_of_mem _ hx)) (by simp; omega), List.filterMap_cons, e]
      simp
@[simp] theorem ite_bl {c : Prop} [Decidable c] {e : Cb.Env} : (if c then R.ok true e else R.ok false e) = R.ok (decide c) e := by
  by_cases h : c
  · rw [if_pos h, decide_eq_true h]
  · rw [if_neg h, decide_eq_false h]
@[simp] theorem ite_same {c : Prop} [Decidable c] {a : α} : (if c then a else a) = a := by split <;> rfl
theorem lc_nil {body : W → Cb.Env → R (Option W)} {acc : List W} : lcLoop body [] env acc = .ok acc env := rfl
theorem lc_cons {body : W → Cb.Env → R (Option W)} {w : W} {ws acc : List W} : lcLoop body (w :: ws) env acc = (body w env).bind fun x env => match x with
  | none => lcLoop body ws env acc
  | some y => if acc.length < 16777216 then lcLoop body ws env (acc ++ [y]) else .bad := rfl
theorem cLc_s {vs : List Nat} {tg : Tg} {k : Itk} {di : Den (List W)} {t : Den Bool} {d : Den Z} {items : List W} {env1 : Cb.Env} {f : W → Option W} (h1 : cIt k di env = .ok items env1) (h2 : ∀ w ∈ items, lcTurn vs tg t d w (wipeE env1 vs) = .ok (f w) (wipeE env1 vs)) (h3 : items.length ≤ 16777216) :
    cLc vs tg k di t d env = .ok (.L (items.filterMap f)) (restE env1 (wipeE env1 vs) vs) := by
  unfold cLc
  rw [h1, bind_ok, lc_spec h2 (by simpa using h3)]
  rfl
@[simp] theorem wipe_n : wipeE env [] = env := rfl
@[simp] theorem wipe_c {v : Nat} {vs : List Nat} : wipeE env (v :: vs) = (wipeE env vs).set v none := rfl
def rsV : Option Z → Option Z
  | some (.w x) => some (.w x)
  | _ => none
@[simp] theorem rsV_n : rsV none = none := rfl
@[simp] theorem rsV_w {x : W} : rsV (some (.w x)) = some (.w x) := rfl
@[simp] theorem rest_n {e0 : Cb.Env} : restE e0 env [] = env := rfl
@[simp] theorem rest_c {e0 : Cb.Env} {v : Nat} {vs : List Nat} : restE e0 env (v :: vs) = (restE e0 env vs).set v (rsV (gets e0 v)) := by
  show (restE e0 env vs).set v (match gets e0 v with | some (.w x) => some (.w x) | _ => none) = _
  unfold rsV
  rfl
/-- a turn of a block -/
def ltF (vs : List Nat) (t : Den Bool) (d : Den Z) : Option Cb.Env → R (Option W)
  | none => .bad
  | some env => (t env).bind fun b env => if b then (d env).bind fun y env => .ok (some (frz y)) (wipeE env vs) else .ok none (wipeE env vs)
@[simp] theorem ltF_s {vs : List Nat} {t : Den Bool} {d : Den Z} : ltF vs t d (some env) = (t env).bind fun b env => if b then (d env).bind fun y env => .ok (some (frz y)) (wipeE env vs) else .ok none (wipeE env vs) := rfl
theorem lcTurn_e {vs : List Nat} {tg : Tg} {t : Den Bool} {d : Den Z} {w : W} : lcTurn vs tg t d w env = ltF vs t d (setTg tg w env) := by unfold lcTurn ltF; cases setTg tg w env <;> rfl
@[simp] theorem stg_n {i : Nat} {w : W} : setTg (.nm i) w env = if i < env.length then some (env.set i (some (.w w))) else none := rfl
@[simp] theorem stg_2 {i j : Nat} {a b : W} (h1 : i < env.length) (h2 : j < env.length) : setTg (.tup [i, j]) (.tup [a, b]) env = some ((env.set i (some (.w a))).set j (some (.w b))) := by
  simp [setTg, setMany, h1, h2]
theorem for_inv {g : W → Cb.Env → Option Cb.Env} {b : DenS} (I : List W → Cb.Env → Prop) (h : ∀ w ws e, I (w :: ws) e → ∃ e1 e2, g w e = some e1 ∧ b e1 = .nx e2 ∧ I ws e2) : ∀ {items : List W} {env : Cb.Env}, I items env → ∃ e', evFor g b items env = .nx e' ∧ I [] e'
  | [], env, hi => ⟨env, rfl, hi⟩
  | w :: ws, env, hi => by
    obtain ⟨e1, e2, h1, h2, h3⟩ := h w ws env hi
    obtain ⟨e', h4, h5⟩ := for_inv I h h3
    refine ⟨e', ?_, h5⟩
    unfold evFor
    rw [h1]
    dsimp only
    rw [h2]
    exact h4
theorem while_inv {c : Den Bool} {b : DenS} (I : Nat → Cb.Env → Prop) (J : Cb.Env → Prop) (h : ∀ m e, I m e → (∃ e1, c e = .ok false e1 ∧ J e1) ∨ ∃ e1 e2 m', c e = .ok true e1 ∧ b e1 = .nx e2 ∧ m' < m ∧ I m' e2) :
    ∀ (n m : Nat) (env : Cb.Env), m < n → I m env → ∃ e', evWhile c b n env = .nx e' ∧ J e'
  | 0, m, env, hm, _ => absurd hm (Nat.not_lt_zero m)
  | n + 1, m, env, hm, hi => by
    rcases h m env hi with ⟨e1, h1, h2⟩ | ⟨e1, e2, m', h1, h2, h3, h4⟩
    · refine ⟨e1, ?_, h2⟩
      unfold evWhile
      rw [h1]
    · obtain ⟨e', h5, h6⟩ := while_inv I J h n m' e2 (by omega) h4
      refine ⟨e', ?_, h6⟩
      unfold evWhile
      rw [h1]
      dsimp only
      rw [h2]
      exact h5
/-- methods of lists -/
def mtF (t : Mt) (i : Nat) (ws : List W) (env : Cb.Env) : Option Z → R Z
  | some z => (match mtZ t z ws with | some (v, z') => .ok v (env.set i (some z')) | none => .bad)
  | none => .bad
theorem mutM_e {t : Mt} {i : Nat} {ws : List W} : mutM t i ws env = mtF t i ws env (gets env i) := by unfold mutM mtF; rfl
@[simp] theorem mtF_app {i : Nat} {x : W} {l : List W} : mtF .append i [x] env (some (.L l)) = if l.length < 16777216 then .ok (.w .non) (env.set i (some (.L (l ++ [x])))) else .bad := by
  show (match (if decide (l.length < 16777216) then some (Z.w W.non, Z.L (l ++ [x])) else none) with | some (v, z') => R.ok v (env.set i (some z')) | none => .bad) = _
  by_cases h : l.length < 16777216
  · rw [if_pos h, if_pos (decide_eq_true h)]
  · rw [if_neg h, if_neg (by simpa using h)]
@[simp] theorem mtF_ext {i : Nat} {x l : List W} : mtF .extend i [.lst x] env (some (.L l)) = if Cb.sizeOk (l.length + x.length) then .ok (.w .non) (env.set i (some (.L (l ++ x)))) else .bad := by
  show (match (if Cb.sizeOk (l.length + x.length) then some (Z.w W.non, Z.L (l ++ x)) else none) with | some (v, z') => R.ok v (env.set i (some z')) | none => .bad) = _
  split <;> simp_all
@[simp] theorem isL_L {l : List W} : isL (some (.L l)) = true := rfl
theorem cMut_e {t : Mt} {i : Nat} {d : Den (List W)} : cMut t i d env = if isL (gets env i) then (d env).bind fun ws env => mutM t i ws env else .bad := rfl
/-- slices -/
theorem cSl_e {de : Den Od} {dl dh : Den (Option Int)} : cSl de dl dh env = (de env).bind fun o env => (dl env).bind fun l env => (dh env).bind fun h env => primM (.sl l h) [o] env := rfl
theorem cNoP_e : cNoP env = .ok none env := rfl
def cpF (env : Cb.Env) : Option Int → R (Option Int)
  | some i => .ok (some i) env
  | none => .bad
@[simp] theorem cpF_s {i : Int} : cpF env (some i) = .ok (some i) env := rfl
theorem cP_e {d : Den Z} : cP d env = (d env).bind fun z env => cpF env (asI z) := by unfold cP cpF; rfl
/-! operations -/
@[simp] theorem p_isinst1 {t : Ty} {w : W} : prW (.isinst [t]) [w] = if isKit w then some (.w (.bl (isTy t w))) else none := by
  show (if isKit w then some (Z.w (.bl ([t].any fun t => isTy t w))) else none) = _
  simp
@[simp] theorem p_addI {i j : Int} : prW .add [.int i, .int j] = some (.w (.int (i + j))) := rfl
@[simp] theorem p_subI {i j : Int} : prW .sub [.int i, .int j] = some (.w (.int (i - j))) := rfl
@[simp] theorem p_mulI {i j : Int} : prW .mul [.int i, .int j] = if mulOk i j then some (.w (.int (i * j))) else none := rfl
@[simp] theorem mulOk2 {j : Int} : mulOk 2 j = true := by simp [mulOk, small]
@[simp] theorem p_lenT {l : List W} : prW .len [.tup l] = some (.w (.int l.length)) := rfl
@[simp] theorem p_lenL {l : List W} : prW .len [.lst l] = some (.w (.int l.length)) := rfl
@[simp] theorem p_eqI {i j : Int} : prW .eq [.int i, .int j] = some (.w (.bl (decide (i = j)))) := by
  show (if shW (.int i) && shW (.int j) then some (Z.w (.bl (eqW (.int i) (.int j)))) else none) = _
  simp [shW, plainW, depW, eqW, Bool.beq_eq_decide_eq]
@[simp] theorem p_neI {i j : Int} : prW .ne [.int i, .int j] = some (.w (.bl (decide (i ≠ j)))) := by
  show (if shW (.int i) && shW (.int j) then some (Z.w (.bl (!eqW (.int i) (.int j)))) else none) = _
  simp [shW, plainW, depW, eqW, Bool.beq_eq_decide_eq]
@[simp] theorem p_ltI {i j : Int} : prW .lt [.int i, .int j] = some (.w (.bl (decide (i < j)))) := rfl
@[simp] theorem p_gtI {i j : Int} : prW .gt [.int i, .int j] = some (.w (.bl (decide (j < i)))) := rfl
@[simp] theorem p_geI {i j : Int} : prW .ge [.int i, .int j] = some (.w (.bl (decide (j ≤ i)))) := rfl
@[simp] theorem p_leI {i j : Int} : prW .le [.int i, .int j] = some (.w (.bl (decide (i ≤ j)))) := rfl
@[simp] theorem p_eqB {i j : Bool} : prW .eq [.bl i, .bl j] = some (.w (.bl (i == j))) := rfl
@[simp] theorem p_tupL {l : List W} : prW .tuple [.lst l] = some (.w (.tup l)) := rfl
@[simp] theorem p_listL {l : List W} : prW .list [.lst l] = some (.L l) := rfl
@[simp] theorem p_listT {l : List W} : prW .list [.tup l] = some (.L l) := rfl
@[simp] theorem p_ixT {l : List W} {i : Int} : prW .ix [.tup l, .int i] = (atI l i).map .w := rfl
@[simp] theorem p_ixL {l : List W} {i : Int} : prW .ix [.lst l, .int i] = (atI l i).map .w := rfl
def allB (l : List Bool) : Bool := l.all id
def anyB (l : List Bool) : Bool := l.any id
@[simp] theorem p_allL {l : List W} : prW .all [.lst l] = (asBls l).map fun bs => .w (.bl (allB bs)) := rfl
@[simp] theorem p_anyL {l : List W} : prW .any [.lst l] = (asBls l).map fun bs => .w (.bl (anyB bs)) := rfl
@[simp] theorem p_innT {a : W} {l : List W} : prW .inn [a, .tup l] = if shW a && shWs l then some (.w (.bl (l.any fun x => eqW x a))) else none := rfl
@[simp] theorem p_innL {a : W} {l : List W} : prW .inn [a, .lst l] = if shW a && shWs l then some (.w (.bl (l.any fun x => eqW x a))) else none := rfl
@[simp] theorem p_ninT {a : W} {l : List W} : prW .nin [a, .tup l] = if shW a && shWs l then some (.w (.bl (!l.any fun x => eqW x a))) else none := rfl
@[simp] theorem p_ninL {a : W} {l : List W} : prW .nin [a, .lst l] = if shW a && shWs l then some (.w (.bl (!l.any fun x => eqW x a))) else none := rfl
@[simp] theorem p_sortedL {l : List W} : prW .sorted [.lst l] = if sortable l then some (.L (sortW ltW l)) else none := rfl
@[simp] theorem p_fldO {cs : List Str} {f c : Str} {fs : List (Str × W)} : prW (.fld cs f) [.obj c fs] = if cs.contains c then (fs.lookup f).map .w else none := rfl
/-! ints -/
theorem plain_ints (l : List Int) : plainWs (l.map .int) = true := by
  induction l with
  | nil => rfl
  | cons a l ih => simp [plainWs, plainW, ih]
theorem dep_ints (l : List Int) : depWs (l.map .int) = 0 := by
  induction l with
  | nil => rfl
  | cons a l ih => simp [depWs, depW, ih]
@[simp] theorem sh_int (i : Int) : shW (.int i) = true := rfl
@[simp] theorem sh_ints (l : List Int) : shWs (l.map .int) = true := by simp [shWs, plain_ints, dep_ints]
@[simp] theorem any_ints (l : List Int) (i : Int) : ((l.map W.int).any fun x => eqW x (.int i)) = decide (i ∈ l) := by
  induction l with
  | nil => simp
  | cons a l ih =>
    rw [List.map_cons, List.any_cons, ih]
    have e : eqW (.int a) (.int i) = decide (i = a) := by
      show (a == i) = _
      rw [Bool.beq_eq_decide_eq]
      by_cases h : a = i
      · simp [h]
      · have h' : ¬ i = a := fun e => h e.symm
        simp [h, h']
    rw [e]
    simp [List.mem_cons, Bool.decide_or]
@[simp] theorem asBls_map {γ : Type} (l : List γ) (f : γ → Bool) : asBls (l.map fun x => .bl (f x)) = some (l.map f) := by
  induction l with
  | nil => rfl
  | cons a l ih => simp [asBls, ih]
@[simp] theorem asBls_n : asBls [] = some [] := rfl
@[simp] theorem asBls_c {b : Bool} {l : List W} : asBls (.bl b :: l) = (asBls l).map (b :: ·) := rfl
@[simp] theorem atI_0 {a : W} {l : List W} : atI (a :: l) 0 = some a := by simp [atI, ixN]
theorem lc_map {γ : Type} {body : W → Cb.Env → R (Option W)} {g : γ → W} {f : γ → Option W} : ∀ {l : List γ} {acc : List W}, (∀ x ∈ l, body (g x) env = .ok (f x) env) → acc.length + l.length ≤ 16777216 → lcLoop body (l.map g) env acc = .ok (acc ++ l.filterMap f) env
  | [], acc, _, _ => by simp [lcLoop]
  | w :: ws, acc, h, hl => by
    rw [List.map_cons, lc_cons, h w List.mem_cons_self, bind_ok]
    simp at hl
    cases e : f w with
    | none =>
      show lcLoop body (ws.map g) env acc = _
      rw [lc_map (fun x hx => h x (List.mem_cons_of_mem _ hx)) (by omega), List.filterMap_cons, e]
    | some y =>
      show (if acc.length < 16777216 then lcLoop body (ws.map g) env (acc ++ [y]) else .bad) = _
      rw [if_pos (by omega), lc_map (fun x hx => h x (List.mem_cons_of_mem _ hx)) (by simp; omega), List.filterMap_cons, e]
      simp
theorem cLc_m {γ : Type} {vs : List Nat} {tg : Tg} {k : Itk} {di : Den (List W)} {t : Den Bool} {d : Den Z} {env1 : Cb.Env} (l : List γ) (g : γ → W) (f : γ → Option W) (h1 : cIt k di env = .ok (l.map g) env1) (h3 : l.length ≤ 16777216) (h2 : ∀ x ∈ l, lcTurn vs tg t d (g x) (wipeE env1 vs) = .ok (f x) (wipeE env1 vs)) :
    cLc vs tg k di t d env = .ok (.L (l.filterMap f)) (restE env1 (wipeE env1 vs) vs) := by
  unfold cLc
  rw [h1, bind_ok, lc_map h2 (by simpa using h3)]
  rfl
theorem cLcK_m {γ : Type} {vs : List Nat} {tg : Tg} {i : Nat} {t : Den Bool} {d : Den Z} {env : Cb.Env} (l : List γ) (g : γ → W) (f : γ → Option W) (h1 : gets env i = some (.L (l.map g))) (h3 : l.length ≤ 16777216) (h2 : ∀ x ∈ l, lcTurn vs tg t d (g x) (wipeE (env.set i none) vs) = .ok (f x) (wipeE (env.set i none) vs)) :
    cLcK vs tg i t d env = .ok (.L (l.filterMap f)) ((restE (env.set i none) (wipeE (env.set i none) vs) vs).set i (some (.L (l.map g)))) := by
  unfold cLcK
  rw [h1]
  dsimp only
  rw [lc_map h2 (by simpa using h3)]
  rfl
/-- 0 .. n - 1 -/
def rgI (n : Int) : List Int := (List.range n.toNat).map fun (k : Nat) => (k : Int)
theorem mem_rgI {n t : Int} : t ∈ rgI n ↔ 0 ≤ t ∧ t < n := by
  unfold rgI
  rw [List.mem_map]
  constructor
  · rintro ⟨k, hk, rfl⟩
    have := List.mem_range.mp hk
    omega
  · rintro ⟨h1, h2⟩
    exact ⟨t.toNat, List.mem_range.mpr (by omega), by omega⟩
theorem nodup_rgI (n : Int) : (rgI n).Nodup := by
  unfold rgI
  exact List.pairwise_map.mpr (List.nodup_range.imp fun {a b} h e => h (by omega))
theorem len_rgI {n : Int} : (rgI n).length = n.toNat := by simp [rgI]
theorem it_rg1 {n : Int} (h : bnd n = true) : itW .rng1 [.int n] = some ((rgI n).map .int) := by
  show (if bnd n then some ((List.range n.toNat).map fun (k : Nat) => W.int (k : Int)) else none) = _
  rw [if_pos h]
  simp [rgI]
@[simp] theorem it_val_l {l : List W} : itW .val [.lst l] = some l := rfl
@[simp] theorem it_val_t {l : List W} : itW .val [.tup l] = some l := rfl
theorem fm_if {γ δ : Type} (l : List γ) (q : γ → Bool) (b : γ → δ) : l.filterMap (fun p => if q p = true then some (b p) else none) = (l.filter q).map b := by
  induction l with
  | nil => rfl
  | cons a l ih =>
    rw [List.filterMap_cons, List.filter_cons]
    cases q a <;> simp [ih]
theorem sIx0 (n : Nat) : HT.sIx n 0 none = 0 := by first | rfl | simp [HT.sIx]
theorem sIxn (n : Nat) : HT.sIx n n none = n := by first | rfl | simp [HT.sIx]
@[simp] theorem any_ints2 (l : List Int) (i : Int) : (l.any ((fun x => eqW x (.int i)) ∘ W.int)) = decide (i ∈ l) := by
  rw [← any_ints l i, List.any_map]
theorem nodup_len {γ : Type} [DecidableEq γ] : ∀ {l m : List γ}, l.Nodup → (∀ x ∈ l, x ∈ m) → l.length ≤ m.length
  | [], _, _, _ => Nat.zero_le _
  | a :: l, m, h, hs => by
    obtain ⟨h1, h2⟩ := List.nodup_cons.mp h
    have ha : a ∈ m := hs a List.mem_cons_self
    have := nodup_len (m := m.erase a) h2 fun x hx => by
      have hne : x ≠ a := fun e => h1 (e ▸ hx)
      exact (List.mem_erase_of_ne hne).mpr (hs x (List.mem_cons_of_mem _ hx))
    rw [List.length_erase_of_mem ha] at this
    have : 0 < m.length := List.length_pos_of_mem ha
    simp only [List.length_cons]
    omega
theorem kWhile_e {f : Cb.Env → Nat} {t : Den Bool} {b : DenS} : kWhile f t b env = evWhile t b (f env) env := rfl
theorem drop_cons {γ : Type} {L ws : List γ} {w : γ} {k : Nat} (h : w :: ws = L.drop k) : ∃ h : k < L.length, w = L[k] ∧ ws = L.drop (k + 1) := by
  have hk : k < L.length := by
    cases Nat.lt_or_ge k L.length with
    | inl h => exact h
    | inr hg => rw [List.drop_of_length_le hg] at h; cases h
  rw [List.drop_eq_getElem_cons hk] at h
  injection h with h1 h2
  exact ⟨hk, h1, h2⟩
def sfF (cs : List Str) (i : Nat) (f : Str) (v : W) (env : Cb.Env) : Option Z → SR
  | some (.obj c fs) => if c ∈ cs ∧ fs.length < 1000 then .nx (env.set i (some (.obj c (putFW f v fs)))) else .bad
  | _ => .bad
@[simp] theorem sfF_s {cs : List Str} {i : Nat} {f c : Str} {v : W} {fs : List (Str × W)} : sfF cs i f v env (some (.obj c fs)) = if c ∈ cs ∧ fs.length < 1000 then .nx (env.set i (some (.obj c (putFW f v fs)))) else .bad := rfl
theorem kSetFld_e {cs : List Str} {i : Nat} {f : Str} {d : Den Z} : kSetFld cs i f d env = SR.of ((d env).bind fun v env => .ok (sfF cs i f (frz v) env (gets env i)) env) := by
  unfold kSetFld
  cases d env with
  | ok v e =>
    simp only [bind_ok]
    cases gets e i with
    | none => rfl
    | some z =>
      cases z with
      | obj c fs =>
        simp only [sfF]
        by_cases h : c ∈ cs ∧ fs.length < 1000
        · have h2 : (cs.contains c && decide (fs.length < 1000)) = true := by simpa using h
          rw [if_pos h, if_pos h2]
        · have h2 : ¬ (cs.contains c && decide (fs.length < 1000)) = true := by simpa using h
          rw [if_neg h, if_neg h2]; rfl
      | _ => rfl
  | _ => rfl
theorem itv_enT {l : List W} : itW .enT [.tup l] = some (l.zipIdx.map fun p => .tup [.int (p.2 : Int), p.1]) := rfl
theorem itv_en {l : List W} : itW .enum [.lst l] = some (l.zipIdx.map fun p => .tup [.int (p.2 : Int), p.1]) := rfl
@[simp] theorem lt_pair {a b c d : Int} : prW .lt [.tup [.int a, .int b], .tup [.int c, .int d]] = some (.w (.bl (decide (a < c ∨ (a = c ∧ b < d))))) := by
  show (if cmpWs [.int a, .int b] [.int c, .int d] && shWs [.int a, .int b] && shWs [.int c, .int d] then some (Z.w (.bl (ltWs [.int a, .int b] [.int c, .int d]))) else none) = _
  have e : (cmpWs [.int a, .int b] [.int c, .int d] && shWs [.int a, .int b] && shWs [.int c, .int d]) = true := rfl
  rw [if_pos e]
  simp only [ltWs, ltW, eqW]
  by_cases h1 : a = c
  · subst h1
    by_cases h2 : b = d
    · subst h2; simp
    · simp [h2]
  · simp [h1]
/-- a loop that lays something behind what it has -/
theorem for_acc {γ : Type} {tg : Tg} {b : DenS} {g : γ → W} {f : γ → List W} (E : List W → Option Z → Cb.Env) (n B : Nat) (hf : ∀ x, (f x).length ≤ n) : ∀ (l : List γ), (∀ x ∈ l, ∀ acc s, acc.length ≤ B → ∃ e1 s', setTg tg (g x) (E acc s) = some e1 ∧ b e1 = .nx (E (acc ++ f x) s')) →
    ∀ acc s, acc.length + n * l.length ≤ B → ∃ s', evFor (setTg tg) b (l.map g) (E acc s) = .nx (E (acc ++ l.flatMap f) s')
  | [], _, acc, s, _ => ⟨s, by simp [evFor]⟩
  | x :: l, h, acc, s, hl => by
    simp only [List.length_cons, Nat.mul_add, Nat.mul_one] at hl
    obtain ⟨e1, s', h1, h2⟩ := h x List.mem_cons_self acc s (by omega)
    have hfx := hf x
    obtain ⟨s2, h3⟩ := for_acc E n B hf l (fun y hy => h y (List.mem_cons_of_mem _ hy)) (acc ++ f x) s' (by rw [List.length_append]; omega)
    refine ⟨s2, ?_⟩
    rw [List.map_cons]
    unfold evFor
    rw [h1]
    dsimp only
    rw [h2]
    dsimp only
    rw [h3]
    simp
/-- m .. n - 1 -/
def rgJ (m n : Int) : List Int := (List.range (n - m).toNat).map fun (k : Nat) => m + (k : Int)
theorem it_rg2 {m n : Int} (h1 : bnd m = true) (h2 : bnd n = true) : itW .rng2 [.int m, .int n] = some ((rgJ m n).map .int) := by
  show (if bnd m && bnd n then some ((List.range (n - m).toNat).map fun (k : Nat) => W.int (m + (k : Int))) else none) = _
  rw [h1, h2]
  simp [rgJ]
theorem len_rgJ {m n : Int} : (rgJ m n).length = (n - m).toNat := by simp [rgJ]
theorem mem_rgJ {m n t : Int} : t ∈ rgJ m n ↔ m ≤ t ∧ t < n := by
  unfold rgJ
  rw [List.mem_map]
  constructor
  · rintro ⟨k, hk, rfl⟩
    have := List.mem_range.mp hk
    omega
  · rintro ⟨h1, h2⟩
    exact ⟨(t - m).toNat, List.mem_range.mpr (by omega), by omega⟩
theorem plain_of : ∀ {l : List W}, (∀ w ∈ l, plainW w = true) → plainWs l = true
  | [], _ => rfl
  | w :: l, h => by
    unfold plainWs
    rw [h w List.mem_cons_self, plain_of fun x hx => h x (List.mem_cons_of_mem _ hx)]
    rfl
theorem dep_of {n : Nat} : ∀ {l : List W}, (∀ w ∈ l, depW w ≤ n) → depWs l ≤ n
  | [], _ => Nat.zero_le _
  | w :: l, h => by
    unfold depWs
    exact Nat.max_le.mpr ⟨h w List.mem_cons_self, dep_of fun x hx => h x (List.mem_cons_of_mem _ hx)⟩
theorem shWs_of {l : List W} (h1 : ∀ w ∈ l, plainW w = true) (h2 : ∀ w ∈ l, depW w ≤ 60) : shWs l = true := by
  unfold shWs
  rw [plain_of h1, Bool.true_and]
  exact decide_eq_true (dep_of h2)
theorem shL_of {l : List W} (h1 : ∀ w ∈ l, plainW w = true) (h2 : ∀ w ∈ l, depW w ≤ 59) : shW (.lst l) = true := by
  unfold shW plainW depW
  rw [plain_of h1, Bool.true_and]
  have := dep_of h2
  exact decide_eq_true (by omega)
theorem sortW_len (l : List W) : (sortW ltW l).length = l.length := (sortW_perm l).length_eq
end Pl

end
section
set_option maxRecDepth 100000
set_option maxHeartbeats 4000000
/-! plain facts of tuples of ints: ==, in, <, sorted, sorted(set(..)) -/
namespace Pl
open PySem L2 Cb
def fW (F : List (List Int)) : W := .tup (F.map itW1)
/-! ### data -/
theorem eqs_ints : ∀ (p q : List Int), eqWs (q.map .int) (p.map .int) = decide (p = q)
  | [], [] => rfl
  | [], b :: q => by simp [eqWs]
  | a :: p, [] => by simp [eqWs]
  | a :: p, b :: q => by
    rw [List.map_cons, List.map_cons, eqWs, eqs_ints p q]
    show ((b == a) && decide (p = q)) = _
    rw [Bool.beq_eq_decide_eq]
    by_cases h : b = a
    · subst h; simp
    · have h' : ¬ a = b := fun e => h e.symm
      simp [h, h']
theorem eq_it (p q : List Int) : eqW (itW1 q) (itW1 p) = decide (p = q) := eqs_ints p q
theorem plain_it (p : List Int) : plainW (itW1 p) = true := plain_ints p
theorem dep_it (p : List Int) : depW (itW1 p) = 1 := by
  show depWs (p.map .int) + 1 = 1
  rw [dep_ints]
@[simp] theorem sh_it (p : List Int) : shW (itW1 p) = true := by
  unfold shW
  rw [plain_it, dep_it]; rfl
@[simp] theorem sh_its (F : List (List Int)) : shWs (F.map itW1) = true := shWs_of (fun w hw => by
  obtain ⟨p, _, rfl⟩ := List.mem_map.mp hw; exact plain_it p) fun w hw => by
  obtain ⟨p, _, rfl⟩ := List.mem_map.mp hw; rw [dep_it]; decide
theorem cmps_ints : ∀ (p q : List Int), cmpWs (p.map .int) (q.map .int) = true
  | [], _ => by simp [cmpWs]
  | _ :: _, [] => by simp [cmpWs]
  | a :: p, b :: q => by
    rw [List.map_cons, List.map_cons, cmpWs, cmps_ints p q]
    rfl
theorem sortable_it (F : List (List Int)) : sortable (F.map itW1) = true := by
  unfold sortable
  rw [sh_its, Bool.true_and]
  exact List.all_eq_true.mpr fun a ha => List.all_eq_true.mpr fun b hb => by
    obtain ⟨p, _, rfl⟩ := List.mem_map.mp ha
    obtain ⟨q, _, rfl⟩ := List.mem_map.mp hb
    exact cmps_ints p q
theorem any_it (F : List (List Int)) (p : List Int) : ((F.map itW1).any fun x => eqW x (itW1 p)) = decide (p ∈ F) := by
  induction F with
  | nil => simp
  | cons q F ih =>
    rw [List.map_cons, List.any_cons, ih, eq_it]
    simp [List.mem_cons, Bool.decide_or]
theorem nin_t (F : List (List Int)) (p : List Int) : prW .nin [itW1 p, fW F] = some (.w (.bl (!decide (p ∈ F)))) := by
  show (if shW (itW1 p) && shWs (F.map itW1) then some (Z.w (.bl (!(F.map itW1).any fun x => eqW x (itW1 p)))) else none) = _
  rw [sh_it, sh_its, any_it]; rfl
theorem nin_l (F : List (List Int)) (p : List Int) : prW .nin [itW1 p, .lst (F.map itW1)] = some (.w (.bl (!decide (p ∈ F)))) := by
  show (if shW (itW1 p) && shWs (F.map itW1) then some (Z.w (.bl (!(F.map itW1).any fun x => eqW x (itW1 p)))) else none) = _
  rw [sh_it, sh_its, any_it]; rfl
theorem inn_t (F : List (List Int)) (p : List Int) : prW .inn [itW1 p, fW F] = some (.w (.bl (decide (p ∈ F)))) := by
  show (if shW (itW1 p) && shWs (F.map itW1) then some (Z.w (.bl ((F.map itW1).any fun x => eqW x (itW1 p)))) else none) = _
  rw [sh_it, sh_its, any_it]; rfl
theorem eqs_its : ∀ (A B : List (List Int)), eqWs (A.map itW1) (B.map itW1) = decide (A = B)
  | [], [] => rfl
  | [], b :: B => by simp [eqWs]
  | a :: A, [] => by simp [eqWs]
  | a :: A, b :: B => by
    rw [List.map_cons, List.map_cons, eqWs, eqs_its A B, eq_it]
    by_cases h : b = a
    · subst h; simp
    · have h' : ¬ a = b := fun e => h e.symm
      simp [h, h']
theorem sh_f (A : List (List Int)) : shW (fW A) = true := by
  unfold shW fW plainW depW
  rw [plain_of (fun w hw => by obtain ⟨p, _, rfl⟩ := List.mem_map.mp hw; exact plain_it p), Bool.true_and]
  have : depWs (A.map itW1) ≤ 1 := dep_of fun w hw => by obtain ⟨p, _, rfl⟩ := List.mem_map.mp hw; rw [dep_it]; exact Nat.le_refl _
  exact decide_eq_true (by omega)
theorem sh_fl (A : List (List Int)) : shW (.lst (A.map itW1)) = true := shL_of (fun w hw => by obtain ⟨p, _, rfl⟩ := List.mem_map.mp hw; exact plain_it p) fun w hw => by
  obtain ⟨p, _, rfl⟩ := List.mem_map.mp hw; rw [dep_it]; decide
theorem ne_t (A B : List (List Int)) : prW .ne [fW A, fW B] = some (.w (.bl (!decide (A = B)))) := by
  show (if shW (fW A) && shW (fW B) then some (Z.w (.bl (!eqWs (A.map itW1) (B.map itW1)))) else none) = _
  rw [sh_f, sh_f, eqs_its]; rfl
theorem eq_t (A B : List (List Int)) : prW .eq [fW A, fW B] = some (.w (.bl (decide (A = B)))) := by
  show (if shW (fW A) && shW (fW B) then some (Z.w (.bl (eqWs (A.map itW1) (B.map itW1)))) else none) = _
  rw [sh_f, sh_f, eqs_its]; rfl
theorem ne_l (A B : List (List Int)) : prW .ne [.lst (A.map itW1), .lst (B.map itW1)] = some (.w (.bl (!decide (A = B)))) := by
  show (if shW (.lst (A.map itW1)) && shW (.lst (B.map itW1)) then some (Z.w (.bl (!eqWs (A.map itW1) (B.map itW1)))) else none) = _
  rw [sh_fl, sh_fl, eqs_its]; rfl
theorem eq_l (A B : List (List Int)) : prW .eq [.lst (A.map itW1), .lst (B.map itW1)] = some (.w (.bl (decide (A = B)))) := by
  show (if shW (.lst (A.map itW1)) && shW (.lst (B.map itW1)) then some (Z.w (.bl (eqWs (A.map itW1) (B.map itW1)))) else none) = _
  rw [sh_fl, sh_fl, eqs_its]; rfl
theorem ne_it (p q : List Int) : prW .ne [itW1 p, itW1 q] = some (.w (.bl (!decide (q = p)))) := by
  show (if shW (itW1 p) && shW (itW1 q) then some (Z.w (.bl (!eqW (itW1 p) (itW1 q)))) else none) = _
  rw [sh_it, sh_it, eq_it]; rfl
theorem lt_it (p q : List Int) : prW .lt [itW1 p, itW1 q] = some (.w (.bl (ltW (itW1 p) (itW1 q)))) := by
  show (if cmpWs (p.map .int) (q.map .int) && shWs (p.map .int) && shWs (q.map .int) then some (Z.w (.bl (ltWs (p.map .int) (q.map .int)))) else none) = _
  rw [cmps_ints, sh_ints, sh_ints]; rfl
theorem inj_it {p q : List Int} (h : itW1 p = itW1 q) : p = q := itW1_inj h
theorem isIT_it (p : List Int) : isIT (itW1 p) = true := by
  show (asInts (p.map .int)).isSome = true
  rw [asInts_map]; rfl
/-- the order of tuples of ints -/
def ltT : List Int → List Int → Bool
  | [], [] => false
  | [], _ :: _ => true
  | _ :: _, [] => false
  | a :: r, b :: s => if a == b then ltT r s else decide (a < b)
theorem ltT_w : ∀ (p q : List Int), ltW (itW1 p) (itW1 q) = ltT p q := by
  have key : ∀ (p q : List Int), ltWs (p.map .int) (q.map .int) = ltT p q := by
    intro p
    induction p with
    | nil => intro q; cases q <;> simp [ltWs, ltT]
    | cons a p ih =>
      intro q
      cases q with
      | nil => simp [ltWs, ltT]
      | cons b q =>
        rw [List.map_cons, List.map_cons, ltWs, ltT, ih q]
        rfl
  exact key
theorem ltT_irr : ∀ (p q : List Int), ltT p q = true → ltT q p = false := by
  intro p
  induction p with
  | nil => intro q h; cases q <;> simp [ltT] at h ⊢
  | cons a p ih =>
    intro q h
    cases q with
    | nil => simp [ltT] at h
    | cons b q =>
      rw [ltT] at h ⊢
      by_cases hab : a = b
      · subst hab
        simp at h ⊢
        exact ih q h
      · have hba : ¬ b = a := fun e => hab e.symm
        simp [hab, hba] at h ⊢
        omega
theorem ltT_tr : ∀ (p q r : List Int), ltT p q = true → ltT q r = true → ltT p r = true := by
  intro p
  induction p with
  | nil => intro q r h1 h2; cases q <;> cases r <;> simp [ltT] at h1 h2 ⊢
  | cons a p ih =>
    intro q r h1 h2
    cases q with
    | nil => simp [ltT] at h1
    | cons b q =>
      cases r with
      | nil => simp [ltT] at h2
      | cons c r =>
        rw [ltT] at h1 h2 ⊢
        by_cases hab : a = b
        · subst hab
          simp at h1
          by_cases hac : a = c
          · subst hac
            simp at h2 ⊢
            exact ih q r h1 h2
          · simp [hac] at h2 ⊢
            exact h2
        · simp [hab] at h1
          by_cases hbc : b = c
          · subst hbc
            simp [hab, h1]
          · simp [hbc] at h2
            have hac : ¬ a = c := by omega
            simp [hac]; omega
theorem ltT_ne (p : List Int) : ltT p p = false := by
  cases h : ltT p p with
  | false => rfl
  | true => have := ltT_irr p p h; rw [h] at this; exact this
/-- ascending, told neighbour by neighbour -/
def ascT : List (List Int) → Bool
  | a :: b :: r => ltT a b && ascT (b :: r)
  | _ => true
theorem ascT_pw : ∀ {l : List (List Int)}, ascT l = true → l.Pairwise fun a b => ltT a b = true
  | [], _ => .nil
  | [a], _ => List.pairwise_singleton _ _
  | a :: b :: r, h => by
    rw [ascT, Bool.and_eq_true] at h
    have ih := ascT_pw h.2
    refine List.pairwise_cons.mpr ⟨fun c hc => ?_, ih⟩
    rcases List.mem_cons.mp hc with rfl | hc
    · exact h.1
    · exact ltT_tr a b c h.1 ((List.pairwise_cons.mp ih).1 c hc)
theorem pw_nodup {l : List (List Int)} (h : l.Pairwise fun a b => ltT a b = true) : l.Nodup := h.imp fun {a b} hl e => by
  subst e; rw [ltT_ne] at hl; cases hl
theorem pw_w {l : List (List Int)} (h : l.Pairwise fun a b => ltT a b = true) : (l.map itW1).Pairwise fun a b => ltW b a = false :=
  List.pairwise_map.mpr (h.imp fun {a b} hl => by rw [ltT_w]; exact ltT_irr a b hl)
/-- F ascending, with G's members, each once: F is G sorted -/
theorem sortT {F G : List (List Int)} (hF : F.Pairwise fun a b => ltT a b = true) (hn : G.Nodup) (hm : ∀ p, p ∈ G ↔ p ∈ F) : sortW ltW (G.map itW1) = F.map itW1 := by
  have pm : G.Perm F := (List.perm_ext_iff_of_nodup hn (pw_nodup hF)).mpr hm
  refine ((sortW_perm _).trans (pm.map itW1)).eq_of_pairwise (le := fun a b => ltW b a = false) (fun a b ha hb h1 h3 => ?_) (sort_asc (sortable_it G)) (pw_w hF)
  obtain ⟨_, h2⟩ := sortable_iff (sortable_it F)
  exact cmp_tri a b (h2 a ((pm.map itW1).mem_iff.mp ((sortW_perm _).mem_iff.mp ha)) b hb) h3 h1
theorem sortedT {F G : List (List Int)} (hF : F.Pairwise fun a b => ltT a b = true) (hn : G.Nodup) (hm : ∀ p, p ∈ G ↔ p ∈ F) : prW .sorted [.lst (G.map itW1)] = some (.L (F.map itW1)) := by
  show (if sortable (G.map itW1) then some (Z.L (sortW ltW (G.map itW1))) else none) = _
  rw [sortable_it, sortT hF hn hm]; rfl
theorem allIT_it (G : List (List Int)) : (G.map itW1).all isIT = true := List.all_eq_true.mpr fun w hw => by
  obtain ⟨p, _, rfl⟩ := List.mem_map.mp hw; exact isIT_it p
theorem map_it_nodup {F : List (List Int)} (h : F.Nodup) : (F.map itW1).Nodup := List.pairwise_map.mpr (h.imp fun {a b} hne e => hne (inj_it e))
theorem mem_it {F G : List (List Int)} (hm : ∀ p, p ∈ G ↔ p ∈ F) : ∀ x, x ∈ F.map itW1 ↔ x ∈ G.map itW1 := fun x => by
  constructor
  · intro hx
    obtain ⟨p, hp, rfl⟩ := List.mem_map.mp hx
    exact List.mem_map_of_mem ((hm p).mpr hp)
  · intro hx
    obtain ⟨p, hp, rfl⟩ := List.mem_map.mp hx
    exact List.mem_map_of_mem ((hm p).mp hp)
/-- F ascending, with G's members: F is sorted(set(G)) -/
theorem ssetT {F G : List (List Int)} (hF : F.Pairwise fun a b => ltT a b = true) (hm : ∀ p, p ∈ G ↔ p ∈ F) (hl : F.length ≤ 76) : prW .sset [.lst (G.map itW1)] = some (.L (F.map itW1)) := by
  show (if (G.map itW1).all isIT && decide ((dedupW (G.map itW1)).length ≤ 76) && sortable (G.map itW1) then some (Z.L (sortW ltW (dedupW (G.map itW1)))) else none) = _
  have nd := pw_nodup hF
  have e2 := sort_dd (sortable_it G) (map_it_nodup nd) (mem_it hm)
  have el : (dedupW (G.map itW1)).length = F.length := by
    have := congrArg List.length e2
    rw [(sortW_perm _).length_eq, (sortW_perm _).length_eq, List.length_map] at this
    exact this
  rw [allIT_it, sortable_it, el, decide_eq_true hl, e2, sortT hF nd fun p => Iff.rfl]; rfl
theorem count_it (F : List (List Int)) (p : List Int) : prW .count [.lst (F.map itW1), itW1 p] = some (.w (.int (F.count p : Nat))) := by
  show (if shW (itW1 p) && shWs (F.map itW1) then some (Z.w (.int ((F.map itW1).countP fun x => eqW x (itW1 p) : Nat))) else none) = _
  rw [sh_it, sh_its]
  have : (F.map itW1).countP (fun x => eqW x (itW1 p)) = F.count p := by
    rw [List.countP_map, List.count]
    refine List.countP_congr fun x _ => ?_
    show eqW (itW1 x) (itW1 p) = true ↔ _
    rw [eq_it]
    simp only [decide_eq_true_eq, beq_iff_eq]
    exact eq_comm
  rw [this]; rfl
end Pl

end
section
set_option maxRecDepth 100000
set_option maxHeartbeats 4000000
namespace P01
open PySem L2 Cb Pl Wk
/-! ### the hand: a dict -/
def HdK (cells : List Int) (at_ left seed turn : Int) : List (Key × W) := [(.inr "cells", .lst (cells.map .int)), (.inr "at", .int at_), (.inr "great", .int left), (.inr "seed", .int seed), (.inr "turn", .int turn)]
structure HOk (h : List (Key × W)) : Prop where
  ex : ∃ cells at_ left seed turn, h = HdK cells at_ left seed turn ∧ 0 ≤ at_ ∧ 0 ≤ left ∧ ∀ x ∈ cells, 0 ≤ x
def sbF (i : Nat) (k v : W) (env : Cb.Env) : Option Z → SR
  | some o => (match setItem o k v with | some o => .nx (env.set i (some o)) | none => .bad)
  | none => .bad
theorem kSetSub_e {i : Nat} {dk d : Den Z} {env : Cb.Env} : kSetSub i dk d env = SR.of ((d env).bind fun v env => if (gets env i).isSome then (dk env).bind fun k env => .ok (sbF i (frz k) (frz v) env (gets env i)) env else .bad) := by
  unfold kSetSub
  cases d env with
  | ok v e =>
    simp only [bind_ok]
    cases h : gets e i with
    | none => rfl
    | some z =>
      simp only [Option.isSome_some, if_true]
      cases dk e with
      | ok k e2 =>
        simp only [bind_ok]
        cases gets e2 i with
        | none => rfl
        | some o =>
          simp only [sbF]
          cases setItem o (frz k) (frz v) <;> rfl
      | _ => rfl
  | _ => rfl
def hks : List Str := ["cells", "at", "great", "seed", "turn"]
def dicF (env : Cb.Env) (ws : List W) : R Z := if decide (hks.length = ws.length) && decide hks.Nodup && Cb.sizeOk ws.length then .ok (.dK ((hks.map Sum.inr).zip ws)) env else .bad
theorem cDic_h {d : Den (List W)} {env : Cb.Env} : cDic ["cells", "at", "great", "seed", "turn"] d env = (d env).bind fun ws env => dicF env ws := rfl
@[simp] theorem dicF_5 {env : Cb.Env} {c : List Int} {a l s t : Int} : dicF env [.lst (c.map .int), .int a, .int l, .int s, .int t] = .ok (.dK (HdK c a l s t)) env := by
  show (if (decide (hks.length = 5) && decide hks.Nodup && Cb.sizeOk 5) = true then R.ok (Z.dK ((hks.map Sum.inr).zip [W.lst (c.map .int), .int a, .int l, .int s, .int t])) env else R.bad) = _
  rw [if_pos (by decide +kernel)]
  rfl
@[simp] theorem lent_dK {i : Nat} {r : List Od} {k : List (Key × W)} {zs : List Z} : lent (.s i :: r) (.dK k :: zs) = i :: lent r zs := rfl
@[simp] theorem back_dK {i : Nat} {r : List Od} {k : List (Key × W)} {b : Z} {zs bs : List Z} {env : Cb.Env} : putBack (.s i :: r) (.dK k :: zs) (b :: bs) env = putBack r zs bs (env.set i (some b)) := rfl
@[simp] theorem frz_dK {x : List (Key × W)} : frz (.dK x) = .dK x := rfl
section
variable {c : List Int} {a l s t : Int}
@[simp] theorem g_cells : prW .ix [.dK (HdK c a l s t), .str "cells"] = some (.w (.lst (c.map .int))) := rfl
@[simp] theorem g_at : prW .ix [.dK (HdK c a l s t), .str "at"] = some (.w (.int a)) := rfl
@[simp] theorem g_left : prW .ix [.dK (HdK c a l s t), .str "great"] = some (.w (.int l)) := rfl
@[simp] theorem g_seed : prW .ix [.dK (HdK c a l s t), .str "seed"] = some (.w (.int s)) := rfl
@[simp] theorem g_turn : prW .ix [.dK (HdK c a l s t), .str "turn"] = some (.w (.int t)) := rfl
@[simp] theorem s_at {v : Int} {env : Cb.Env} {i : Nat} : sbF i (.str "at") (.int v) env (some (.dK (HdK c a l s t))) = .nx (env.set i (some (.dK (HdK c v l s t)))) := rfl
@[simp] theorem s_left {v : Int} {env : Cb.Env} {i : Nat} : sbF i (.str "great") (.int v) env (some (.dK (HdK c a l s t))) = .nx (env.set i (some (.dK (HdK c a v s t)))) := rfl
@[simp] theorem s_seed {v : Int} {env : Cb.Env} {i : Nat} : sbF i (.str "seed") (.int v) env (some (.dK (HdK c a l s t))) = .nx (env.set i (some (.dK (HdK c a l v t)))) := rfl
@[simp] theorem s_turn {v : Int} {env : Cb.Env} {i : Nat} : sbF i (.str "turn") (.int v) env (some (.dK (HdK c a l s t))) = .nx (env.set i (some (.dK (HdK c a l s v)))) := rfl
end
@[simp] theorem p_intI {i : Int} : prW .int [.int i] = some (.w (.int i)) := rfl
@[simp] theorem p_absI {i : Int} : prW .abs [.int i] = some (.w (.int (if i < 0 then -i else i))) := rfl
@[simp] theorem p_pow18 : prW .pow [.int 10, .int 18] = some (.w (.int 1000000000000000000)) := rfl
@[simp] theorem p_modI {i j : Int} : prW .mod [.int i, .int j] = if 0 < j then some (.w (.int (i % j))) else none := by
  show (if decide (0 < j) then some (Z.w (.int (i % j))) else none) = _
  simp
theorem small_of {i : Int} (h : 0 ≤ i ∧ i ≤ 1000000000000) : small i = true := by simp [small]; omega
theorem log_of {j : Int} (h : 0 < j ∧ j ≤ 1000000) : j.natAbs.log2 < 9000 := by
  have h1 : j.natAbs < 2 ^ 9000 := by
    have e : j.natAbs < 2 ^ 20 := by omega
    exact Nat.lt_of_lt_of_le e (Nat.pow_le_pow_right (by decide) (by decide))
  exact (Nat.log2_lt (by omega)).mpr h1
theorem p_fdivI {i j : Int} (h : 0 < j ∧ j ≤ 1000000) : prW .fdiv [.int i, .int j] = some (.w (.int (i / j))) := by
  show (if decide (0 < j) && decide (j.natAbs.log2 < 9000) then some (Z.w (.int (i / j))) else none) = _
  simp [h.1, log_of h]
theorem mulOk_r {i j : Int} (h : 0 ≤ j ∧ j ≤ 1000000000000) : mulOk i j = true := by simp [mulOk, small_of h]
theorem mulOk_m {i j : Int} : mulOk (i % 2147483647) j = true := by
  have h1 := Int.emod_nonneg i (b := 2147483647) (by decide)
  have h2 := Int.emod_lt_of_pos i (b := 2147483647) (by decide)
  simp [mulOk, small_of (i := i % 2147483647) ⟨h1, by omega⟩]
@[simp] theorem mulOk_m2 {i j : Int} : mulOk (i % 2147483587) j = true := by
  have h1 := Int.emod_nonneg i (b := 2147483587) (by decide)
  have h2 := Int.emod_lt_of_pos i (b := 2147483587) (by decide)
  simp [mulOk, small_of (i := i % 2147483587) ⟨h1, by omega⟩]
/-- what a draw gives when the hand holds a great number -/
theorem draw_big (cells : List Int) (at_ left seed turn many : Int) (hl : 0 < left) (hm : 0 < many ∧ many ≤ 1000000) :
    m__law_draw [.dK (HdK cells at_ left seed turn), .w (.int many)] = .ok (.w (.int (left % many))) [.dK (HdK cells at_ (left / many) seed turn), .w (.int many)] := by
  have h1 : ¬ left = 0 := by omega
  rw [m__law_draw, evD_e rfl]
  simp only [f__law_draw, b__law_draw]
  simp [cVar_e, cOs_e, cC_e, cNil_e, cCons_e, cConsO_e, cOd_e, cTup_e, cLst_e, cPr_e, cB_e, cT_e, cNot_e, cIte_e, cAnd_e, cOr_e, cTrue_e, cFalse_e, cLe_e, cCh_e, cCall_e, cMk_e, primM_e, callM_e, makeM_e, kSeq_e, kNx_e, kRet_e, kRetv_e, kSet_e, kIte_e, kEx_e, kParZ_e, setSl_e, kFor_e, cIt_e, cMut_e, mutM_e, cSl_e, cNoP_e, cP_e, lcTurn_e, backL, bkAt, Cb.sizeOk, h1, hl, hm.1, kSetSub_e, p_fdivI hm]
theorem mulOk_l {i j : Int} (h : 0 ≤ i ∧ i ≤ 1000000000000) : mulOk i j = true := by simp [mulOk, small_of h]
@[simp] theorem mk1 {i : Int} : mulOk i 48271 = true := mulOk_r (by decide)
@[simp] theorem mk2 {i : Int} : mulOk i 69621 = true := mulOk_r (by decide)
@[simp] theorem mk3 {i : Int} : mulOk 7919 i = true := mulOk_l (by decide)
@[simp] theorem fd1 {i : Int} : prW .fdiv [.int i, .int 1009] = some (.w (.int (i / 1009))) := p_fdivI (by decide)
@[simp] theorem fd2 {i : Int} : prW .fdiv [.int i, .int 2003] = some (.w (.int (i / 2003))) := p_fdivI (by decide)
@[simp] theorem fd3 {i : Int} : prW .fdiv [.int i, .int 16] = some (.w (.int (i / 16))) := p_fdivI (by decide)
@[simp] theorem fd4 {i : Int} : mulOk i 7 = true := mulOk_r (by decide)
def dn (seed turn : Int) : Int :=
  let n1 := (seed + 1 + 7919 * turn) * 69621 % 2147483647
  let n2 := n1 * (n1 / 1009 + 48271) % 2147483647
  n2 * (n2 / 2003 + 40692) % 2147483399
/-- .. when no number is left -/
theorem draw_end (cells : List Int) (at_ seed turn many : Int) (ha : ¬ at_ < (cells.length : Int)) (hm : 0 < many ∧ many ≤ 1000000) :
    m__law_draw [.dK (HdK cells at_ 0 seed turn), .w (.int many)] = .ok (.w (.int (dn seed (turn + 1) / 16 % many))) [.dK (HdK cells at_ 0 seed (turn + 1)), .w (.int many)] := by
  rw [m__law_draw, evD_e rfl]
  simp only [f__law_draw, b__law_draw]
  simp [cVar_e, cOs_e, cC_e, cNil_e, cCons_e, cConsO_e, cOd_e, cTup_e, cLst_e, cPr_e, cB_e, cT_e, cNot_e, cIte_e, cAnd_e, cOr_e, cTrue_e, cFalse_e, cLe_e, cCh_e, cCall_e, cMk_e, primM_e, callM_e, makeM_e, kSeq_e, kNx_e, kRet_e, kRetv_e, kSet_e, kIte_e, kEx_e, kParZ_e, setSl_e, kFor_e, cIt_e, cMut_e, mutM_e, cSl_e, cNoP_e, cP_e, lcTurn_e, backL, bkAt, Cb.sizeOk, ha, hm.1, kSetSub_e, mulOk_m, dn]
theorem at_cell {cells : List Int} {at_ : Int} (h0 : 0 ≤ at_) (h : at_ < (cells.length : Int)) : ∃ x ∈ cells, atI (cells.map W.int) at_ = some (.int x) := by
  have hn : at_.toNat < cells.length := by omega
  refine ⟨cells[at_.toNat], List.getElem_mem hn, ?_⟩
  unfold atI ixN
  rw [if_pos h0, if_pos (by simpa using h)]
  simp [hn]
/-- .. when the next number is small -/
theorem draw_small (cells : List Int) (at_ seed turn many x : Int) (ha : at_ < (cells.length : Int)) (hx : atI (cells.map W.int) at_ = some (.int x)) (hx2 : ¬ 1000000000000000000 ≤ x) (hm : 0 < many ∧ many ≤ 1000000) :
    ∃ s2, m__law_draw [.dK (HdK cells at_ 0 seed turn), .w (.int many)] = .ok (.w (.int (dn s2 (turn + 1) / 16 % many))) [.dK (HdK cells (at_ + 1) 0 s2 (turn + 1)), .w (.int many)] := by
  refine ⟨(seed * 48271 + x + 7) % 2147483629, ?_⟩
  rw [m__law_draw, evD_e rfl]
  simp only [f__law_draw, b__law_draw]
  simp [cVar_e, cOs_e, cC_e, cNil_e, cCons_e, cConsO_e, cOd_e, cTup_e, cLst_e, cPr_e, cB_e, cT_e, cNot_e, cIte_e, cAnd_e, cOr_e, cTrue_e, cFalse_e, cLe_e, cCh_e, cCall_e, cMk_e, primM_e, callM_e, makeM_e, kSeq_e, kNx_e, kRet_e, kRetv_e, kSet_e, kIte_e, kEx_e, kParZ_e, setSl_e, kFor_e, cIt_e, cMut_e, mutM_e, cSl_e, cNoP_e, cP_e, lcTurn_e, backL, bkAt, Cb.sizeOk, ha, hm.1, hx, hx2, kSetSub_e, mulOk_m, dn]
theorem draw_great (cells : List Int) (at_ seed turn many x : Int) (ha : at_ < (cells.length : Int)) (hx : atI (cells.map W.int) at_ = some (.int x)) (hx2 : 1000000000000000000 ≤ x) (hm : 0 < many ∧ many ≤ 1000000) :
    ∃ s2, m__law_draw [.dK (HdK cells at_ 0 seed turn), .w (.int many)] = .ok (.w (.int (x % many))) [.dK (HdK cells (at_ + 1) (x / many) s2 turn), .w (.int many)] := by
  refine ⟨(seed * 48271 + x + 7) % 2147483629, ?_⟩
  have h0 : 0 < x := by omega
  rw [m__law_draw, evD_e rfl]
  simp only [f__law_draw, b__law_draw]
  simp [cVar_e, cOs_e, cC_e, cNil_e, cCons_e, cConsO_e, cOd_e, cTup_e, cLst_e, cPr_e, cB_e, cT_e, cNot_e, cIte_e, cAnd_e, cOr_e, cTrue_e, cFalse_e, cLe_e, cCh_e, cCall_e, cMk_e, primM_e, callM_e, makeM_e, kSeq_e, kNx_e, kRet_e, kRetv_e, kSet_e, kIte_e, kEx_e, kParZ_e, setSl_e, kFor_e, cIt_e, cMut_e, mutM_e, cSl_e, cNoP_e, cP_e, lcTurn_e, backL, bkAt, Cb.sizeOk, ha, hm.1, hx, hx2, h0, kSetSub_e, p_fdivI hm]
theorem draw_s {h : List (Key × W)} (hk : HOk h) (many : Int) (hm : 0 < many ∧ many ≤ 1000000) :
    ∃ r h', HOk h' ∧ (0 ≤ r ∧ r < many) ∧ m__law_draw [.dK h, .w (.int many)] = .ok (.w (.int r)) [.dK h', .w (.int many)] := by
  obtain ⟨cells, at_, left, seed, turn, rfl, h1, h2, h3⟩ := hk.ex
  have md : ∀ z : Int, 0 ≤ z % many ∧ z % many < many := fun z => ⟨Int.emod_nonneg z (by omega), Int.emod_lt_of_pos z hm.1⟩
  by_cases hl : 0 < left
  · exact ⟨_, _, ⟨cells, at_, left / many, seed, turn, rfl, h1, Int.ediv_nonneg h2 (by omega), h3⟩, md left, draw_big cells at_ left seed turn many hl hm⟩
  · have e : left = 0 := by omega
    subst e
    by_cases ha : at_ < (cells.length : Int)
    · obtain ⟨x, hx, hx1⟩ := at_cell h1 ha
      by_cases hx2 : 1000000000000000000 ≤ x
      · obtain ⟨s2, q⟩ := draw_great cells at_ seed turn many x ha hx1 hx2 hm
        exact ⟨_, _, ⟨cells, at_ + 1, x / many, s2, turn, rfl, by omega, Int.ediv_nonneg (h3 x hx) (by omega), h3⟩, md x, q⟩
      · obtain ⟨s2, q⟩ := draw_small cells at_ seed turn many x ha hx1 hx2 hm
        exact ⟨_, _, ⟨cells, at_ + 1, 0, s2, turn + 1, rfl, by omega, Int.le_refl _, h3⟩, md _, q⟩
    · exact ⟨_, _, ⟨cells, at_, 0, seed, turn + 1, rfl, h1, Int.le_refl _, h3⟩, md _, draw_end cells at_ seed turn many ha hm⟩
theorem hand_s (ns : List Int) : ∃ h, HOk h ∧ m__law_hand [.w (.scr ns)] = .ok (.dK h) [.w (.scr ns)] := by
  let cut := (ns.drop (HT.sIx ns.length 0 none)).take (HT.sIx ns.length ns.length (some 63) - HT.sIx ns.length 0 none)
  have hx : x__law_hand_1 [some (.w (.scr ns)), none, none] = .ok (.L ((cut.map fun i => if i < 0 then -i else i).map .int)) [some (.w (.scr ns)), none, none] := by
    unfold x__law_hand_1
    have hsl : prW (.sl none (some 63)) [.scr ns] = some (.L (cut.map .int)) := rfl
    have hlen : cut.length ≤ 16777216 := by
      have h1 : cut.length ≤ HT.sIx ns.length ns.length (some 63) - HT.sIx ns.length 0 none := List.length_take_le _ _
      have h2 : HT.sIx ns.length ns.length (some 63) = min 63 ns.length := HT.sIx_nat _ _ 63
      rw [h2] at h1
      omega
    rw [cLc_m cut W.int (fun i => some (.int (if i < 0 then -i else i))) (env1 := [some (.w (.scr ns)), none, none])]
    · rw [List.filterMap_eq_map']
      simp
    · simp [cVar_e, cOs_e, cC_e, cNil_e, cCons_e, cConsO_e, cOd_e, cTup_e, cLst_e, cPr_e, cB_e, cT_e, cNot_e, cIte_e, cAnd_e, cOr_e, cTrue_e, cFalse_e, cLe_e, cCh_e, cCall_e, cMk_e, primM_e, callM_e, makeM_e, kSeq_e, kNx_e, kRet_e, kRetv_e, kSet_e, kIte_e, kEx_e, kParZ_e, setSl_e, kFor_e, cIt_e, cMut_e, mutM_e, cSl_e, cNoP_e, cP_e, lcTurn_e, backL, bkAt, Cb.sizeOk, hsl]
    · exact hlen
    · intro i hi
      simp [cVar_e, cOs_e, cC_e, cNil_e, cCons_e, cConsO_e, cOd_e, cTup_e, cLst_e, cPr_e, cB_e, cT_e, cNot_e, cIte_e, cAnd_e, cOr_e, cTrue_e, cFalse_e, cLe_e, cCh_e, cCall_e, cMk_e, primM_e, callM_e, makeM_e, kSeq_e, kNx_e, kRet_e, kRetv_e, kSet_e, kIte_e, kEx_e, kParZ_e, setSl_e, kFor_e, cIt_e, cMut_e, mutM_e, cSl_e, cNoP_e, cP_e, lcTurn_e, backL, bkAt, Cb.sizeOk]
  have hpos : ∀ x ∈ cut.map (fun i : Int => if i < 0 then -i else i), 0 ≤ x := by
    intro x hx
    obtain ⟨i, _, rfl⟩ := List.mem_map.mp hx
    split <;> omega
  generalize (cut.map fun i : Int => if i < 0 then -i else i) = cs at hx hpos
  refine ⟨HdK cs 0 0 (977 + (cs.length : Int)) 0, ⟨cs, 0, 0, _, 0, rfl, Int.le_refl _, Int.le_refl _, hpos⟩, ?_⟩
  rw [m__law_hand, evD_e rfl]
  simp only [f__law_hand, b__law_hand]
  simp [cVar_e, cOs_e, cC_e, cNil_e, cCons_e, cConsO_e, cOd_e, cTup_e, cLst_e, cPr_e, cB_e, cT_e, cNot_e, cIte_e, cAnd_e, cOr_e, cTrue_e, cFalse_e, cLe_e, cCh_e, cCall_e, cMk_e, primM_e, callM_e, makeM_e, kSeq_e, kNx_e, kRet_e, kRetv_e, kSet_e, kIte_e, kEx_e, kParZ_e, setSl_e, kFor_e, cIt_e, cMut_e, mutM_e, cSl_e, cNoP_e, cP_e, lcTurn_e, backL, bkAt, Cb.sizeOk, hx, cDic_h]
theorem at_list {l : List W} {r : Int} (h0 : 0 ≤ r) (h1 : r < (l.length : Int)) : ∃ w, w ∈ l ∧ atI l r = some w := by
  have hn : r.toNat < l.length := by omega
  refine ⟨l[r.toNat], List.getElem_mem hn, ?_⟩
  unfold atI ixN
  rw [if_pos h0, if_pos h1]
  simp [hn]
theorem any_s {h : List (Key × W)} (hk : HOk h) (l : List W) (hl : 0 < l.length ∧ l.length ≤ 1000) :
    ∃ w h', w ∈ l ∧ HOk h' ∧ m__law_any [.dK h, .w (.lst l)] = .ok (.w w) [.dK h', .w (.lst l)] := by
  obtain ⟨r, h', h1, h2, h3⟩ := draw_s hk (l.length : Int) (by omega)
  obtain ⟨w, hw, ha⟩ := at_list h2.1 h2.2
  refine ⟨w, h', hw, h1, ?_⟩
  rw [m__law_any, evD_e rfl]
  simp only [f__law_any, b__law_any]
  simp [cVar_e, cOs_e, cC_e, cNil_e, cCons_e, cConsO_e, cOd_e, cTup_e, cLst_e, cPr_e, cB_e, cT_e, cNot_e, cIte_e, cAnd_e, cOr_e, cTrue_e, cFalse_e, cLe_e, cCh_e, cCall_e, cMk_e, primM_e, callM_e, makeM_e, kSeq_e, kNx_e, kRet_e, kRetv_e, kSet_e, kIte_e, kEx_e, kParZ_e, setSl_e, kFor_e, cIt_e, cMut_e, mutM_e, cSl_e, cNoP_e, cP_e, lcTurn_e, backL, bkAt, Cb.sizeOk, h3, ha]
theorem any_L {h : List (Key × W)} (hk : HOk h) (l : List W) (hl : 0 < l.length ∧ l.length ≤ 1000) :
    ∃ w h', w ∈ l ∧ HOk h' ∧ m__law_any [.dK h, .L l] = .ok (.w w) [.dK h', .L l] := by
  obtain ⟨r, h', h1, h2, h3⟩ := draw_s hk (l.length : Int) (by omega)
  obtain ⟨w, hw, ha⟩ := at_list h2.1 h2.2
  refine ⟨w, h', hw, h1, ?_⟩
  rw [m__law_any, evD_e rfl]
  simp only [f__law_any, b__law_any]
  simp [cVar_e, cOs_e, cC_e, cNil_e, cCons_e, cConsO_e, cOd_e, cTup_e, cLst_e, cPr_e, cB_e, cT_e, cNot_e, cIte_e, cAnd_e, cOr_e, cTrue_e, cFalse_e, cLe_e, cCh_e, cCall_e, cMk_e, primM_e, callM_e, makeM_e, kSeq_e, kNx_e, kRet_e, kRetv_e, kSet_e, kIte_e, kEx_e, kParZ_e, setSl_e, kFor_e, cIt_e, cMut_e, mutM_e, cSl_e, cNoP_e, cP_e, lcTurn_e, backL, bkAt, Cb.sizeOk, h3, ha]
def SA : List (List Int) := [[2, 2, 2, 2], [4, 4, 4], [4, 2, 2, 4], [2, 2, 2, 4], [4, 4, 2, 2], [3, 2, 3, 3]]
def SB : List (List Int) := [[2], [3], [4], [2, 2], [2, 2], [2, 2], [2, 3], [3, 2], [3, 3], [2, 4], [4, 3], [2, 2, 2], [3, 2, 2]]
def SZ : List (List Int) := SA ++ SB
theorem sizes_s {h : List (Key × W)} (hk : HOk h) : ∃ S h', S ∈ SZ ∧ HOk h' ∧ m__law_sizes [.dK h] = .ok (.w (itW1 S)) [.dK h'] := by
  obtain ⟨r, h1, k1, b1, e1⟩ := draw_s hk 20 (by decide)
  by_cases hr : r = 0
  · obtain ⟨w, h2, m2, k2, e2⟩ := any_s k1 (SA.map itW1) (by decide)
    obtain ⟨S, hS, rfl⟩ := List.mem_map.mp m2
    refine ⟨S, h2, List.mem_append_left _ hS, k2, ?_⟩
    rw [m__law_sizes, evD_e rfl]
    simp only [f__law_sizes, b__law_sizes]
    simp only [SA, itW1, List.map] at e2
    subst hr
    simp [cVar_e, cOs_e, cC_e, cNil_e, cCons_e, cConsO_e, cOd_e, cTup_e, cLst_e, cPr_e, cB_e, cT_e, cNot_e, cIte_e, cAnd_e, cOr_e, cTrue_e, cFalse_e, cLe_e, cCh_e, cCall_e, cMk_e, primM_e, callM_e, makeM_e, kSeq_e, kNx_e, kRet_e, kRetv_e, kSet_e, kIte_e, kEx_e, kParZ_e, setSl_e, kFor_e, cIt_e, cMut_e, mutM_e, cSl_e, cNoP_e, cP_e, lcTurn_e, backL, bkAt, Cb.sizeOk, e1, e2]
    rfl
  · obtain ⟨w, h2, m2, k2, e2⟩ := any_L k1 (SB.map itW1) (by decide)
    obtain ⟨S, hS, rfl⟩ := List.mem_map.mp m2
    refine ⟨S, h2, List.mem_append_right _ hS, k2, ?_⟩
    rw [m__law_sizes, evD_e rfl]
    simp only [f__law_sizes, b__law_sizes]
    simp only [SB, itW1, List.map] at e2
    simp [cVar_e, cOs_e, cC_e, cNil_e, cCons_e, cConsO_e, cOd_e, cTup_e, cLst_e, cPr_e, cB_e, cT_e, cNot_e, cIte_e, cAnd_e, cOr_e, cTrue_e, cFalse_e, cLe_e, cCh_e, cCall_e, cMk_e, primM_e, callM_e, makeM_e, kSeq_e, kNx_e, kRet_e, kRetv_e, kSet_e, kIte_e, kEx_e, kParZ_e, setSl_e, kFor_e, cIt_e, cMut_e, mutM_e, cSl_e, cNoP_e, cP_e, lcTurn_e, backL, bkAt, Cb.sizeOk, e1, e2, hr]
    rfl
end P01

end
section
set_option maxRecDepth 100000
set_option maxHeartbeats 4000000
namespace P01
open PySem L2 Cb Pl Wk
/-! ### tuples_of -/
def fl (rows acc : List (List Int)) : List (List Int) := rows.foldl (fun acc row => acc.flatMap fun f => row.map fun x => f ++ [x]) acc
def rW (r : List Int) : W := .lst (r.map .int)
theorem sizeOk_of {n : Nat} (h : n ≤ 1000) : Cb.sizeOk n = true := by simp [Cb.sizeOk]; omega
theorem x_tup (w F : W) (row fr : List Int) (acc : List W) (hr : row.length ≤ 1000) (hf : fr.length ≤ 100) :
    x_tuples_of_1 [some (.w w), some (.w F), some (.w (rW row)), some (.L acc), some (.w (itW1 fr)), none] = .ok (.L (row.map fun x => itW1 (fr ++ [x]))) [some (.w w), some (.w F), some (.w (rW row)), some (.L acc), some (.w (itW1 fr)), none] := by
  unfold x_tuples_of_1
  have add : ∀ x : Int, prW .add [itW1 fr, .tup [.int x]] = some (.w (itW1 (fr ++ [x]))) := fun x => by
    show (if Cb.sizeOk ((fr.map W.int).length + 1) then some (Z.w (.tup (fr.map W.int ++ [.int x]))) else none) = _
    rw [if_pos (sizeOk_of (by rw [List.length_map]; omega))]
    simp [itW1]
  rw [cLc_m row W.int (fun x => some (itW1 (fr ++ [x]))) (env1 := [some (.w w), some (.w F), some (.w (rW row)), some (.L acc), some (.w (itW1 fr)), none])]
  · rw [List.filterMap_eq_map']
    simp
  · simp [cVar_e, cOs_e, cC_e, cNil_e, cCons_e, cConsO_e, cOd_e, cTup_e, cLst_e, cPr_e, cB_e, cT_e, cNot_e, cIte_e, cAnd_e, cOr_e, cTrue_e, cFalse_e, cLe_e, cCh_e, cCall_e, cMk_e, primM_e, callM_e, makeM_e, kSeq_e, kNx_e, kRet_e, kRetv_e, kSet_e, kIte_e, kEx_e, kParZ_e, setSl_e, kFor_e, cIt_e, cMut_e, mutM_e, cSl_e, cNoP_e, cP_e, lcTurn_e, backL, bkAt, Cb.sizeOk, rW]
  · omega
  · intro x hx
    have := sizeOk_of (n := 1) (by omega)
    simp [cVar_e, cOs_e, cC_e, cNil_e, cCons_e, cConsO_e, cOd_e, cTup_e, cLst_e, cPr_e, cB_e, cT_e, cNot_e, cIte_e, cAnd_e, cOr_e, cTrue_e, cFalse_e, cLe_e, cCh_e, cCall_e, cMk_e, primM_e, callM_e, makeM_e, kSeq_e, kNx_e, kRet_e, kRetv_e, kSet_e, kIte_e, kEx_e, kParZ_e, setSl_e, kFor_e, cIt_e, cMut_e, mutM_e, cSl_e, cNoP_e, cP_e, lcTurn_e, backL, bkAt, Cb.sizeOk, add, this]
theorem loop1 (w F : W) (row : List Int) (hr : row.length ≤ 10) (l : List (List Int)) (hl : ∀ f ∈ l, f.length ≤ 100) (hn : l.length ≤ 100000) (s : Option Z) :
    ∃ s', evFor (setTg (.nm 4)) z_tuples_of_1 (l.map itW1) [some (.w w), some (.w F), some (.w (rW row)), some (.L []), s, none] = .nx [some (.w w), some (.w F), some (.w (rW row)), some (.L ((l.flatMap fun f => row.map fun x => f ++ [x]).map itW1)), s', none] := by
  obtain ⟨s', h⟩ := for_acc (γ := List Int) (tg := .nm 4) (b := z_tuples_of_1) (g := itW1) (f := fun f => row.map fun x => itW1 (f ++ [x])) (fun acc s => [some (.w w), some (.w F), some (.w (rW row)), some (.L acc), s, none]) 10 10000000 (fun x => by simpa using hr) l
    (fun f hf acc s ha => by
      refine ⟨[some (.w w), some (.w F), some (.w (rW row)), some (.L acc), some (.w (itW1 f)), none], some (.w (itW1 f)), by simp [setTg], ?_⟩
      have h1 := x_tup w F row f acc (by omega) (hl f hf)
      unfold z_tuples_of_1
      have h2 : Cb.sizeOk (acc.length + row.length) = true := by simp [Cb.sizeOk]; omega
      simp [cVar_e, cOs_e, cC_e, cNil_e, cCons_e, cConsO_e, cOd_e, cTup_e, cLst_e, cPr_e, cB_e, cT_e, cNot_e, cIte_e, cAnd_e, cOr_e, cTrue_e, cFalse_e, cLe_e, cCh_e, cCall_e, cMk_e, primM_e, callM_e, makeM_e, kSeq_e, kNx_e, kRet_e, kRetv_e, kSet_e, kIte_e, kEx_e, kParZ_e, setSl_e, kFor_e, cIt_e, cMut_e, mutM_e, cSl_e, cNoP_e, cP_e, lcTurn_e, backL, bkAt, Cb.sizeOk, h1, mtZ]
      intro h3; omega) [] s (by simp; omega)
  refine ⟨s', ?_⟩
  have h : evFor (setTg (.nm 4)) z_tuples_of_1 (l.map itW1) [some (.w w), some (.w F), some (.w (rW row)), some (.L []), s, none] = .nx [some (.w w), some (.w F), some (.w (rW row)), some (.L ([] ++ l.flatMap fun f => row.map fun x => itW1 (f ++ [x]))), s', none] := h
  rw [h, List.nil_append, List.map_flatMap]
  simp only [List.map_map]
  rfl
/-- what a row's place makes of the fronts -/
theorem loop2 (w : W) : ∀ (rows : List (List Int)) (acc : List (List Int)) (k : Nat), (∀ r ∈ rows, r.length ≤ 10) → (∀ f ∈ acc, f.length ≤ k) → k + rows.length ≤ 100 → acc.length * 10 ^ rows.length ≤ 100000 → ∀ (z1 : Z) (s2 s3 s4 : Option Z), frz z1 = .lst (acc.map itW1) →
    ∃ z1' s2' s3' s4', frz z1' = .lst ((fl rows acc).map itW1) ∧ (rows ≠ [] → z1' = .L ((fl rows acc).map itW1)) ∧ evFor (setTg (.nm 2)) z_tuples_of_2 (rows.map rW) [some (.w w), some z1, s2, s3, s4, none] = .nx [some (.w w), some z1', s2', s3', s4', none]
  | [], acc, k, _, _, _, _, z1, s2, s3, s4, h1 => ⟨z1, s2, s3, s4, h1, fun h => absurd rfl h, rfl⟩
  | row :: rows, acc, k, hr, hf, hk, hn, z1, s2, s3, s4, h1 => by
    have e0 : 0 < 10 ^ rows.length := Nat.pow_pos (by decide)
    have hn1 : acc.length * 10 ≤ 100000 := by
      have : acc.length * 10 * 1 ≤ acc.length * 10 * 10 ^ rows.length := Nat.mul_le_mul_left _ e0
      rw [List.length_cons, Nat.pow_succ, Nat.mul_comm (10 ^ rows.length) 10, ← Nat.mul_assoc] at hn
      omega
    have hrow := hr row List.mem_cons_self
    obtain ⟨s4', h2⟩ := loop1 w (.lst (acc.map itW1)) row hrow acc (fun f h => Nat.le_trans (hf f h) (by simp only [List.length_cons] at hk; omega)) (by omega) s4
    have hlen : (acc.flatMap fun f => row.map fun x => f ++ [x]).length ≤ acc.length * 10 := by
      have : ∀ l : List (List Int), (l.flatMap fun f => row.map fun x => f ++ [x]).length ≤ l.length * 10 := fun l => by
        induction l with
        | nil => simp
        | cons f l ih =>
          rw [List.flatMap_cons, List.length_append, List.length_map, List.length_cons]
          omega
      exact this acc
    have hf2 : ∀ f ∈ acc.flatMap (fun f => row.map fun x => f ++ [x]), f.length ≤ k + 1 := fun f h => by
      obtain ⟨g, hg, h⟩ := List.mem_flatMap.mp h
      obtain ⟨x, _, rfl⟩ := List.mem_map.mp h
      rw [List.length_append]
      have := hf g hg
      simp; omega
    obtain ⟨z1', t2, t3, t4, q1, q2, q3⟩ := loop2 w rows (acc.flatMap fun f => row.map fun x => f ++ [x]) (k + 1) (fun r h => hr r (List.mem_cons_of_mem _ h)) hf2 (by simp only [List.length_cons] at hk; omega) (by
      refine Nat.le_trans (Nat.mul_le_mul_right _ hlen) ?_
      rw [List.length_cons, Nat.pow_succ, Nat.mul_comm (10 ^ rows.length) 10, ← Nat.mul_assoc] at hn
      exact hn) (.L ((acc.flatMap fun f => row.map fun x => f ++ [x]).map itW1)) (some (.w (rW row))) none s4' rfl
    refine ⟨z1', t2, t3, t4, q1, fun _ => ?_, ?_⟩
    · cases rows with
      | nil =>
        have : (.nx [some (.w w), some (.L ((acc.flatMap fun f => row.map fun x => f ++ [x]).map itW1)), some (.w (rW row)), none, s4', none] : SR) = .nx [some (.w w), some z1', t2, t3, t4, none] := q3
        injection this with this
        injection this with _ this
        injection this with this _
        exact (Option.some.inj this).symm
      | cons r rs => exact q2 (by simp)
    · rw [List.map_cons]
      unfold evFor
      have hgo : okZ (some z1) = some z1 := okZ_of h1
      have hb : z_tuples_of_2 [some (.w w), some z1, some (.w (rW row)), s3, s4, none] = .nx [some (.w w), some (.L ((acc.flatMap fun f => row.map fun x => f ++ [x]).map itW1)), some (.w (rW row)), none, s4', none] := by
        unfold z_tuples_of_2 y_tuples_of_1
        simp [cVar_e, cOs_e, cC_e, cNil_e, cCons_e, cConsO_e, cOd_e, cTup_e, cLst_e, cPr_e, cB_e, cT_e, cNot_e, cIte_e, cAnd_e, cOr_e, cTrue_e, cFalse_e, cLe_e, cCh_e, cCall_e, cMk_e, primM_e, callM_e, makeM_e, kSeq_e, kNx_e, kRet_e, kRetv_e, kSet_e, kIte_e, kEx_e, kParZ_e, setSl_e, kFor_e, cIt_e, cMut_e, mutM_e, cSl_e, cNoP_e, cP_e, lcTurn_e, backL, bkAt, Cb.sizeOk, hgo, h1, h2, cMv]
      have ht : setTg (.nm 2) (rW row) [some (.w w), some z1, s2, s3, s4, none] = some [some (.w w), some z1, some (.w (rW row)), s3, s4, none] := by simp [setTg]
      rw [ht]
      dsimp only
      rw [hb]
      exact q3
theorem tuples_s (rows : List (List Int)) (hr : ∀ r ∈ rows, r.length ≤ 10) (h0 : rows ≠ []) (h4 : rows.length ≤ 4) : m_tuples_of [.w (.lst (rows.map rW))] = .ok (.L ((fl rows [[]]).map itW1)) [.w (.lst (rows.map rW))] := by
  obtain ⟨z1, s2, s3, s4, q1, q2, q3⟩ := loop2 (.lst (rows.map rW)) rows [[]] 0 hr (by simp) (by omega) (by
    rw [List.length_singleton, Nat.one_mul]
    exact Nat.le_trans (Nat.pow_le_pow_right (by decide) h4) (by decide)) (.L [itW1 []]) none none none rfl
  have q2 := q2 h0
  subst q2
  have e1 : Cb.sizeOk 1 = true := rfl
  have e0 : Cb.sizeOk 0 = true := rfl
  have q3 : evFor (setTg (.nm 2)) z_tuples_of_2 (rows.map rW) [some (.w (.lst (rows.map rW))), some (.L [.tup []]), none, none, none, none] = _ := q3
  rw [m_tuples_of, evD_e rfl]
  simp only [f_tuples_of, b_tuples_of, y_tuples_of_2]
  simp [cVar_e, cOs_e, cC_e, cNil_e, cCons_e, cConsO_e, cOd_e, cTup_e, cLst_e, cPr_e, cB_e, cT_e, cNot_e, cIte_e, cAnd_e, cOr_e, cTrue_e, cFalse_e, cLe_e, cCh_e, cCall_e, cMk_e, primM_e, callM_e, makeM_e, kSeq_e, kNx_e, kRet_e, kRetv_e, kSet_e, kIte_e, kEx_e, kParZ_e, setSl_e, kFor_e, cIt_e, cMut_e, mutM_e, cSl_e, cNoP_e, cP_e, lcTurn_e, backL, bkAt, Cb.sizeOk, q3, e0, e1]
end P01

end
section
set_option maxRecDepth 100000
set_option maxHeartbeats 4000000
namespace P01
open PySem L2 Cb Pl Wk
/-! ### the plain data -/
def ps (n : Nat) : List (List Int) := match n with
  | 1 => [[], [0]]
  | 2 => [[], [0], [0, 1], [1]]
  | 3 => [[], [0], [0, 1], [0, 1, 2], [0, 2], [1], [1, 2], [2]]
  | _ => [[], [0], [0, 1], [0, 1, 2], [0, 1, 2, 3], [0, 1, 3], [0, 2], [0, 2, 3], [0, 3], [1], [1, 2], [1, 2, 3], [1, 3], [2], [2, 3], [3]]
def cs (S : List Int) : List (List Int) := fl (S.map rgI) [[]]
def row (P : List Int) (p : Int × Nat) : List Int := if P.contains (p.2 : Int) then rgI p.1 else [-1]
def vs (S P : List Int) : List (List Int) := fl (S.zipIdx.map (row P)) [[]]
def vw (C P : List Int) : List Int := C.zipIdx.map fun p => if P.contains (p.2 : Int) then p.1 else -1
def dat (S P : List Int) : Bool := ascT (vs S P) && (cs S).all (fun C => (vs S P).contains (vw C P)) && ((vs S P).all fun v => ((cs S).map (vw · P)).count v * (vs S P).length == (cs S).length) && decide ((vs S P).length ≤ 64) && decide (0 < (vs S P).length) && decide (0 < (cs S).length) && decide ((cs S).length ≤ 64)
theorem dat_all : (SZ.all fun S => (ps S.length).all fun P => dat S P) = true := by kernel_rfl
/-- the sizes drawn -/
def szB (S : List Int) : Bool := decide (1 ≤ S.length) && decide (S.length ≤ 4) && S.all fun s => decide (2 ≤ s) && decide (s ≤ 4)
theorem sz_all : (SZ.all szB) = true := by kernel_rfl
theorem sz_of {S : List Int} (h : S ∈ SZ) : 1 ≤ S.length ∧ S.length ≤ 4 ∧ ∀ s ∈ S, 2 ≤ s ∧ s ≤ 4 := by
  have := List.all_eq_true.mp sz_all S h
  simp [szB] at this
  exact ⟨this.1.1, this.1.2, this.2⟩
theorem sizes_ok {S : List Int} (h : S ∈ SZ) : m_is_sizes [.w (itW1 S)] = .ok (.w (.bl true)) [.w (itW1 S)] := by
  have e : (SZ.map fun S => m_is_sizes [.w (itW1 S)]) = SZ.map fun S => .ok (.w (.bl true)) [.w (itW1 S)] := by kernel_rfl
  exact List.map_inj_left.mp e S h
theorem contents_law {S : List Int} (h : S ∈ SZ) : m__law_contents [.w (itW1 S)] = .ok (.L ((cs S).map itW1)) [.w (itW1 S)] := by
  have e : (SZ.map fun S => m__law_contents [.w (itW1 S)]) = SZ.map fun S => .ok (.L ((cs S).map itW1)) [.w (itW1 S)] := by kernel_rfl
  exact List.map_inj_left.mp e S h
def N4 : List Nat := [1, 2, 3, 4]
theorem n4 {n : Nat} (h : 1 ≤ n ∧ n ≤ 4) : n ∈ N4 := by
  have : n = 1 ∨ n = 2 ∨ n = 3 ∨ n = 4 := by omega
  rcases this with rfl | rfl | rfl | rfl <;> decide
theorem pats_law {n : Nat} (h : 1 ≤ n ∧ n ≤ 4) : m__law_patterns [.w (.int (n : Int))] = .ok (.L ((ps n).map itW1)) [.w (.int (n : Int))] := by
  have e : (N4.map fun (n : Nat) => m__law_patterns [.w (.int (n : Int))]) = N4.map fun (n : Nat) => .ok (.L ((ps n).map itW1)) [.w (.int (n : Int))] := by kernel_rfl
  exact List.map_inj_left.mp e n (n4 h)
/-- as all_lots tells them -/
def ls (n : Nat) : List (List Int) := match n with
  | 1 => [[], [0]]
  | 2 => [[], [0], [1], [0, 1]]
  | 3 => [[], [0], [1], [2], [0, 1], [0, 2], [1, 2], [0, 1, 2]]
  | _ => [[], [0], [1], [2], [3], [0, 1], [0, 2], [0, 3], [1, 2], [1, 3], [2, 3], [0, 1, 2], [0, 1, 3], [0, 2, 3], [1, 2, 3], [0, 1, 2, 3]]
theorem lots_of {n : Nat} (h : 1 ≤ n ∧ n ≤ 4) : m_all_lots [.w (.int (n : Int))] = .ok (.L ((ls n).map itW1)) [.w (.int (n : Int))] := by
  have : n = 1 ∨ n = 2 ∨ n = 3 ∨ n = 4 := by omega
  rcases this with rfl | rfl | rfl | rfl <;> kernel_rfl
theorem sort_of {n : Nat} (h : 1 ≤ n ∧ n ≤ 4) : prW .sorted [.lst ((ls n).map itW1)] = some (.L ((ps n).map itW1)) := by
  have : n = 1 ∨ n = 2 ∨ n = 3 ∨ n = 4 := by omega
  rcases this with rfl | rfl | rfl | rfl <;> kernel_rfl
theorem pats_gen {m : Mean} {k : W} {L P : List W} (h1 : m [.w k] = .ok (.L L) [.w k]) (h2 : prW .sorted [.lst L] = some (.L P)) : evD ⟨1, 1, [0], kSeq (kRet (cPr .sorted (cConsO (cOd (cCall m (cConsO (cOs 0) (cNil)))) cNil))) (kNx)⟩ [.w k] = .ok (.L P) [.w k] := by
  rw [evD_e rfl]
  simp [cVar_e, cOs_e, cC_e, cNil_e, cCons_e, cConsO_e, cOd_e, cTup_e, cLst_e, cPr_e, cB_e, cT_e, cNot_e, cIte_e, cAnd_e, cOr_e, cTrue_e, cFalse_e, cLe_e, cCh_e, cCall_e, cMk_e, primM_e, callM_e, makeM_e, kSeq_e, kNx_e, kRet_e, kRetv_e, kSet_e, kIte_e, kEx_e, kParZ_e, setSl_e, kFor_e, cIt_e, cMut_e, mutM_e, cSl_e, cNoP_e, cP_e, lcTurn_e, backL, bkAt, Cb.sizeOk, h1, h2]
theorem pats_of {n : Nat} (h : 1 ≤ n ∧ n ≤ 4) : m_patterns_of [.w (.int (n : Int))] = .ok (.L ((ps n).map itW1)) [.w (.int (n : Int))] := pats_gen (lots_of h) (sort_of h)
theorem lot_ok {n : Nat} (h : 1 ≤ n ∧ n ≤ 4) {P : List Int} (hP : P ∈ ps n) : m_is_lot [.w (itW1 P), .w (.int (n : Int))] = .ok (.w (.bl true)) [.w (itW1 P), .w (.int (n : Int))] := by
  have e : (N4.map fun (n : Nat) => (ps n).map fun P => m_is_lot [.w (itW1 P), .w (.int (n : Int))]) = N4.map fun (n : Nat) => (ps n).map fun P => .ok (.w (.bl true)) [.w (itW1 P), .w (.int (n : Int))] := by kernel_rfl
  exact List.map_inj_left.mp (List.map_inj_left.mp e n (n4 h)) P hP
theorem check_ok {S : List Int} (h : S ∈ SZ) : m_check_sizes [.w (itW1 S)] = .ok (.w .non) [.w (itW1 S)] := by
  have h1 := sizes_ok h
  rw [m_check_sizes, evD_e rfl]
  simp only [f_check_sizes, b_check_sizes]
  simp [cVar_e, cOs_e, cC_e, cNil_e, cCons_e, cConsO_e, cOd_e, cTup_e, cLst_e, cPr_e, cB_e, cT_e, cNot_e, cIte_e, cAnd_e, cOr_e, cTrue_e, cFalse_e, cLe_e, cCh_e, cCall_e, cMk_e, primM_e, callM_e, makeM_e, kSeq_e, kNx_e, kRet_e, kRetv_e, kSet_e, kIte_e, kEx_e, kParZ_e, setSl_e, kFor_e, cIt_e, cMut_e, mutM_e, cSl_e, cNoP_e, cP_e, lcTurn_e, backL, bkAt, Cb.sizeOk, h1]
@[simp] theorem len_tI {l : List Int} : prW .len [itW1 l] = some (.w (.int (l.length : Int))) := by
  show some (Z.w (.int ((l.map W.int).length : Int))) = _
  rw [List.length_map]
theorem pat_ok {S : List Int} (h : S ∈ SZ) {P : List Int} (hP : P ∈ ps S.length) : m_check_pattern [.w (itW1 S), .w (itW1 P)] = .ok (.w .non) [.w (itW1 S), .w (itW1 P)] := by
  have h1 := lot_ok (n := S.length) ⟨(sz_of h).1, (sz_of h).2.1⟩ hP
  rw [m_check_pattern, evD_e rfl]
  simp only [f_check_pattern, b_check_pattern]
  simp [cVar_e, cOs_e, cC_e, cNil_e, cCons_e, cConsO_e, cOd_e, cTup_e, cLst_e, cPr_e, cB_e, cT_e, cNot_e, cIte_e, cAnd_e, cOr_e, cTrue_e, cFalse_e, cLe_e, cCh_e, cCall_e, cMk_e, primM_e, callM_e, makeM_e, kSeq_e, kNx_e, kRet_e, kRetv_e, kSet_e, kIte_e, kEx_e, kParZ_e, setSl_e, kFor_e, cIt_e, cMut_e, mutM_e, cSl_e, cNoP_e, cP_e, lcTurn_e, backL, bkAt, Cb.sizeOk, h1]
theorem rg_ok {n : Int} (hn : 0 ≤ n ∧ n ≤ 100) : rgOk 0 n = true := by
  unfold rgOk
  simp [bnd]
  omega
theorem rg_w (n : Int) : rgW 0 n = (rgI n).map .int := by
  unfold rgW rgI
  simp
theorem rg1_s {i : Nat} {env : Cb.Env} {n : Int} (hn : 0 ≤ n ∧ n ≤ 100) (h : gets env i = some (.w (.int n))) : cRg1 (cVar i) env = .ok (.L ((rgI n).map .int)) (env.set i (some (.w (.int n)))) := by
  unfold cRg1
  simp [cVar_e, cOs_e, cC_e, cNil_e, cCons_e, cConsO_e, cOd_e, cTup_e, cLst_e, cPr_e, cB_e, cT_e, cNot_e, cIte_e, cAnd_e, cOr_e, cTrue_e, cFalse_e, cLe_e, cCh_e, cCall_e, cMk_e, primM_e, callM_e, makeM_e, kSeq_e, kNx_e, kRet_e, kRetv_e, kSet_e, kIte_e, kEx_e, kParZ_e, setSl_e, kFor_e, cIt_e, cMut_e, mutM_e, cSl_e, cNoP_e, cP_e, lcTurn_e, backL, bkAt, Cb.sizeOk, h, rg_ok hn, rg_w n]
theorem contents_s {S : List Int} (h : S ∈ SZ) : m_contents [.w (itW1 S)] = .ok (.L ((cs S).map itW1)) [.w (itW1 S)] := by
  obtain ⟨a1, a2, a3⟩ := sz_of h
  have hx : x_contents_of_1 [some (.w (itW1 S)), none] = .ok (.L ((S.map rgI).map rW)) [some (.w (itW1 S)), none] := by
    unfold x_contents_of_1
    rw [cLc_m S W.int (fun s => some (rW (rgI s))) (env1 := [some (.w (itW1 S)), none])]
    · rw [List.filterMap_eq_map']
      simp
    · simp [cVar_e, cOs_e, cC_e, cNil_e, cCons_e, cConsO_e, cOd_e, cTup_e, cLst_e, cPr_e, cB_e, cT_e, cNot_e, cIte_e, cAnd_e, cOr_e, cTrue_e, cFalse_e, cLe_e, cCh_e, cCall_e, cMk_e, primM_e, callM_e, makeM_e, kSeq_e, kNx_e, kRet_e, kRetv_e, kSet_e, kIte_e, kEx_e, kParZ_e, setSl_e, kFor_e, cIt_e, cMut_e, mutM_e, cSl_e, cNoP_e, cP_e, lcTurn_e, backL, bkAt, Cb.sizeOk, itW1]
    · omega
    · intro s hs
      obtain ⟨b1, b2⟩ := a3 s hs
      simp [cVar_e, cOs_e, cC_e, cNil_e, cCons_e, cConsO_e, cOd_e, cTup_e, cLst_e, cPr_e, cB_e, cT_e, cNot_e, cIte_e, cAnd_e, cOr_e, cTrue_e, cFalse_e, cLe_e, cCh_e, cCall_e, cMk_e, primM_e, callM_e, makeM_e, kSeq_e, kNx_e, kRet_e, kRetv_e, kSet_e, kIte_e, kEx_e, kParZ_e, setSl_e, kFor_e, cIt_e, cMut_e, mutM_e, cSl_e, cNoP_e, cP_e, lcTurn_e, backL, bkAt, Cb.sizeOk, cRg1, rg_ok (n := s) (by omega), rg_w s, rW]
  have ht := tuples_s (S.map rgI) (fun r hr => by
    obtain ⟨s, hs, rfl⟩ := List.mem_map.mp hr
    have := a3 s hs
    rw [len_rgI]; omega) (fun e => by rw [List.map_eq_nil_iff] at e; rw [e] at a1; simp at a1) (by rw [List.length_map]; exact a2)
  have hc : m_contents_of [.w (itW1 S)] = .ok (.L ((cs S).map itW1)) [.w (itW1 S)] := by
    rw [m_contents_of, evD_e rfl]
    simp only [f_contents_of, b_contents_of]
    rw [List.map_map] at hx ht
    simp [cVar_e, cOs_e, cC_e, cNil_e, cCons_e, cConsO_e, cOd_e, cTup_e, cLst_e, cPr_e, cB_e, cT_e, cNot_e, cIte_e, cAnd_e, cOr_e, cTrue_e, cFalse_e, cLe_e, cCh_e, cCall_e, cMk_e, primM_e, callM_e, makeM_e, kSeq_e, kNx_e, kRet_e, kRetv_e, kSet_e, kIte_e, kEx_e, kParZ_e, setSl_e, kFor_e, cIt_e, cMut_e, mutM_e, cSl_e, cNoP_e, cP_e, lcTurn_e, backL, bkAt, Cb.sizeOk, hx, ht, cs]
  rw [m_contents, evD_e rfl]
  simp only [f_contents, b_contents]
  simp [cVar_e, cOs_e, cC_e, cNil_e, cCons_e, cConsO_e, cOd_e, cTup_e, cLst_e, cPr_e, cB_e, cT_e, cNot_e, cIte_e, cAnd_e, cOr_e, cTrue_e, cFalse_e, cLe_e, cCh_e, cCall_e, cMk_e, primM_e, callM_e, makeM_e, kSeq_e, kNx_e, kRet_e, kRetv_e, kSet_e, kIte_e, kEx_e, kParZ_e, setSl_e, kFor_e, cIt_e, cMut_e, mutM_e, cSl_e, cNoP_e, cP_e, lcTurn_e, backL, bkAt, Cb.sizeOk, check_ok h, hc]
theorem patterns_gen {m1 m2 : Mean} {S k : W} {P : List W} (h1 : m1 [.w S] = .ok (.w .non) [.w S]) (h2 : m2 [.w k] = .ok (.L P) [.w k]) (h3 : prW .len [S] = some (.w k)) :
    evD ⟨1, 1, [0], kSeq (kEx (cCall m1 (cConsO (cOs 0) (cNil)))) (kSeq (kRet (cCall m2 (cConsO (cOd (cPr .len (cConsO (cOs 0) cNil))) (cNil)))) (kNx))⟩ [.w S] = .ok (.L P) [.w S] := by
  rw [evD_e rfl]
  simp [cVar_e, cOs_e, cC_e, cNil_e, cCons_e, cConsO_e, cOd_e, cTup_e, cLst_e, cPr_e, cB_e, cT_e, cNot_e, cIte_e, cAnd_e, cOr_e, cTrue_e, cFalse_e, cLe_e, cCh_e, cCall_e, cMk_e, primM_e, callM_e, makeM_e, kSeq_e, kNx_e, kRet_e, kRetv_e, kSet_e, kIte_e, kEx_e, kParZ_e, setSl_e, kFor_e, cIt_e, cMut_e, mutM_e, cSl_e, cNoP_e, cP_e, lcTurn_e, backL, bkAt, Cb.sizeOk, h1, h2, h3]
theorem patterns_s {S : List Int} (h : S ∈ SZ) : m_patterns [.w (itW1 S)] = .ok (.L ((ps S.length).map itW1)) [.w (itW1 S)] :=
  patterns_gen (check_ok h) (pats_of (n := S.length) ⟨(sz_of h).1, (sz_of h).2.1⟩) len_tI
end P01

end
section
set_option maxRecDepth 100000
set_option maxHeartbeats 4000000
namespace P01
open PySem L2 Cb Pl Wk
theorem any_int (P : List Int) (k : Int) : ((P.map W.int).any fun x => eqW x (.int k)) = P.contains k := by
  rw [List.any_map, List.contains_eq_any_beq]
  congr 1
  funext x
  show (x == k) = (k == x)
  rw [Bool.beq_comm]
theorem in_P (P : List Int) (k : Int) : prW .inn [.int k, itW1 P] = some (.w (.bl (P.contains k))) := by
  show (if shW (.int k) && shWs (P.map .int) then some (Z.w (.bl ((P.map W.int).any fun x => eqW x (.int k)))) else none) = _
  have h1 : shW (.int k) = true := rfl
  rw [h1, sh_ints, any_int]; rfl
theorem len_T {l : List Int} : prW .len [itW1 l] = some (.w (.int (l.length : Int))) := len_tI
/-! ### view_of -/
theorem x_view (C P : List Int) (hC : C.length ≤ 1000) : x_view_of_1 [some (.w (itW1 C)), some (.w (itW1 P)), none, none] = .ok (.L ((vw C P).map .int)) [some (.w (itW1 C)), some (.w (itW1 P)), none, none] := by
  unfold x_view_of_1
  have hi : itW .enT [itW1 C] = some (C.zipIdx.map fun p => .tup [.int (p.2 : Int), .int p.1]) := by
    show some ((C.map W.int).zipIdx.map fun p => W.tup [.int (p.2 : Int), p.1]) = _
    rw [List.zipIdx_map, List.map_map]
    rfl
  rw [cLc_m C.zipIdx (fun p => .tup [.int (p.2 : Int), .int p.1]) (fun p => some (.int (if P.contains (p.2 : Int) then p.1 else -1))) (env1 := [some (.w (itW1 C)), some (.w (itW1 P)), none, none])]
  · rw [List.filterMap_eq_map']
    simp [vw]
  · simp [cVar_e, cOs_e, cC_e, cNil_e, cCons_e, cConsO_e, cOd_e, cTup_e, cLst_e, cPr_e, cB_e, cT_e, cNot_e, cIte_e, cAnd_e, cOr_e, cTrue_e, cFalse_e, cLe_e, cCh_e, cCall_e, cMk_e, primM_e, callM_e, makeM_e, kSeq_e, kNx_e, kRet_e, kRetv_e, kSet_e, kIte_e, kEx_e, kParZ_e, setSl_e, kFor_e, cIt_e, cMut_e, mutM_e, cSl_e, cNoP_e, cP_e, lcTurn_e, backL, bkAt, Cb.sizeOk, hi]
  · rw [List.length_zipIdx]; omega
  · intro p hp
    have h1 := in_P P (p.2 : Int)
    simp [cVar_e, cOs_e, cC_e, cNil_e, cCons_e, cConsO_e, cOd_e, cTup_e, cLst_e, cPr_e, cB_e, cT_e, cNot_e, cIte_e, cAnd_e, cOr_e, cTrue_e, cFalse_e, cLe_e, cCh_e, cCall_e, cMk_e, primM_e, callM_e, makeM_e, kSeq_e, kNx_e, kRet_e, kRetv_e, kSet_e, kIte_e, kEx_e, kParZ_e, setSl_e, kFor_e, cIt_e, cMut_e, mutM_e, cSl_e, cNoP_e, cP_e, lcTurn_e, backL, bkAt, Cb.sizeOk, h1, setMany]
    split <;> rfl
theorem view_of_s (C P : List Int) (hC : C.length ≤ 1000) : m_view_of [.w (itW1 C), .w (itW1 P)] = .ok (.w (itW1 (vw C P))) [.w (itW1 C), .w (itW1 P)] := by
  have hx := x_view C P hC
  have ht : prW .tuple [.lst ((vw C P).map .int)] = some (.w (itW1 (vw C P))) := rfl
  rw [m_view_of, evD_e rfl]
  simp only [f_view_of, b_view_of]
  simp [cVar_e, cOs_e, cC_e, cNil_e, cCons_e, cConsO_e, cOd_e, cTup_e, cLst_e, cPr_e, cB_e, cT_e, cNot_e, cIte_e, cAnd_e, cOr_e, cTrue_e, cFalse_e, cLe_e, cCh_e, cCall_e, cMk_e, primM_e, callM_e, makeM_e, kSeq_e, kNx_e, kRet_e, kRetv_e, kSet_e, kIte_e, kEx_e, kParZ_e, setSl_e, kFor_e, cIt_e, cMut_e, mutM_e, cSl_e, cNoP_e, cP_e, lcTurn_e, backL, bkAt, Cb.sizeOk, hx, ht]
/-! ### the law's view -/
theorem vw_range (C P : List Int) : vw C P = (rgI (C.length : Int)).map fun k => if P.contains k then C.getD k.toNat 0 else -1 := by
  unfold rgI
  rw [List.map_map, Int.toNat_natCast]
  apply List.ext_getElem?
  intro i
  unfold vw
  rw [List.getElem?_map, List.getElem?_map, List.getElem?_zipIdx]
  by_cases h : i < C.length
  · simp [h]
  · simp [h]
theorem x_lview0 (C P : List Int) (n : Int) (hn : n = (C.length : Int)) (hC : C.length ≤ 1000) (hl : prW .len [itW1 C] = some (.w (.int n))) : x__law_view_1 [some (.w (itW1 C)), some (.w (itW1 P)), none] = .ok (.L ((rgI n).map fun k => .int (if P.contains k then C.getD k.toNat 0 else -1))) [some (.w (itW1 C)), some (.w (itW1 P)), none] := by
  unfold x__law_view_1
  have hb : bnd n = true := by simp [bnd]; omega
  rw [cLc_m (rgI n) W.int (fun k => some (.int (if P.contains k then C.getD k.toNat 0 else -1))) (env1 := [some (.w (itW1 C)), some (.w (itW1 P)), none])]
  · rw [List.filterMap_eq_map']
    rfl
  · simp [cVar_e, cOs_e, cC_e, cNil_e, cCons_e, cConsO_e, cOd_e, cTup_e, cLst_e, cPr_e, cB_e, cT_e, cNot_e, cIte_e, cAnd_e, cOr_e, cTrue_e, cFalse_e, cLe_e, cCh_e, cCall_e, cMk_e, primM_e, callM_e, makeM_e, kSeq_e, kNx_e, kRet_e, kRetv_e, kSet_e, kIte_e, kEx_e, kParZ_e, setSl_e, kFor_e, cIt_e, cMut_e, mutM_e, cSl_e, cNoP_e, cP_e, lcTurn_e, backL, bkAt, Cb.sizeOk, it_rg1 hb, hl]
  · rw [len_rgI]; omega
  · intro k hk
    obtain ⟨k0, k1⟩ := mem_rgI.mp hk
    have h1 := in_P P k
    have h2 : prW .ix [itW1 C, .int k] = some (.w (.int (C.getD k.toNat 0))) := by
      show (atI (C.map W.int) k).map Z.w = _
      unfold atI ixN
      have k2 : k.toNat < C.length := by omega
      rw [if_pos k0, if_pos (by rw [List.length_map]; omega)]
      simp [k2]
    have h3 : prW .neg [.int 1] = some (.w (.int (-1))) := rfl
    simp [cVar_e, cOs_e, cC_e, cNil_e, cCons_e, cConsO_e, cOd_e, cTup_e, cLst_e, cPr_e, cB_e, cT_e, cNot_e, cIte_e, cAnd_e, cOr_e, cTrue_e, cFalse_e, cLe_e, cCh_e, cCall_e, cMk_e, primM_e, callM_e, makeM_e, kSeq_e, kNx_e, kRet_e, kRetv_e, kSet_e, kIte_e, kEx_e, kParZ_e, setSl_e, kFor_e, cIt_e, cMut_e, mutM_e, cSl_e, cNoP_e, cP_e, lcTurn_e, backL, bkAt, Cb.sizeOk, h1, h2, h3]
    split <;> rfl
theorem x_lview (C P : List Int) (hC : C.length ≤ 1000) : x__law_view_1 [some (.w (itW1 C)), some (.w (itW1 P)), none] = .ok (.L ((vw C P).map .int)) [some (.w (itW1 C)), some (.w (itW1 P)), none] := by
  rw [x_lview0 C P _ rfl hC len_T, vw_range, List.map_map]
  rfl
theorem lview_s (C P : List Int) (hC : C.length ≤ 1000) : m__law_view [.w (itW1 C), .w (itW1 P)] = .ok (.w (itW1 (vw C P))) [.w (itW1 C), .w (itW1 P)] := by
  have hx := x_lview C P hC
  have ht : prW .tuple [.lst ((vw C P).map .int)] = some (.w (itW1 (vw C P))) := rfl
  rw [m__law_view, evD_e rfl]
  simp only [f__law_view, b__law_view]
  simp [cVar_e, cOs_e, cC_e, cNil_e, cCons_e, cConsO_e, cOd_e, cTup_e, cLst_e, cPr_e, cB_e, cT_e, cNot_e, cIte_e, cAnd_e, cOr_e, cTrue_e, cFalse_e, cLe_e, cCh_e, cCall_e, cMk_e, primM_e, callM_e, makeM_e, kSeq_e, kNx_e, kRet_e, kRetv_e, kSet_e, kIte_e, kEx_e, kParZ_e, setSl_e, kFor_e, cIt_e, cMut_e, mutM_e, cSl_e, cNoP_e, cP_e, lcTurn_e, backL, bkAt, Cb.sizeOk, hx, ht]
end P01

end
section
set_option maxRecDepth 100000
set_option maxHeartbeats 4000000
namespace P01
open PySem L2 Cb Pl Wk
/-! ### views -/
theorem x_views (S P : List Int) (hS : S.length ≤ 4) (h2 : ∀ s ∈ S, 2 ≤ s ∧ s ≤ 4) : x_views_of_1 [some (.w (itW1 S)), some (.w (itW1 P)), none, none] = .ok (.L ((S.zipIdx.map (row P)).map rW)) [some (.w (itW1 S)), some (.w (itW1 P)), none, none] := by
  unfold x_views_of_1
  have hi : itW .enT [itW1 S] = some (S.zipIdx.map fun p => .tup [.int (p.2 : Int), .int p.1]) := by
    show some ((S.map W.int).zipIdx.map fun p => W.tup [.int (p.2 : Int), p.1]) = _
    rw [List.zipIdx_map, List.map_map]
    rfl
  rw [cLc_m S.zipIdx (fun p => .tup [.int (p.2 : Int), .int p.1]) (fun p => some (rW (row P p))) (env1 := [some (.w (itW1 S)), some (.w (itW1 P)), none, none])]
  · rw [List.filterMap_eq_map']
    simp
  · simp [cVar_e, cOs_e, cC_e, cNil_e, cCons_e, cConsO_e, cOd_e, cTup_e, cLst_e, cPr_e, cB_e, cT_e, cNot_e, cIte_e, cAnd_e, cOr_e, cTrue_e, cFalse_e, cLe_e, cCh_e, cCall_e, cMk_e, primM_e, callM_e, makeM_e, kSeq_e, kNx_e, kRet_e, kRetv_e, kSet_e, kIte_e, kEx_e, kParZ_e, setSl_e, kFor_e, cIt_e, cMut_e, mutM_e, cSl_e, cNoP_e, cP_e, lcTurn_e, backL, bkAt, Cb.sizeOk, hi]
  · rw [List.length_zipIdx]; omega
  · intro p hp
    have h1 := in_P P (p.2 : Int)
    have hm : p.1 ∈ S := by
      have := List.mem_zipIdx hp
      obtain ⟨x, i⟩ := p
      obtain ⟨_, h3, h4⟩ := this
      rw [h4]
      exact List.getElem_mem _
    have hb := h2 p.1 hm
    have e1 : Cb.sizeOk 1 = true := rfl
    have hg := rg_ok (n := p.1) (by omega)
    simp [cVar_e, cOs_e, cC_e, cNil_e, cCons_e, cConsO_e, cOd_e, cTup_e, cLst_e, cPr_e, cB_e, cT_e, cNot_e, cIte_e, cAnd_e, cOr_e, cTrue_e, cFalse_e, cLe_e, cCh_e, cCall_e, cMk_e, primM_e, callM_e, makeM_e, kSeq_e, kNx_e, kRet_e, kRetv_e, kSet_e, kIte_e, kEx_e, kParZ_e, setSl_e, kFor_e, cIt_e, cMut_e, mutM_e, cSl_e, cNoP_e, cP_e, lcTurn_e, backL, bkAt, Cb.sizeOk, h1, setMany, cRg1, hg, rg_w p.1, e1, row, rW]
    split <;> rfl
theorem views_of_s (S P : List Int) (h1 : 1 ≤ S.length) (hS : S.length ≤ 4) (h2 : ∀ s ∈ S, 2 ≤ s ∧ s ≤ 4) : m_views_of [.w (itW1 S), .w (itW1 P)] = .ok (.L ((vs S P).map itW1)) [.w (itW1 S), .w (itW1 P)] := by
  have hx := x_views S P hS h2
  have ht := tuples_s (S.zipIdx.map (row P)) (fun r hr => by
    obtain ⟨p, hp, rfl⟩ := List.mem_map.mp hr
    have hm : p.1 ∈ S := by
      have := List.mem_zipIdx hp
      obtain ⟨x, i⟩ := p
      obtain ⟨_, h3, h4⟩ := this
      rw [h4]
      exact List.getElem_mem _
    have hb := h2 p.1 hm
    unfold row
    split
    · rw [len_rgI]; omega
    · simp) (fun e => by
      have := congrArg List.length e
      rw [List.length_map, List.length_zipIdx] at this
      simp at this
      rw [this] at h1; simp at h1) (by rw [List.length_map, List.length_zipIdx]; exact hS)
  have gen : ∀ (m : Mean) (L V : List W) (x : Den Z), x [some (.w (itW1 S)), some (.w (itW1 P)), none, none] = .ok (.L L) [some (.w (itW1 S)), some (.w (itW1 P)), none, none] → m [.w (.lst L)] = .ok (.L V) [.w (.lst L)] →
      evD ⟨2, 4, [0, 1], kSeq (kRet (cCall m (cConsO (cOd x) (cNil)))) kNx⟩ [.w (itW1 S), .w (itW1 P)] = .ok (.L V) [.w (itW1 S), .w (itW1 P)] := by
    intro m L V x e1 e2
    rw [evD_e rfl]
    simp [cVar_e, cOs_e, cC_e, cNil_e, cCons_e, cConsO_e, cOd_e, cTup_e, cLst_e, cPr_e, cB_e, cT_e, cNot_e, cIte_e, cAnd_e, cOr_e, cTrue_e, cFalse_e, cLe_e, cCh_e, cCall_e, cMk_e, primM_e, callM_e, makeM_e, kSeq_e, kNx_e, kRet_e, kRetv_e, kSet_e, kIte_e, kEx_e, kParZ_e, setSl_e, kFor_e, cIt_e, cMut_e, mutM_e, cSl_e, cNoP_e, cP_e, lcTurn_e, backL, bkAt, Cb.sizeOk, e1, e2]
  exact gen m_tuples_of _ _ x_views_of_1 hx ht
theorem views_s {S : List Int} (h : S ∈ SZ) {P : List Int} (hP : P ∈ ps S.length) : m_views [.w (itW1 S), .w (itW1 P)] = .ok (.L ((vs S P).map itW1)) [.w (itW1 S), .w (itW1 P)] := by
  obtain ⟨a1, a2, a3⟩ := sz_of h
  have gen : ∀ (m1 m2 m3 : Mean) (V : List W), m1 [.w (itW1 S)] = .ok (.w .non) [.w (itW1 S)] → m2 [.w (itW1 S), .w (itW1 P)] = .ok (.w .non) [.w (itW1 S), .w (itW1 P)] → m3 [.w (itW1 S), .w (itW1 P)] = .ok (.L V) [.w (itW1 S), .w (itW1 P)] →
      evD ⟨2, 2, [0, 1], kSeq (kEx (cCall m1 (cConsO (cOs 0) (cNil)))) (kSeq (kEx (cCall m2 (cConsO (cOs 0) (cConsO (cOs 1) (cNil))))) (kSeq (kRet (cCall m3 (cConsO (cOs 0) (cConsO (cOs 1) (cNil))))) (kNx)))⟩ [.w (itW1 S), .w (itW1 P)] = .ok (.L V) [.w (itW1 S), .w (itW1 P)] := by
    intro m1 m2 m3 V e1 e2 e3
    rw [evD_e rfl]
    simp [cVar_e, cOs_e, cC_e, cNil_e, cCons_e, cConsO_e, cOd_e, cTup_e, cLst_e, cPr_e, cB_e, cT_e, cNot_e, cIte_e, cAnd_e, cOr_e, cTrue_e, cFalse_e, cLe_e, cCh_e, cCall_e, cMk_e, primM_e, callM_e, makeM_e, kSeq_e, kNx_e, kRet_e, kRetv_e, kSet_e, kIte_e, kEx_e, kParZ_e, setSl_e, kFor_e, cIt_e, cMut_e, mutM_e, cSl_e, cNoP_e, cP_e, lcTurn_e, backL, bkAt, Cb.sizeOk, e1, e2, e3]
  exact gen m_check_sizes m_check_pattern m_views_of _ (check_ok h) (pat_ok h hP) (views_of_s S P a1 a2 a3)
/-! ### the data of sizes and a pattern -/
structure Dat (S P : List Int) : Prop where
  asc : (vs S P).Pairwise fun a b => ltT a b = true
  sub : ∀ C ∈ cs S, vw C P ∈ vs S P
  cnt : ∀ v ∈ vs S P, ((cs S).map (vw · P)).count v * (vs S P).length = (cs S).length
  l64 : (vs S P).length ≤ 64
  pos : 0 < (vs S P).length
  cpos : 0 < (cs S).length
  c64 : (cs S).length ≤ 64
theorem dat_of {S : List Int} (h : S ∈ SZ) {P : List Int} (hP : P ∈ ps S.length) : Dat S P := by
  have := List.all_eq_true.mp (List.all_eq_true.mp dat_all S h) P hP
  unfold dat at this
  simp only [Bool.and_eq_true, List.all_eq_true, decide_eq_true_eq, beq_iff_eq, List.contains_iff_mem] at this
  obtain ⟨⟨⟨⟨⟨⟨h1, h2⟩, h3⟩, h4⟩, h5⟩, h6⟩, h7⟩ := this
  exact ⟨ascT_pw h1, h2, h3, h4, h5, h6, h7⟩
theorem Dat.mem {S P : List Int} (d : Dat S P) (v : List Int) : v ∈ (cs S).map (vw · P) ↔ v ∈ vs S P := by
  constructor
  · intro h
    obtain ⟨C, hC, rfl⟩ := List.mem_map.mp h
    exact d.sub C hC
  · intro h
    have h1 := d.cnt v h
    have h2 := d.cpos
    refine List.count_pos_iff.mp ?_
    cases e : ((cs S).map (vw · P)).count v with
    | zero => rw [e] at h1; omega
    | succ n => omega
theorem fl_len : ∀ (rows acc : List (List Int)) (k : Nat), (∀ f ∈ acc, f.length = k) → ∀ f ∈ fl rows acc, f.length = k + rows.length
  | [], acc, k, h, f, hf => h f hf
  | r :: rows, acc, k, h, f, hf => by
    have := fl_len rows (acc.flatMap fun f => r.map fun x => f ++ [x]) (k + 1) (fun g hg => by
      obtain ⟨a, ha, hg⟩ := List.mem_flatMap.mp hg
      obtain ⟨x, _, rfl⟩ := List.mem_map.mp hg
      rw [List.length_append, h a ha]; rfl) f hf
    rw [this, List.length_cons]; omega
theorem cs_len {S C : List Int} (h : C ∈ cs S) : C.length = S.length := by
  have := fl_len (S.map rgI) [[]] 0 (by simp) C h
  rw [List.length_map] at this
  omega
/-! ### the law's views -/
theorem x_lviews {S : List Int} (h : S ∈ SZ) {P : List Int} (hP : P ∈ ps S.length) : x__law_views_1 [some (.w (itW1 S)), some (.w (itW1 P)), none] = .ok (.L (((cs S).map (vw · P)).map itW1)) [some (.w (itW1 S)), some (.w (itW1 P)), none] := by
  obtain ⟨a1, a2, a3⟩ := sz_of h
  have d := dat_of h hP
  have gen : ∀ (m1 m2 : Mean), m1 [.w (itW1 S)] = .ok (.L ((cs S).map itW1)) [.w (itW1 S)] → (∀ C ∈ cs S, m2 [.w (itW1 C), .w (itW1 P)] = .ok (.w (itW1 (vw C P))) [.w (itW1 C), .w (itW1 P)]) →
      cLc ((([("_law_content", 2)] : List (PySem.Str × Nat))).map (·.2)) (.nm 2) .val (cCons (cCall m1 (cConsO (cOs 0) (cNil))) cNil) (cTrue) (cCall m2 (cConsO (cOs 2) (cConsO (cOs 1) (cNil)))) [some (.w (itW1 S)), some (.w (itW1 P)), none] = .ok (.L (((cs S).map (vw · P)).map itW1)) [some (.w (itW1 S)), some (.w (itW1 P)), none] := by
    intro m1 m2 e1 e2
    rw [cLc_m (cs S) itW1 (fun C => some (itW1 (vw C P))) (env1 := [some (.w (itW1 S)), some (.w (itW1 P)), none])]
    · rw [List.filterMap_eq_map', List.map_map]
      rfl
    · simp [cVar_e, cOs_e, cC_e, cNil_e, cCons_e, cConsO_e, cOd_e, cTup_e, cLst_e, cPr_e, cB_e, cT_e, cNot_e, cIte_e, cAnd_e, cOr_e, cTrue_e, cFalse_e, cLe_e, cCh_e, cCall_e, cMk_e, primM_e, callM_e, makeM_e, kSeq_e, kNx_e, kRet_e, kRetv_e, kSet_e, kIte_e, kEx_e, kParZ_e, setSl_e, kFor_e, cIt_e, cMut_e, mutM_e, cSl_e, cNoP_e, cP_e, lcTurn_e, backL, bkAt, Cb.sizeOk, e1]
    · have := d.c64; omega
    · intro C hC
      have := e2 C hC
      simp [cVar_e, cOs_e, cC_e, cNil_e, cCons_e, cConsO_e, cOd_e, cTup_e, cLst_e, cPr_e, cB_e, cT_e, cNot_e, cIte_e, cAnd_e, cOr_e, cTrue_e, cFalse_e, cLe_e, cCh_e, cCall_e, cMk_e, primM_e, callM_e, makeM_e, kSeq_e, kNx_e, kRet_e, kRetv_e, kSet_e, kIte_e, kEx_e, kParZ_e, setSl_e, kFor_e, cIt_e, cMut_e, mutM_e, cSl_e, cNoP_e, cP_e, lcTurn_e, backL, bkAt, Cb.sizeOk, this]
  exact gen m__law_contents m__law_view (contents_law h) fun C hC => lview_s C P (by rw [cs_len hC]; omega)
theorem lviews_s {S : List Int} (h : S ∈ SZ) {P : List Int} (hP : P ∈ ps S.length) : m__law_views [.w (itW1 S), .w (itW1 P)] = .ok (.L ((vs S P).map itW1)) [.w (itW1 S), .w (itW1 P)] := by
  have d := dat_of h hP
  have hs := ssetT (F := vs S P) (G := (cs S).map (vw · P)) d.asc (fun p => d.mem p) (by have := d.l64; omega)
  have gen : ∀ (x : Den Z) (L V : List W), x [some (.w (itW1 S)), some (.w (itW1 P)), none] = .ok (.L L) [some (.w (itW1 S)), some (.w (itW1 P)), none] → prW .sset [.lst L] = some (.L V) →
      evD ⟨2, 3, [0, 1], kSeq (kRet (cPr .sset (cConsO (cOd x) cNil))) kNx⟩ [.w (itW1 S), .w (itW1 P)] = .ok (.L V) [.w (itW1 S), .w (itW1 P)] := by
    intro x L V e1 e2
    rw [evD_e rfl]
    simp [cVar_e, cOs_e, cC_e, cNil_e, cCons_e, cConsO_e, cOd_e, cTup_e, cLst_e, cPr_e, cB_e, cT_e, cNot_e, cIte_e, cAnd_e, cOr_e, cTrue_e, cFalse_e, cLe_e, cCh_e, cCall_e, cMk_e, primM_e, callM_e, makeM_e, kSeq_e, kNx_e, kRet_e, kRetv_e, kSet_e, kIte_e, kEx_e, kParZ_e, setSl_e, kFor_e, cIt_e, cMut_e, mutM_e, cSl_e, cNoP_e, cP_e, lcTurn_e, backL, bkAt, Cb.sizeOk, e1, e2]
  exact gen x__law_views_1 _ _ (x_lviews h hP) hs
end P01

end
section
set_option maxRecDepth 100000
set_option maxHeartbeats 4000000
namespace P01
open PySem L2 Cb Pl Wk
/-! ### view -/
def cB (S : List Int) : Bool := (cs S).all fun C => (C.zip S).all fun p => decide (0 ≤ p.1) && decide (p.1 ≤ p.2 - 1)
theorem cB_all : (SZ.all cB) = true := by kernel_rfl
theorem c_of {S : List Int} (h : S ∈ SZ) {C : List Int} (hC : C ∈ cs S) : ∀ p ∈ C.zip S, 0 ≤ p.1 ∧ p.1 ≤ p.2 - 1 := fun p hp => by
  have := List.all_eq_true.mp (List.all_eq_true.mp (List.all_eq_true.mp cB_all S h) C hC) p hp
  simpa using this
theorem integer_s (x : Int) : m_is_integer [.w (.int x)] = .ok (.w (.bl true)) [.w (.int x)] := by
  have h1 : prW (.isinst [.int]) [.int x] = some (.w (.bl true)) := rfl
  have h2 : prW (.isinst [.bool]) [.int x] = some (.w (.bl false)) := rfl
  rw [m_is_integer, evD_e rfl]
  simp only [f_is_integer, b_is_integer]
  simp [cVar_e, cOs_e, cC_e, cNil_e, cCons_e, cConsO_e, cOd_e, cTup_e, cLst_e, cPr_e, cB_e, cT_e, cNot_e, cIte_e, cAnd_e, cOr_e, cTrue_e, cFalse_e, cLe_e, cCh_e, cCall_e, cMk_e, primM_e, callM_e, makeM_e, kSeq_e, kNx_e, kRet_e, kRetv_e, kSet_e, kIte_e, kEx_e, kParZ_e, setSl_e, kFor_e, cIt_e, cMut_e, mutM_e, cSl_e, cNoP_e, cP_e, lcTurn_e, backL, bkAt, Cb.sizeOk, h1, h2]
theorem within_s (x a b : Int) : m_is_within [.w (.int x), .w (.int a), .w (.int b)] = .ok (.w (.bl (decide (a ≤ x) && decide (x ≤ b)))) [.w (.int x), .w (.int a), .w (.int b)] := by
  have h1 := integer_s x
  have gen : ∀ m : Mean, m [.w (.int x)] = .ok (.w (.bl true)) [.w (.int x)] → evD ⟨3, 3, [0, 1, 2], kSeq (kRet (Cb.cB (cAnd (cT (cCall m (cConsO (cOs 0) (cNil)))) (cAnd (cT (cCh (cVar 1) (cVar 0) (cVar 2))) cTrue)))) (kNx)⟩ [.w (.int x), .w (.int a), .w (.int b)] = .ok (.w (.bl (decide (a ≤ x) && decide (x ≤ b)))) [.w (.int x), .w (.int a), .w (.int b)] := by
    intro m e
    rw [evD_e rfl]
    by_cases hx : a ≤ x
    · by_cases hy : x ≤ b
      · simp [cVar_e, cOs_e, cC_e, cNil_e, cCons_e, cConsO_e, cOd_e, cTup_e, cLst_e, cPr_e, cB_e, cT_e, cNot_e, cIte_e, cAnd_e, cOr_e, cTrue_e, cFalse_e, cLe_e, cCh_e, cCall_e, cMk_e, primM_e, callM_e, makeM_e, kSeq_e, kNx_e, kRet_e, kRetv_e, kSet_e, kIte_e, kEx_e, kParZ_e, setSl_e, kFor_e, cIt_e, cMut_e, mutM_e, cSl_e, cNoP_e, cP_e, lcTurn_e, backL, bkAt, Cb.sizeOk, e, hx, hy]
      · simp [cVar_e, cOs_e, cC_e, cNil_e, cCons_e, cConsO_e, cOd_e, cTup_e, cLst_e, cPr_e, cB_e, cT_e, cNot_e, cIte_e, cAnd_e, cOr_e, cTrue_e, cFalse_e, cLe_e, cCh_e, cCall_e, cMk_e, primM_e, callM_e, makeM_e, kSeq_e, kNx_e, kRet_e, kRetv_e, kSet_e, kIte_e, kEx_e, kParZ_e, setSl_e, kFor_e, cIt_e, cMut_e, mutM_e, cSl_e, cNoP_e, cP_e, lcTurn_e, backL, bkAt, Cb.sizeOk, e, hx, hy]
    · simp [cVar_e, cOs_e, cC_e, cNil_e, cCons_e, cConsO_e, cOd_e, cTup_e, cLst_e, cPr_e, cB_e, cT_e, cNot_e, cIte_e, cAnd_e, cOr_e, cTrue_e, cFalse_e, cLe_e, cCh_e, cCall_e, cMk_e, primM_e, callM_e, makeM_e, kSeq_e, kNx_e, kRet_e, kRetv_e, kSet_e, kIte_e, kEx_e, kParZ_e, setSl_e, kFor_e, cIt_e, cMut_e, mutM_e, cSl_e, cNoP_e, cP_e, lcTurn_e, backL, bkAt, Cb.sizeOk, e, hx]
  exact gen m_is_integer h1
theorem asBls_map {γ : Type} (f : γ → Bool) : ∀ l : List γ, asBls (l.map fun p => W.bl (f p)) = some (l.map f)
  | [] => rfl
  | x :: l => by simp [asBls, asBls_map f l]
theorem x_content {S C : List Int} (hc : ∀ p ∈ C.zip S, 0 ≤ p.1 ∧ p.1 ≤ p.2 - 1) (hl : C.length ≤ 1000) : x_is_content_1 [some (.w (itW1 S)), some (.w (itW1 C)), none, none] = .ok (.L ((C.zip S).map fun _ => .bl true)) [some (.w (itW1 S)), some (.w (itW1 C)), none, none] := by
  have hi : itW .zip [itW1 C, itW1 S] = some ((C.zip S).map fun p => .tup [.int p.1, .int p.2]) := by
    show some (((C.map W.int).zip (S.map W.int)).map fun p => W.tup [p.1, p.2]) = _
    rw [List.zip_map, List.map_map]
    rfl
  have gen : ∀ m : Mean, (∀ x a b : Int, m [.w (.int x), .w (.int a), .w (.int b)] = .ok (.w (.bl (decide (a ≤ x) && decide (x ≤ b)))) [.w (.int x), .w (.int a), .w (.int b)]) →
      cLc ((([("worth", 2), ("size", 3)] : List (PySem.Str × Nat))).map (·.2)) (.tup [2, 3]) .zip (cCons (cVar 1) (cCons (cVar 0) (cNil))) (cTrue) (cCall m (cConsO (cOs 2) (cConsO (cOd (cC (.int 0))) (cConsO (cOd (cPr .sub (cConsO (cOs 3) (cConsO (cOd (cC (.int 1))) cNil)))) (cNil))))) [some (.w (itW1 S)), some (.w (itW1 C)), none, none] = .ok (.L ((C.zip S).map fun _ => .bl true)) [some (.w (itW1 S)), some (.w (itW1 C)), none, none] := by
    intro m e
    rw [cLc_m (C.zip S) (fun p => .tup [.int p.1, .int p.2]) (fun p => some (.bl true)) (env1 := [some (.w (itW1 S)), some (.w (itW1 C)), none, none])]
    · rw [List.filterMap_eq_map']
      rfl
    · simp [cVar_e, cOs_e, cC_e, cNil_e, cCons_e, cConsO_e, cOd_e, cTup_e, cLst_e, cPr_e, cB_e, cT_e, cNot_e, cIte_e, cAnd_e, cOr_e, cTrue_e, cFalse_e, cLe_e, cCh_e, cCall_e, cMk_e, primM_e, callM_e, makeM_e, kSeq_e, kNx_e, kRet_e, kRetv_e, kSet_e, kIte_e, kEx_e, kParZ_e, setSl_e, kFor_e, cIt_e, cMut_e, mutM_e, cSl_e, cNoP_e, cP_e, lcTurn_e, backL, bkAt, Cb.sizeOk, hi]
    · rw [List.length_zip]; omega
    · intro p hp
      obtain ⟨b1, b2⟩ := hc p hp
      have hs : prW .sub [.int p.2, .int 1] = some (.w (.int (p.2 - 1))) := rfl
      simp [cVar_e, cOs_e, cC_e, cNil_e, cCons_e, cConsO_e, cOd_e, cTup_e, cLst_e, cPr_e, cB_e, cT_e, cNot_e, cIte_e, cAnd_e, cOr_e, cTrue_e, cFalse_e, cLe_e, cCh_e, cCall_e, cMk_e, primM_e, callM_e, makeM_e, kSeq_e, kNx_e, kRet_e, kRetv_e, kSet_e, kIte_e, kEx_e, kParZ_e, setSl_e, kFor_e, cIt_e, cMut_e, mutM_e, cSl_e, cNoP_e, cP_e, lcTurn_e, backL, bkAt, Cb.sizeOk, setMany, e, hs, b1, b2]
  exact gen m_is_within within_s
theorem content_s {S C : List Int} (hc : ∀ p ∈ C.zip S, 0 ≤ p.1 ∧ p.1 ≤ p.2 - 1) (hl : C.length ≤ 1000) (he : C.length = S.length) : m_is_content [.w (itW1 S), .w (itW1 C)] = .ok (.w (.bl true)) [.w (itW1 S), .w (itW1 C)] := by
  have hx := x_content hc hl
  have h1 : prW (.isinst [.tuple]) [itW1 C] = some (.w (.bl true)) := rfl
  have h2 : prW .all [.lst ((C.zip S).map fun _ => W.bl true)] = some (.w (.bl true)) := by
    show (asBls ((C.zip S).map fun _ => W.bl true)).map (fun bs => Z.w (.bl (bs.all id))) = _
    rw [asBls_map (fun _ => true)]
    simp
  have gen : ∀ (x : Den Z) (n : Int) (L : List W), prW .len [itW1 C] = some (.w (.int n)) → prW .len [itW1 S] = some (.w (.int n)) → prW .ne [.int n, .int n] = some (.w (.bl false)) → x [some (.w (itW1 S)), some (.w (itW1 C)), none, none] = .ok (.L L) [some (.w (itW1 S)), some (.w (itW1 C)), none, none] → prW .all [.lst L] = some (.w (.bl true)) →
      evD ⟨2, 4, [0, 1], kSeq (kIte (cOr (cNot (cT (cPr (.isinst [.tuple]) (cConsO (cOs 1) cNil)))) (cOr (cT (cPr .ne (cConsO (cOd (cPr .len (cConsO (cOs 1) cNil))) (cConsO (cOd (cPr .len (cConsO (cOs 0) cNil))) cNil)))) cFalse)) (kSeq (kRet (cC (.bl false))) (kNx)) (kNx)) (kSeq (kRet (cPr .all (cConsO (cOd (x)) cNil))) (kNx))⟩ [.w (itW1 S), .w (itW1 C)] = .ok (.w (.bl true)) [.w (itW1 S), .w (itW1 C)] := by
    intro x n L e1 e2 e3 e4 e5
    rw [evD_e rfl]
    simp [cVar_e, cOs_e, cC_e, cNil_e, cCons_e, cConsO_e, cOd_e, cTup_e, cLst_e, cPr_e, cB_e, cT_e, cNot_e, cIte_e, cAnd_e, cOr_e, cTrue_e, cFalse_e, cLe_e, cCh_e, cCall_e, cMk_e, primM_e, callM_e, makeM_e, kSeq_e, kNx_e, kRet_e, kRetv_e, kSet_e, kIte_e, kEx_e, kParZ_e, setSl_e, kFor_e, cIt_e, cMut_e, mutM_e, cSl_e, cNoP_e, cP_e, lcTurn_e, backL, bkAt, Cb.sizeOk, e1, e2, e3, e4, e5, h1]
  refine gen x_is_content_1 (C.length : Int) _ len_T (by rw [he]; exact len_T) ?_ hx h2
  show (if shW (.int (C.length : Int)) && shW (.int (C.length : Int)) then some (Z.w (.bl (!eqW (.int (C.length : Int)) (.int (C.length : Int))))) else none) = _
  have e1 : shW (.int (C.length : Int)) = true := rfl
  have e2 : eqW (.int (C.length : Int)) (.int (C.length : Int)) = true := by show ((C.length : Int) == (C.length : Int)) = true; simp
  rw [e1, e2]; rfl
theorem view_s {S : List Int} (h : S ∈ SZ) {C : List Int} (hC : C ∈ cs S) {P : List Int} (hP : P ∈ ps S.length) : m_view [.w (itW1 S), .w (itW1 C), .w (itW1 P)] = .ok (.w (itW1 (vw C P))) [.w (itW1 S), .w (itW1 C), .w (itW1 P)] := by
  obtain ⟨a1, a2, a3⟩ := sz_of h
  have hl := cs_len hC
  have gen : ∀ (m1 m2 m3 m4 : Mean) (V : W), m1 [.w (itW1 S)] = .ok (.w .non) [.w (itW1 S)] → m2 [.w (itW1 S), .w (itW1 C)] = .ok (.w (.bl true)) [.w (itW1 S), .w (itW1 C)] → m3 [.w (itW1 S), .w (itW1 P)] = .ok (.w .non) [.w (itW1 S), .w (itW1 P)] → m4 [.w (itW1 C), .w (itW1 P)] = .ok (.w V) [.w (itW1 C), .w (itW1 P)] →
      evD ⟨3, 3, [0, 1, 2], kSeq (kEx (cCall m1 (cConsO (cOs 0) (cNil)))) (kSeq (kIte (cNot (cT (cCall m2 (cConsO (cOs 0) (cConsO (cOs 1) (cNil)))))) (kSeq (kBad) (kNx)) (kNx)) (kSeq (kEx (cCall m3 (cConsO (cOs 0) (cConsO (cOs 2) (cNil))))) (kSeq (kRet (cCall m4 (cConsO (cOs 1) (cConsO (cOs 2) (cNil))))) (kNx))))⟩ [.w (itW1 S), .w (itW1 C), .w (itW1 P)] = .ok (.w V) [.w (itW1 S), .w (itW1 C), .w (itW1 P)] := by
    intro m1 m2 m3 m4 V e1 e2 e3 e4
    rw [evD_e rfl]
    simp [cVar_e, cOs_e, cC_e, cNil_e, cCons_e, cConsO_e, cOd_e, cTup_e, cLst_e, cPr_e, cB_e, cT_e, cNot_e, cIte_e, cAnd_e, cOr_e, cTrue_e, cFalse_e, cLe_e, cCh_e, cCall_e, cMk_e, primM_e, callM_e, makeM_e, kSeq_e, kNx_e, kRet_e, kRetv_e, kSet_e, kIte_e, kEx_e, kParZ_e, setSl_e, kFor_e, cIt_e, cMut_e, mutM_e, cSl_e, cNoP_e, cP_e, lcTurn_e, backL, bkAt, Cb.sizeOk, e1, e2, e3, e4]
  exact gen m_check_sizes m_is_content m_check_pattern m_view_of _ (check_ok h) (content_s (c_of h hC) (by omega) hl) (pat_ok h hP) (view_of_s C P (by omega))
/-! ### _law_is_list -/
theorem x_isl (z : Option Z) (d : Z) (p : List Int) (hp : p.length ≤ 1000) : x__law_is_list_1 [z, some d, some (.w (itW1 p)), none] = .ok (.L (p.map fun _ => .bl false)) [z, some d, some (.w (itW1 p)), none] := by
  unfold x__law_is_list_1
  rw [cLc_m p W.int (fun x => some (.bl false)) (env1 := [z, some d, some (.w (itW1 p)), none])]
  · rw [List.filterMap_eq_map']
    simp
  · simp [cVar_e, cOs_e, cC_e, cNil_e, cCons_e, cConsO_e, cOd_e, cTup_e, cLst_e, cPr_e, cB_e, cT_e, cNot_e, cIte_e, cAnd_e, cOr_e, cTrue_e, cFalse_e, cLe_e, cCh_e, cCall_e, cMk_e, primM_e, callM_e, makeM_e, kSeq_e, kNx_e, kRet_e, kRetv_e, kSet_e, kIte_e, kEx_e, kParZ_e, setSl_e, kFor_e, cIt_e, cMut_e, mutM_e, cSl_e, cNoP_e, cP_e, lcTurn_e, backL, bkAt, Cb.sizeOk, itW1]
  · omega
  · intro x hx
    have h2 : prW (.isinst [.bool]) [.int x] = some (.w (.bl false)) := rfl
    simp [cVar_e, cOs_e, cC_e, cNil_e, cCons_e, cConsO_e, cOd_e, cTup_e, cLst_e, cPr_e, cB_e, cT_e, cNot_e, cIte_e, cAnd_e, cOr_e, cTrue_e, cFalse_e, cLe_e, cCh_e, cCall_e, cMk_e, primM_e, callM_e, makeM_e, kSeq_e, kNx_e, kRet_e, kRetv_e, kSet_e, kIte_e, kEx_e, kParZ_e, setSl_e, kFor_e, cIt_e, cMut_e, mutM_e, cSl_e, cNoP_e, cP_e, lcTurn_e, backL, bkAt, Cb.sizeOk, h2]
theorem any_false (p : List Int) : prW .any [.lst (p.map fun _ => W.bl false)] = some (.w (.bl false)) := by
  show (asBls (p.map fun _ => W.bl false)).map (fun bs => Z.w (.bl (bs.any id))) = _
  rw [asBls_map (fun _ => false)]
  simp
theorem isl_loop (d : Z) : ∀ (l : List (List Int)), (∀ p ∈ l, p.length ≤ 1000) → ∀ s : Option Z, ∃ s', evFor (setTg (.nm 2)) z__law_is_list_1 (l.map itW1) [none, some d, s, none] = .nx [none, some d, s', none]
  | [], _, s => ⟨s, rfl⟩
  | p :: l, h, s => by
    obtain ⟨s', ih⟩ := isl_loop d l (fun q hq => h q (List.mem_cons_of_mem _ hq)) (some (.w (itW1 p)))
    refine ⟨s', ?_⟩
    have hx := x_isl none d p (h p List.mem_cons_self)
    have ha := any_false p
    have h1 : prW (.isinst [.tuple]) [itW1 p] = some (.w (.bl true)) := rfl
    have hb : z__law_is_list_1 [none, some d, some (.w (itW1 p)), none] = .nx [none, some d, some (.w (itW1 p)), none] := by
      unfold z__law_is_list_1
      simp [cVar_e, cOs_e, cC_e, cNil_e, cCons_e, cConsO_e, cOd_e, cTup_e, cLst_e, cPr_e, cB_e, cT_e, cNot_e, cIte_e, cAnd_e, cOr_e, cTrue_e, cFalse_e, cLe_e, cCh_e, cCall_e, cMk_e, primM_e, callM_e, makeM_e, kSeq_e, kNx_e, kRet_e, kRetv_e, kSet_e, kIte_e, kEx_e, kParZ_e, setSl_e, kFor_e, cIt_e, cMut_e, mutM_e, cSl_e, cNoP_e, cP_e, lcTurn_e, backL, bkAt, Cb.sizeOk, hx, ha, h1]
    have ht : setTg (.nm 2) (itW1 p) [none, some d, s, none] = some [none, some d, some (.w (itW1 p)), none] := by simp [setTg]
    rw [List.map_cons]
    unfold evFor
    rw [ht]
    dsimp only
    rw [hb]
    exact ih
theorem isl_s (xs : List (List Int)) (hx : ∀ p ∈ xs, p.length ≤ 1000) (hl : xs.length ≤ 1000) : m__law_is_list [.L (xs.map itW1), .L (xs.map itW1)] = .ok (.w (.bl true)) [.L (xs.map itW1 ++ [.non]), .L (xs.map itW1)] := by
  obtain ⟨s', hy⟩ := isl_loop (.L (xs.map itW1)) xs hx none
  have hn := ne_l xs xs
  have h1 : prW (.isinst [.list]) [.lst (xs.map itW1)] = some (.w (.bl true)) := rfl
  have hl2 : (xs.map itW1).length ≤ 1000 := by rw [List.length_map]; exact hl
  rw [decide_eq_true rfl] at hn
  have hn : prW .ne [.lst (xs.map itW1), .lst (xs.map itW1)] = some (.w (.bl false)) := hn
  generalize xs.map itW1 = L at hy hn h1 hl2
  have hf : y__law_is_list_1 [some (.L L), some (.L L), none, none] = .nx [some (.L L), some (.L L), s', none] := by
    unfold y__law_is_list_1 kForK
    simp [cVar_e, cOs_e, cC_e, cNil_e, cCons_e, cConsO_e, cOd_e, cTup_e, cLst_e, cPr_e, cB_e, cT_e, cNot_e, cIte_e, cAnd_e, cOr_e, cTrue_e, cFalse_e, cLe_e, cCh_e, cCall_e, cMk_e, primM_e, callM_e, makeM_e, kSeq_e, kNx_e, kRet_e, kRetv_e, kSet_e, kIte_e, kEx_e, kParZ_e, setSl_e, kFor_e, cIt_e, cMut_e, mutM_e, cSl_e, cNoP_e, cP_e, lcTurn_e, backL, bkAt, Cb.sizeOk, hy, holdR]
  have hm : mtZ .append (.L L) [.non] = some (.w .non, .L (L ++ [.non])) := by
    show (if decide (L.length < 16777216) then some (Z.w .non, Z.L (L ++ [.non])) else none) = _
    rw [if_pos (decide_eq_true (by omega))]
  rw [m__law_is_list, evD_e rfl]
  simp only [f__law_is_list, b__law_is_list]
  simp [cVar_e, cOs_e, cC_e, cNil_e, cCons_e, cConsO_e, cOd_e, cTup_e, cLst_e, cPr_e, cB_e, cT_e, cNot_e, cIte_e, cAnd_e, cOr_e, cTrue_e, cFalse_e, cLe_e, cCh_e, cCall_e, cMk_e, primM_e, callM_e, makeM_e, kSeq_e, kNx_e, kRet_e, kRetv_e, kSet_e, kIte_e, kEx_e, kParZ_e, setSl_e, kFor_e, cIt_e, cMut_e, mutM_e, cSl_e, cNoP_e, cP_e, lcTurn_e, backL, bkAt, Cb.sizeOk, h1, hn, hf, hm]
  intro h; omega
end P01

end
section
set_option maxRecDepth 100000
set_option maxHeartbeats 4000000
namespace P01
open PySem L2 Cb Pl Wk
/-! ### the law -/
theorem cCallT_e {m : Mean} {d : Den (Z × List Od)} {env : Cb.Env} : cCallT m d env = (d env).bind fun x env => callT m x env := rfl
theorem cZO_e {d : Den Z} {ds : Den (List Od)} {env : Cb.Env} : cZO d ds env = (d env).bind fun z env => (ds env).bind fun os env => .ok (z, os) env := rfl
def ctR (os : List Od) (env : Cb.Env) (zs : List Z) : MR → R Z
  | .ok y (b :: back) => if back.length = zs.length then .ok y (putBack os zs back env) else .bad
  | .ex e (b :: back) => if back.length = zs.length then .ex e (putBack os zs back env) else .bad
  | _ => .bad
@[simp] theorem ctR_s {os : List Od} {env : Cb.Env} {zs : List Z} {y b : Z} {back : List Z} : ctR os env zs (.ok y (b :: back)) = if back.length = zs.length then .ok y (putBack os zs back env) else .bad := rfl
def ctF (m : Mean) (z : Z) (os : List Od) (env : Cb.Env) : Option (List Z) → R Z
  | none => .bad
  | some zs => if nodupB (lent os zs) then ctR os env zs (m (z :: zs)) else .bad
@[simp] theorem ctF_s {m : Mean} {z : Z} {os : List Od} {env : Cb.Env} {zs : List Z} : ctF m z os env (some zs) = if nodupB (lent os zs) then ctR os env zs (m (z :: zs)) else .bad := rfl
theorem callT_e {m : Mean} {z : Z} {os : List Od} {env : Cb.Env} : callT m (z, os) env = ctF m z os env (resAll env os) := by
  unfold callT ctF
  dsimp only
  cases resAll env os with
  | none => rfl
  | some zs =>
    dsimp only
    split
    · cases m (z :: zs) with
      | ok y back => cases back <;> rfl
      | ex y back => cases back <;> rfl
      | bad => rfl
    · rfl
/-- each turn of contents and patterns -/
theorem z2_gen {mI mC mP : Mean} {S : W} {E Q : List W} (a b c : Option Z) {r : List (Option Z)} (e1 : mC [.w S] = .ok (.L E) [.w S]) (e2 : mP [.w S] = .ok (.L Q) [.w S]) (e3 : mI [.L E, .L E] = .ok (.w (.bl true)) [.L (E ++ [.non]), .L E]) (e4 : mI [.L Q, .L Q] = .ok (.w (.bl true)) [.L (Q ++ [.non]), .L Q]) :
    kSeq (kIte (cOr (cNot (cT (cCallT mI (cZO (cCall mC (cConsO (cOs 3) (cNil))) (cConsO (cOs 4) (cNil)))))) (cOr (cNot (cT (cCallT mI (cZO (cCall mP (cConsO (cOs 3) (cNil))) (cConsO (cOs 5) (cNil)))))) cFalse)) (kSeq (kRet (cC (.bl false))) (kNx)) (kNx)) (kNx)
      (a :: b :: c :: some (.w S) :: some (.L E) :: some (.L Q) :: r) = .nx (a :: b :: c :: some (.w S) :: some (.L E) :: some (.L Q) :: r) := by
  simp [cVar_e, cOs_e, cC_e, cNil_e, cCons_e, cConsO_e, cOd_e, cTup_e, cLst_e, cPr_e, cB_e, cT_e, cNot_e, cIte_e, cAnd_e, cOr_e, cTrue_e, cFalse_e, cLe_e, cCh_e, cCall_e, cMk_e, primM_e, callM_e, makeM_e, kSeq_e, kNx_e, kRet_e, kRetv_e, kSet_e, kIte_e, kEx_e, kParZ_e, setSl_e, kFor_e, cIt_e, cMut_e, mutM_e, cSl_e, cNoP_e, cP_e, lcTurn_e, backL, bkAt, Cb.sizeOk, cCallT_e, cZO_e, callT_e, e1, e2, e3, e4]
theorem cCnt_e {i : Nat} {d : Den Od} {env : Cb.Env} : cCnt i d env = if isLw (gets env i) then (d env).bind fun o env => primM .count [.s i, o] env else .bad := rfl
@[simp] theorem isLw_L {x : List W} : isLw (some (.L x)) = true := rfl
theorem x_told {m : Mean} {S P : W} {Cs : List (List Int)} {f : List Int → List Int} (s hd t z5 ag due bl told : Option Z) {z4 : Z} (h4 : frz z4 = .lst (Cs.map itW1)) (hl : Cs.length ≤ 1000) (e : ∀ C ∈ Cs, m [.w S, .w (itW1 C), .w P] = .ok (.w (itW1 (f C))) [.w S, .w (itW1 C), .w P]) :
    cLc ((([("_law_content", 11)] : List (PySem.Str × Nat))).map (·.2)) (.nm 11) .val (cCons (cVar 4) cNil) (cTrue) (cCall m (cConsO (cOs 3) (cConsO (cOs 11) (cConsO (cOs 7) (cNil))))) [s, hd, t, some (.w S), some z4, z5, ag, some (.w P), due, bl, told, none, none]
      = .ok (.L ((Cs.map f).map itW1)) [s, hd, t, some (.w S), some (.w (.lst (Cs.map itW1))), z5, ag, some (.w P), due, bl, told, none, none] := by
  have hgo : okZ (some z4) = some z4 := okZ_of h4
  rw [cLc_m Cs itW1 (fun C => some (itW1 (f C))) (env1 := [s, hd, t, some (.w S), some (.w (.lst (Cs.map itW1))), z5, ag, some (.w P), due, bl, told, none, none])]
  · rw [List.filterMap_eq_map', List.map_map]
    rfl
  · simp [cVar_e, cOs_e, cC_e, cNil_e, cCons_e, cConsO_e, cOd_e, cTup_e, cLst_e, cPr_e, cB_e, cT_e, cNot_e, cIte_e, cAnd_e, cOr_e, cTrue_e, cFalse_e, cLe_e, cCh_e, cCall_e, cMk_e, primM_e, callM_e, makeM_e, kSeq_e, kNx_e, kRet_e, kRetv_e, kSet_e, kIte_e, kEx_e, kParZ_e, setSl_e, kFor_e, cIt_e, cMut_e, mutM_e, cSl_e, cNoP_e, cP_e, lcTurn_e, backL, bkAt, Cb.sizeOk, hgo, h4]
  · omega
  · intro C hC
    have := e C hC
    simp [cVar_e, cOs_e, cC_e, cNil_e, cCons_e, cConsO_e, cOd_e, cTup_e, cLst_e, cPr_e, cB_e, cT_e, cNot_e, cIte_e, cAnd_e, cOr_e, cTrue_e, cFalse_e, cLe_e, cCh_e, cCall_e, cMk_e, primM_e, callM_e, makeM_e, kSeq_e, kNx_e, kRet_e, kRetv_e, kSet_e, kIte_e, kEx_e, kParZ_e, setSl_e, kFor_e, cIt_e, cMut_e, mutM_e, cSl_e, cNoP_e, cP_e, lcTurn_e, backL, bkAt, Cb.sizeOk, this]
theorem x_own {m : Mean} {S P : W} {Cs : List (List Int)} {f : List Int → List Int} (s hd t z5 ag due bl told : Option Z) {z4 : Z} (h4 : frz z4 = .lst (Cs.map itW1)) (hl : Cs.length ≤ 1000) (e : ∀ C ∈ Cs, m [.w (itW1 C), .w P] = .ok (.w (itW1 (f C))) [.w (itW1 C), .w P]) :
    cLc ((([("_law_content", 11)] : List (PySem.Str × Nat))).map (·.2)) (.nm 11) .val (cCons (cVar 4) cNil) (cTrue) (cCall m (cConsO (cOs 11) (cConsO (cOs 7) (cNil)))) [s, hd, t, some (.w S), some z4, z5, ag, some (.w P), due, bl, told, none, none]
      = .ok (.L ((Cs.map f).map itW1)) [s, hd, t, some (.w S), some (.w (.lst (Cs.map itW1))), z5, ag, some (.w P), due, bl, told, none, none] := by
  have hgo : okZ (some z4) = some z4 := okZ_of h4
  rw [cLc_m Cs itW1 (fun C => some (itW1 (f C))) (env1 := [s, hd, t, some (.w S), some (.w (.lst (Cs.map itW1))), z5, ag, some (.w P), due, bl, told, none, none])]
  · rw [List.filterMap_eq_map', List.map_map]
    rfl
  · simp [cVar_e, cOs_e, cC_e, cNil_e, cCons_e, cConsO_e, cOd_e, cTup_e, cLst_e, cPr_e, cB_e, cT_e, cNot_e, cIte_e, cAnd_e, cOr_e, cTrue_e, cFalse_e, cLe_e, cCh_e, cCall_e, cMk_e, primM_e, callM_e, makeM_e, kSeq_e, kNx_e, kRet_e, kRetv_e, kSet_e, kIte_e, kEx_e, kParZ_e, setSl_e, kFor_e, cIt_e, cMut_e, mutM_e, cSl_e, cNoP_e, cP_e, lcTurn_e, backL, bkAt, Cb.sizeOk, hgo, h4]
  · omega
  · intro C hC
    have := e C hC
    simp [cVar_e, cOs_e, cC_e, cNil_e, cCons_e, cConsO_e, cOd_e, cTup_e, cLst_e, cPr_e, cB_e, cT_e, cNot_e, cIte_e, cAnd_e, cOr_e, cTrue_e, cFalse_e, cLe_e, cCh_e, cCall_e, cMk_e, primM_e, callM_e, makeM_e, kSeq_e, kNx_e, kRet_e, kRetv_e, kSet_e, kIte_e, kEx_e, kParZ_e, setSl_e, kFor_e, cIt_e, cMut_e, mutM_e, cSl_e, cNoP_e, cP_e, lcTurn_e, backL, bkAt, Cb.sizeOk, this]
theorem x_cnt (s hd t S z4 z5 ag p : Option Z) {V T : List (List Int)} (n : Int) (hl : V.length ≤ 1000) (e : ∀ v ∈ V, ((T.count v : Nat) : Int) = n) :
    x_law_1 [s, hd, t, S, z4, z5, ag, p, some (.L (V.map itW1)), some (.w (.int n)), some (.L (T.map itW1)), none, none]
      = .ok (.L (V.map fun _ => .bl true)) [s, hd, t, S, z4, z5, ag, p, some (.w (.lst (V.map itW1))), some (.w (.int n)), some (.L (T.map itW1)), none, none] := by
  unfold x_law_1
  rw [cLc_m V itW1 (fun C => some (.bl true)) (env1 := [s, hd, t, S, z4, z5, ag, p, some (.w (.lst (V.map itW1))), some (.w (.int n)), some (.L (T.map itW1)), none, none])]
  · rw [List.filterMap_eq_map']
    rfl
  · simp [cVar_e, cOs_e, cC_e, cNil_e, cCons_e, cConsO_e, cOd_e, cTup_e, cLst_e, cPr_e, cB_e, cT_e, cNot_e, cIte_e, cAnd_e, cOr_e, cTrue_e, cFalse_e, cLe_e, cCh_e, cCall_e, cMk_e, primM_e, callM_e, makeM_e, kSeq_e, kNx_e, kRet_e, kRetv_e, kSet_e, kIte_e, kEx_e, kParZ_e, setSl_e, kFor_e, cIt_e, cMut_e, mutM_e, cSl_e, cNoP_e, cP_e, lcTurn_e, backL, bkAt, Cb.sizeOk]
  · omega
  · intro v hv
    have h1 := count_it T v
    rw [e v hv] at h1
    have h2 : prW .eq [.int n, .int n] = some (.w (.bl true)) := by
      show (if shW (.int n) && shW (.int n) then some (Z.w (.bl (eqW (.int n) (.int n)))) else none) = _
      have e1 : shW (.int n) = true := rfl
      have e2 : eqW (.int n) (.int n) = true := by show (n == n) = true; simp
      rw [e1, e2]; rfl
    generalize T.map itW1 = L at h1
    simp [cVar_e, cOs_e, cC_e, cNil_e, cCons_e, cConsO_e, cOd_e, cTup_e, cLst_e, cPr_e, cB_e, cT_e, cNot_e, cIte_e, cAnd_e, cOr_e, cTrue_e, cFalse_e, cLe_e, cCh_e, cCall_e, cMk_e, primM_e, callM_e, makeM_e, kSeq_e, kNx_e, kRet_e, kRetv_e, kSet_e, kIte_e, kEx_e, kParZ_e, setSl_e, kFor_e, cIt_e, cMut_e, mutM_e, cSl_e, cNoP_e, cP_e, lcTurn_e, backL, bkAt, Cb.sizeOk, cCnt_e, h1, h2]
/-- a pattern's turn -/
theorem z1_gen {mL mI mV : Mean} {x2 x3 x1 : Den Z} {S P : W} {Ew V T : List W} {n a b : Int} (s hd t z5 ag o8 o9 o10 : Option Z) {z4 : Z} (h4 : frz z4 = .lst Ew)
    (e1 : mL [.w S, .w P] = .ok (.L V) [.w S, .w P]) (e2 : mV [.w S, .w P] = .ok (.L V) [.w S, .w P]) (e3 : mI [.L V, .L V] = .ok (.w (.bl true)) [.L (V ++ [.non]), .L V])
    (e4 : prW .ne [.lst V, .lst V] = some (.w (.bl false))) (e5 : prW .len [.lst Ew] = some (.w (.int a))) (e6 : prW .len [.lst V] = some (.w (.int b))) (e7 : prW .fdiv [.int a, .int b] = some (.w (.int n)))
    (e8 : ∀ z4, frz z4 = .lst Ew → ∀ o10, x3 [s, hd, t, some (.w S), some z4, z5, ag, some (.w P), some (.L V), some (.w (.int n)), o10, none, none] = .ok (.L T) [s, hd, t, some (.w S), some (.w (.lst Ew)), z5, ag, some (.w P), some (.L V), some (.w (.int n)), o10, none, none])
    (e9 : ∀ z4, frz z4 = .lst Ew → ∀ o10, x2 [s, hd, t, some (.w S), some z4, z5, ag, some (.w P), some (.L V), some (.w (.int n)), o10, none, none] = .ok (.L T) [s, hd, t, some (.w S), some (.w (.lst Ew)), z5, ag, some (.w P), some (.L V), some (.w (.int n)), o10, none, none])
    (e10 : prW .ne [.lst T, .lst T] = some (.w (.bl false))) (B : List W)
    (e11 : x1 [s, hd, t, some (.w S), some (.w (.lst Ew)), z5, ag, some (.w P), some (.L V), some (.w (.int n)), some (.L T), none, none] = .ok (.L B) [s, hd, t, some (.w S), some (.w (.lst Ew)), z5, ag, some (.w P), some (.w (.lst V)), some (.w (.int n)), some (.L T), none, none])
    (e12 : prW .all [.lst B] = some (.w (.bl true))) :
    kSeq (kSet 8 (cCall mL (cConsO (cOs 3) (cConsO (cOs 7) (cNil))))) (kSeq (kIte (cOr (cNot (cT (cCallT mI (cZO (cCall mV (cConsO (cOs 3) (cConsO (cOs 7) (cNil)))) (cConsO (cOs 8) (cNil)))))) (cOr (cT (cPr .ne (cConsO (cOd (cCall mV (cConsO (cOs 3) (cConsO (cOs 7) (cNil))))) (cConsO (cOs 8) cNil)))) cFalse)) (kSeq (kRet (cC (.bl false))) (kNx)) (kNx)) (kSeq (kSet 9 (cPr .fdiv (cConsO (cOd (cPr .len (cConsO (cOs 4) cNil))) (cConsO (cOd (cPr .len (cConsO (cOs 8) cNil))) cNil)))) (kSeq (kSet 10 (x3)) (kSeq (kIte (cT (cPr .ne (cConsO (cOs 10) (cConsO (cOd (x2)) cNil)))) (kSeq (kRet (cC (.bl false))) (kNx)) (kNx)) (kSeq (kIte (cNot (cT (cPr .all (cConsO (cOd (x1)) cNil)))) (kSeq (kRet (cC (.bl false))) (kNx)) (kNx)) (kNx))))))
      [s, hd, t, some (.w S), some z4, z5, ag, some (.w P), o8, o9, o10, none, none] = .nx [s, hd, t, some (.w S), some (.w (.lst Ew)), z5, ag, some (.w P), some (.w (.lst V)), some (.w (.int n)), some (.L T), none, none] := by
  have hgo : okZ (some z4) = some z4 := okZ_of h4
  have e8' := e8 z4 h4
  have e9' := e9 (.w (.lst Ew)) rfl
  simp [cVar_e, cOs_e, cC_e, cNil_e, cCons_e, cConsO_e, cOd_e, cTup_e, cLst_e, cPr_e, cB_e, cT_e, cNot_e, cIte_e, cAnd_e, cOr_e, cTrue_e, cFalse_e, cLe_e, cCh_e, cCall_e, cMk_e, primM_e, callM_e, makeM_e, kSeq_e, kNx_e, kRet_e, kRetv_e, kSet_e, kIte_e, kEx_e, kParZ_e, setSl_e, kFor_e, cIt_e, cMut_e, mutM_e, cSl_e, cNoP_e, cP_e, lcTurn_e, backL, bkAt, Cb.sizeOk, cCallT_e, cZO_e, callT_e, e1, e2, e3, e4, hgo, h4, e5, e6, e7, e8', e9', e10, e11, e12]
end P01

end
section
set_option maxRecDepth 100000
set_option maxHeartbeats 4000000
namespace P01
open PySem L2 Cb Pl Wk
theorem kFor_l {tg : Tg} {k : Itk} {d : Den (List W)} {b : DenS} {env e2 : Cb.Env} {l : List W} (h : cIt k d env = .ok l e2) : kFor tg k d b env = evFor (setTg tg) b l e2 := by
  unfold kFor
  rw [h]
  rfl
theorem len_l (n : Nat) {L : List W} (h : L.length = n) : prW .len [.lst L] = some (.w (.int (n : Int))) := by
  subst h; rfl
theorem ne_same (V : List (List Int)) : prW .ne [.lst (V.map itW1), .lst (V.map itW1)] = some (.w (.bl false)) := by
  have := ne_l V V
  rw [decide_eq_true rfl] at this
  exact this
theorem all_bl {γ : Type} (V : List γ) : prW .all [.lst (V.map fun _ => W.bl true)] = some (.w (.bl true)) := by
  show (asBls (V.map fun _ => W.bl true)).map (fun bs => Z.w (.bl (bs.all id))) = _
  rw [asBls_map (fun _ => true)]
  simp
theorem z1_s {S : List Int} (h : S ∈ SZ) {P : List Int} (hP : P ∈ ps S.length) (s hd t z5 ag o8 o9 o10 : Option Z) {z4 : Z} (h4 : frz z4 = .lst ((cs S).map itW1)) :
    ∃ p8 p9 p10, z_law_1 [s, hd, t, some (.w (itW1 S)), some z4, z5, ag, some (.w (itW1 P)), o8, o9, o10, none, none] = .nx [s, hd, t, some (.w (itW1 S)), some (.w (.lst ((cs S).map itW1))), z5, ag, some (.w (itW1 P)), p8, p9, p10, none, none] := by
  have d := dat_of h hP
  obtain ⟨a1, a2, a3⟩ := sz_of h
  have hv : ∀ v ∈ vs S P, v.length ≤ 1000 := fun v hv => by
    have := fl_len (S.zipIdx.map (row P)) [[]] 0 (by simp) v hv
    rw [List.length_map, List.length_zipIdx] at this
    omega
  have hn : ∀ v ∈ vs S P, ((((cs S).map (vw · P)).count v : Nat) : Int) = ((cs S).length : Int) / ((vs S P).length : Int) := fun v hv => by
    have := d.cnt v hv
    rw [← this, Int.natCast_mul, Int.mul_ediv_cancel _ (by have := d.pos; omega)]
  have h64 := d.l64
  have c64 := d.c64
  have hf : prW .fdiv [.int ((cs S).length : Int), .int ((vs S P).length : Int)] = some (.w (.int (((cs S).length : Int) / ((vs S P).length : Int)))) := p_fdivI (by have := d.pos; omega)
  have l1 : prW .len [.lst ((cs S).map itW1)] = some (.w (.int ((cs S).length : Int))) := len_l _ (by rw [List.length_map])
  have l2 : prW .len [.lst ((vs S P).map itW1)] = some (.w (.int ((vs S P).length : Int))) := len_l _ (by rw [List.length_map])
  have hcnt := fun (z5 : Option Z) => x_cnt s hd t (some (.w (itW1 S))) (some (.w (.lst ((cs S).map itW1)))) z5 ag (some (.w (itW1 P))) (V := vs S P) (T := (cs S).map (vw · P)) (((cs S).length : Int) / ((vs S P).length : Int)) (by omega) hn
  generalize hN : ((cs S).length : Int) / ((vs S P).length : Int) = N at hf hcnt
  exact ⟨_, _, _, z1_gen (mL := m__law_views) (mI := m__law_is_list) (mV := m_views) (x2 := x_law_2) (x3 := x_law_3) (x1 := x_law_1) (n := N) s hd t z5 ag o8 o9 o10 h4 (lviews_s h hP) (views_s h hP) (isl_s (vs S P) hv (by omega)) (ne_same _) l1 l2 hf
    (fun z4 e o10 => x_told (m := m_view) (f := fun C => vw C P) s hd t z5 ag _ _ o10 e (by omega) fun C hC => view_s h hC hP)
    (fun z4 e o10 => x_own (m := m__law_view) (f := fun C => vw C P) s hd t z5 ag _ _ o10 e (by omega) fun C hC => lview_s C P (by rw [cs_len hC]; omega))
    (ne_same _) _ (hcnt z5) (all_bl _)⟩
theorem y1_s {S : List Int} (h : S ∈ SZ) (s hd t ag o7 o8 o9 o10 : Option Z) : ∀ (l : List (List Int)), (∀ P ∈ l, P ∈ ps S.length) → ∀ (z5 : Option Z) (z4 : Z) (o7 o8 o9 o10 : Option Z), frz z4 = .lst ((cs S).map itW1) →
    ∃ p4 p7 p8 p9 p10, evFor (setTg (.nm 7)) z_law_1 (l.map itW1) [s, hd, t, some (.w (itW1 S)), some z4, z5, ag, o7, o8, o9, o10, none, none] = .nx [s, hd, t, some (.w (itW1 S)), p4, z5, ag, p7, p8, p9, p10, none, none]
  | [], _, z5, z4, o7, o8, o9, o10, _ => ⟨some z4, o7, o8, o9, o10, rfl⟩
  | P :: l, hl, z5, z4, o7, o8, o9, o10, h4 => by
    obtain ⟨q8, q9, q10, e⟩ := z1_s h (hl P List.mem_cons_self) s hd t z5 ag o8 o9 o10 h4
    obtain ⟨p4, p7, p8, p9, p10, ih⟩ := y1_s h s hd t ag o7 o8 o9 o10 l (fun Q hQ => hl Q (List.mem_cons_of_mem _ hQ)) z5 (.w (.lst ((cs S).map itW1))) (some (.w (itW1 P))) q8 q9 q10 rfl
    refine ⟨p4, p7, p8, p9, p10, ?_⟩
    have ht : setTg (.nm 7) (itW1 P) [s, hd, t, some (.w (itW1 S)), some z4, z5, ag, o7, o8, o9, o10, none, none] = some [s, hd, t, some (.w (itW1 S)), some z4, z5, ag, some (.w (itW1 P)), o8, o9, o10, none, none] := by simp [setTg]
    rw [List.map_cons]
    unfold evFor
    rw [ht]
    dsimp only
    rw [e]
    exact ih
/-- a turn -/
theorem z3_gen {mS mC mQ : Mean} {Y2 Y1 : DenS} {h h' : List (Key × W)} {S : W} {k : Int} {E Q : List W} {s t o3 o4 o5 o6 o7 o8 o9 o10 p4 p5 p6 p7 p8 p9 p10 q6 : Option Z} (e1 : mS [.dK h] = .ok (.w S) [.dK h']) (e2 : mC [.w S] = .ok (.L E) [.w S]) (e3 : prW .len [S] = some (.w (.int k))) (e4 : mQ [.w (.int k)] = .ok (.L Q) [.w (.int k)])
    (e5 : Y2 [s, some (.dK h'), t, some (.w S), some (.L E), some (.L Q), o6, o7, o8, o9, o10, none, none] = .nx [s, some (.dK h'), t, some (.w S), some (.L E), some (.L Q), q6, o7, o8, o9, o10, none, none])
    (e6 : Y1 [s, some (.dK h'), t, some (.w S), some (.L E), some (.L Q), q6, o7, o8, o9, o10, none, none] = .nx [s, some (.dK h'), t, some (.w S), p4, p5, p6, p7, p8, p9, p10, none, none]) :
    kSeq (kSet 3 (cCall mS (cConsO (cOs 1) (cNil)))) (kSeq (kParZ 4 5 (cCall mC (cConsO (cOs 3) (cNil))) (cCall mQ (cConsO (cOd (cPr .len (cConsO (cOs 3) cNil))) (cNil)))) (kSeq Y2 (kSeq Y1 (kNx)))) [s, some (.dK h), t, o3, o4, o5, o6, o7, o8, o9, o10, none, none] = .nx [s, some (.dK h'), t, some (.w S), p4, p5, p6, p7, p8, p9, p10, none, none] := by
  simp [cVar_e, cOs_e, cC_e, cNil_e, cCons_e, cConsO_e, cOd_e, cTup_e, cLst_e, cPr_e, cB_e, cT_e, cNot_e, cIte_e, cAnd_e, cOr_e, cTrue_e, cFalse_e, cLe_e, cCh_e, cCall_e, cMk_e, primM_e, callM_e, makeM_e, kSeq_e, kNx_e, kRet_e, kRetv_e, kSet_e, kIte_e, kEx_e, kParZ_e, setSl_e, kFor_e, cIt_e, cMut_e, mutM_e, cSl_e, cNoP_e, cP_e, lcTurn_e, backL, bkAt, Cb.sizeOk, e1, e2, e3, e4, e5, e6]
theorem y2_s {S : List Int} (h : S ∈ SZ) (s hd t : Option Z) (r : List (Option Z)) (o6 : Option Z) : ∃ q6, y_law_2 (s :: hd :: t :: some (.w (itW1 S)) :: some (.L ((cs S).map itW1)) :: some (.L ((ps S.length).map itW1)) :: o6 :: r) = .nx (s :: hd :: t :: some (.w (itW1 S)) :: some (.L ((cs S).map itW1)) :: some (.L ((ps S.length).map itW1)) :: q6 :: r) := by
  obtain ⟨a1, a2, a3⟩ := sz_of h
  have hc : ∀ p ∈ cs S, p.length ≤ 1000 := fun p hp => by rw [cs_len hp]; omega
  have cl : (cs S).length ≤ 1000 := by
    have := (dat_of h (P := []) (by
      have : S.length = 1 ∨ S.length = 2 ∨ S.length = 3 ∨ S.length = 4 := by omega
      rcases this with e | e | e | e <;> rw [e] <;> decide)).c64
    omega
  have pl : (∀ p ∈ ps S.length, p.length ≤ 1000) ∧ (ps S.length).length ≤ 1000 := by
    have : S.length = 1 ∨ S.length = 2 ∨ S.length = 3 ∨ S.length = 4 := by omega
    rcases this with e | e | e | e <;> rw [e] <;> decide
  have step := fun (o6 : Option Z) => z2_gen (mI := m__law_is_list) (mC := m_contents) (mP := m_patterns) (S := itW1 S) s hd t (r := o6 :: r) (contents_s h) (patterns_s h) (isl_s (cs S) hc cl) (isl_s (ps S.length) pl.1 pl.2)
  refine ⟨some (.w (.int 1)), ?_⟩
  generalize (cs S).map itW1 = E at step ⊢
  generalize (ps S.length).map itW1 = Q at step ⊢
  unfold y_law_2
  have hi : itW .rng1 [.int 2] = some [.int 0, .int 1] := by rw [it_rg1 (n := 2) (by decide)]; rfl
  rw [kFor_l (l := [.int 0, .int 1]) (e2 := s :: hd :: t :: some (.w (itW1 S)) :: some (.L E) :: some (.L Q) :: o6 :: r) (by simp [cVar_e, cOs_e, cC_e, cNil_e, cCons_e, cConsO_e, cOd_e, cTup_e, cLst_e, cPr_e, cB_e, cT_e, cNot_e, cIte_e, cAnd_e, cOr_e, cTrue_e, cFalse_e, cLe_e, cCh_e, cCall_e, cMk_e, primM_e, callM_e, makeM_e, kSeq_e, kNx_e, kRet_e, kRetv_e, kSet_e, kIte_e, kEx_e, kParZ_e, setSl_e, kFor_e, cIt_e, cMut_e, mutM_e, cSl_e, cNoP_e, cP_e, lcTurn_e, backL, bkAt, Cb.sizeOk, hi])]
  have t0 : ∀ (w : W) (o : Option Z), setTg (.nm 6) w (s :: hd :: t :: some (.w (itW1 S)) :: some (.L E) :: some (.L Q) :: o :: r) = some (s :: hd :: t :: some (.w (itW1 S)) :: some (.L E) :: some (.L Q) :: some (.w w) :: r) := fun w o => by simp [setTg]
  have zb : ∀ o : Option Z, z_law_2 (s :: hd :: t :: some (.w (itW1 S)) :: some (.L E) :: some (.L Q) :: o :: r) = .nx (s :: hd :: t :: some (.w (itW1 S)) :: some (.L E) :: some (.L Q) :: o :: r) := step
  unfold evFor
  rw [t0]
  dsimp only
  rw [zb]
  dsimp only
  unfold evFor
  rw [t0]
  dsimp only
  rw [zb]
  rfl
theorem z3_s {h : List (Key × W)} (hk : HOk h) (s t o3 o4 o5 o6 o7 o8 o9 o10 : Option Z) :
    ∃ h' p3 p4 p5 p6 p7 p8 p9 p10, HOk h' ∧ z_law_3 [s, some (.dK h), t, o3, o4, o5, o6, o7, o8, o9, o10, none, none] = .nx [s, some (.dK h'), t, p3, p4, p5, p6, p7, p8, p9, p10, none, none] := by
  obtain ⟨S, h', hS, hk', e1⟩ := sizes_s hk
  obtain ⟨a1, a2, a3⟩ := sz_of hS
  obtain ⟨q6, e5⟩ := y2_s hS s (some (.dK h')) t [o7, o8, o9, o10, none, none] o6
  obtain ⟨p4, p7, p8, p9, p10, e6⟩ := y1_s hS s (some (.dK h')) t q6 o7 o8 o9 o10 (ps S.length) (fun _ h => h) (some (.w (.lst ((ps S.length).map itW1)))) (.L ((cs S).map itW1)) o7 o8 o9 o10 rfl
  have e6' : y_law_1 [s, some (.dK h'), t, some (.w (itW1 S)), some (.L ((cs S).map itW1)), some (.L ((ps S.length).map itW1)), q6, o7, o8, o9, o10, none, none] = .nx [s, some (.dK h'), t, some (.w (itW1 S)), p4, some (.w (.lst ((ps S.length).map itW1))), q6, p7, p8, p9, p10, none, none] := by
    rw [← e6]
    generalize (ps S.length).map itW1 = Q
    generalize (cs S).map itW1 = E
    unfold y_law_1
    exact kFor_l (by simp [cVar_e, cOs_e, cC_e, cNil_e, cCons_e, cConsO_e, cOd_e, cTup_e, cLst_e, cPr_e, cB_e, cT_e, cNot_e, cIte_e, cAnd_e, cOr_e, cTrue_e, cFalse_e, cLe_e, cCh_e, cCall_e, cMk_e, primM_e, callM_e, makeM_e, kSeq_e, kNx_e, kRet_e, kRetv_e, kSet_e, kIte_e, kEx_e, kParZ_e, setSl_e, kFor_e, cIt_e, cMut_e, mutM_e, cSl_e, cNoP_e, cP_e, lcTurn_e, backL, bkAt, Cb.sizeOk])
  exact ⟨h', _, _, _, _, _, _, _, _, hk', z3_gen e1 (contents_law hS) len_T (pats_law ⟨a1, a2⟩) e5 e6'⟩
theorem y3_s {h : List (Key × W)} (hk : HOk h) (s : Option Z) : ∃ r1 r2 r3 r4 r5 r6 r7 r8 r9 r10, y_law_3 [s, some (.dK h), none, none, none, none, none, none, none, none, none, none, none] = .nx [s, r1, r2, r3, r4, r5, r6, r7, r8, r9, r10, none, none] := by
  obtain ⟨e', h1, h', t', a', b', c', d', x', f', g', i', rfl, q⟩ := for_inv (g := setTg (.nm 2)) (b := z_law_3)
    (fun ws e => ∃ (h : List (Key × W)) (t a b c d x f g i : Option Z), e = [s, some (.dK h), t, a, b, c, d, x, f, g, i, none, none] ∧ HOk h) (by
      rintro w ws e ⟨h, t, a, b, c, d, x, f, g, i, rfl, hh⟩
      obtain ⟨h', a', b', c', d', e', f', g', i', q1, q2⟩ := z3_s hh s (some (.w w)) a b c d x f g i
      exact ⟨[s, some (.dK h), some (.w w), a, b, c, d, x, f, g, i, none, none], _, by simp [setTg], q2, h', some (.w w), a', b', c', d', e', f', g', i', rfl, q1⟩)
    (items := (rgI 3).map .int) (env := [s, some (.dK h), none, none, none, none, none, none, none, none, none, none, none]) ⟨h, none, none, none, none, none, none, none, none, none, rfl, hk⟩
  refine ⟨some (.dK h'), t', a', b', c', d', x', f', g', i', ?_⟩
  rw [← h1]
  unfold y_law_3
  exact kFor_l (by simp [cVar_e, cOs_e, cC_e, cNil_e, cCons_e, cConsO_e, cOd_e, cTup_e, cLst_e, cPr_e, cB_e, cT_e, cNot_e, cIte_e, cAnd_e, cOr_e, cTrue_e, cFalse_e, cLe_e, cCh_e, cCall_e, cMk_e, primM_e, callM_e, makeM_e, kSeq_e, kNx_e, kRet_e, kRetv_e, kSet_e, kIte_e, kEx_e, kParZ_e, setSl_e, kFor_e, cIt_e, cMut_e, mutM_e, cSl_e, cNoP_e, cP_e, lcTurn_e, backL, bkAt, Cb.sizeOk, it_rg1 (n := 3) (by decide)])
theorem law_gen {H : Mean} {Y : DenS} {w : W} {h : List (Key × W)} {r1 r2 r3 r4 r5 r6 r7 r8 r9 r10 : Option Z} (h2 : H [.w w] = .ok (.dK h) [.w w])
    (h3 : Y [some (.w w), some (.dK h), none, none, none, none, none, none, none, none, none, none, none] = .nx [some (.w w), r1, r2, r3, r4, r5, r6, r7, r8, r9, r10, none, none]) :
    evD ⟨1, 13, [0], kSeq (kSet 1 (cCall H (cConsO (cOs 0) (cNil)))) (kSeq Y (kSeq (kRet (cC (.bl true))) kNx))⟩ [.w w] = .ok (.w (.bl true)) [.w w] := by
  rw [evD_e rfl]
  simp [cVar_e, cOs_e, cC_e, cNil_e, cCons_e, cConsO_e, cOd_e, cTup_e, cLst_e, cPr_e, cB_e, cT_e, cNot_e, cIte_e, cAnd_e, cOr_e, cTrue_e, cFalse_e, cLe_e, cCh_e, cCall_e, cMk_e, primM_e, callM_e, makeM_e, kSeq_e, kNx_e, kRet_e, kRetv_e, kSet_e, kIte_e, kEx_e, kParZ_e, setSl_e, kFor_e, cIt_e, cMut_e, mutM_e, cSl_e, cNoP_e, cP_e, lcTurn_e, backL, bkAt, Cb.sizeOk, h2, h3]
theorem law_s (ns : List Int) : ∃ back, m_law [.w (.scr ns)] = .ok (.w (.bl true)) back := by
  obtain ⟨h, h1, h2⟩ := hand_s ns
  obtain ⟨r1, r2, r3, r4, r5, r6, r7, r8, r9, r10, h4⟩ := y3_s h1 (some (.w (.scr ns)))
  exact ⟨[.w (.scr ns)], law_gen h2 h4⟩
end P01

end
theorem PySem.Challenge.cw_calmblanks_k01_whole_contents_patterns_v_holds : PySem.Challenge.rw_calmblanks_k01_whole_contents_patterns_v.Holds :=
  joined fun ns _ => P01.law_s ns
