import PyProof.Rows.All
import Wide.All
import OpenK.AllK
import Wide.FinOn
import HandS.ForMost
import HandS.ForExc
import HandS.CallSlots
import HandS.Defaults
import HandS.SortKw
import HandS.DictTup
import HandS.Strs
import HandS.Deep
import HandS.TupAny
import HandS.TupLe
import HandS.IsInst
import HandS.Wide
import HandS.Zip
import HandS.Style
import HandS.Conv
import HandS.Flow
import HandS.Lambda
import HandS.Small
import KE.SortData
import HandS.ExcOwn
import KE.GoesEnum
import KE.GoesMore
import HandS.Codes
import HandS.TupSets
import HandS.SetFor
import HandS.Ends
import HandS.HeadEnd
import KE.SortKeyHeap
import KE.KSortKey
import HandS.More
import HandS.HeadWalk
import HandS.HeadHook4
import HandS.ExcIs
import HandS.ExcField
import HandS.TryOnly
import HandS.OwnEq
import KE.KStateDown
import Lean
import HandS.Base
import HandS.Call
import HandS.Words
import HandS.WordsExc
import HandS.Head0
import HandS.Head1
import HandS.Head2
import HandS.HeadHook1
import HandS.HeadHook2
import HandS.HeadHook3
import PySem.Challenge.RW_calmblanks_k49_whole_all_webs
set_option Elab.async false
set_option linter.all false
section
set_option maxRecDepth 100000
set_option maxHeartbeats 4000000
namespace Cb
open PySem PySem.Spec PyProof.Rows L2

/-- pure data: what a value says, all told; nothing of it changes any more -/
inductive W where
  | non | bl (b : Bool) | int (i : Int) | str (s : Str)
  | tup (ws : List W) | lst (ws : List W)
  | dK (kvs : List (Key × W)) | dT (kvs : List (List Key × W))
  | obj (c : Str) (fs : List (Str × W))
  | scr (ns : List Int)
  | rng (lo hi : Int)

/-- the program's facts: the written part and where its classes stand -/
structure Gc where
  K : PySem.W.Frag
  cm : Str → Option Addr

abbrev AS := Addr → Prop

/-- the script: a locked list, or one of the written part -/
def Sc (K : PySem.W.Frag) (H : Hp) (a : Addr) (xs : List V) : Prop := (∃ o, H a = some (.frz o (.lst xs))) ∨
  ∃ (o : Obj) (its : Array Value) (n : Nat), K.lookup a = some o ∧ o.cls = .type "list" ∧ o.dict = none ∧ o.data = .seq its n ∧ its.size ≤ sizeLine ∧ Vals xs its.toList
theorem Sc.sq {K : PySem.W.Frag} {H : Hp} {a : Addr} {xs : List V} (h : Sc K H a xs) : SqL K H a xs := h.imp (fun h => .inr h) id
/-- an object of the content u that changes no more: its address is in S -/
def Fz (S : AS) (H : Hp) (a : Addr) (u : HO) : Prop := S a ∧ H a = some u

mutual
def Rp (G : Gc) (S : AS) (H : Hp) : W → V → Prop
  | .non, v => v = .non
  | .bl b, v => v = .bl b
  | .int i, v => v = .int i
  | .str s, v => v = .str s
  | .scr ns, v => ∃ a, v = .ref a ∧ (Sc G.K H a (ns.map V.int) ∨ Fz S H a (.lst (ns.map V.int)))
  | .rng lo hi, v => ∃ a, v = .ref a ∧ H a = some (.rng lo hi)
  | .tup ws, v => ∃ a vs, v = .ref a ∧ SqT G.K H a vs ∧ Rps G S H ws vs
  | .lst ws, v => ∃ a vs, v = .ref a ∧ Fz S H a (.lst vs) ∧ Rps G S H ws vs
  | .dK kvs, v => ∃ a vs, v = .ref a ∧ Fz S H a (.dK vs) ∧ Rpk G S H kvs vs
  | .dT kvs, v => ∃ a vs, v = .ref a ∧ Fz S H a (.dT vs) ∧ Rpt G S H kvs vs
  | .obj c fs, v => ∃ a C dx vs, v = .ref a ∧ G.cm c = some C ∧ Fz S H a (.ins C dx vs) ∧ Rpf G S H fs vs
def Rps (G : Gc) (S : AS) (H : Hp) : List W → List V → Prop
  | [], vs => vs = []
  | w :: ws, vs => ∃ v r, vs = v :: r ∧ Rp G S H w v ∧ Rps G S H ws r
def Rpk (G : Gc) (S : AS) (H : Hp) : List (Key × W) → List (Key × V) → Prop
  | [], vs => vs = []
  | (k, w) :: ws, vs => ∃ v r, vs = (k, v) :: r ∧ Rp G S H w v ∧ Rpk G S H ws r
def Rpt (G : Gc) (S : AS) (H : Hp) : List (List Key × W) → List (List Key × V) → Prop
  | [], vs => vs = []
  | (k, w) :: ws, vs => ∃ v r, vs = (k, v) :: r ∧ Rp G S H w v ∧ Rpt G S H ws r
def Rpf (G : Gc) (S : AS) (H : Hp) : List (Str × W) → List (Str × V) → Prop
  | [], vs => vs = []
  | (k, w) :: ws, vs => ∃ v r, vs = (k, v) :: r ∧ Rp G S H w v ∧ Rpf G S H ws r
end

/-- what may be owned -/
def Mu : Option HO → Prop
  | some (.lst _) => True
  | some (.dK _) => True
  | some (.dT _) => True
  | some (.set _ _) => True
  | some (.ins _ _ _) => True
  | _ => False
theorem Mu.mut {o : Option HO} (h : Mu o) : Mut o := by
  cases o with
  | none => exact h
  | some u => cases u <;> first | exact h | trivial
/-- a table of code objects: lambdas write it -/
def NoT (o : HO) : Prop := ∀ ps, o ≠ .tbl ps
theorem NoT.mu {o : HO} (h : Mu (some o)) : NoT o := fun ps e => by subst e; exact h
/-- a caught error: where it stands, its slot from behind, its dict, its fields -/
structure ErI where
  a : Addr
  pos : Nat
  d : Option Addr
  fs : List (Str × W)
/-- the tables of code objects -/
class Tb where
  T : List (Addr × Str)
  er : Option ErI
/-- where nothing is said of tables -/
instance noTables : Tb := ⟨[], none⟩
/-- what is settled in H stands in H' -/
def Kp (S : AS) (H H' : Hp) : Prop := ∀ a o, H a = some o → (S a ∨ ¬ Mu (some o)) → NoT o → H' a = some o
theorem Kp.refl (S : AS) (H : Hp) : Kp S H H := fun _ _ h _ _ => h
theorem not_tup {xs : List V} : NoT (.tup xs) := fun _ e => by cases e
theorem not_frz {o : Obj} {u : HO} : NoT (.frz o u) := fun _ e => by cases e

section
variable {G : Gc} {S S' : AS} {H H' : Hp}
theorem Kp.sqT (k : Kp S H H') {a : Addr} {xs : List V} (h : SqT G.K H a xs) : SqT G.K H' a xs := by
  rcases h with (h | ⟨o, h⟩) | h
  · exact .inl (.inl (k _ _ h (.inr id) not_tup))
  · exact .inl (.inr ⟨o, k _ _ h (.inr id) not_frz⟩)
  · exact .inr h
theorem Kp.fz (k : Kp S H H') (hs : ∀ a, S a → S' a) {a : Addr} {u : HO} (h : Fz S H a u) (hu : NoT u := by intro _ z; cases z) : Fz S' H' a u := by
  exact ⟨hs a h.1, k _ _ h.2 (.inl h.1) hu⟩
theorem Kp.sc (k : Kp S H H') {K : PySem.W.Frag} {a : Addr} {xs : List V} (h : Sc K H a xs) : Sc K H' a xs := by
  rcases h with ⟨o, h⟩ | h
  · exact .inl ⟨o, k _ _ h (.inr id) not_frz⟩
  · exact .inr h

mutual
theorem Rp.mono (k : Kp S H H') (hs : ∀ a, S a → S' a) : ∀ {w : W} {v : V}, Rp G S H w v → Rp G S' H' w v
  | .non, _, h => by unfold Rp at *; exact h
  | .bl _, _, h => by unfold Rp at *; exact h
  | .int _, _, h => by unfold Rp at *; exact h
  | .str _, _, h => by unfold Rp at *; exact h
  | .scr ns, _, h => by
    unfold Rp at *
    obtain ⟨a, e, h1⟩ := h
    exact ⟨a, e, h1.imp k.sc fun h => k.fz hs h⟩
  | .rng lo hi, _, h => by
    unfold Rp at *
    obtain ⟨a, e, h1⟩ := h
    exact ⟨a, e, k _ _ h1 (.inr id) fun _ z => nomatch z⟩
  | .tup ws, _, h => by
    unfold Rp at *
    obtain ⟨a, vs, e, h1, h2⟩ := h
    exact ⟨a, vs, e, k.sqT h1, Rps.mono k hs h2⟩
  | .lst ws, _, h => by
    unfold Rp at *
    obtain ⟨a, vs, e, h1, h2⟩ := h
    exact ⟨a, vs, e, k.fz hs h1, Rps.mono k hs h2⟩
  | .dK ws, _, h => by
    unfold Rp at *
    obtain ⟨a, vs, e, h1, h2⟩ := h
    exact ⟨a, vs, e, k.fz hs h1, Rpk.mono k hs h2⟩
  | .dT ws, _, h => by
    unfold Rp at *
    obtain ⟨a, vs, e, h1, h2⟩ := h
    exact ⟨a, vs, e, k.fz hs h1, Rpt.mono k hs h2⟩
  | .obj c ws, _, h => by
    unfold Rp at *
    obtain ⟨a, C, dx, vs, e, hc, h1, h2⟩ := h
    exact ⟨a, C, dx, vs, e, hc, k.fz hs h1, Rpf.mono k hs h2⟩
theorem Rps.mono (k : Kp S H H') (hs : ∀ a, S a → S' a) : ∀ {ws : List W} {vs : List V}, Rps G S H ws vs → Rps G S' H' ws vs
  | [], _, h => by unfold Rps at *; exact h
  | w :: ws, _, h => by
    unfold Rps at *
    obtain ⟨v, r, e, h1, h2⟩ := h
    exact ⟨v, r, e, Rp.mono k hs h1, Rps.mono k hs h2⟩
theorem Rpk.mono (k : Kp S H H') (hs : ∀ a, S a → S' a) : ∀ {ws : List (Key × W)} {vs : List (Key × V)}, Rpk G S H ws vs → Rpk G S' H' ws vs
  | [], _, h => by unfold Rpk at *; exact h
  | (_, w) :: ws, _, h => by
    unfold Rpk at *
    obtain ⟨v, r, e, h1, h2⟩ := h
    exact ⟨v, r, e, Rp.mono k hs h1, Rpk.mono k hs h2⟩
theorem Rpt.mono (k : Kp S H H') (hs : ∀ a, S a → S' a) : ∀ {ws : List (List Key × W)} {vs : List (List Key × V)}, Rpt G S H ws vs → Rpt G S' H' ws vs
  | [], _, h => by unfold Rpt at *; exact h
  | (_, w) :: ws, _, h => by
    unfold Rpt at *
    obtain ⟨v, r, e, h1, h2⟩ := h
    exact ⟨v, r, e, Rp.mono k hs h1, Rpt.mono k hs h2⟩
theorem Rpf.mono (k : Kp S H H') (hs : ∀ a, S a → S' a) : ∀ {ws : List (Str × W)} {vs : List (Str × V)}, Rpf G S H ws vs → Rpf G S' H' ws vs
  | [], _, h => by unfold Rpf at *; exact h
  | (_, w) :: ws, _, h => by
    unfold Rpf at *
    obtain ⟨v, r, e, h1, h2⟩ := h
    exact ⟨v, r, e, Rp.mono k hs h1, Rpf.mono k hs h2⟩
end

/-! ### lists of values -/
theorem Rps.length : ∀ {ws : List W} {vs : List V}, Rps G S H ws vs → vs.length = ws.length
  | [], _, h => by unfold Rps at h; subst h; rfl
  | w :: ws, _, h => by
    unfold Rps at h
    obtain ⟨v, r, e, h1, h2⟩ := h
    subst e
    simp [Rps.length h2]
theorem Rps.nil : Rps G S H [] [] := by unfold Rps; rfl
theorem Rps.cons {w : W} {ws : List W} {v : V} {vs : List V} (h : Rp G S H w v) (t : Rps G S H ws vs) : Rps G S H (w :: ws) (v :: vs) := by
  unfold Rps; exact ⟨v, vs, rfl, h, t⟩
theorem Rps.one {w : W} {v : V} (h : Rp G S H w v) : Rps G S H [w] [v] := .cons h .nil
theorem Rps.inv {w : W} {ws : List W} {vs : List V} (h : Rps G S H (w :: ws) vs) : ∃ v r, vs = v :: r ∧ Rp G S H w v ∧ Rps G S H ws r := by
  unfold Rps at h; exact h
theorem Rps.inv0 {vs : List V} (h : Rps G S H [] vs) : vs = [] := by
  unfold Rps at h; exact h
theorem Rps.append : ∀ {ws us : List W} {vs ys : List V}, Rps G S H ws vs → Rps G S H us ys → Rps G S H (ws ++ us) (vs ++ ys)
  | [], _, _, _, h, h' => by rw [h.inv0]; exact h'
  | w :: ws, _, _, _, h, h' => by
    obtain ⟨v, r, e, h1, h2⟩ := h.inv
    subst e
    exact .cons h1 (Rps.append h2 h')
theorem Rps.get : ∀ {ws : List W} {vs : List V} {i : Nat} {w : W}, Rps G S H ws vs → ws[i]? = some w → ∃ v, vs[i]? = some v ∧ Rp G S H w v
  | [], _, _, _, h, e => by simp at e
  | w :: ws, _, 0, _, h, e => by
    obtain ⟨v, r, q, h1, h2⟩ := h.inv
    subst q
    simp at e; subst e
    exact ⟨v, rfl, h1⟩
  | w :: ws, _, i + 1, _, h, e => by
    obtain ⟨v, r, q, h1, h2⟩ := h.inv
    subst q
    simpa using Rps.get (i := i) h2 (by simpa using e)
theorem Rps.take : ∀ {ws : List W} {vs : List V} (n : Nat), Rps G S H ws vs → Rps G S H (ws.take n) (vs.take n)
  | _, _, 0, _ => by simp; exact .nil
  | [], _, n + 1, h => by rw [h.inv0]; exact .nil
  | w :: ws, _, n + 1, h => by
    obtain ⟨v, r, q, h1, h2⟩ := h.inv
    subst q
    exact .cons h1 (Rps.take n h2)
theorem Rps.drop : ∀ {ws : List W} {vs : List V} (n : Nat), Rps G S H ws vs → Rps G S H (ws.drop n) (vs.drop n)
  | _, _, 0, h => by simpa using h
  | [], _, n + 1, h => by rw [h.inv0]; exact .nil
  | w :: ws, _, n + 1, h => by
    obtain ⟨v, r, q, h1, h2⟩ := h.inv
    subst q
    exact Rps.drop n h2
theorem Rps.set : ∀ {ws : List W} {vs : List V} {w : W} {v : V} (n : Nat), Rps G S H ws vs → Rp G S H w v → Rps G S H (ws.set n w) (vs.set n v)
  | [], _, _, _, n, h, _ => by rw [h.inv0]; simp; exact .nil
  | x :: ws, _, _, _, 0, h, k => by
    obtain ⟨v, r, q, h1, h2⟩ := h.inv
    subst q
    exact .cons k h2
  | x :: ws, _, _, _, n + 1, h, k => by
    obtain ⟨v, r, q, h1, h2⟩ := h.inv
    subst q
    exact .cons h1 (Rps.set n h2 k)
end

/-! ### owned values: a list, a dict, an object that one name alone holds -/
inductive Z where
  | w (x : W)
  | L (ws : List W)
  | dK (kvs : List (Key × W)) | dT (kvs : List (List Key × W))
  | obj (c : Str) (fs : List (Str × W))
  | err
/-- handed on: it changes no more -/
def frz : Z → W
  | .w x => x
  | .L ws => .lst ws
  | .dK kvs => .dK kvs
  | .dT kvs => .dT kvs
  | .obj c fs => .obj c fs
  | .err => .non

def RZ (G : Gc) (S : AS) (H : Hp) : Z → V → List Addr → Prop
  | .w x, v, B => Rp G S H x v ∧ B = []
  | .L ws, v, B => ∃ a vs, v = .ref a ∧ H a = some (.lst vs) ∧ Rps G S H ws vs ∧ B = [a]
  | .dK kvs, v, B => ∃ a vs, v = .ref a ∧ H a = some (.dK vs) ∧ Rpk G S H kvs vs ∧ B = [a]
  | .dT kvs, v, B => ∃ a vs, v = .ref a ∧ H a = some (.dT vs) ∧ Rpt G S H kvs vs ∧ B = [a]
  | .obj c fs, v, B => ∃ a C dx vs, v = .ref a ∧ G.cm c = some C ∧ H a = some (.ins C dx vs) ∧ Rpf G S H fs vs ∧ B = [a]
  | .err, _, _ => False

section
variable {G : Gc} {S S' : AS} {H H' : Hp}
theorem RZ.mono (k : Kp S H H') (hs : ∀ a, S a → S' a) {z : Z} {v : V} {B : List Addr} (h : RZ G S H z v B) (hB : ∀ a ∈ B, ∀ o, H a = some o → H' a = some o) : RZ G S' H' z v B := by
  cases z with
  | w x => exact ⟨h.1.mono k hs, h.2⟩
  | L ws =>
    obtain ⟨a, vs, e, h1, h2, rfl⟩ := h
    exact ⟨a, vs, e, hB a (by simp) _ h1, h2.mono k hs, rfl⟩
  | dK ws =>
    obtain ⟨a, vs, e, h1, h2, rfl⟩ := h
    exact ⟨a, vs, e, hB a (by simp) _ h1, h2.mono k hs, rfl⟩
  | dT ws =>
    obtain ⟨a, vs, e, h1, h2, rfl⟩ := h
    exact ⟨a, vs, e, hB a (by simp) _ h1, h2.mono k hs, rfl⟩
  | obj c ws =>
    obtain ⟨a, C, dx, vs, e, hc, h1, h2, rfl⟩ := h
    exact ⟨a, C, dx, vs, e, hc, hB a (by simp) _ h1, h2.mono k hs, rfl⟩
  | err => exact h.elim
/-- freezing: its address goes into S -/
theorem RZ.freeze {z : Z} {v : V} {B : List Addr} (h : RZ G S H z v B) : Rp G (fun a => S a ∨ a ∈ B) H (frz z) v := by
  have hs : ∀ a, S a → S a ∨ a ∈ B := fun a h => .inl h
  have k := Kp.refl S H
  cases z with
  | w x => exact h.1.mono k hs
  | L ws =>
    obtain ⟨a, vs, e, h1, h2, rfl⟩ := h
    unfold frz Rp
    exact ⟨a, vs, e, ⟨.inr (by simp), h1⟩, h2.mono k hs⟩
  | dK ws =>
    obtain ⟨a, vs, e, h1, h2, rfl⟩ := h
    unfold frz Rp
    exact ⟨a, vs, e, ⟨.inr (by simp), h1⟩, h2.mono k hs⟩
  | dT ws =>
    obtain ⟨a, vs, e, h1, h2, rfl⟩ := h
    unfold frz Rp
    exact ⟨a, vs, e, ⟨.inr (by simp), h1⟩, h2.mono k hs⟩
  | obj c ws =>
    obtain ⟨a, C, dx, vs, e, hc, h1, h2, rfl⟩ := h
    unfold frz Rp
    exact ⟨a, C, dx, vs, e, hc, ⟨.inr (by simp), h1⟩, h2.mono k hs⟩
  | err => exact h.elim
theorem RZ.mut {z : Z} {v : V} {B : List Addr} (h : RZ G S H z v B) : B.Nodup ∧ ∀ a ∈ B, Mu (H a) := by
  cases z with
  | w x => obtain ⟨_, rfl⟩ := h; simp
  | L ws => obtain ⟨a, vs, e, h1, h2, rfl⟩ := h; simp [h1, Mu]
  | dK ws => obtain ⟨a, vs, e, h1, h2, rfl⟩ := h; simp [h1, Mu]
  | dT ws => obtain ⟨a, vs, e, h1, h2, rfl⟩ := h; simp [h1, Mu]
  | obj c ws => obtain ⟨a, C, dx, vs, e, hc, h1, h2, rfl⟩ := h; simp [h1, Mu]
  | err => exact h.elim

/-! ### a frame's slots -/
abbrev Env := List (Option Z)
def XdR (G : Gc) (S : AS) (H : Hp) (fs : List (Str × W)) (d : Option Addr) : Prop := (fs = [] ∧ d = none) ∨ ∃ a vs, d = some a ∧ H a = some (.xd vs) ∧ Rpf G S H fs vs
theorem XdR.mono (k : Kp S H H') (hs : ∀ a, S a → S' a) {fs : List (Str × W)} {d : Option Addr} (h : XdR G S H fs d) : XdR G S' H' fs d := by
  rcases h with h | ⟨a, vs, e, h1, h2⟩
  · exact .inl h
  · exact .inr ⟨a, vs, e, k _ _ h1 (.inr id) (fun _ z => nomatch z), h2.mono k hs⟩
def ErOk [Tb] (G : Gc) (S : AS) (H : Hp) (n : Nat) (o : Option V) : Prop := ∀ i, Tb.er = some i → i.pos = n → o = some (.ref i.a) ∧ XdR G S H i.fs i.d
inductive EnvR [Tb] (G : Gc) (S : AS) (H : Hp) : Env → List (Option V) → List Addr → Prop
  | nil : EnvR G S H [] [] []
  | off {env σ A o} : EnvR G S H env σ A → EnvR G S H (none :: env) (o :: σ) A
  | on {z v B env σ A} : RZ G S H z v B → EnvR G S H env σ A → EnvR G S H (some z :: env) (some v :: σ) (B ++ A)
  | er {env σ A o} : ErOk G S H σ.length o → EnvR G S H env σ A → EnvR G S H (some .err :: env) (o :: σ) A
variable [Tb]
theorem EnvR.length {env : Env} {σ : List (Option V)} {A : List Addr} (h : EnvR G S H env σ A) : σ.length = env.length := by
  induction h with
  | nil => rfl
  | off _ ih => simp [ih]
  | on _ _ ih => simp [ih]
  | er _ _ ih => simp [ih]
theorem EnvR.mono (k : Kp S H H') (hs : ∀ a, S a → S' a) {env : Env} {σ : List (Option V)} {A : List Addr} (h : EnvR G S H env σ A) (hA : ∀ a ∈ A, ∀ o, H a = some o → H' a = some o) : EnvR G S' H' env σ A := by
  induction h with
  | nil => exact .nil
  | off _ ih => exact .off (ih hA)
  | on r _ ih => exact .on (r.mono k hs fun a ha => hA a (List.mem_append_left _ ha)) (ih fun a ha => hA a (List.mem_append_right _ ha))
  | er q _ ih => exact .er (fun i e p => ⟨(q i e p).1, (q i e p).2.mono k hs⟩) (ih hA)
/-- slot i told apart -/
theorem EnvR.get {env : Env} {σ : List (Option V)} {A : List Addr} (h : EnvR G S H env σ A) : ∀ {i : Nat} {z : Z}, env[i]? = some (some z) → z ≠ .err →
    ∃ v B R, σ[i]? = some (some v) ∧ RZ G S H z v B ∧ A.Perm (B ++ R) ∧ EnvR G S H (env.set i none) σ R := by
  induction h with
  | nil => intro i z e; simp at e
  | @off env σ A o _ ih =>
    intro i z e ne
    cases i with
    | zero => simp at e
    | succ i =>
      obtain ⟨v, B, R, h1, h2, h3, h4⟩ := ih (i := i) (by simpa using e) ne
      exact ⟨v, B, R, by simpa using h1, h2, h3, by simpa using EnvR.off h4⟩
  | @on z' v' B' env σ A r t ih =>
    intro i z e ne
    cases i with
    | zero =>
      simp at e; subst e
      exact ⟨v', B', A, rfl, r, List.Perm.refl _, by simpa using EnvR.off t⟩
    | succ i =>
      obtain ⟨v, B, R, h1, h2, h3, h4⟩ := ih (i := i) (by simpa using e) ne
      refine ⟨v, B, B' ++ R, by simpa using h1, h2, ?_, by simpa using EnvR.on r h4⟩
      refine (List.Perm.append_left B' h3).trans ?_
      rw [← List.append_assoc, ← List.append_assoc]
      exact List.Perm.append_right R List.perm_append_comm
  | @er env σ A o k t ih =>
    intro i z e ne
    cases i with
    | zero =>
      simp at e
      exact absurd e.symm ne
    | succ i =>
      obtain ⟨v, B, R, h1, h2, h3, h4⟩ := ih (i := i) (by simpa using e) ne
      exact ⟨v, B, R, by simpa using h1, h2, h3, by simpa using EnvR.er k h4⟩
/-- slot i forgotten -/
theorem EnvR.drop {env : Env} {σ : List (Option V)} {A : List Addr} (h : EnvR G S H env σ A) (i : Nat) : ∃ R, EnvR G S H (env.set i none) σ R ∧ List.Sublist R A := by
  induction h generalizing i with
  | nil => exact ⟨[], by simpa using EnvR.nil, .slnil⟩
  | @off env σ A o t ih =>
    cases i with
    | zero => exact ⟨A, by simpa using EnvR.off t, List.Sublist.refl _⟩
    | succ i =>
      obtain ⟨R, h1, h2⟩ := ih i
      exact ⟨R, by simpa using EnvR.off h1, h2⟩
  | @on z v B env σ A r t ih =>
    cases i with
    | zero => exact ⟨A, by simpa using EnvR.off t, List.sublist_append_right _ _⟩
    | succ i =>
      obtain ⟨R, h1, h2⟩ := ih i
      exact ⟨B ++ R, by simpa using EnvR.on r h1, List.Sublist.append_left h2 B⟩
  | @er env σ A o k t ih =>
    cases i with
    | zero => exact ⟨A, by simpa using EnvR.off t, List.Sublist.refl _⟩
    | succ i =>
      obtain ⟨R, h1, h2⟩ := ih i
      exact ⟨R, by simpa using EnvR.er k h1, h2⟩
/-- slot i laid -/
theorem EnvR.put {env : Env} {σ : List (Option V)} {R : List Addr} {i : Nat} {z : Z} {v : V} {B : List Addr} (h : EnvR G S H (env.set i none) σ R) (hi : i < env.length) (r : RZ G S H z v B) :
    ∃ A, EnvR G S H (env.set i (some z)) (σ.set i (some v)) A ∧ A.Perm (B ++ R) := by
  induction i generalizing env σ R with
  | zero =>
    cases env with
    | nil => simp at hi
    | cons e env =>
      simp at h
      cases h with
      | off t => exact ⟨B ++ R, by simpa using EnvR.on r t, List.Perm.refl _⟩
  | succ i ih =>
    cases env with
    | nil => simp at hi
    | cons e env =>
      simp at h
      cases h with
      | off t =>
        obtain ⟨A, h1, h2⟩ := ih t (by simpa using hi)
        exact ⟨A, by simpa using EnvR.off h1, h2⟩
      | @on z' v' B' _ _ A0 r' t =>
        obtain ⟨A, h1, h2⟩ := ih t (by simpa using hi)
        refine ⟨B' ++ A, by simpa using EnvR.on r' h1, (List.Perm.append_left B' h2).trans ?_⟩
        rw [← List.append_assoc, ← List.append_assoc]
        exact List.Perm.append_right A0 List.perm_append_comm
      | er k t =>
        obtain ⟨A, h1, h2⟩ := ih t (by simpa using hi)
        exact ⟨A, by simpa using EnvR.er (by simpa using k) h1, h2⟩
/-- the same address again in the slot (σ as it is) -/
theorem EnvR.put' {env : Env} {σ : List (Option V)} {R : List Addr} {i : Nat} {z : Z} {v : V} {B : List Addr} (h : EnvR G S H (env.set i none) σ R) (hi : i < env.length) (hσ : σ[i]? = some (some v)) (r : RZ G S H z v B) :
    ∃ A, EnvR G S H (env.set i (some z)) σ A ∧ A.Perm (B ++ R) := by
  have e : σ.set i (some v) = σ := by
    apply List.ext_getElem?
    intro j
    rw [List.getElem?_set]
    by_cases hj : i = j
    · subst hj
      simp [hσ]
      exact (List.getElem?_eq_some_iff.mp hσ).1
    · simp [hj]
  have q := h.put hi r
  rwa [e] at q
end

/-! ### what stays -/
/-- tables and code objects stay: so do the tables' facts -/
theorem tabs_keep {T : List (Addr × Str)} {H H' : Hp} (t : LamX.Tabs T H) (k : ∀ b o, H b = some o → ¬ Mu (some o) → H' b = some o) : LamX.Tabs T H' := fun p hp => by
  obtain ⟨ps, h1, h2, h3⟩ := t p hp
  refine ⟨ps, k _ _ h1 id, h2, fun pos cv hc => ?_⟩
  obtain ⟨c, e1, e2⟩ := h3 pos cv hc
  exact ⟨c, e1, k _ _ e2 id⟩
/-- S and A are told of H: settled and owned -/
structure Ok [Tb] (S : AS) (H : Hp) (A : List Addr) : Prop where
  nd : A.Nodup
  own : ∀ a ∈ A, ¬ S a ∧ Mu (H a)
  dom : ∀ a, S a → ∃ o, H a = some o
  tab : LamX.Tabs Tb.T H
/-- from (S, H, A) to (S', H', A'): only the owned was changed, what is owned or settled anew was owned or is new -/
structure Fr (S : AS) (H : Hp) (A : List Addr) (S' : AS) (H' : Hp) (A' : List Addr) : Prop where
  keep : ∀ a o, H a = some o → a ∉ A → NoT o → H' a = some o
  up : ∀ a, S a → S' a
  back : ∀ a, S' a → S a ∨ a ∈ A ∨ H a = none
  own : ∀ a ∈ A', a ∈ A ∨ H a = none
  dom : ∀ a o, H a = some o → ∃ o', H' a = some o'

section
variable [Tb] {G : Gc} {S S' S1 S2 : AS} {H H' H1 H2 : Hp} {A A' A1 A2 B B1 B2 : List Addr}
theorem mut_some {o : Option HO} (h : Mu o) : ∃ u, o = some u := by
  cases o with
  | none => exact h.elim
  | some u => exact ⟨u, rfl⟩
theorem Ok.perm (h : Ok S H A) (p : A'.Perm A) : Ok S H A' := ⟨p.nodup_iff.mpr h.nd, fun a ha => h.own a (p.mem_iff.mp ha), h.dom, h.tab⟩
theorem Ok.sub (h : Ok S H A) (p : List.Sublist A' A) : Ok S H A' := ⟨h.nd.sublist p, fun a ha => h.own a (p.subset ha), h.dom, h.tab⟩
theorem Ok.left (h : Ok S H (A ++ B)) : Ok S H A := h.sub (List.sublist_append_left _ _)
theorem Ok.right (h : Ok S H (A ++ B)) : Ok S H B := h.sub (List.sublist_append_right _ _)
theorem Ok.nil (h : Ok S H A) : Ok S H [] := h.sub (List.nil_sublist _)
theorem Ok.dis (h : Ok S H (A ++ B)) {a : Addr} (ha : a ∈ A) (hb : a ∈ B) : False := (List.nodup_append.mp h.nd).2.2 a ha a hb rfl
/-- freezing B -/
theorem Ok.freeze (h : Ok S H (A ++ B)) : Ok (fun a => S a ∨ a ∈ B) H A := ⟨h.left.nd, fun a ha => ⟨fun z => z.elim (h.left.own a ha).1 fun hb => h.dis ha hb, (h.left.own a ha).2⟩,
  fun a ha => ha.elim (h.dom a) fun hb => mut_some (h.right.own a hb).2, h.tab⟩
theorem Fr.refl (o : Ok S H A) : Fr S H A S H A := ⟨fun _ _ h _ _ => h, fun _ h => h, fun _ h => .inl h, fun _ h => .inl h, fun _ o h => ⟨o, h⟩⟩
theorem Fr.kp (f : Fr S H A S' H' A') (o : Ok S H A) : Kp S H H' := fun a u e h nt => f.keep a u e (fun ha => by
  have := o.own a ha
  rcases h with h | h
  · exact this.1 h
  · rw [e] at this; exact h this.2) nt
theorem Fr.non (f : Fr S H A S' H' A') {a : Addr} (h : H' a = none) : H a = none := by
  cases e : H a with
  | none => rfl
  | some o => obtain ⟨o', e'⟩ := f.dom a o e; rw [h] at e'; cases e'
theorem Fr.trans (f : Fr S H A S1 H1 A1) (g : Fr S1 H1 A1 S2 H2 A2) : Fr S H A S2 H2 A2 where
  keep := fun a o e n nt => g.keep a o (f.keep a o e n nt) (fun h => by
    rcases f.own a h with h | h
    · exact n h
    · rw [e] at h; cases h) nt
  up := fun a h => g.up a (f.up a h)
  back := fun a h => by
    rcases g.back a h with h | h | h
    · exact f.back a h
    · exact .inr (f.own a h)
    · exact .inr (.inr (f.non h))
  own := fun a h => by
    rcases g.own a h with h | h
    · exact f.own a h
    · exact .inr (f.non h)
  dom := fun a o e => by
    obtain ⟨o', e'⟩ := f.dom a o e
    exact g.dom a o' e'
theorem Fr.wide (f : Fr S H A S' H' A') (h : ∀ a ∈ A, a ∈ B) : Fr S H B S' H' A' := ⟨fun a o e n => f.keep a o e (fun z => n (h a z)), f.up, fun a z => (f.back a z).imp id (Or.imp (h a) id), fun a z => (f.own a z).imp (h a) id, f.dom⟩
theorem Fr.less (f : Fr S H A S' H' A') (h : ∀ a ∈ B, a ∈ A') : Fr S H A S' H' B := ⟨f.keep, f.up, f.back, fun a z => f.own a (h a z), f.dom⟩
/-- what was owned elsewhere is carried over -/
theorem Fr.off (f : Fr S H A S' H' A') (o : Ok S H (A ++ B)) (o' : Ok S' H' A') : Ok S' H' (A' ++ B) where
  nd := List.nodup_append.mpr ⟨o'.nd, o.right.nd, fun a ha b hb e => by
    subst e
    rcases f.own a ha with h | h
    · exact o.dis h hb
    · have := (o.right.own a hb).2
      rw [h] at this; exact this⟩
  own := fun a ha => by
    rcases List.mem_append.mp ha with ha | ha
    · exact o'.own a ha
    · have m := (o.right.own a ha)
      obtain ⟨u, e⟩ := mut_some m.2
      refine ⟨fun z => ?_, ?_⟩
      · rcases f.back a z with h | h | h
        · exact m.1 h
        · exact o.dis h ha
        · rw [e] at h; cases h
      · rw [f.keep a u e (fun h => o.dis h ha) (NoT.mu (e ▸ m.2)), ← e]; exact m.2
  dom := o'.dom
  tab := o'.tab
theorem Fr.offK (f : Fr S H A S' H' A') (o : Ok S H (A ++ B)) : ∀ a ∈ B, ∀ u, H a = some u → H' a = some u := fun a ha u e => f.keep a u e (fun h => o.dis h ha) (NoT.mu (e ▸ (o.right.own a ha).2))
/-- freezing is a step -/
theorem Fr.frz (o : Ok S H (A ++ B)) : Fr S H (A ++ B) (fun a => S a ∨ a ∈ B) H A := ⟨fun _ _ h _ _ => h, fun _ h => .inl h, fun _ h => h.imp id fun z => .inl (List.mem_append_right _ z), fun _ h => .inl (List.mem_append_left _ h), fun _ o h => ⟨o, h⟩⟩
/-- a new object -/
theorem Fr.new {p : Addr} {u : HO} (o : Ok S H A) (hp : H p = none) : Fr S H A S (upd H p u) A :=
  ⟨fun a x e _ _ => by rw [upd_ne (ne_of_none e hp)]; exact e, fun _ h => h, fun _ h => .inl h, fun _ h => .inl h, fun a x e => ⟨x, by rw [upd_ne (ne_of_none e hp)]; exact e⟩⟩
theorem Ok.new {p : Addr} {u : HO} (o : Ok S H A) (hp : H p = none) : Ok S (upd H p u) A := ⟨o.nd, fun a ha => by
    have m := o.own a ha
    obtain ⟨x, e⟩ := mut_some m.2
    rw [upd_ne (ne_of_none e hp)]; exact m, fun a ha => by
    obtain ⟨x, e⟩ := o.dom a ha
    exact ⟨x, by rw [upd_ne (ne_of_none e hp)]; exact e⟩, tabs_keep o.tab fun b x e _ => by rw [upd_ne (ne_of_none e hp)]; exact e⟩
/-- a new object, owned -/
theorem Fr.newO {p : Addr} {u : HO} (o : Ok S H A) (hp : H p = none) : Fr S H A S (upd H p u) (A ++ [p]) :=
  ⟨fun a x e _ _ => by rw [upd_ne (ne_of_none e hp)]; exact e, fun _ h => h, fun _ h => .inl h, fun a h => (List.mem_append.mp h).imp id fun z => by rw [List.mem_singleton.mp z]; exact hp, fun a x e => ⟨x, by rw [upd_ne (ne_of_none e hp)]; exact e⟩⟩
theorem Ok.newO {p : Addr} {u : HO} (o : Ok S H A) (hp : H p = none) (hm : Mu (some u)) : Ok S (upd H p u) (A ++ [p]) := by
  have q := o.new (u := u) hp
  refine ⟨List.nodup_append.mpr ⟨o.nd, by simp, fun a ha b hb e => ?_⟩, fun a ha => ?_, q.dom, q.tab⟩
  · rw [List.mem_singleton] at hb
    subst e; subst hb
    have := (o.own a ha).2
    rw [hp] at this; exact this
  · rcases List.mem_append.mp ha with ha | ha
    · exact q.own a ha
    · rw [List.mem_singleton] at ha
      subst ha
      refine ⟨fun z => ?_, by rw [upd_same]; exact hm⟩
      obtain ⟨x, e⟩ := o.dom a z
      rw [hp] at e; cases e
/-- an owned object is changed -/
theorem Fr.mutate {p : Addr} {u : HO} (hp : p ∈ A) (o : Ok S H A) : Fr S H A S (upd H p u) A :=
  ⟨fun a x e n _ => by rw [upd_ne (show a ≠ p from fun z => n (by rw [z]; exact hp))]; exact e, fun _ h => h, fun _ h => .inl h, fun _ h => .inl h, fun a x e => by
    by_cases z : a = p
    · subst z; exact ⟨u, upd_same⟩
    · exact ⟨x, by rw [upd_ne z]; exact e⟩⟩
theorem Ok.mutate {p : Addr} {u : HO} (hp : p ∈ A) (o : Ok S H A) (hm : Mu (some u)) : Ok S (upd H p u) A := ⟨o.nd, fun a ha => by
    refine ⟨(o.own a ha).1, ?_⟩
    by_cases z : a = p
    · subst z; rw [upd_same]; exact hm
    · rw [upd_ne z]; exact (o.own a ha).2, fun a ha => by
    obtain ⟨x, e⟩ := o.dom a ha
    by_cases z : a = p
    · subst z; exact ⟨u, upd_same⟩
    · exact ⟨x, by rw [upd_ne z]; exact e⟩, tabs_keep o.tab fun b x e nm => by
    have m := (o.own p hp).2
    rw [upd_ne (fun z => nm (by rw [z] at e; rw [← e]; exact m))]; exact e⟩
end
end Cb

end
section
set_option maxRecDepth 100000
set_option maxHeartbeats 4000000
/-! the plain language: its terms, what they mean -/
namespace Cb
open PySem L2

/-! ### equality and order of data -/
mutual
def eqW : W → W → Bool
  | .non, .non => true
  | .bl a, .bl b => a == b
  | .bl a, .int b => (if a then 1 else 0) == b
  | .int a, .bl b => a == (if b then 1 else 0)
  | .int a, .int b => a == b
  | .str a, .str b => decide (a = b)
  | .tup a, .tup b => eqWs a b
  | .lst a, .lst b => eqWs a b
  | _, _ => false
def eqWs : List W → List W → Bool
  | [], [] => true
  | a :: r, b :: s => eqW a b && eqWs r s
  | _, _ => false
end
/-! data that == reads: no dict, no object -/
mutual
def plainW : W → Bool
  | .non => true
  | .bl _ => true
  | .int _ => true
  | .str x => PyData.strOk x
  | .tup a => plainWs a
  | .lst a => plainWs a
  | _ => false
def plainWs : List W → Bool
  | [] => true
  | a :: r => plainW a && plainWs r
end
mutual
def depW : W → Nat
  | .tup a => depWs a + 1
  | .lst a => depWs a + 1
  | _ => 0
def depWs : List W → Nat
  | [] => 0
  | a :: r => max (depW a) (depWs r)
end
def shW (a : W) : Bool := plainW a && decide (depW a ≤ 60)
def shWs (a : List W) : Bool := plainWs a && decide (depWs a ≤ 60)
/-! what < is asked of: ints, or tuples whose items can be compared place by place -/
mutual
def cmpW : W → W → Bool
  | .int _, .int _ => true
  | .tup a, .tup b => cmpWs a b
  | _, _ => false
def cmpWs : List W → List W → Bool
  | [], _ => true
  | _ :: _, [] => true
  | a :: r, b :: s => cmpW a b && cmpWs r s
end
mutual
def ltW : W → W → Bool
  | .int a, .int b => decide (a < b)
  | .tup a, .tup b => ltWs a b
  | _, _ => false
def ltWs : List W → List W → Bool
  | [], [] => false
  | [], _ :: _ => true
  | _ :: _, [] => false
  | a :: r, b :: s => if eqW a b then ltWs r s else ltW a b
end
/-- what is sorted: any two of them can be compared -/
def sortable (ws : List W) : Bool := shWs ws && ws.all fun a => ws.all (cmpW a)

/-! ### outcomes -/
/-- an error: its class, its fields -/
structure Ex where
  c : Str
  fs : List (Str × W)
inductive R (α : Type) where
  | ok (a : α) (e : Env)
  | ex (x : Ex) (e : Env)
  | bad
def R.bind {α β : Type} (r : R α) (k : α → Env → R β) : R β := match r with
  | .ok a e => k a e
  | .ex x e => .ex x e
  | .bad => .bad
/-- what a call gives: its value, the arguments as they stand behind it -/
inductive MR where
  | ok (z : Z) (back : List Z)
  | ex (x : Ex) (back : List Z)
  | bad
abbrev Mean := List Z → MR
inductive SR where
  | nx (e : Env) | rt (z : Z) (e : Env) | bk (e : Env) | ct (e : Env) | ex (x : Ex) (e : Env) | bad
/-- an operand: a value, or a slot that is read when the operation runs -/
inductive Od where
  | w (x : W) | s (i : Nat)

/-! ### terms -/
inductive Ty where
  | int | bool | tuple | list | dict | str | own (c : Str)
/-- operations on operands; the Python that they stand for is told by mPr -/
inductive Pr where
  | add | sub | mul | fdiv | mod | pow | shl | shr | band
  | eq | ne | lt | le | gt | ge | inn | nin | isNon | notNon | isBl (b : Bool)
  | ix | sl (lo hi : Option Int) | slFrom | slTo | fld (cs : List Str) (f : Str)
  | len | all | any | abs | int | min | max | sum | sorted | list | tuple | neg
  | isinst (ts : List Ty) | sortedLen (x : Str) (n : Int)
  | sset | get | index | count | sortK | sortLT | isB | notB
/-- what a loop walks -/
inductive Itk where
  | val | rng1 | rng2 | enum | zip | enT | rgv
inductive Tg where
  | nm (i : Nat) | tup (is : List Nat)
/-- methods that change their object -/
inductive Mt where
  | append | extend | pop0 | pop1 | clear
mutual
inductive E where
  | var (i : Nat)
  | c (w : W)
  | gl (x : Str) (w : W)
  | tup (es : Es) | lst (es : Es) | dic (ks : List Str) (es : Es)
  | pr (p : Pr) (es : Es)
  | and (es : Es) | or (es : Es) | not (e : E) | ite (c a b : E)
  | chain (es : Es)
  | call (nm : Str) (m : Mean) (es : Es)
  | mk (cls : Str) (m : Mean) (es : Es)
  | mut (t : Mt) (i : Nat) (es : Es)
  | lc (own : List (Str × Nat)) (tg : Tg) (k : Itk) (ies : Es) (ifs : Es) (el : E)
inductive Es where
  | nil | cons (e : E) (es : Es)
end
mutual
inductive S where
  | set (i : Nat) (e : E)
  | setT (is : List Nat) (e : E)
  | par (is : List Nat) (es : Es)
  | setSub (i : Nat) (k e : E)
  | setFld (i : Nat) (f : Str) (e : E)
  | aug (i : Nat) (p : Pr) (e : E)
  | ex (e : E)
  | ite (c : E) (a b : Ss)
  | for_ (tg : Tg) (k : Itk) (es : Es) (b : Ss)
  | while_ (fuel : Env → Nat) (c : E) (b : Ss)
  | ret (e : E) | retv (i : Nat) | retN
  | pass | bk | ct
  | never
inductive Ss where
  | nil | cons (s : S) (ss : Ss)
end

/-! ### operations -/
def asInts : List W → Option (List Int)
  | [] => some []
  | .int i :: r => (asInts r).map (i :: ·)
  | _ => none
def asBls : List W → Option (List Bool)
  | [] => some []
  | .bl i :: r => (asBls r).map (i :: ·)
  | _ => none
/-- insertion, stable: behind all that are not above -/
def insW (lt : W → W → Bool) (x : W) : List W → List W
  | [] => [x]
  | y :: r => if lt y x then y :: insW lt x r else x :: y :: r
def sortW (lt : W → W → Bool) : List W → List W
  | [] => []
  | x :: r => insW lt x (sortW lt r)
def bnd (n : Int) : Bool := decide (-(2 ^ 62) ≤ n) && decide (n < 2 ^ 62)
def kOf : W → Option Key
  | .int i => some (.inl i)
  | .str x => some (.inr x)
  | _ => none
def isKit : W → Bool
  | .obj _ _ => false
  | .rng _ _ => false
  | _ => true
def isTy : Ty → W → Bool
  | .int, .int _ => true
  | .int, .bl _ => true
  | .bool, .bl _ => true
  | .tuple, .tup _ => true
  | .list, .lst _ => true
  | .list, .scr _ => true
  | .dict, .dK _ => true
  | .dict, .dT _ => true
  | .str, .str _ => true
  | .own c, .obj d _ => decide (c = d)
  | _, _ => false
def small (i : Int) : Bool := decide (-(2 ^ 64) < i) && decide (i < 2 ^ 64)
def mulOk (i j : Int) : Bool := small i || small j || decide (i.natAbs.log2 + j.natAbs.log2 < 1000000)
def sizeOk (n : Nat) : Bool := decide (n ≤ 16777216)
/-- in its place, or at the end -/
def dput (k : Key) (v : W) (kvs : List (Key × W)) : List (Key × W) :=
  if (kvs.any fun kv => decide (kv.1 = k)) = true then kvs.map (fun kv => if kv.1 = k then (kv.1, v) else kv) else kvs ++ [(k, v)]
def dgetW (k : Key) : List (Key × W) → Option W
  | [] => none
  | (a, b) :: r => if a = k then some b else dgetW k r
def dedup : List Int → List Int
  | [] => []
  | x :: r => if x ∈ r then dedup r else x :: dedup r
def isNonW : W → Bool
  | .non => true
  | _ => false
def isBlW (b : Bool) : W → Option Bool
  | .bl c => some (decide (c = b))
  | _ => none
/-! what the operations give, of the operands as they are seen -/
def p_add : List W → Option Z
  | [.int i, .int j] => some (.w (.int (i + j)))
  | [.tup a, .tup b] => if sizeOk (a.length + b.length) then some (.w (.tup (a ++ b))) else none
  | [.lst a, .lst b] => if sizeOk (a.length + b.length) then some (.L (a ++ b)) else none
  | _ => none
def p_sub : List W → Option Z
  | [.int i, .int j] => some (.w (.int (i - j)))
  | _ => none
def p_mul : List W → Option Z
  | [.int i, .int j] => if mulOk i j then some (.w (.int (i * j))) else none
  | [.lst a, .int k] => if bnd k && decide (a.length * k.toNat ≤ 16777216) then some (.L (List.replicate k.toNat a).flatten) else none
  | _ => none
/-- x is y of bools -/
def p_isB : List W → Option Z
  | [.bl a, .bl b] => some (.w (.bl (decide (a = b))))
  | _ => none
def p_notB : List W → Option Z
  | [.bl a, .bl b] => some (.w (.bl (!decide (a = b))))
  | _ => none
def p_fdiv : List W → Option Z
  | [.int i, .int j] => if decide (0 < j) && decide (j.natAbs.log2 < 9000) then some (.w (.int (i / j))) else none
  | _ => none
def p_mod : List W → Option Z
  | [.int i, .int j] => if decide (0 < j) then some (.w (.int (i % j))) else none
  | _ => none
def p_pow : List W → Option Z
  | [.int i, .int j] => if small i && decide (0 ≤ j) && decide (j ≤ 1000000) then some (.w (.int (i ^ j.toNat))) else none
  | _ => none
def p_neg : List W → Option Z
  | [.int i] => some (.w (.int (-i)))
  | _ => none
def p_eq : List W → Option Z
  | [a, b] => if shW a && shW b then some (.w (.bl (eqW a b))) else none
  | _ => none
def p_ne : List W → Option Z
  | [a, b] => if shW a && shW b then some (.w (.bl (!eqW a b))) else none
  | _ => none
def p_lt : List W → Option Z
  | [.int i, .int j] => some (.w (.bl (decide (i < j))))
  | [.tup a, .tup b] => if cmpWs a b && shWs a && shWs b then some (.w (.bl (ltWs a b))) else none
  | _ => none
def p_le : List W → Option Z
  | [.int i, .int j] => some (.w (.bl (decide (i ≤ j))))
  | _ => none
def p_gt : List W → Option Z
  | [.int i, .int j] => some (.w (.bl (decide (j < i))))
  | _ => none
def p_ge : List W → Option Z
  | [.int i, .int j] => some (.w (.bl (decide (j ≤ i))))
  | _ => none
def p_inn : List W → Option Z
  | [a, .tup b] => if shW a && shWs b then some (.w (.bl (b.any fun x => eqW x a))) else none
  | [a, .lst b] => if shW a && shWs b then some (.w (.bl (b.any fun x => eqW x a))) else none
  | [a, .dK b] => (kOf a).map fun k => .w (.bl (dgetW k b).isSome)
  | _ => none
def p_nin : List W → Option Z
  | [a, .tup b] => if shW a && shWs b then some (.w (.bl (!b.any fun x => eqW x a))) else none
  | [a, .lst b] => if shW a && shWs b then some (.w (.bl (!b.any fun x => eqW x a))) else none
  | [a, .dK b] => (kOf a).map fun k => .w (.bl (!(dgetW k b).isSome))
  | _ => none
def p_isNon : List W → Option Z
  | [a] => some (.w (.bl (isNonW a)))
  | _ => none
def p_notNon : List W → Option Z
  | [a] => some (.w (.bl (!isNonW a)))
  | _ => none
def p_isBl (b : Bool) : List W → Option Z
  | [a] => (isBlW b a).map fun c => .w (.bl c)
  | _ => none
def p_ix : List W → Option Z
  | [.lst a, .int i] => (atI a i).map .w
  | [.tup a, .int i] => (atI a i).map .w
  | [.dK a, k] => (kOf k).bind fun k => (dgetW k a).map .w
  | _ => none
def p_sl (lo : Option Int) (hi : Option Int) : List W → Option Z
  | [.tup a] => some (.w (.tup ((a.drop (HT.sIx a.length 0 lo)).take (HT.sIx a.length a.length hi - HT.sIx a.length 0 lo))))
  | [.lst a] => some (.L ((a.drop (HT.sIx a.length 0 lo)).take (HT.sIx a.length a.length hi - HT.sIx a.length 0 lo)))
  | [.scr a] => some (.L (((a.drop (HT.sIx a.length 0 lo)).take (HT.sIx a.length a.length hi - HT.sIx a.length 0 lo)).map .int))
  | _ => none
def p_slFrom : List W → Option Z
  | [.lst a, .int i] => some (.L ((a.drop (HT.sIx a.length 0 (some i))).take (a.length - HT.sIx a.length 0 (some i))))
  | [.tup a, .int i] => some (.w (.tup ((a.drop (HT.sIx a.length 0 (some i))).take (a.length - HT.sIx a.length 0 (some i)))))
  | _ => none
def p_fld (cs : List Str) (f : Str) : List W → Option Z
  | [.obj c fs] => if cs.contains c then (fs.lookup f).map .w else none
  | _ => none
def p_len : List W → Option Z
  | [.tup a] => some (.w (.int a.length))
  | [.lst a] => some (.w (.int a.length))
  | [.dK a] => some (.w (.int a.length))
  | _ => none
def p_all : List W → Option Z
  | [.lst a] => (asBls a).map fun bs => .w (.bl (bs.all id))
  | _ => none
def p_any : List W → Option Z
  | [.lst a] => (asBls a).map fun bs => .w (.bl (bs.any id))
  | _ => none
def p_abs : List W → Option Z
  | [.int i] => some (.w (.int (if i < 0 then -i else i)))
  | _ => none
def p_int : List W → Option Z
  | [.int i] => some (.w (.int i))
  | _ => none
def p_sum : List W → Option Z
  | [.lst a] => (asInts a).map fun ns => .w (.int ns.sum)
  | _ => none
/-- the first of the least -/
def minF : W → List W → W
  | b, [] => b
  | b, x :: r => minF (if ltW x b then x else b) r
def minW : List W → Option W
  | [] => none
  | x :: r => some (minF x r)
def p_min : List W → Option Z
  | [.lst a] => if sortable a then (minW a).map .w else none
  | [.int i, .int j] => some (.w (.int (if j < i then j else i)))
  | _ => none
/-- the first place of an equal one -/
def idxW (a : W) : List W → Option Nat
  | [] => none
  | x :: r => if eqW x a then some 0 else (idxW a r).map fun n => n + 1
def p_index : List W → Option Z
  | [.tup b, a] => if shW a && shWs b then (idxW a b).map fun n => .w (.int (n : Nat)) else none
  | [.lst b, a] => if shW a && shWs b then (idxW a b).map fun n => .w (.int (n : Nat)) else none
  | _ => none
def intKeys : List (Key × W) → Option (List Int)
  | [] => some []
  | (.inl i, _) :: r => (intKeys r).map (i :: ·)
  | _ => none
def p_max : List W → Option Z
  | [.lst a] => (asInts a).bind fun ns => ns.max?.map fun m => .w (.int m)
  | _ => none
def p_list : List W → Option Z
  | [.tup a] => some (.L a)
  | [.lst a] => some (.L a)
  | _ => none
def p_tuple : List W → Option Z
  | [.tup a] => some (.w (.tup a))
  | [.lst a] => some (.w (.tup a))
  | _ => none
def p_sorted : List W → Option Z
  | [.lst a] => if sortable a then some (.L (sortW ltW a)) else none
  | _ => none
/-- sorted(d), d with few ints as keys -/
def p_sortK : List W → Option Z
  | [.dK a] => if decide (a.length < 64) then (intKeys a).map fun ks => .L (sortW ltW (ks.map .int)) else none
  | _ => none
def p_isinst (ts : List Ty) : List W → Option Z
  | [a] => if isKit a then some (.w (.bl (ts.any fun t => isTy t a))) else none
  | _ => none
/-- each once -/
def dedupW : List W → List W
  | [] => []
  | x :: r => if (r.any fun y => eqW y x) then dedupW r else x :: dedupW r
def pairW : W → Option (Int × Int)
  | .tup [.int i, .int j] => if decide (0 ≤ i) && decide (i < 64) && decide (0 ≤ j) && decide (j < 64) then some (i, j) else none
  | _ => none
def pairsW : List W → Option (List (Int × Int))
  | [] => some []
  | w :: ws => match pairW w, pairsW ws with
    | some p, some ps => some (p :: ps)
    | _, _ => none
/-- sorted(set(xs)), xs few ints or few tuples of ints -/
def isI : W → Bool
  | .int _ => true
  | _ => false
def isIT : W → Bool
  | .tup l => (asInts l).isSome
  | _ => false
def p_sset : List W → Option Z
  | [.tup a] => if (a.all isI || a.all isIT) && sortable a && decide (a.length < 64) then some (.L (sortW ltW (dedupW a))) else none
  | [.lst a] => if a.all isIT && sortable a && decide (a.length < 64) then some (.L (sortW ltW (dedupW a))) else none
  | _ => none
/-- sorted(xs, key=lambda x: (len(x), x)), xs tuples of ints -/
def keyLW : W → W
  | .tup l => .tup [.int (l.length : Nat), .tup l]
  | w => w
def unKey : W → W
  | .tup [_, w] => w
  | w => w
def p_sortLT : List W → Option Z
  | [.lst a] => if a.all isIT && sortable (a.map keyLW) then some (.L ((sortW ltW (a.map keyLW)).map unKey)) else none
  | _ => none
def prW : Pr → List W → Option Z
  | .add => p_add
  | .sub => p_sub
  | .mul => p_mul
  | .fdiv => p_fdiv
  | .mod => p_mod
  | .pow => p_pow
  | .neg => p_neg
  | .eq => p_eq
  | .ne => p_ne
  | .lt => p_lt
  | .le => p_le
  | .gt => p_gt
  | .ge => p_ge
  | .inn => p_inn
  | .nin => p_nin
  | .isNon => p_isNon
  | .notNon => p_notNon
  | .isBl b => p_isBl b
  | .ix => p_ix
  | .sl lo hi => p_sl lo hi
  | .slFrom => p_slFrom
  | .fld cs f => p_fld cs f
  | .len => p_len
  | .all => p_all
  | .any => p_any
  | .abs => p_abs
  | .int => p_int
  | .sum => p_sum
  | .min => p_min
  | .max => p_max
  | .list => p_list
  | .tuple => p_tuple
  | .sorted => p_sorted
  | .isinst ts => p_isinst ts
  | .sset => p_sset
  | .index => p_index
  | .sortK => p_sortK
  | .sortLT => p_sortLT
  | .isB => p_isB
  | .notB => p_notB
  | _ => fun _ => none
def itW : Itk → List W → Option (List W)
  | .val, [.lst a] => some a
  | .val, [.tup a] => some a
  | .rng1, [.int n] => if bnd n then some ((List.range n.toNat).map fun (k : Nat) => .int (k : Int)) else none
  | .rng2, [.int m, .int n] => if bnd m && bnd n then some ((List.range (n - m).toNat).map fun (k : Nat) => .int (m + (k : Int))) else none
  | .rgv, [.rng m n] => if bnd m && bnd n then some ((List.range (n - m).toNat).map fun (k : Nat) => .int (m + (k : Int))) else none
  | .enum, [.lst a] => some (a.zipIdx.map fun p => .tup [.int (p.2 : Int), p.1])
  | .enT, [.tup a] => some (a.zipIdx.map fun p => .tup [.int (p.2 : Int), p.1])
  | .zip, [.lst a, .lst b] => some ((a.zip b).map fun p => .tup [p.1, p.2])
  | .zip, [.tup a, .tup b] => some ((a.zip b).map fun p => .tup [p.1, p.2])
  | _, _ => none
def mtZ : Mt → Z → List W → Option (Z × Z)
  | .append, .L a, [x] => if decide (a.length < 16777216) then some (.w .non, .L (a ++ [x])) else none
  | .extend, .L a, [.lst b] => if sizeOk (a.length + b.length) then some (.w .non, .L (a ++ b)) else none
  | .pop0, .L a, [] => (a[a.length - 1]?).map fun x => (.w x, .L a.dropLast)
  | .pop1, .L a, [.int i] => if bnd i then (seqIndex? i a.length).bind fun k => (a[k]?).map fun x => (.w x, .L (a.eraseIdx k)) else none
  | .clear, .L _, [] => some (.w .non, .L [])
  | _, _, _ => none

/-! ### slots -/
/-- a caught error is not read like a value -/
def okZ : Option Z → Option Z
  | some .err => none
  | o => o
def gets : Env → Nat → Option Z
  | [], _ => none
  | o :: _, 0 => okZ o
  | _ :: r, i + 1 => gets r i
theorem okZ_iff {o : Option Z} {z : Z} : okZ o = some z ↔ o = some z ∧ z ≠ .err := by
  cases o with
  | none => simp [okZ]
  | some y =>
    cases y with
    | err => simp only [okZ]; exact ⟨fun h => (nomatch h), fun ⟨h1, h2⟩ => absurd (Option.some.inj h1).symm h2⟩
    | _ => simp only [okZ, Option.some.injEq]; exact ⟨fun h => ⟨h, h ▸ Z.noConfusion⟩, fun h => h.1⟩
theorem gets_iff : ∀ {env : Env} {i : Nat} {z : Z}, gets env i = some z ↔ env[i]? = some (some z) ∧ z ≠ .err
  | [], _, _ => by simp [gets]
  | o :: r, 0, _ => by simp [gets, okZ_iff]
  | o :: r, i + 1, _ => by simp [gets, gets_iff]
def Od.res (env : Env) : Od → Option Z
  | .w x => some (.w x)
  | .s i => gets env i
def resAll (env : Env) : List Od → Option (List Z)
  | [] => some []
  | o :: r => match o.res env, resAll env r with
    | some z, some zs => some (z :: zs)
    | _, _ => none
def isOwn : Z → Bool
  | .w _ => false
  | _ => true
/-- the slots whose objects a call is lent -/
def lent : List Od → List Z → List Nat
  | .s i :: r, z :: zs => if isOwn z then i :: lent r zs else lent r zs
  | _ :: r, _ :: zs => lent r zs
  | _, _ => []
def putBack : List Od → List Z → List Z → Env → Env
  | .s i :: r, z :: zs, b :: bs, env => putBack r zs bs (if isOwn z then env.set i (some b) else env)
  | _ :: r, _ :: zs, _ :: bs, env => putBack r zs bs env
  | _, _, _, env => env
def nodupB : List Nat → Bool
  | [] => true
  | x :: r => !r.contains x && nodupB r
def callM (m : Mean) (ods : List Od) (env : Env) : R Z := match resAll env ods with
  | none => .bad
  | some zs => if nodupB (lent ods zs) then (match m zs with
    | .ok z back => if back.length = zs.length then .ok z (putBack ods zs back env) else .bad
    | .ex x back => if back.length = zs.length then .ex x (putBack ods zs back env) else .bad
    | .bad => .bad) else .bad
/-- C(..): m is what __init__ means -/
def makeM (c : Str) (m : Mean) (ods : List Od) (env : Env) : R Z := match resAll env ods with
  | none => .bad
  | some zs => if (lent ods zs).isEmpty then (match m (.obj c [] :: zs) with
    | .ok (.w .non) (z :: _) => .ok z env
    | .ex x _ => .ex x env
    | _ => .bad) else .bad
def primM (p : Pr) (ods : List Od) (env : Env) : R Z := match resAll env ods with
  | none => .bad
  | some zs => match prW p (zs.map frz) with
    | some z => .ok z env
    | none => .bad
def isL : Option Z → Bool
  | some (.L _) => true
  | _ => false
def mutM (t : Mt) (i : Nat) (ws : List W) (env : Env) : R Z := match gets env i with
  | some z => (match mtZ t z ws with
    | some (v, z') => .ok v (env.set i (some z'))
    | none => .bad)
  | none => .bad
def setMany : List Nat → List W → Env → SR
  | [], [], env => .nx env
  | i :: is, w :: ws, env => if i < env.length then setMany is ws (env.set i (some (.w w))) else .bad
  | _, _, _ => .bad
def setTg : Tg → W → Env → Option Env
  | .nm i, w, env => if i < env.length then some (env.set i (some (.w w))) else none
  | .tup is, .tup ws, env => (match setMany is ws env with
    | .nx e => some e
    | _ => none)
  | _, _, _ => none
def wipeE (env : Env) : List Nat → Env
  | [] => env
  | v :: vs => (wipeE env vs).set v none
/-- the block's own names again as they were ahead of it (what was owned is given up) -/
def restE (env0 env : Env) : List Nat → Env
  | [] => env
  | v :: vs => (restE env0 env vs).set v (match gets env0 v with
    | some (.w x) => some (.w x)
    | _ => none)
def lcLoop (body : W → Env → R (Option W)) : List W → Env → List W → R (List W)
  | [], env, acc => .ok acc env
  | w :: ws, env, acc => (body w env).bind fun x env => match x with
    | none => lcLoop body ws env acc
    | some y => if acc.length < 16777216 then lcLoop body ws env (acc ++ [y]) else .bad
def asB (z : Z) : Option Bool := match z with
  | .w (.bl b) => some b
  | _ => none
/-! each construct's meaning, from those of its parts -/
abbrev Den (α : Type) := Env → R α
def cVar (i : Nat) : Den Z := fun env => match gets env i with
  | some z => .ok (.w (frz z)) (env.set i (some (.w (frz z))))
  | none => .bad
def cC (w : W) : Den Z := fun env => .ok (.w w) env
def cTup (d : Den (List W)) : Den Z := fun env => (d env).bind fun ws env => if sizeOk ws.length then .ok (.w (.tup ws)) env else .bad
def cLst (d : Den (List W)) : Den Z := fun env => (d env).bind fun ws env => if sizeOk ws.length then .ok (.L ws) env else .bad
def cDic (ks : List Str) (d : Den (List W)) : Den Z := fun env => (d env).bind fun ws env => if decide (ks.length = ws.length) && decide ks.Nodup && sizeOk ws.length then .ok (.dK ((ks.map Sum.inr).zip ws)) env else .bad
def cPr (p : Pr) (d : Den (List Od)) : Den Z := fun env => (d env).bind (primM p)
def cB (d : Den Bool) : Den Z := fun env => (d env).bind fun b env => .ok (.w (.bl b)) env
def cT (d : Den Z) : Den Bool := fun env => (d env).bind fun z env => match asB z with
  | some b => .ok b env
  | none => .bad
def cNot (d : Den Bool) : Den Bool := fun env => (d env).bind fun b env => .ok (!b) env
def cIte {α : Type} (t : Den Bool) (a b : Den α) : Den α := fun env => (t env).bind fun t env => if t then a env else b env
def cAnd (d e : Den Bool) : Den Bool := fun env => (d env).bind fun b env => if b then e env else .ok false env
def cOr (d e : Den Bool) : Den Bool := fun env => (d env).bind fun b env => if b then .ok true env else e env
def cChain (d : Den (List W)) : Den Z := fun env => (d env).bind fun ws env => match ws with
  | [.int i, .int j, .int k] => .ok (.w (.bl (decide (i ≤ j) && decide (j ≤ k)))) env
  | _ => .bad
def cCall (m : Mean) (d : Den (List Od)) : Den Z := fun env => (d env).bind (callM m)
def cMk (c : Str) (m : Mean) (d : Den (List Od)) : Den Z := fun env => (d env).bind (makeM c m)
def cMut (t : Mt) (i : Nat) (d : Den (List W)) : Den Z := fun env => if isL (gets env i) then (d env).bind (mutM t i) else .bad
def lcTurn (vs : List Nat) (tg : Tg) (t : Den Bool) (d : Den Z) (w : W) (env : Env) : R (Option W) := match setTg tg w env with
  | none => .bad
  | some env => (t env).bind fun b env => if b then (d env).bind fun y env => .ok (some (frz y)) (wipeE env vs) else .ok none (wipeE env vs)
def noX {α : Type} (r : R α) : R α := match r with
  | .ex _ _ => .bad
  | r => r
def cIt (k : Itk) (d : Den (List W)) : Den (List W) := fun env => (d env).bind fun zs env => match itW k zs with
  | some items => .ok items env
  | none => .bad
def cLc (vs : List Nat) (tg : Tg) (k : Itk) (di : Den (List W)) (t : Den Bool) (d : Den Z) : Den Z := fun env => (cIt k di env).bind fun items env1 =>
  (noX (lcLoop (lcTurn vs tg t d) items (wipeE env1 vs) [])).bind fun ys env2 => .ok (.L ys) (restE env1 env2 vs)
def cNil {α : Type} : Den (List α) := fun env => .ok [] env
def cCons (d : Den Z) (ds : Den (List W)) : Den (List W) := fun env => (d env).bind fun z env => (ds env).bind fun ws env => .ok (frz z :: ws) env
def cOd (d : Den Z) : Den Od := fun env => (d env).bind fun z env => .ok (.w (frz z)) env
def cOs (i : Nat) : Den Od := fun env => match gets env i with
  | some _ => .ok (.s i) env
  | none => .bad
def cConsO (d : Den Od) (ds : Den (List Od)) : Den (List Od) := fun env => (d env).bind fun z env => (ds env).bind fun ws env => .ok (z :: ws) env
def cTrue : Den Bool := fun env => .ok true env
def cFalse : Den Bool := fun env => .ok false env
mutual
def evE : E → Den Z
  | .var i => cVar i
  | .c w => cC w
  | .gl _ w => cC w
  | .tup es => cTup (evWs es)
  | .lst es => cLst (evWs es)
  | .dic ks es => cDic ks (evWs es)
  | .pr p es => cPr p (evOs es)
  | .and es => cB (evAnd es)
  | .or es => cB (evOr es)
  | .not e => cB (cNot (cT (evE e)))
  | .ite c a b => cIte (cT (evE c)) (evE a) (evE b)
  | .chain es => cChain (evWs es)
  | .call _ m es => cCall m (evOs es)
  | .mk c m es => cMk c m (evOs es)
  | .mut t i es => cMut t i (evWs es)
  | .lc own tg k ies ifs el => cLc (own.map (·.2)) tg k (evWs ies) (evAnd ifs) (evE el)
def evWs : Es → Den (List W)
  | .nil => cNil
  | .cons e es => cCons (evE e) (evWs es)
def evOs : Es → Den (List Od)
  | .nil => cNil
  | .cons e es => cConsO (match e with | .var i => cOs i | e => cOd (evE e)) (evOs es)
def evAnd : Es → Den Bool
  | .nil => cTrue
  | .cons e es => cAnd (cT (evE e)) (evAnd es)
def evOr : Es → Den Bool
  | .nil => cFalse
  | .cons e es => cOr (cT (evE e)) (evOr es)
end

/-! ### statements -/
def evFor (g : W → Env → Option Env) (b : Env → SR) : List W → Env → SR
  | [], env => .nx env
  | w :: ws, env => match g w env with
    | none => .bad
    | some env => match b env with
      | .nx env => evFor g b ws env
      | .ct env => evFor g b ws env
      | .bk env => .nx env
      | r => r
def evWhile (c : Env → R Bool) (b : Env → SR) : Nat → Env → SR
  | 0, _ => .bad
  | n + 1, env => match c env with
    | .ok true env => (match b env with
      | .nx env => evWhile c b n env
      | .ct env => evWhile c b n env
      | .bk env => .nx env
      | r => r)
    | .ok false env => .nx env
    | .ex x env => .ex x env
    | .bad => .bad
def SR.of (r : R SR) : SR := match r with
  | .ok s _ => s
  | .ex x e => .ex x e
  | .bad => .bad
def setSl (i : Nat) (z : Z) (env : Env) : SR := if i < env.length then .nx (env.set i (some z)) else .bad
def setItem (o : Z) (k v : W) : Option Z := match o with
  | .L ws => (match k with
    | .int i => (ixN ws.length i).map fun j => .L (ws.set j v)
    | _ => none)
  | .dK kvs => (match kOf k with
    | some k => if decide (kvs.length < 16777216) then some (.dK (dput k v kvs)) else none
    | none => none)
  | _ => none
def putFW (f : Str) (v : W) : List (Str × W) → List (Str × W)
  | [] => [(f, v)]
  | (g, b) :: r => if g = f then (f, v) :: r else (g, b) :: putFW f v r
abbrev DenS := Env → SR
def kSet (i : Nat) (d : Den Z) : DenS := fun env => SR.of ((d env).bind fun z env => .ok (setSl i z env) env)
def kSetT (is : List Nat) (d : Den Z) : DenS := fun env => SR.of ((d env).bind fun z env => match frz z with
    | .tup ws => .ok (setMany is ws env) env
    | _ => .bad)
def kPar (is : List Nat) (d : Den (List W)) : DenS := fun env => SR.of ((d env).bind fun ws env => .ok (setMany is ws env) env)
def kSetSub (i : Nat) (dk d : Den Z) : DenS := fun env => SR.of ((d env).bind fun v env => match gets env i with
    | none => .bad
    | some _ => (dk env).bind fun k env => match gets env i with
      | some o => (match setItem o (frz k) (frz v) with
        | some o => .ok (.nx (env.set i (some o))) env
        | none => .bad)
      | none => .bad)
def kSetFld (cs : List Str) (i : Nat) (f : Str) (d : Den Z) : DenS := fun env => SR.of ((d env).bind fun v env => match gets env i with
    | some (.obj c fs) => if cs.contains c && decide (fs.length < 1000) then .ok (.nx (env.set i (some (.obj c (putFW f (frz v) fs))))) env else .bad
    | _ => .bad)
def kAug (i : Nat) (p : Pr) (d : Den Z) : DenS := fun env => SR.of (match gets env i with
    | some (.w (.int a)) => (d env).bind fun z env => match prW p [.int a, frz z] with
      | some (.w w) => .ok (setSl i (.w w) env) env
      | _ => .bad
    | _ => .bad)
def kEx (d : Den Z) : DenS := fun env => SR.of ((d env).bind fun _ env => .ok (.nx env) env)
def kIte (t : Den Bool) (a b : DenS) : DenS := fun env => SR.of ((t env).bind fun t env => .ok (if t then a env else b env) env)
def kFor (tg : Tg) (k : Itk) (d : Den (List W)) (b : DenS) : DenS := fun env => SR.of ((cIt k d env).bind fun items env => .ok (evFor (setTg tg) b items env) env)
def kWhile (f : Env → Nat) (t : Den Bool) (b : DenS) : DenS := fun env => evWhile t b (f env) env
def kRet (d : Den Z) : DenS := fun env => SR.of ((d env).bind fun z env => .ok (.rt z env) env)
def kRetv (i : Nat) : DenS := fun env => match gets env i with
    | some z => .rt z (env.set i none)
    | none => .bad
def kSeq (a b : DenS) : DenS := fun env => match a env with
    | .nx env => b env
    | r => r
mutual
def evS : S → DenS
  | .set i e => kSet i (evE e)
  | .setT is e => kSetT is (evE e)
  | .par is es => kPar is (evWs es)
  | .setSub i k e => kSetSub i (evE k) (evE e)
  | .setFld i f e => kSetFld [] i f (evE e)
  | .aug i p e => kAug i p (evE e)
  | .ex e => kEx (evE e)
  | .ite c a b => kIte (cT (evE c)) (evSs a) (evSs b)
  | .for_ tg k es b => kFor tg k (evWs es) (evSs b)
  | .while_ f c b => kWhile f (cT (evE c)) (evSs b)
  | .ret e => kRet (evE e)
  | .retv i => kRetv i
  | .retN => fun env => .rt (.w .non) env
  | .pass => fun env => .nx env
  | .bk => fun env => .bk env
  | .ct => fun env => .ct env
  | .never => fun _ => .bad
def evSs : Ss → DenS
  | .nil => fun env => .nx env
  | .cons s ss => kSeq (evS s) (evSs ss)
end
/-- a def: its parameters' number, its slots' number, which parameters are never stored -/
structure Df where
  np : Nat
  ns : Nat
  keeps : List Nat
  body : DenS
def backOf (d : Df) (zs : List Z) (env : Env) : Option (List Z) := (List.range d.np).mapM fun i =>
  if d.keeps.contains i then gets env i else (match zs[i]? with
    | some (.w x) => some (.w x)
    | _ => none)
def evD (d : Df) : Mean := fun zs => if zs.length = d.np then (match d.body (zs.map some ++ List.replicate (d.ns - d.np) none) with
  | .nx e => (match backOf d zs e with | some b => .ok (.w .non) b | none => .bad)
  | .rt z e => (match backOf d zs e with | some b => .ok z b | none => .bad)
  | .ex x e => (match backOf d zs e with | some b => .ex x b | none => .bad)
  | _ => .bad) else .bad
end Cb

end
section
set_option maxRecDepth 100000
set_option maxHeartbeats 4000000
/-! what a term's meaning promises of the machine -/
namespace Cb
open PySem PySem.Spec PyProof.Rows L2

/-- an error of the class x.c with these fields -/
def XR (G : Gc) (S : AS) (H : Hp) (x : Ex) (cls : Value) (d : Option Addr) : Prop :=
  ∃ C, G.cm x.c = some C ∧ cls = .ref C ∧ XdR G S H x.fs d
abbrev Rel (α β : Type) := L2.St → AS → Hp → α → β → List Addr → Prop
def Out [Tb] {α β : Type} (G : Gc) (U : L2.WX) (σ : L2.St) (S : AS) (H : Hp) (A : List Addr) (rel : Rel α β) (r : R α) (Q : β → Hp → Prop) : Prop := match r with
  | .ok a e => ∀ b H' S' A' B, EnvR G S' H' e σ A' → rel σ S' H' a b B → Ok S' H' (B ++ A') → Fr S H A S' H' (B ++ A') → Q b H'
  | .ex x e => ∀ cls d H' S' A', XR G S' H' x cls d → EnvR G S' H' e σ A' → Ok S' H' A' → Fr S H A S' H' A' → U cls d σ H'
  | .bad => False
def tD [Tb] {α β : Type} (G : Gc) (U : L2.WX) (rel : Rel α β) (d : Den α) : L2.St → Hp → (β → Hp → Prop) → Prop := fun σ H Q =>
  ∃ env S A, EnvR G S H env σ A ∧ Ok S H A ∧ Out G U σ S H A rel (d env) Q

def rZ (G : Gc) : Rel Z V := fun _ S H z v B => RZ G S H z v B
def rW (G : Gc) : Rel W V := fun _ S H w v B => Rp G S H w v ∧ B = []
def rWs (G : Gc) : Rel (List W) (List V) := fun _ S H w v B => Rps G S H w v ∧ B = []
def OdR (G : Gc) (σ : L2.St) (S : AS) (H : Hp) : Od → V → Prop
  | .w x, v => Rp G S H x v
  | .s i, v => σ[i]? = some (some v)
def rO (G : Gc) : Rel Od V := fun σ S H o v B => OdR G σ S H o v ∧ B = []
def OdRs (G : Gc) (σ : L2.St) (S : AS) (H : Hp) : List Od → List V → Prop
  | [], vs => vs = []
  | o :: os, vs => ∃ v r, vs = v :: r ∧ OdR G σ S H o v ∧ OdRs G σ S H os r
def rOs (G : Gc) : Rel (List Od) (List V) := fun σ S H o v B => OdRs G σ S H o v ∧ B = []
def rB : Rel Bool Bool := fun _ _ _ a b B => a = b ∧ B = []

section
variable [Tb] {G : Gc} {U : L2.WX} {σ : L2.St} {S S1 : AS} {H H1 : Hp} {A A1 : List Addr} {α β γ δ : Type}
theorem Out.mono {rel : Rel α β} {r : R α} {Q Q' : β → Hp → Prop} (h : Out G U σ S H A rel r Q) (hq : ∀ b H', Q b H' → Q' b H') : Out G U σ S H A rel r Q' := by
  cases r with
  | ok a e => exact fun b H' S' A' B h1 h2 h3 h4 => hq _ _ (h b H' S' A' B h1 h2 h3 h4)
  | ex x e => exact h
  | bad => exact h
theorem Out.from {rel : Rel α β} {r : R α} {Q : β → Hp → Prop} (h : Out G U σ S H A rel r Q) (f : Fr S H A S1 H1 A1) : Out G U σ S1 H1 A1 rel r Q := by
  cases r with
  | ok a e => exact fun b H' S' A' B h1 h2 h3 h4 => h b H' S' A' B h1 h2 h3 (f.trans h4)
  | ex x e => exact fun cls d H' S' A' h1 h2 h3 h4 => h cls d H' S' A' h1 h2 h3 (f.trans h4)
  | bad => exact h
/-- the first part has come to a at env1; what follows it -/
structure Nxt [Tb] {α β : Type} (G : Gc) (σ : L2.St) (S : AS) (H : Hp) (A : List Addr) (rel : Rel α β) (r : R α) (b : β) (H1 : Hp) (P : AS → List Addr → α → Env → Prop) : Prop where
  ex : ∃ a env1 S1 A1, r = .ok a env1 ∧ EnvR G S1 H1 env1 σ A1 ∧ Ok S1 H1 A1 ∧ rel σ S1 H1 a b [] ∧ Fr S H A S1 H1 A1 ∧ P S1 A1 a env1
theorem Out.bind {rel : Rel α β} {rel2 : Rel γ δ} {r : R α} {k : α → Env → R γ} {Q : δ → Hp → Prop} (hB : ∀ {S H a b B}, rel σ S H a b B → B = []) (h : Out G U σ S H A rel2 (r.bind k) Q) :
    Out G U σ S H A rel r fun b H1 => Nxt G σ S H A rel r b H1 fun S1 A1 a env1 => Out G U σ S1 H1 A1 rel2 (k a env1) Q := by
  cases r with
  | ok a e =>
    intro b H' S' A' B h1 h2 h3 h4
    obtain rfl := hB h2
    exact ⟨a, e, S', A', rfl, h1, h3, h2, h4, Out.from h h4⟩
  | ex x e => exact h
  | bad => exact h
theorem _root_.L2.PE.imp {X : Cx} {e : Expr} {t t' : TE} (h : PE X e t) (i : ∀ σ H Q, t' σ H Q → t σ H Q) : PE X e t' := ⟨fun pins s σ H Q I q => h.run pins s σ H Q I (i σ H Q q)⟩
theorem _root_.L2.PT.imp {X : Cx} {e : Expr} {t t' : TT} (h : PT X e t) (i : ∀ σ H Q, t' σ H Q → t σ H Q) : PT X e t' := ⟨fun pins s σ H Q I q => h.run pins s σ H Q I (i σ H Q q)⟩
theorem _root_.L2.PA.imp {X : Cx} {e : List Expr} {t t' : TA} (h : PA X e t) (i : ∀ σ H Q, t' σ H Q → t σ H Q) : PA X e t' := ⟨fun pos pins s σ H Q I q => h.run pos pins s σ H Q I (i σ H Q q)⟩
theorem _root_.L2.PS.imp {X : Cx} {e : Stmt} {t t' : TS} (h : PS X e t) (i : ∀ D σ H, t' D σ H → t D σ H) : PS X e t' := ⟨fun pins s σ H D I q => h.run pins s σ H D I (i D σ H q)⟩
theorem _root_.L2.PSs.imp {X : Cx} {e : List Stmt} {t t' : TS} (h : PSs X e t) (i : ∀ D σ H, t' D σ H → t D σ H) : PSs X e t' := ⟨fun pins s σ H D I q => h.run pins s σ H D I (i D σ H q)⟩

/-! ### the frames' small facts -/
theorem Fr.nilB (f : Fr S H A S1 H1 ([] ++ A1)) : Fr S H A S1 H1 A1 := f
theorem OdR.mono {S' : AS} {H' : Hp} {A' : List Addr} (f : Fr S H A S' H' A') (o : Ok S H A) {od : Od} {v : V} (h : OdR G σ S H od v) : OdR G σ S' H' od v := by
  cases od with
  | w x => exact Rp.mono (f.kp o) f.up h
  | s i => exact h
theorem OdRs.mono {S' : AS} {H' : Hp} {A' : List Addr} (f : Fr S H A S' H' A') (o : Ok S H A) : ∀ {od : List Od} {v : List V}, OdRs G σ S H od v → OdRs G σ S' H' od v
  | [], _, h => h
  | _ :: _, _, ⟨v, r, e, h1, h2⟩ => ⟨v, r, e, h1.mono f o, OdRs.mono f o h2⟩
/-- nothing has changed: a step to itself, a value without owned objects -/
theorem Out.here {rel : Rel α β} {a : α} {b : β} {env : Env} {Q : β → Hp → Prop} (h : Out G U σ S H A rel (.ok a env) Q) (en : EnvR G S H env σ A) (ok : Ok S H A) (r : rel σ S H a b []) : Q b H :=
  h b H S A [] en r ok (Fr.refl ok)
/-- freezing what was made -/
def cFz (d : Den Z) : Den W := fun env => (d env).bind fun z env => .ok (frz z) env
theorem Ok.swap {B : List Addr} (h : Ok S H (B ++ A)) : Ok S H (A ++ B) := h.perm List.perm_append_comm
theorem frz_out {r : R Z} {Q : VK} (h : Out G U σ S H A (rW G) (r.bind fun z env => .ok (frz z) env) Q) : Out G U σ S H A (rZ G) r Q := by
  cases r with
  | ok z e =>
    intro v H' S' A' B h1 h2 h3 h4
    have o2 := h3.swap
    refine h v H' (fun a => S' a ∨ a ∈ B) A' [] (h1.mono (Kp.refl S' H') (fun _ h => .inl h) fun _ _ _ e => e) ⟨RZ.freeze h2, rfl⟩ o2.freeze ?_
    have f : Fr S' H' (B ++ A') (fun a => S' a ∨ a ∈ B) H' A' := (Fr.frz o2).wide fun a ha => by
      rcases List.mem_append.mp ha with z | z
      · exact List.mem_append_right _ z
      · exact List.mem_append_left _ z
    exact h4.trans f
  | ex x e => exact h
  | bad => exact h
theorem pe_fz {X : Cx} {e : Expr} {d : Den Z} (h : PE X e (tD G U (rZ G) d)) : PE X e (tD G U (rW G) (cFz d)) := h.imp fun σ H Q ⟨env, S, A, en, ok, o⟩ => ⟨env, S, A, en, ok, frz_out o⟩
end
end Cb

end
section
set_option maxRecDepth 100000
set_option maxHeartbeats 4000000
/-! names, constants, displays, truth -/
namespace Cb
open PySem PySem.Spec PyProof.Rows L2
section
variable [Tb] {G : Gc} {U : L2.WX} {X : Cx}

/-! ### slots -/
theorem EnvR.gets {S : AS} {H : Hp} {env : Env} {σ : L2.St} {A : List Addr} (h : EnvR G S H env σ A) {i : Nat} {z : Z} (e : gets env i = some z) :
    ∃ v B R, σ[i]? = some (some v) ∧ RZ G S H z v B ∧ A.Perm (B ++ R) ∧ EnvR G S H (env.set i none) σ R := h.get (gets_iff.mp e).1 (gets_iff.mp e).2
theorem gets_lt {env : Env} {i : Nat} {z : Z} (e : gets env i = some z) : i < env.length := (List.getElem?_eq_some_iff.mp (gets_iff.mp e).1).1
theorem var_out {i : Nat} {env : Env} {S : AS} {A : List Addr} {σ : L2.St} {H : Hp} {Q : VK} (en : EnvR G S H env σ A) (ok : Ok S H A) (o : Out G U σ S H A (rZ G) (cVar i env) Q) : tVar i σ H Q := by
  unfold cVar at o
  cases e : Cb.gets env i with
  | none => rw [e] at o; exact o.elim
  | some z =>
    rw [e] at o
    obtain ⟨v, B, R, hs, rz, pm, er⟩ := en.gets e
    refine ⟨v, hs, ?_⟩
    have ok2 : Ok S H (R ++ B) := ok.perm (List.perm_append_comm.trans pm.symm)
    have er2 : EnvR G (fun a => S a ∨ a ∈ B) H (env.set i none) σ R := er.mono (Kp.refl S H) (fun _ h => .inl h) fun _ _ _ e => e
    obtain ⟨A', h1, h2⟩ := er2.put' (z := .w (frz z)) (B := []) (gets_lt e) hs ⟨RZ.freeze rz, rfl⟩
    have h2' : A'.Perm R := h2
    have f : Fr S H A (fun a => S a ∨ a ∈ B) H A' := ((Fr.frz ok2).wide (B := A) fun a ha => (pm.mem_iff).mpr (by
      rcases List.mem_append.mp ha with z | z
      · exact List.mem_append_right _ z
      · exact List.mem_append_left _ z)).less fun a ha => h2'.mem_iff.mp ha
    exact o v H _ A' [] h1 ⟨RZ.freeze rz, rfl⟩ (ok2.freeze.perm h2') f
theorem sx_var {i : Nat} {e : Expr} (h : PE X e (tVar i)) : PE X e (tD G U (rZ G) (cVar i)) := h.imp fun σ H Q ⟨env, S, A, en, ok, o⟩ => var_out en ok o
/-- the slot is read later -/
theorem sx_slot {i : Nat} {e : Expr} (h : PE X e (tVar i)) : PE X e (tD G U (rO G) (cOs i)) := h.imp fun σ H Q ⟨env, S, A, en, ok, o⟩ => by
  unfold cOs at o
  cases e : Cb.gets env i with
  | none => rw [e] at o; exact o.elim
  | some z =>
    rw [e] at o
    obtain ⟨v, B, R, hs, rz, pm, er⟩ := en.gets e
    exact ⟨v, hs, o v H S A [] en ⟨hs, rfl⟩ ok (Fr.refl ok)⟩

/-! ### constants -/
theorem sx_c {e : Expr} {w : W} {v : V} (h : PE X e (tC v)) (r : ∀ S H, Rp G S H w v) : PE X e (tD G U (rZ G) (cC w)) := h.imp fun σ H Q ⟨env, S, A, en, ok, o⟩ =>
  o v H S A [] en ⟨r S H, rfl⟩ ok (Fr.refl ok)
theorem rp_int (S : AS) (H : Hp) (i : Int) : Rp G S H (.int i) (.int i) := by unfold Rp; rfl
theorem rp_bl (S : AS) (H : Hp) (i : Bool) : Rp G S H (.bl i) (.bl i) := by unfold Rp; rfl
theorem rp_str (S : AS) (H : Hp) (i : Str) : Rp G S H (.str i) (.str i) := by unfold Rp; rfl
theorem rp_non (S : AS) (H : Hp) : Rp G S H .non .non := by unfold Rp; rfl

/-! ### argument lists -/
def Nst (e : Expr) : Prop := ∀ es env, starEach (e :: es) env = (false, eval e env) :: starEach es env
theorem pa_nl : PA X [] (tD G U (rWs G) cNil) := pa_nil.imp fun σ H Q ⟨env, S, A, en, ok, o⟩ => o [] H S A [] en ⟨Rps.nil, rfl⟩ ok (Fr.refl ok)
theorem pa_cs {e : Expr} {es : List Expr} {d : Den Z} {ds : Den (List W)} (ns : Nst e) (he : PE X e (tD G U (rZ G) d)) (hs : PA X es (tD G U (rWs G) ds)) : PA X (e :: es) (tD G U (rWs G) (cCons d ds)) :=
  (pa_cons (pe_fz he) hs (ns es X.env)).imp fun σ H Q ⟨env, S, A, en, ok, o⟩ => by
    refine ⟨env, S, A, en, ok, ?_⟩
    have o1 : Out G U σ S H A (rWs G) ((cFz d env).bind fun w env => (ds env).bind fun ws env => .ok (w :: ws) env) Q := by
      have e : (cFz d env).bind (fun w env => (ds env).bind fun ws env => R.ok (w :: ws) env) = cCons d ds env := by
        unfold cFz cCons
        cases d env <;> rfl
      rw [e]; exact o
    refine (Out.bind (rel := rW G) (fun h => h.2) o1).mono fun x H1 ⟨w, env1, S1, A1, _, en1, ok1, ⟨rw1, _⟩, f1, o2⟩ => ⟨env1, S1, A1, en1, ok1, ?_⟩
    refine (Out.bind (rel := rWs G) (fun h => h.2) o2).mono fun xs H2 ⟨ws, env2, S2, A2, _, en2, ok2, ⟨rw2, _⟩, f2, o3⟩ => ?_
    exact o3 (x :: xs) H2 S2 A2 [] en2 ⟨.cons (rw1.mono (f2.kp ok1) f2.up) rw2, rfl⟩ ok2 (Fr.refl ok2)
theorem pa_nlO : PA X [] (tD G U (rOs G) cNil) := pa_nil.imp fun σ H Q ⟨env, S, A, en, ok, o⟩ => o [] H S A [] en ⟨rfl, rfl⟩ ok (Fr.refl ok)
theorem pe_od {e : Expr} {d : Den Z} (h : PE X e (tD G U (rZ G) d)) : PE X e (tD G U (rO G) (cOd d)) := (pe_fz h).imp fun σ H Q ⟨env, S, A, en, ok, o⟩ => by
  refine ⟨env, S, A, en, ok, ?_⟩
  have o1 : Out G U σ S H A (rO G) ((cFz d env).bind fun w env => .ok (.w w) env) Q := by
    have e : (cFz d env).bind (fun w env => R.ok (Od.w w) env) = cOd d env := by unfold cFz cOd; cases d env <;> rfl
    rw [e]; exact o
  refine (Out.bind (rel := rW G) (fun h => h.2) o1).mono fun x H1 ⟨w, env1, S1, A1, _, en1, ok1, ⟨rw1, _⟩, f1, o2⟩ => ?_
  exact o2 x H1 S1 A1 [] en1 ⟨rw1, rfl⟩ ok1 (Fr.refl ok1)
theorem pa_csO {e : Expr} {es : List Expr} {d : Den Od} {ds : Den (List Od)} (ns : Nst e) (he : PE X e (tD G U (rO G) d)) (hs : PA X es (tD G U (rOs G) ds)) : PA X (e :: es) (tD G U (rOs G) (cConsO d ds)) :=
  (pa_cons he hs (ns es X.env)).imp fun σ H Q ⟨env, S, A, en, ok, o⟩ => by
    refine ⟨env, S, A, en, ok, ?_⟩
    refine (Out.bind (rel := rO G) (fun h => h.2) o).mono fun x H1 ⟨w, env1, S1, A1, _, en1, ok1, ⟨rw1, _⟩, f1, o2⟩ => ⟨env1, S1, A1, en1, ok1, ?_⟩
    refine (Out.bind (rel := rOs G) (fun h => h.2) o2).mono fun xs H2 ⟨ws, env2, S2, A2, _, en2, ok2, ⟨rw2, _⟩, f2, o3⟩ => ?_
    exact o3 (x :: xs) H2 S2 A2 [] en2 ⟨⟨x, xs, rfl, rw1.mono f2 ok1, rw2⟩, rfl⟩ ok2 (Fr.refl ok2)

/-! ### what an operation gives -/
/-- z is made at H: what stood stands, its own objects are new -/
def Res (G : Gc) (S : AS) (H : Hp) (z : Z) (Q : VK) : Prop := ∀ v H' B, (∀ a o, H a = some o → H' a = some o) → RZ G S H' z v B → B.Nodup → (∀ a ∈ B, H a = none ∧ Mu (H' a)) → Q v H'
theorem Res.out {z : Z} {env : Env} {S : AS} {A : List Addr} {σ : L2.St} {H : Hp} {Q : VK} (en : EnvR G S H env σ A) (ok : Ok S H A) (o : Out G U σ S H A (rZ G) (.ok z env) Q) : Res G S H z Q := by
  intro v H' B k rz nd nw
  have kp : Kp S H H' := fun a u e _ _ => k a u e
  refine o v H' S A B (en.mono kp (fun _ h => h) fun a _ u e => k a u e) rz ?_ ?_
  · refine ⟨List.nodup_append.mpr ⟨nd, ok.nd, fun a ha b hb e => ?_⟩, fun a ha => ?_, fun a ha => ?_, tabs_keep ok.tab fun b x e _ => k b x e⟩
    · subst e
      have m := (ok.own a hb).2
      rw [(nw a ha).1] at m; exact m
    · rcases List.mem_append.mp ha with z | z
      · refine ⟨fun s => ?_, (nw a z).2⟩
        obtain ⟨u, e⟩ := ok.dom a s
        rw [(nw a z).1] at e; cases e
      · obtain ⟨u, e⟩ := mut_some (ok.own a z).2
        exact ⟨(ok.own a z).1, by rw [k a u e, ← e]; exact (ok.own a z).2⟩
    · obtain ⟨u, e⟩ := ok.dom a ha
      exact ⟨u, k a u e⟩
  · refine ⟨fun a u e _ _ => k a u e, fun _ h => h, fun _ h => .inl h, fun a ha => ?_, fun a u e => ⟨u, k a u e⟩⟩
    rcases List.mem_append.mp ha with z | z
    · exact .inr (nw a z).1
    · exact .inl z
/-- a value without objects of its own, the heap as it is -/
theorem Res.w {S : AS} {H : Hp} {w : W} {v : V} {Q : VK} (h : Res G S H (.w w) Q) (r : Rp G S H w v) : Q v H := h v H [] (fun _ _ e => e) ⟨r, rfl⟩ List.nodup_nil (fun a ha => absurd ha (by simp))
theorem keep_new {H : Hp} {p : Addr} {u : HO} (hp : H p = none) : ∀ a o, H a = some o → upd H p u a = some o := fun a o e => by rw [upd_ne (ne_of_none e hp)]; exact e
/-- a new tuple -/
theorem Res.tup {S : AS} {H : Hp} {ws : List W} {vs : List V} {Q : VK} (h : Res G S H (.w (.tup ws)) Q) (r : Rps G S H ws vs) : ∀ p, H p = none → Q (.ref p) (upd H p (.tup vs)) := fun p hp => by
  have k := keep_new (u := .tup vs) hp
  refine h _ _ [] k ⟨?_, rfl⟩ List.nodup_nil (fun a ha => absurd ha (by simp))
  unfold Rp
  exact ⟨p, vs, rfl, SqT.of upd_same, r.mono (fun a u e _ _ => k a u e) fun _ h => h⟩
/-- a new list -/
theorem Res.lst {S : AS} {H : Hp} {ws : List W} {vs : List V} {Q : VK} (h : Res G S H (.L ws) Q) (r : Rps G S H ws vs) : ∀ p, H p = none → Q (.ref p) (upd H p (.lst vs)) := fun p hp => by
  have k := keep_new (u := .lst vs) hp
  refine h _ _ [p] k ⟨p, vs, rfl, upd_same, r.mono (fun a u e _ _ => k a u e) fun _ h => h, rfl⟩ (by simp) (fun a ha => ?_)
  obtain rfl : a = p := by simpa using ha
  exact ⟨hp, by rw [upd_same]; trivial⟩
/-- a new dict -/
theorem Res.dK {S : AS} {H : Hp} {ws : List (Key × W)} {vs : List (Key × V)} {Q : VK} (h : Res G S H (.dK ws) Q) (r : Rpk G S H ws vs) : ∀ p, H p = none → Q (.ref p) (upd H p (.dK vs)) := fun p hp => by
  have k := keep_new (u := .dK vs) hp
  refine h _ _ [p] k ⟨p, vs, rfl, upd_same, r.mono (fun a u e _ _ => k a u e) fun _ h => h, rfl⟩ (by simp) (fun a ha => ?_)
  obtain rfl : a = p := by simpa using ha
  exact ⟨hp, by rw [upd_same]; trivial⟩

theorem sizeOk_le {n : Nat} (h : sizeOk n = true) : n ≤ sizeLine := by rw [sizeLine_eq]; exact of_decide_eq_true h
/-! ### displays -/
theorem sx_tup {es : List Expr} {k : Nat} {pos : Pos} {d : Den (List W)} (h : PA X es (tD G U (rWs G) d)) : PE X (.Tuple es k pos) (tD G U (rZ G) (cTup d)) :=
  (pe_tup h).imp fun σ H Q ⟨env, S, A, en, ok, o⟩ => by
    refine ⟨env, S, A, en, ok, ?_⟩
    refine (Out.bind (rel := rWs G) (fun h => h.2) o).mono fun xs H1 ⟨ws, env1, S1, A1, _, en1, ok1, ⟨rw1, _⟩, f1, o2⟩ => ?_
    by_cases hz : sizeOk ws.length = true
    · rw [if_pos hz] at o2
      exact ⟨by rw [rw1.length]; exact sizeOk_le hz, (Res.out en1 ok1 o2).tup rw1⟩
    · rw [if_neg hz] at o2; exact o2.elim
theorem sx_lst {es : List Expr} {pos : Pos} {d : Den (List W)} (h : PA X es (tD G U (rWs G) d)) : PE X (.List es pos) (tD G U (rZ G) (cLst d)) :=
  (pe_lst h).imp fun σ H Q ⟨env, S, A, en, ok, o⟩ => by
    refine ⟨env, S, A, en, ok, ?_⟩
    refine (Out.bind (rel := rWs G) (fun h => h.2) o).mono fun xs H1 ⟨ws, env1, S1, A1, _, en1, ok1, ⟨rw1, _⟩, f1, o2⟩ => ?_
    by_cases hz : sizeOk ws.length = true
    · rw [if_pos hz] at o2
      exact ⟨by rw [rw1.length]; exact sizeOk_le hz, (Res.out en1 ok1 o2).lst rw1⟩
    · rw [if_neg hz] at o2; exact o2.elim

/-! ### truth -/
/-- a test whose value is a bool -/
theorem asB_bl {S : AS} {H : Hp} {z : Z} {v : V} {B : List Addr} {b : Bool} (h : asB z = some b) (r : RZ G S H z v B) : v = .bl b ∧ B = [] := by
  cases z with
  | w x =>
    cases x with
    | bl c =>
      obtain ⟨r, rfl⟩ := r
      unfold Rp at r
      obtain rfl : c = b := Option.some.inj h
      exact ⟨r, rfl⟩
    | _ => cases h
  | _ => cases h
theorem cT_out {env : Env} {S : AS} {A : List Addr} {σ : L2.St} {H : Hp} {d : Den Z} {Q : Bool → Hp → Prop} (o : Out G U σ S H A rB (cT d env) Q) : Out G U σ S H A (rZ G) (d env) fun x H1 => ∃ c, x = .bl c ∧ Q c H1 := by
  unfold cT at o
  cases e : d env with
  | ok z env1 =>
    rw [e] at o
    intro v H' S' A' B h1 h2 h3 h4
    have o2 : Out G U σ S H A rB (match asB z with | some b => R.ok b env1 | none => R.bad) Q := o
    cases q : asB z with
    | none => rw [q] at o2; exact o2.elim
    | some b =>
      rw [q] at o2
      obtain ⟨rfl, rfl⟩ := asB_bl q h2
      exact ⟨b, rfl, o2 b H' S' A' [] h1 ⟨rfl, rfl⟩ h3 h4⟩
  | ex x env1 => rw [e] at o; exact o
  | bad => rw [e] at o; exact o
theorem st_val {e : Expr} {d : Den Z} (h : PE X e (tD G U (rZ G) d)) (he : ∀ whole, isTrue e X.env whole = (do let v ← whole; standAt e.pos; holding [v] (truthy v))) : PT X e (tD G U rB (cT d)) :=
  (pt_val h he).imp fun σ H Q ⟨env, S, A, en, ok, o⟩ => ⟨env, S, A, en, ok, cT_out o⟩
/-- a bool as a value -/
theorem sx_B {e : Expr} {t : TE} {d : Den Bool} (h : PE X e t) (i : ∀ σ H Q, (tD G U rB d σ H fun b H1 => Q (.bl b) H1) → t σ H Q) : PE X e (tD G U (rZ G) (cB d)) := h.imp fun σ H Q ⟨env, S, A, en, ok, o⟩ => by
  refine i σ H Q ⟨env, S, A, en, ok, ?_⟩
  refine (Out.bind (rel := rB) (fun h => h.2) o).mono fun b H1 ⟨c, env1, S1, A1, _, en1, ok1, ⟨e1, _⟩, f1, o2⟩ => ?_
  obtain rfl : c = b := e1
  exact o2 _ H1 S1 A1 [] en1 ⟨rp_bl _ _ _, rfl⟩ ok1 (Fr.refl ok1)
theorem and_out {env : Env} {S : AS} {A : List Addr} {σ : L2.St} {H : Hp} {d e : Den Bool} {Q : Bool → Hp → Prop} (o : Out G U σ S H A rB (cAnd d e env) Q) :
    Out G U σ S H A rB (d env) fun c H1 => if c = true then tD G U rB e σ H1 Q else Q false H1 := by
  refine (Out.bind (rel := rB) (fun h => h.2) o).mono fun b H1 ⟨c, env1, S1, A1, _, en1, ok1, ⟨e1, _⟩, f1, o2⟩ => ?_
  obtain rfl : c = b := e1
  cases c with
  | true => rw [if_pos rfl] at o2 ⊢; exact ⟨env1, S1, A1, en1, ok1, o2⟩
  | false =>
    rw [if_neg Bool.false_ne_true] at o2 ⊢
    exact o2 _ H1 S1 A1 [] en1 ⟨rfl, rfl⟩ ok1 (Fr.refl ok1)
theorem or_out {env : Env} {S : AS} {A : List Addr} {σ : L2.St} {H : Hp} {d e : Den Bool} {Q : Bool → Hp → Prop} (o : Out G U σ S H A rB (cOr d e env) Q) :
    Out G U σ S H A rB (d env) fun c H1 => if c = true then Q true H1 else tD G U rB e σ H1 Q := by
  refine (Out.bind (rel := rB) (fun h => h.2) o).mono fun b H1 ⟨c, env1, S1, A1, _, en1, ok1, ⟨e1, _⟩, f1, o2⟩ => ?_
  obtain rfl : c = b := e1
  cases c with
  | false => rw [if_neg Bool.false_ne_true] at o2 ⊢; exact ⟨env1, S1, A1, en1, ok1, o2⟩
  | true =>
    rw [if_pos rfl] at o2 ⊢
    exact o2 _ H1 S1 A1 [] en1 ⟨rfl, rfl⟩ ok1 (Fr.refl ok1)
theorem not_out {env : Env} {S : AS} {A : List Addr} {σ : L2.St} {H : Hp} {d : Den Bool} {Q : Bool → Hp → Prop} (o : Out G U σ S H A rB (cNot d env) Q) : Out G U σ S H A rB (d env) fun c H1 => Q (!c) H1 := by
  refine (Out.bind (rel := rB) (fun h => h.2) o).mono fun b H1 ⟨c, env1, S1, A1, _, en1, ok1, ⟨e1, _⟩, f1, o2⟩ => ?_
  obtain rfl : c = b := e1
  exact o2 _ H1 S1 A1 [] en1 ⟨rfl, rfl⟩ ok1 (Fr.refl ok1)
theorem ite_out {α β : Type} {rel : Rel α β} {env : Env} {S : AS} {A : List Addr} {σ : L2.St} {H : Hp} {t : Den Bool} {a b : Den α} {Q : β → Hp → Prop} (o : Out G U σ S H A rel (cIte t a b env) Q) :
    Out G U σ S H A rB (t env) fun c H1 => if c = true then tD G U rel a σ H1 Q else tD G U rel b σ H1 Q := by
  refine (Out.bind (rel := rB) (fun h => h.2) o).mono fun b H1 ⟨c, env1, S1, A1, _, en1, ok1, ⟨e1, _⟩, f1, o2⟩ => ?_
  obtain rfl : c = b := e1
  cases c with
  | true => rw [if_pos rfl] at o2 ⊢; exact ⟨env1, S1, A1, en1, ok1, o2⟩
  | false => rw [if_neg Bool.false_ne_true] at o2 ⊢; exact ⟨env1, S1, A1, en1, ok1, o2⟩
theorem sx_ite {c a b : Expr} {pos : Pos} {t : Den Bool} {d e : Den Z} (hc : PT X c (tD G U rB t)) (ha : PE X a (tD G U (rZ G) d)) (hb : PE X b (tD G U (rZ G) e)) : PE X (.IfExp c a b pos) (tD G U (rZ G) (cIte t d e)) :=
  (pe_ifExp hc ha hb).imp fun σ H Q ⟨env, S, A, en, ok, o⟩ => ⟨env, S, A, en, ok, ite_out o⟩
theorem st_not {a : Expr} {pos : Pos} {d : Den Bool} (h : PT X a (tD G U rB d)) : PT X (.UnaryOp .Not a pos) (tD G U rB (cNot d)) := (pt_not h).imp fun σ H Q ⟨env, S, A, en, ok, o⟩ => ⟨env, S, A, en, ok, not_out o⟩
theorem sw_and1 {a : Expr} {pos : Pos} {d : Den Bool} (h : PT X a (tD G U rB d)) : PW X (.BoolOp .And [a] pos) (tD G U rB (cAnd d cTrue)) := ⟨fun wh pins s σ H Q I ⟨env, S, A, en, ok, o⟩ => (pw_and1 h).run wh pins s σ H Q I ⟨env, S, A, en, ok, (and_out o).mono fun b H1 q => by
  cases b with
  | true =>
    rw [if_pos rfl] at q
    obtain ⟨env1, S1, A1, en1, ok1, o1⟩ := q
    exact o1 _ H1 S1 A1 [] en1 ⟨rfl, rfl⟩ ok1 (Fr.refl ok1)
  | false => exact q⟩⟩
theorem sw_and {a b : Expr} {r : List Expr} {pos : Pos} {d e : Den Bool} (h : PT X a (tD G U rB d)) (h2 : PW X (.BoolOp .And (b :: r) pos) (tD G U rB e)) : PW X (.BoolOp .And (a :: b :: r) pos) (tD G U rB (cAnd d e)) :=
  ⟨fun wh pins s σ H Q I ⟨env, S, A, en, ok, o⟩ => (pw_and h h2).run wh pins s σ H Q I ⟨env, S, A, en, ok, and_out o⟩⟩
theorem sw_or1 {a : Expr} {pos : Pos} {d : Den Bool} (h : PT X a (tD G U rB d)) : PW X (.BoolOp .Or [a] pos) (tD G U rB (cOr d cFalse)) := ⟨fun wh pins s σ H Q I ⟨env, S, A, en, ok, o⟩ => (pw_or1 h).run wh pins s σ H Q I ⟨env, S, A, en, ok, (or_out o).mono fun b H1 q => by
  cases b with
  | false =>
    rw [if_neg Bool.false_ne_true] at q
    obtain ⟨env1, S1, A1, en1, ok1, o1⟩ := q
    exact o1 _ H1 S1 A1 [] en1 ⟨rfl, rfl⟩ ok1 (Fr.refl ok1)
  | true => exact q⟩⟩
theorem sw_or {a b : Expr} {r : List Expr} {pos : Pos} {d e : Den Bool} (h : PT X a (tD G U rB d)) (h2 : PW X (.BoolOp .Or (b :: r) pos) (tD G U rB e)) : PW X (.BoolOp .Or (a :: b :: r) pos) (tD G U rB (cOr d e)) :=
  ⟨fun wh pins s σ H Q I ⟨env, S, A, en, ok, o⟩ => (pw_or h h2).run wh pins s σ H Q I ⟨env, S, A, en, ok, or_out o⟩⟩
end
end Cb

end
section
set_option maxRecDepth 100000
set_option maxHeartbeats 4000000
/-! and, or, not as values; operations; calls -/
namespace Cb
open PySem PySem.Spec PyProof.Rows L2
section
variable [Tb] {G : Gc} {U : L2.WX} {X : Cx}
theorem cB_out {env : Env} {S : AS} {A : List Addr} {σ : L2.St} {H : Hp} {d : Den Bool} {Q : VK} (o : Out G U σ S H A (rZ G) (cB d env) Q) : Out G U σ S H A rB (d env) fun b H1 => Q (.bl b) H1 := by
  refine (Out.bind (rel := rB) (fun h => h.2) o).mono fun b H1 ⟨c, env1, S1, A1, _, en1, ok1, ⟨e1, _⟩, f1, o2⟩ => ?_
  obtain rfl : c = b := e1
  exact o2 _ H1 S1 A1 [] en1 ⟨rp_bl _ _ _, rfl⟩ ok1 (Fr.refl ok1)
theorem outB_of {env : Env} {S : AS} {A : List Addr} {σ : L2.St} {H : Hp} {d : Den Bool} {Q : VK} (o : Out G U σ S H A rB (d env) fun b H1 => Q (.bl b) H1) : Out G U σ S H A (rZ G) (cB d env) Q := by
  unfold cB
  cases e : d env with
  | ok b e1 =>
    rw [e] at o
    intro v H' S' A' B h1 h2 h3 h4
    obtain ⟨r, rfl⟩ := h2
    unfold Rp at r
    subst r
    exact o b H' S' A' [] h1 ⟨rfl, rfl⟩ h3 h4
  | ex x e1 => rw [e] at o; exact o
  | bad => rw [e] at o; exact o
theorem sx_one {op : BoolOp} {a : Expr} {pos : Pos} {d : Den Z} {k : Den Bool → Den Bool} (hk : ∀ (σ : L2.St) (H : Hp) (S : AS) (A : List Addr) (env : Env) (Q : Bool → Hp → Prop), Out G U σ S H A rB (k (cT d) env) Q → Out G U σ S H A rB (cT d env) Q)
    (h : PE X a (tD G U (rZ G) d)) : PE X (.BoolOp op [a] pos) (tD G U (rZ G) (cB (k (cT d)))) := (pe_one h).imp fun σ H Q ⟨env, S, A, en, ok, o⟩ => ⟨env, S, A, en, ok, (cT_out (hk _ _ _ _ _ _ (cB_out o))).mono fun x H1 ⟨c, e, q⟩ => by rw [e]; exact q⟩
theorem sx_and1 {a : Expr} {pos : Pos} {d : Den Z} (h : PE X a (tD G U (rZ G) d)) : PE X (.BoolOp .And [a] pos) (tD G U (rZ G) (cB (cAnd (cT d) cTrue))) := sx_one (k := fun t => cAnd t cTrue) (fun σ H S A env Q o => (and_out o).mono fun b H1 q => by
  cases b with
  | true =>
    rw [if_pos rfl] at q
    obtain ⟨env1, S1, A1, en1, ok1, o1⟩ := q
    exact o1 _ H1 S1 A1 [] en1 ⟨rfl, rfl⟩ ok1 (Fr.refl ok1)
  | false => exact q) h
theorem sx_or1 {a : Expr} {pos : Pos} {d : Den Z} (h : PE X a (tD G U (rZ G) d)) : PE X (.BoolOp .Or [a] pos) (tD G U (rZ G) (cB (cOr (cT d) cFalse))) := sx_one (k := fun t => cOr t cFalse) (fun σ H S A env Q o => (or_out o).mono fun b H1 q => by
  cases b with
  | false =>
    rw [if_neg Bool.false_ne_true] at q
    obtain ⟨env1, S1, A1, en1, ok1, o1⟩ := q
    exact o1 _ H1 S1 A1 [] en1 ⟨rfl, rfl⟩ ok1 (Fr.refl ok1)
  | true => exact q) h
theorem sx_and {a b : Expr} {r : List Expr} {pos : Pos} {d : Den Z} {e : Den Bool} (h : PE X a (tD G U (rZ G) d)) (h2 : PE X (.BoolOp .And (b :: r) pos) (tD G U (rZ G) (cB e))) : PE X (.BoolOp .And (a :: b :: r) pos) (tD G U (rZ G) (cB (cAnd (cT d) e))) :=
  (pe_and h h2).imp fun σ H Q ⟨env, S, A, en, ok, o⟩ => by
    refine ⟨env, S, A, en, ok, (cT_out (and_out (cB_out o))).mono fun x H1 ⟨c, ex, q⟩ => ⟨c, ex, ?_⟩⟩
    cases c with
    | true =>
      rw [if_pos rfl] at q ⊢
      obtain ⟨env1, S1, A1, en1, ok1, o1⟩ := q
      exact ⟨env1, S1, A1, en1, ok1, outB_of o1⟩
    | false => exact q
theorem sx_or {a b : Expr} {r : List Expr} {pos : Pos} {d : Den Z} {e : Den Bool} (h : PE X a (tD G U (rZ G) d)) (h2 : PE X (.BoolOp .Or (b :: r) pos) (tD G U (rZ G) (cB e))) : PE X (.BoolOp .Or (a :: b :: r) pos) (tD G U (rZ G) (cB (cOr (cT d) e))) :=
  (pe_or h h2).imp fun σ H Q ⟨env, S, A, en, ok, o⟩ => by
    refine ⟨env, S, A, en, ok, (cT_out (or_out (cB_out o))).mono fun x H1 ⟨c, ex, q⟩ => ⟨c, ex, ?_⟩⟩
    cases c with
    | false =>
      rw [if_neg Bool.false_ne_true] at q ⊢
      obtain ⟨env1, S1, A1, en1, ok1, o1⟩ := q
      exact ⟨env1, S1, A1, en1, ok1, outB_of o1⟩
    | true => exact q
theorem sx_not {a : Expr} {pos : Pos} {d : Den Z} (h : PE X a (tD G U (rZ G) d)) : PE X (.UnaryOp .Not a pos) (tD G U (rZ G) (cB (cNot (cT d)))) := (pe_not h).imp fun σ H Q ⟨env, S, A, en, ok, o⟩ =>
  ⟨env, S, A, en, ok, (cT_out (not_out (cB_out o))).mono fun x H1 ⟨c, e, q⟩ => ⟨c, e, q⟩⟩

/-! ### operands as they are seen -/
/-- w is seen at v: its own object may still be changed by its owner -/
def Vw (G : Gc) (S : AS) (H : Hp) : W → V → Prop
  | .lst ws, v => ∃ a vs, v = .ref a ∧ H a = some (.lst vs) ∧ Rps G S H ws vs
  | .dK kvs, v => ∃ a vs, v = .ref a ∧ H a = some (.dK vs) ∧ Rpk G S H kvs vs
  | .dT kvs, v => ∃ a vs, v = .ref a ∧ H a = some (.dT vs) ∧ Rpt G S H kvs vs
  | .obj c fs, v => ∃ a C dx vs, v = .ref a ∧ G.cm c = some C ∧ H a = some (.ins C dx vs) ∧ Rpf G S H fs vs
  | w, v => Rp G S H w v
theorem Rp.vw {S : AS} {H : Hp} {w : W} {v : V} (h : Rp G S H w v) : Vw G S H w v := by
  cases w with
  | lst ws => unfold Rp at h; obtain ⟨a, vs, e, h1, h2⟩ := h; exact ⟨a, vs, e, h1.2, h2⟩
  | dK ws => unfold Rp at h; obtain ⟨a, vs, e, h1, h2⟩ := h; exact ⟨a, vs, e, h1.2, h2⟩
  | dT ws => unfold Rp at h; obtain ⟨a, vs, e, h1, h2⟩ := h; exact ⟨a, vs, e, h1.2, h2⟩
  | obj c ws => unfold Rp at h; obtain ⟨a, C, dx, vs, e, hc, h1, h2⟩ := h; exact ⟨a, C, dx, vs, e, hc, h1.2, h2⟩
  | _ => exact h
theorem RZ.vw {S : AS} {H : Hp} {z : Z} {v : V} {B : List Addr} (h : RZ G S H z v B) : Vw G S H (frz z) v := by
  cases z with
  | w x => exact h.1.vw
  | L ws => obtain ⟨a, vs, e, h1, h2, _⟩ := h; exact ⟨a, vs, e, h1, h2⟩
  | dK ws => obtain ⟨a, vs, e, h1, h2, _⟩ := h; exact ⟨a, vs, e, h1, h2⟩
  | dT ws => obtain ⟨a, vs, e, h1, h2, _⟩ := h; exact ⟨a, vs, e, h1, h2⟩
  | obj c ws => obtain ⟨a, C, dx, vs, e, hc, h1, h2, _⟩ := h; exact ⟨a, C, dx, vs, e, hc, h1, h2⟩
  | err => exact h.elim
def Vws (G : Gc) (S : AS) (H : Hp) : List W → List V → Prop
  | [], vs => vs = []
  | w :: ws, vs => ∃ v r, vs = v :: r ∧ Vw G S H w v ∧ Vws G S H ws r
theorem res_vw {S : AS} {H : Hp} {env : Env} {σ : L2.St} {A : List Addr} (en : EnvR G S H env σ A) : ∀ {ods : List Od} {vs : List V} {zs : List Z}, OdRs G σ S H ods vs → resAll env ods = some zs → Vws G S H (zs.map frz) vs
  | [], vs, zs, h, e => by
    cases e
    exact h
  | o :: os, vs, zs, ⟨v, r, e1, h1, h2⟩, e => by
    subst e1
    unfold resAll at e
    cases q : o.res env with
    | none => rw [q] at e; cases e
    | some z =>
      cases q2 : resAll env os with
      | none => rw [q, q2] at e; cases e
      | some zs' =>
        rw [q, q2] at e
        cases e
        refine ⟨v, r, rfl, ?_, res_vw en h2 q2⟩
        cases o with
        | w x =>
          cases q
          exact Rp.vw h1
        | s i =>
          obtain ⟨v', B, R, hs, rz, _, _⟩ := en.gets (show gets env i = some z from q)
          rw [show σ[i]? = some (some v) from h1] at hs
          cases hs
          exact rz.vw
/-- an operation by its values: r is the reading of the machine's rule -/
def PrOk (G : Gc) (r : List V → Hp → VK → Prop) (f : List W → Option Z) : Prop := ∀ (S : AS) (H : Hp) (ws : List W) (vs : List V) (z : Z) (Q : VK), Vws G S H ws vs → f ws = some z → Res G S H z Q → r vs H Q
theorem prim_out {p : Pr} {r : List V → Hp → VK → Prop} (hp : PrOk G r (prW p)) {ods : List Od} {vs : List V} {env : Env} {S : AS} {A : List Addr} {σ : L2.St} {H : Hp} {Q : VK} (en : EnvR G S H env σ A) (ok : Ok S H A) (h : OdRs G σ S H ods vs)
    (o : Out G U σ S H A (rZ G) (primM p ods env) Q) : r vs H Q := by
  unfold primM at o
  cases e : resAll env ods with
  | none => rw [e] at o; exact o.elim
  | some zs =>
    rw [e] at o
    dsimp only at o
    cases q : prW p (zs.map frz) with
    | none => rw [q] at o; exact o.elim
    | some z =>
      rw [q] at o
      exact hp S H _ vs z Q (res_vw en h e) q (Res.out en ok o)
/-- a built-in function of operands -/
theorem sx_prA {p : Pr} {r : List V → Hp → VK → Prop} (hp : PrOk G r (prW p)) {e : Expr} {es : List Expr} {d : Den (List Od)} (hs : PA X es (tD G U (rOs G) d)) (h : ∀ t, PA X es t → PE X e (tCB r t)) : PE X e (tD G U (rZ G) (cPr p d)) :=
  (h _ hs).imp fun σ H Q ⟨env, S, A, en, ok, o⟩ => ⟨env, S, A, en, ok, (Out.bind (rel := rOs G) (fun h => h.2) o).mono fun vs H1 ⟨os, env1, S1, A1, _, en1, ok1, ⟨r1, _⟩, f1, o2⟩ => prim_out hp en1 ok1 r1 o2⟩
/-- an operator of two operands -/
theorem sx_pr2 {p : Pr} {r : R2} (hp : PrOk G (fun vs H Q => ∃ x y, vs = [x, y] ∧ r x y H Q) (prW p)) {a b e : Expr} {da db : Den Od} (ha : PE X a (tD G U (rO G) da)) (hb : PE X b (tD G U (rO G) db))
    (h : ∀ ta tb, PE X a ta → PE X b tb → PE X e (tOp r ta tb)) : PE X e (tD G U (rZ G) (cPr p (cConsO da (cConsO db cNil)))) :=
  (h _ _ ha hb).imp fun σ H Q ⟨env, S, A, en, ok, o⟩ => by
    refine ⟨env, S, A, en, ok, ?_⟩
    have o1 : Out G U σ S H A (rZ G) ((da env).bind fun a env => (db env).bind fun b env => primM p [a, b] env) Q := by
      have e : ((da env).bind fun a env => (db env).bind fun b env => primM p [a, b] env) = cPr p (cConsO da (cConsO db cNil)) env := by
        unfold cPr cConsO cNil
        cases da env with
        | ok a e1 => dsimp only [R.bind]; cases db e1 <;> rfl
        | _ => rfl
      rw [e]; exact o
    refine (Out.bind (rel := rO G) (fun h => h.2) o1).mono fun x H1 ⟨oa, env1, S1, A1, _, en1, ok1, ⟨r1, _⟩, f1, o2⟩ => ⟨env1, S1, A1, en1, ok1, ?_⟩
    refine (Out.bind (rel := rO G) (fun h => h.2) o2).mono fun y H2 ⟨ob, env2, S2, A2, _, en2, ok2, ⟨r2, _⟩, f2, o3⟩ => ?_
    obtain ⟨x', y', e, q⟩ := prim_out hp (ods := [oa, ob]) (vs := [x, y]) en2 ok2 ⟨x, [y], rfl, r1.mono f2 ok1, y, [], rfl, r2, rfl⟩ o3
    cases e
    exact q
/-- .. of one -/
theorem sx_pr1 {p : Pr} {r : V → Hp → VK → Prop} (hp : PrOk G (fun vs H Q => ∃ x, vs = [x] ∧ r x H Q) (prW p)) {a e : Expr} {da : Den Od} (ha : PE X a (tD G U (rO G) da))
    (h : ∀ ta, PE X a ta → PE X e (tUn r ta)) : PE X e (tD G U (rZ G) (cPr p (cConsO da cNil))) :=
  (h _ ha).imp fun σ H Q ⟨env, S, A, en, ok, o⟩ => by
    refine ⟨env, S, A, en, ok, ?_⟩
    have o1 : Out G U σ S H A (rZ G) ((da env).bind fun a env => primM p [a] env) Q := by
      have e : ((da env).bind fun a env => primM p [a] env) = cPr p (cConsO da cNil) env := by
        unfold cPr cConsO cNil
        cases da env <;> rfl
      rw [e]; exact o
    refine (Out.bind (rel := rO G) (fun h => h.2) o1).mono fun x H1 ⟨oa, env1, S1, A1, _, en1, ok1, ⟨r1, _⟩, f1, o2⟩ => ?_
    obtain ⟨x', e, q⟩ := prim_out hp (ods := [oa]) (vs := [x]) en1 ok1 ⟨x, [], rfl, r1, rfl⟩ o2
    cases e
    exact q
end
end Cb

end
section
set_option maxRecDepth 100000
set_option maxHeartbeats 4000000
/-! calls of defs -/
namespace Cb
open PySem PySem.Spec PyProof.Rows L2
def RZs (G : Gc) (S : AS) (H : Hp) : List Z → List V → List (List Addr) → Prop
  | [], vs, Bs => vs = [] ∧ Bs = []
  | z :: zs, vs, Bs => ∃ v r B Br, vs = v :: r ∧ Bs = B :: Br ∧ RZ G S H z v B ∧ RZs G S H zs r Br
/-- what a def of the meaning m promises -/
def spM [Tb] (G : Gc) (n : Nat) (m : Mean) : Sp := fun vs H Q E => vs.length = n ∧ ∃ zs S Bs, RZs G S H zs vs Bs ∧ Ok S H Bs.flatten ∧ (match m zs with
  | .ok z back => ∀ v H' S' B Bs', RZs G S' H' back vs Bs' → RZ G S' H' z v B → Ok S' H' (B ++ Bs'.flatten) → Fr S H Bs.flatten S' H' (B ++ Bs'.flatten) → Q v H'
  | .ex x back => ∀ cls d H' S' Bs', XR G S' H' x cls d → RZs G S' H' back vs Bs' → Ok S' H' Bs'.flatten → Fr S H Bs.flatten S' H' Bs'.flatten → E cls d H'
  | .bad => False)
def clr : Env → List Nat → Env
  | env, [] => env
  | env, i :: l => clr (env.set i none) l
theorem clr_set {i : Nat} {x : Option Z} : ∀ {l : List Nat} {env : Env}, i ∉ l → (clr env l).set i x = clr (env.set i x) l
  | [], _, _ => rfl
  | j :: l, env, h => by
    have h1 : i ≠ j := fun e => h (by simp [e])
    have h2 : i ∉ l := fun m => h (List.mem_cons_of_mem _ m)
    show (clr (env.set j none) l).set i x = clr ((env.set i x).set j none) l
    rw [clr_set h2, List.set_comm _ _ (Ne.symm h1)]
theorem clr_len : ∀ {l : List Nat} {env : Env}, (clr env l).length = env.length
  | [], _ => rfl
  | j :: l, env => by show (clr (env.set j none) l).length = _; rw [clr_len, List.length_set]
theorem gets_set_ne {i j : Nat} {x : Option Z} (h : i ≠ j) : ∀ {env : Env}, gets (env.set i x) j = gets env j := fun {env} => by
  cases e : gets env j with
  | some z => exact gets_iff.mpr (by rw [List.getElem?_set_ne h]; exact gets_iff.mp e)
  | none =>
    cases q : gets (env.set i x) j with
    | none => rfl
    | some z =>
      have := gets_iff.mp q
      rw [List.getElem?_set_ne h] at this
      rw [gets_iff.mpr this] at e; cases e
theorem nodupB_iff : ∀ {l : List Nat}, nodupB l = true → l.Nodup
  | [], _ => List.nodup_nil
  | x :: r, h => by
    unfold nodupB at h
    simp only [Bool.and_eq_true, Bool.not_eq_true', List.contains_eq_mem, decide_eq_false_iff_not] at h
    exact List.nodup_cons.mpr ⟨h.1, nodupB_iff h.2⟩
theorem res_clear {env : Env} {i : Nat} {z : Z} (hi : gets env i = some z) (ho : isOwn z = true) : ∀ {os : List Od} {zs : List Z}, resAll env os = some zs → i ∉ lent os zs → resAll (env.set i none) os = some zs
  | [], zs, e, _ => e
  | o :: os, zs, e, h => by
    unfold resAll at e ⊢
    cases q : o.res env with
    | none => rw [q] at e; cases e
    | some y =>
      cases q2 : resAll env os with
      | none => rw [q, q2] at e; cases e
      | some ys =>
        rw [q, q2] at e
        cases e
        cases o with
        | w x =>
          have ih := res_clear hi ho q2 (by simpa [lent] using h)
          cases q
          rw [ih]
          rfl
        | s j =>
          have q' : gets env j = some y := q
          by_cases e : i = j
          · subst e
            rw [hi] at q'; cases q'
            exact absurd (show i ∈ lent (.s i :: os) (z :: ys) by unfold lent; rw [if_pos ho]; exact List.mem_cons_self) h
          · have h2 : i ∉ lent os ys := fun m => h (by
              show i ∈ lent (.s j :: os) (y :: ys)
              unfold lent
              split
              · exact List.mem_cons_of_mem _ m
              · exact m)
            have ih := res_clear hi ho q2 h2
            have q3 : gets (env.set i none) j = some y := by rw [gets_set_ne e]; exact q'
            show (match Od.res (env.set i none) (.s j), resAll (env.set i none) os with | some z, some zs => some (z :: zs) | _, _ => none) = _
            rw [ih]
            show (match gets (env.set i none) j, some ys with | some z, some zs => some (z :: zs) | _, _ => none) = _
            rw [q3]
section
variable [Tb] {G : Gc} {U : L2.WX} {X : Cx} {S S' : AS} {H H' : Hp} {σ : L2.St}
theorem RZ.w_nil {x : W} {v : V} {B : List Addr} (h : RZ G S H (.w x) v B) : B = [] := h.2
theorem isOwn_false {z : Z} (h : isOwn z = false) : ∃ x, z = .w x := by cases z with | w x => exact ⟨x, rfl⟩ | _ => cases h
/-- the lent objects taken out of the frame -/
theorem lend : ∀ {ods : List Od} {vs : List V} {zs : List Z} {env : Env} {A : List Addr}, EnvR G S H env σ A → OdRs G σ S H ods vs → resAll env ods = some zs → (lent ods zs).Nodup →
    ∃ Bs R, RZs G S H zs vs Bs ∧ A.Perm (Bs.flatten ++ R) ∧ EnvR G S H (clr env (lent ods zs)) σ R
  | [], vs, zs, env, A, en, h, e, _ => by
    cases e
    exact ⟨[], A, ⟨h, rfl⟩, List.Perm.refl _, en⟩
  | o :: os, vs, zs, env, A, en, ⟨v, r, e1, h1, h2⟩, e, nd => by
    subst e1
    unfold resAll at e
    cases q : o.res env with
    | none => rw [q] at e; cases e
    | some z =>
      cases q2 : resAll env os with
      | none => rw [q, q2] at e; cases e
      | some zs' =>
        rw [q, q2] at e
        cases e
        cases o with
        | w x =>
          cases q
          obtain ⟨Bs, R, k1, k2, k3⟩ := lend en h2 q2 nd
          exact ⟨[] :: Bs, R, ⟨v, r, [], Bs, rfl, rfl, ⟨h1, rfl⟩, k1⟩, k2, k3⟩
        | s i =>
          have q' : gets env i = some z := q
          obtain ⟨v', B, R0, hs, rz, pm, er⟩ := en.gets q'
          rw [show σ[i]? = some (some v) from h1] at hs
          cases hs
          cases ho : isOwn z with
          | false =>
            have e3 : lent (.s i :: os) (z :: zs') = lent os zs' := by
              show (if isOwn z = true then _ else _) = _
              rw [ho]; rfl
            rw [e3] at nd ⊢
            obtain ⟨Bs, R, k1, k2, k3⟩ := lend en h2 q2 nd
            obtain ⟨x, rfl⟩ := isOwn_false ho
            obtain rfl := rz.w_nil
            exact ⟨[] :: Bs, R, ⟨v, r, [], Bs, rfl, rfl, rz, k1⟩, k2, k3⟩
          | true =>
            have e3 : lent (.s i :: os) (z :: zs') = i :: lent os zs' := by
              show (if isOwn z = true then _ else _) = _
              rw [ho]; rfl
            rw [e3] at nd ⊢
            obtain ⟨n1, n2⟩ := List.nodup_cons.mp nd
            obtain ⟨Bs, R, k1, k2, k3⟩ := lend er h2 (res_clear q' ho q2 n1) n2
            refine ⟨B :: Bs, R, ⟨v, r, B, Bs, rfl, rfl, rz, k1⟩, ?_, k3⟩
            rw [List.flatten_cons, List.append_assoc]
            exact pm.trans (List.Perm.append_left B k2)
/-- .. and put back -/
theorem giveBack : ∀ {ods : List Od} {vs : List V} {zs back : List Z} {Bs : List (List Addr)} {env : Env} {R : List Addr}, OdRs G σ S H ods vs → (lent ods zs).Nodup → zs.length = ods.length → (∀ i ∈ lent ods zs, i < env.length) →
    RZs G S' H' back vs Bs → EnvR G S' H' (clr env (lent ods zs)) σ R →
    ∃ A' C, EnvR G S' H' (putBack ods zs back env) σ A' ∧ (Bs.flatten ++ R).Perm (A' ++ C)
  | [], vs, zs, back, Bs, env, R, h, nd, hl, hi, hb, en => by
    have e : vs = [] := h
    subst e
    cases back with
    | nil =>
      obtain ⟨_, rfl⟩ := hb
      cases zs with
      | nil => exact ⟨R, [], en, by simp⟩
      | cons z zs => simp at hl
    | cons b bs => obtain ⟨_, _, _, _, e, _⟩ := hb; cases e
  | o :: os, vs, zs, back, Bs, env, R, ⟨v, r, e1, h1, h2⟩, nd, hl, hi, hb, en => by
    subst e1
    cases zs with
    | nil => simp at hl
    | cons z zs =>
    cases back with
    | nil => obtain ⟨e, _⟩ := hb; cases e
    | cons b bs =>
    obtain ⟨v', r', B, Br, e, rfl, rb, rbs⟩ := hb
    cases e
    have hl' : zs.length = os.length := by simpa using hl
    have skip : (lent (o :: os) (z :: zs) = lent os zs) → (∀ env, putBack (o :: os) (z :: zs) (b :: bs) env = putBack os zs bs env) → ∃ A' C, EnvR G S' H' (putBack (o :: os) (z :: zs) (b :: bs) env) σ A' ∧ ((B :: Br).flatten ++ R).Perm (A' ++ C) := by
      intro e1 e2
      rw [e1] at nd hi en
      rw [e2]
      obtain ⟨A', C, k1, k2⟩ := giveBack h2 nd hl' hi rbs en
      refine ⟨A', C ++ B, k1, ?_⟩
      rw [List.flatten_cons, List.append_assoc]
      refine List.perm_append_comm.trans ?_
      rw [← List.append_assoc]
      exact List.Perm.append_right B k2
    cases o with
    | w x => exact skip rfl fun _ => rfl
    | s i =>
      cases ho : isOwn z with
      | false => exact skip (by show (if isOwn z = true then _ else _) = _; rw [ho]; rfl) (fun env => by show putBack os zs bs (if isOwn z = true then _ else _) = _; rw [ho]; rfl)
      | true =>
        have e3 : lent (.s i :: os) (z :: zs) = i :: lent os zs := by
          show (if isOwn z = true then _ else _) = _
          rw [ho]; rfl
        have e4 : putBack (.s i :: os) (z :: zs) (b :: bs) env = putBack os zs bs (env.set i (some b)) := by
          show putBack os zs bs (if isOwn z = true then _ else _) = _
          rw [ho]; rfl
        rw [e3] at nd hi en
        rw [e4]
        obtain ⟨n1, n2⟩ := List.nodup_cons.mp nd
        have hil : i < env.length := hi i List.mem_cons_self
        have en2 : EnvR G S' H' ((clr (env.set i (some b)) (lent os zs)).set i none) σ R := by
          rw [clr_set n1, List.set_set]
          exact en
        obtain ⟨A1, k1, k2⟩ := en2.put' (z := b) (B := B) (by rw [clr_len, List.length_set]; exact hil) h1 rb
        have e5 : (clr (env.set i (some b)) (lent os zs)).set i (some b) = clr (env.set i (some b)) (lent os zs) := by
          rw [clr_set n1, List.set_set]
        rw [e5] at k1
        obtain ⟨A', C, j1, j2⟩ := giveBack h2 n2 hl' (fun j hj => by rw [List.length_set]; exact hi j (List.mem_cons_of_mem _ hj)) rbs k1
        refine ⟨A', C, j1, List.Perm.trans ?_ j2⟩
        rw [List.flatten_cons]
        refine (List.Perm.append_right R (List.perm_append_comm (l₁ := B) (l₂ := Br.flatten))).trans ?_
        rw [List.append_assoc]
        exact List.Perm.append_left _ k2.symm
theorem res_len : ∀ {ods : List Od} {zs : List Z} {env : Env}, resAll env ods = some zs → zs.length = ods.length
  | [], zs, env, e => by cases e; rfl
  | o :: os, zs, env, e => by
    unfold resAll at e
    cases q : o.res env with
    | none => rw [q] at e; cases e
    | some z =>
      cases q2 : resAll env os with
      | none => rw [q, q2] at e; cases e
      | some zs' =>
        rw [q, q2] at e
        cases e
        simp [res_len q2]
theorem lent_lt : ∀ {ods : List Od} {zs : List Z} {env : Env}, resAll env ods = some zs → ∀ i ∈ lent ods zs, i < env.length
  | [], zs, env, e, i, hi => by cases e; exact absurd hi (by simp [lent])
  | o :: os, zs, env, e, i, hi => by
    unfold resAll at e
    cases q : o.res env with
    | none => rw [q] at e; cases e
    | some z =>
      cases q2 : resAll env os with
      | none => rw [q, q2] at e; cases e
      | some zs' =>
        rw [q, q2] at e
        cases e
        cases o with
        | w x => exact lent_lt q2 i (by simpa [lent] using hi)
        | s j =>
          have hi' : i ∈ (if isOwn z = true then j :: lent os zs' else lent os zs') := hi
          split at hi'
          · rcases List.mem_cons.mp hi' with e | hi'
            · rw [e]; exact gets_lt (show gets env j = some z from q)
            · exact lent_lt q2 i hi'
          · exact lent_lt q2 i hi'
theorem OdRs.len : ∀ {ods : List Od} {vs : List V}, OdRs G σ S H ods vs → vs.length = ods.length
  | [], vs, h => by rw [show vs = [] from h]; rfl
  | _ :: _, vs, ⟨v, r, e, _, h⟩ => by rw [e]; simp [OdRs.len h]
/-- a call's promise from what is wanted behind it -/
theorem call_out {m : Mean} {n : Nat} {ods : List Od} {vs : List V} {env : Env} {A : List Addr} {Q : VK} (hn : ods.length = n) (en : EnvR G S H env σ A) (ok : Ok S H A) (h : OdRs G σ S H ods vs) (o : Out G U σ S H A (rZ G) (callM m ods env) Q) :
    spM G n m vs H Q fun cls d H' => U cls d σ H' := by
  unfold callM at o
  cases e : resAll env ods with
  | none => rw [e] at o; exact o.elim
  | some zs =>
    rw [e] at o
    dsimp only at o
    cases hnd : nodupB (lent ods zs) with
    | false => rw [hnd, if_neg Bool.false_ne_true] at o; exact o.elim
    | true =>
      rw [hnd, if_pos rfl] at o
      have nd := nodupB_iff hnd
      obtain ⟨Bs, R, k1, k2, k3⟩ := lend en h e nd
      have ok2 : Ok S H (Bs.flatten ++ R) := ok.perm k2.symm
      refine ⟨h.len.trans hn, zs, S, Bs, k1, ok2.left, ?_⟩
      cases q : m zs with
      | bad => rw [q] at o; exact o.elim
      | ok z back =>
        rw [q] at o
        dsimp only at o ⊢
        by_cases hb : back.length = zs.length
        · rw [if_pos hb] at o
          intro v H' S' B Bs' rb rz ok' f
          have kp : EnvR G S' H' (clr env (lent ods zs)) σ R := k3.mono (f.kp ok2.left) f.up (f.offK ok2)
          obtain ⟨A', C, j1, j2⟩ := giveBack (S := S) (H := H) h nd (res_len e) (lent_lt e) rb kp
          have ok3 : Ok S' H' ((B ++ Bs'.flatten) ++ R) := f.off ok2 ok'
          have pm : (B ++ (A' ++ C)).Perm ((B ++ Bs'.flatten) ++ R) := by
            rw [List.append_assoc]
            exact List.Perm.append_left B j2.symm
          have ok4 : Ok S' H' (B ++ A') := (ok3.perm pm).sub (List.Sublist.append_left (List.sublist_append_left _ _) B)
          refine o v H' S' A' B j1 rz ok4 ⟨fun a u ea na => f.keep a u ea fun hm => na (k2.mem_iff.mpr (List.mem_append_left _ hm)), f.up, fun a ha => ?_, fun a ha => ?_, f.dom⟩
          · rcases f.back a ha with h | h | h
            · exact .inl h
            · exact .inr (.inl (k2.mem_iff.mpr (List.mem_append_left _ h)))
            · exact .inr (.inr h)
          · have hm : a ∈ (B ++ Bs'.flatten) ++ R := pm.mem_iff.mp (by
              rcases List.mem_append.mp ha with h | h
              · exact List.mem_append_left _ h
              · exact List.mem_append_right _ (List.mem_append_left _ h))
            rcases List.mem_append.mp hm with h | h
            · rcases f.own a h with h | h
              · exact .inl (k2.mem_iff.mpr (List.mem_append_left _ h))
              · exact .inr h
            · exact .inl (k2.mem_iff.mpr (List.mem_append_right _ h))
        · rw [if_neg hb] at o; exact o.elim
      | ex x back =>
        rw [q] at o
        dsimp only at o ⊢
        by_cases hb : back.length = zs.length
        · rw [if_pos hb] at o
          intro cls d H' S' Bs' xr rb ok' f
          have kp : EnvR G S' H' (clr env (lent ods zs)) σ R := k3.mono (f.kp ok2.left) f.up (f.offK ok2)
          obtain ⟨A', C, j1, j2⟩ := giveBack (S := S) (H := H) h nd (res_len e) (lent_lt e) rb kp
          have ok3 : Ok S' H' (Bs'.flatten ++ R) := f.off ok2 ok'
          have ok4 : Ok S' H' A' := (ok3.perm j2.symm).sub (List.sublist_append_left _ _)
          refine o cls d H' S' A' xr j1 ok4 ⟨fun a u ea na => f.keep a u ea fun hm => na (k2.mem_iff.mpr (List.mem_append_left _ hm)), f.up, fun a ha => ?_, fun a ha => ?_, f.dom⟩
          · rcases f.back a ha with h | h | h
            · exact .inl h
            · exact .inr (.inl (k2.mem_iff.mpr (List.mem_append_left _ h)))
            · exact .inr (.inr h)
          · have hm : a ∈ Bs'.flatten ++ R := j2.mem_iff.mpr (List.mem_append_left _ ha)
            rcases List.mem_append.mp hm with h | h
            · rcases f.own a h with h | h
              · exact .inl (k2.mem_iff.mpr (List.mem_append_left _ h))
              · exact .inr h
            · exact .inl (k2.mem_iff.mpr (List.mem_append_right _ h))
        · rw [if_neg hb] at o; exact o.elim
end
end Cb

end
section
set_option maxRecDepth 100000
set_option maxHeartbeats 4000000
/-! statements' outcomes; a def by its body -/
namespace Cb
open PySem PySem.Spec PyProof.Rows L2
/-- slots that are never stored -/
def Agr (K : List Nat) (σ σ' : L2.St) : Prop := ∀ i ∈ K, σ'[i]? = σ[i]?
theorem Agr.refl {K : List Nat} {σ : L2.St} : Agr K σ σ := fun _ _ => rfl
theorem Agr.trans {K : List Nat} {σ σ1 σ2 : L2.St} (a : Agr K σ σ1) (b : Agr K σ1 σ2) : Agr K σ σ2 := fun i h => (b i h).trans (a i h)
theorem Agr.set {K : List Nat} {σ : L2.St} {i : Nat} {x : Option V} (h : i ∉ K) : Agr K σ (σ.set i x) := fun j hj => by
  have ne : i ≠ j := fun e => h (by rw [e]; exact hj)
  exact List.getElem?_set_ne ne
def OutS [Tb] (G : Gc) (U : L2.WX) (K : List Nat) (σ : L2.St) (S : AS) (H : Hp) (A : List Addr) (r : SR) (D : Ends) : Prop := match r with
  | .nx e => ∀ σ' H' S' A', Agr K σ σ' → EnvR G S' H' e σ' A' → Ok S' H' A' → Fr S H A S' H' A' → D.nx σ' H'
  | .bk e => ∀ σ' H' S' A', Agr K σ σ' → EnvR G S' H' e σ' A' → Ok S' H' A' → Fr S H A S' H' A' → D.bk σ' H'
  | .ct e => ∀ σ' H' S' A', Agr K σ σ' → EnvR G S' H' e σ' A' → Ok S' H' A' → Fr S H A S' H' A' → D.ct σ' H'
  | .rt z e => ∀ v σ' H' S' A' B, Agr K σ σ' → EnvR G S' H' e σ' A' → RZ G S' H' z v B → Ok S' H' (B ++ A') → Fr S H A S' H' (B ++ A') → D.rt v H'
  | .ex x e => ∀ cls d σ' H' S' A', XR G S' H' x cls d → Agr K σ σ' → EnvR G S' H' e σ' A' → Ok S' H' A' → Fr S H A S' H' A' → U cls d σ' H'
  | .bad => False
def tS [Tb] (G : Gc) (U : L2.WX) (K : List Nat) (d : DenS) : TS := fun D σ H => ∃ env S A, EnvR G S H env σ A ∧ Ok S H A ∧ OutS G U K σ S H A (d env) D
section
variable [Tb] {G : Gc} {U : L2.WX} {K : List Nat} {X : Cx}
theorem OutS.from {σ σ1 : L2.St} {S S1 : AS} {H H1 : Hp} {A A1 : List Addr} {r : SR} {D : Ends} (h : OutS G U K σ S H A r D) (g : Agr K σ σ1) (f : Fr S H A S1 H1 A1) : OutS G U K σ1 S1 H1 A1 r D := by
  cases r with
  | nx e => exact fun σ' H' S' A' a h1 h2 h3 => h σ' H' S' A' (g.trans a) h1 h2 (f.trans h3)
  | bk e => exact fun σ' H' S' A' a h1 h2 h3 => h σ' H' S' A' (g.trans a) h1 h2 (f.trans h3)
  | ct e => exact fun σ' H' S' A' a h1 h2 h3 => h σ' H' S' A' (g.trans a) h1 h2 (f.trans h3)
  | rt z e => exact fun v σ' H' S' A' B a h1 h2 h3 h4 => h v σ' H' S' A' B (g.trans a) h1 h2 h3 (f.trans h4)
  | ex x e => exact fun cls d σ' H' S' A' h1 a h2 h3 h4 => h cls d σ' H' S' A' h1 (g.trans a) h2 h3 (f.trans h4)
  | bad => exact h
theorem OutS.mono {σ : L2.St} {S : AS} {H : Hp} {A : List Addr} {r : SR} {D D' : Ends} (h : OutS G U K σ S H A r D) (n : ∀ σ H, D.nx σ H → D'.nx σ H) (b : ∀ σ H, D.bk σ H → D'.bk σ H) (c : ∀ σ H, D.ct σ H → D'.ct σ H) (t : ∀ v H, D.rt v H → D'.rt v H) : OutS G U K σ S H A r D' := by
  cases r with
  | nx e => exact fun σ' H' S' A' a h1 h2 h3 => n _ _ (h σ' H' S' A' a h1 h2 h3)
  | bk e => exact fun σ' H' S' A' a h1 h2 h3 => b _ _ (h σ' H' S' A' a h1 h2 h3)
  | ct e => exact fun σ' H' S' A' a h1 h2 h3 => c _ _ (h σ' H' S' A' a h1 h2 h3)
  | rt z e => exact fun v σ' H' S' A' B a h1 h2 h3 h4 => t _ _ (h v σ' H' S' A' B a h1 h2 h3 h4)
  | ex x e => exact h
  | bad => exact h
/-- an expression first, then what is made of its outcome -/
theorem of_bind {α β : Type} {rel : Rel α β} {σ : L2.St} {S : AS} {H : Hp} {A : List Addr} {r : R α} {k : α → Env → R SR} {D : Ends} (hB : ∀ {S H a b B}, rel σ S H a b B → B = []) (h : OutS G U K σ S H A (SR.of (r.bind k)) D) :
    Out G U σ S H A rel r fun b H1 => Nxt G σ S H A rel r b H1 fun S1 A1 a env1 => OutS G U K σ S1 H1 A1 (SR.of (k a env1)) D := by
  cases r with
  | ok a e =>
    intro b H' S' A' B h1 h2 h3 h4
    obtain rfl := hB h2
    exact ⟨a, e, S', A', rfl, h1, h3, h2, h4, OutS.from h Agr.refl h4⟩
  | ex x e => exact fun cls d H' S' A' h1 h2 h3 h4 => h cls d σ H' S' A' h1 Agr.refl h2 h3 h4
  | bad => exact h
/-- .. where the value's own objects are kept -/
theorem of_bindZ {σ : L2.St} {S : AS} {H : Hp} {A : List Addr} {r : R Z} {k : Z → Env → SR} {D : Ends} (h : OutS G U K σ S H A (SR.of (r.bind fun z e => .ok (k z e) e)) D) :
    Out G U σ S H A (rZ G) r fun v H1 => ∃ z env1 S1 A1 B, r = .ok z env1 ∧ EnvR G S1 H1 env1 σ A1 ∧ RZ G S1 H1 z v B ∧ Ok S1 H1 (B ++ A1) ∧ Fr S H A S1 H1 (B ++ A1) ∧ OutS G U K σ S1 H1 (B ++ A1) (k z env1) D := by
  cases r with
  | ok a e =>
    intro b H' S' A' B h1 h2 h3 h4
    exact ⟨a, e, S', A', B, rfl, h1, h2, h3, h4, OutS.from h Agr.refl h4⟩
  | ex x e => exact fun cls d H' S' A' h1 h2 h3 h4 => h cls d σ H' S' A' h1 Agr.refl h2 h3 h4
  | bad => exact h

/-! ### the entry -/
theorem envR_none {S : AS} {H : Hp} : ∀ n : Nat, EnvR G S H (List.replicate n none) (List.replicate n none) []
  | 0 => .nil
  | n + 1 => .off (envR_none n)
theorem envR_start {S : AS} {H : Hp} {n : Nat} : ∀ {zs : List Z} {vs : List V} {Bs : List (List Addr)}, RZs G S H zs vs Bs → EnvR G S H (zs.map some ++ List.replicate n none) (vs.map some ++ List.replicate n none) Bs.flatten
  | [], vs, Bs, ⟨h1, h2⟩ => by subst h1 h2; exact envR_none n
  | z :: zs, vs, Bs, ⟨v, r, B, Br, e1, e2, h1, h2⟩ => by
    subst e1 e2
    exact EnvR.on h1 (envR_start h2)
theorem RZs.len {S : AS} {H : Hp} : ∀ {zs : List Z} {vs : List V} {Bs : List (List Addr)}, RZs G S H zs vs Bs → zs.length = vs.length
  | [], vs, Bs, ⟨h1, h2⟩ => by subst h1; rfl
  | z :: zs, vs, Bs, ⟨v, r, B, Br, e1, e2, h1, h2⟩ => by
    subst e1
    simp [RZs.len h2]
theorem RZs.at {S : AS} {H : Hp} : ∀ {zs : List Z} {vs : List V} {Bs : List (List Addr)} {i : Nat} {z : Z}, RZs G S H zs vs Bs → zs[i]? = some z → ∃ v B, vs[i]? = some v ∧ RZ G S H z v B
  | [], _, _, _, _, _, e => by simp at e
  | z :: zs, vs, Bs, 0, _, ⟨v, r, B, Br, e1, e2, h1, h2⟩, e => by
    subst e1
    simp at e; subst e
    exact ⟨v, B, rfl, h1⟩
  | z :: zs, vs, Bs, i + 1, _, ⟨v, r, B, Br, e1, e2, h1, h2⟩, e => by
    subst e1
    simpa using RZs.at (i := i) h2 (by simpa using e)
/-- the arguments as they stand behind the body -/
theorem back_ok {keeps : List Nat} {zs : List Z} {S : AS} {H : Hp} {vf : Nat → V} : ∀ {l : List Nat} {env e0 : Env} {σ : L2.St} {A : List Addr} {b : List Z}, EnvR G S H env σ A → l.Nodup → (∀ i ∈ l, gets env i = gets e0 i) → (∀ i ∈ l, i ∈ keeps → σ[i]? = some (some (vf i))) →
    (∀ i ∈ l, ∀ x, zs[i]? = some (.w x) → Rp G S H x (vf i)) → (l.mapM fun i => if keeps.contains i then gets e0 i else (match zs[i]? with | some (.w x) => some (.w x) | _ => none)) = some b →
    ∃ Bs R, RZs G S H b (l.map vf) Bs ∧ A.Perm (Bs.flatten ++ R)
  | [], env, e0, σ, A, b, en, _, _, _, _, e => by
    have e' : b = [] := by simpa using e.symm
    subst e'
    exact ⟨[], A, ⟨rfl, rfl⟩, List.Perm.refl _⟩
  | i :: l, env, e0, σ, A, b, en, nd, hg, hσ, hz, e => by
    obtain ⟨n1, n2⟩ := List.nodup_cons.mp nd
    rw [List.mapM_cons] at e
    cases q : (if keeps.contains i then gets e0 i else (match zs[i]? with | some (.w x) => some (.w x) | _ => none)) with
    | none => rw [q] at e; cases e
    | some z =>
      rw [q] at e
      cases q2 : (l.mapM fun i => if keeps.contains i then gets e0 i else (match zs[i]? with | some (.w x) => some (.w x) | _ => none)) with
      | none =>
        have e' : (do let bs ← (l.mapM fun i => if keeps.contains i then gets e0 i else (match zs[i]? with | some (.w x) => some (.w x) | _ => none)); pure (z :: bs)) = some b := e
        rw [q2] at e'; cases e'
      | some bs =>
        have e' : (do let bs ← (l.mapM fun i => if keeps.contains i then gets e0 i else (match zs[i]? with | some (.w x) => some (.w x) | _ => none)); pure (z :: bs)) = some b := e
        rw [q2] at e'
        cases e'
        by_cases hk : keeps.contains i = true
        · rw [if_pos hk] at q
          have hk' : i ∈ keeps := by simpa using hk
          have q' : gets env i = some z := (hg i List.mem_cons_self).trans q
          obtain ⟨v, B, R0, hs, rz, pm, er⟩ := en.gets q'
          rw [hσ i List.mem_cons_self hk'] at hs
          cases hs
          obtain ⟨Bs, R, k1, k2⟩ := back_ok er n2 (fun j hj => by
            rw [gets_set_ne (fun e => n1 (by rw [e]; exact hj))]
            exact hg j (List.mem_cons_of_mem _ hj)) (fun j hj => hσ j (List.mem_cons_of_mem _ hj)) (fun j hj => hz j (List.mem_cons_of_mem _ hj)) q2
          refine ⟨B :: Bs, R, ⟨_, _, B, Bs, rfl, rfl, rz, k1⟩, ?_⟩
          rw [List.flatten_cons, List.append_assoc]
          exact pm.trans (List.Perm.append_left B k2)
        · rw [if_neg hk] at q
          obtain ⟨Bs, R, k1, k2⟩ := back_ok en n2 (fun j hj => hg j (List.mem_cons_of_mem _ hj)) (fun j hj => hσ j (List.mem_cons_of_mem _ hj)) (fun j hj => hz j (List.mem_cons_of_mem _ hj)) q2
          cases q3 : zs[i]? with
          | none => rw [q3] at q; cases q
          | some z' =>
            rw [q3] at q
            cases z' with
            | w x =>
              cases q
              exact ⟨[] :: Bs, R, ⟨_, _, [], Bs, rfl, rfl, ⟨hz i List.mem_cons_self x q3, rfl⟩, k1⟩, k2⟩
            | _ => cases q

/-! ### a def -/
theorem map_range {vs : List V} {d : V} : (List.range vs.length).map (fun i => vs.getD i d) = vs := by
  apply List.ext_getElem?
  intro i
  by_cases h : i < vs.length
  · simp [h]
  · simp [h]
/-- cdv is the def's code object -/
def CodeIs (K' : PySem.W.Frag) (f : Addr) (cdv : Value) : Prop := ∃ (c : Addr) (oc : Value) (od : Option Addr) (fd : FuncData) (osl : Array (Option Value)), cdv = .ref c ∧ K'.lookup f = some ⟨oc, od, .func fd, osl⟩ ∧ fd.code = .ref c
theorem code_ref {K' : PySem.W.Frag} {cd : Value} {q : Str} (h : PySem.W.codeIn K' cd q = true) : ∃ c, cd = .ref c := by
  cases cd with
  | ref c => exact ⟨c, rfl⟩
  | _ => cases h
theorem def_ok {P : Program} {w : World} {K' : PySem.W.Frag} {mg : Str → Option Value} {base : Heap} {x qual : Str} {params : Arguments} {body : List Stmt} {scope : Scope} {dvs : List V} {kws : List (Str × V)} {f : Addr} {fd : FuncData} {N ps : List Str} {k : Nat} (d : Df)
    (F : FunD K' x qual params body scope dvs kws f fd) (Sc : FnScope N ps scope) (hn : ps.length = d.np) (hs : N.length = d.ns) (hk : ∀ i ∈ d.keeps, i < d.np)
    (hb : ∀ (cdv : Value), CodeIs K' f cdv → ∀ (A : Around) (outer : List PySem.Env) (s : Shared) (H : Hp) (E : XK), Room k (A.deeper (envOfC qual scope s.heap.objs.size f cdv)) →
      PSs (cxOf (L2.CX P w) P w K' mg base N qual scope f cdv A outer s H E) body (tS G (fun cls d _ H => E cls d H) d.keeps d.body)) :
    FnOk P w K' mg base (L2.CX P w) (k + 1) f fd ps (spM G d.np (evD d)) := by
  obtain ⟨oc, od, dV, kV, doc, pm, an, cdv, ct, osl, rfl, lk, hcd, _, _⟩ := F.ex
  obtain ⟨c, rfl⟩ := code_ref hcd
  refine fn_of lk hcd Sc (fun vs H Q E h => h.1.trans hn.symm) fun A outer s H vs Q E hr h => ⟨_, hb (.ref c) ⟨c, oc, od, _, osl, rfl, lk, rfl⟩ A outer s H E hr, ?_⟩
  obtain ⟨hl, zs, S, Bs, rz, ok, h⟩ := h
  have hzl : zs.length = d.np := rz.len.trans hl
  unfold evD at h
  rw [if_pos hzl] at h
  have est : L2.start N vs = vs.map some ++ List.replicate (d.ns - d.np) none := by unfold L2.start; rw [hs, hl]
  rw [est]
  have en := envR_start (n := d.ns - d.np) rz
  refine ⟨_, S, Bs.flatten, en, ok, ?_⟩
  -- the arguments behind it
  have bk : ∀ {e : Env} {σ' : L2.St} {H' : Hp} {S' : AS} {A' : List Addr} {b : List Z}, Agr d.keeps (vs.map some ++ List.replicate (d.ns - d.np) none) σ' → EnvR G S' H' e σ' A' → Kp S H H' → (∀ a, S a → S' a) → backOf d zs e = some b →
      ∃ Bs' R, RZs G S' H' b vs Bs' ∧ A'.Perm (Bs'.flatten ++ R) := by
    intro e σ' H' S' A' b ag en' kp up hb
    have z := back_ok (G := G) (vf := fun i => vs.getD i .non) (keeps := d.keeps) (zs := zs) (l := List.range d.np) (e0 := e) en' List.nodup_range (fun _ _ => rfl) (fun i hi hk' => by
      have hi' : i < vs.length := by rw [hl]; exact List.mem_range.mp hi
      rw [ag i hk', List.getElem?_append_left (by simpa using hi'), List.getElem?_map]
      simp [hi']) (fun i hi x q => by
      obtain ⟨v, B, hv, r⟩ := rz.at q
      have e : vs.getD i .non = v := by simp [hv]
      rw [e]
      exact r.1.mono kp up) hb
    rw [← hl, map_range] at z
    exact z
  have fin : ∀ {z : Z} {e : Env} {v : V} {σ' : L2.St} {H' : Hp} {S' : AS} {A' B : List Addr} {b : List Z}, Agr d.keeps (vs.map some ++ List.replicate (d.ns - d.np) none) σ' → EnvR G S' H' e σ' A' → Ok S' H' (B ++ A') → Fr S H Bs.flatten S' H' (B ++ A') → backOf d zs e = some b →
      ∃ Bs', RZs G S' H' b vs Bs' ∧ Ok S' H' (B ++ Bs'.flatten) ∧ Fr S H Bs.flatten S' H' (B ++ Bs'.flatten) := by
    intro z e v σ' H' S' A' B b ag en' ok' f hb
    obtain ⟨Bs', R, k1, k2⟩ := bk ag en' (f.kp ok) f.up hb
    refine ⟨Bs', k1, (ok'.perm (List.Perm.append_left B k2.symm)).sub (List.Sublist.append_left (List.sublist_append_left _ _) B), f.less fun a ha => ?_⟩
    rcases List.mem_append.mp ha with h | h
    · exact List.mem_append_left _ h
    · exact List.mem_append_right _ (k2.mem_iff.mpr (List.mem_append_left _ h))
  cases e : d.body (zs.map some ++ List.replicate (d.ns - d.np) none) with
  | nx e1 =>
    rw [e] at h
    dsimp only at h
    cases q : backOf d zs e1 with
    | none => rw [q] at h; exact h.elim
    | some b =>
      rw [q] at h
      intro σ' H' S' A' ag en' ok' f
      obtain ⟨Bs', k1, k2, k3⟩ := fin (z := .w .non) (v := .non) (B := []) ag en' ok' f q
      exact h .non H' S' [] Bs' k1 ⟨rp_non _ _, rfl⟩ k2 k3
  | rt z e1 =>
    rw [e] at h
    dsimp only at h
    cases q : backOf d zs e1 with
    | none => rw [q] at h; exact h.elim
    | some b =>
      rw [q] at h
      intro v σ' H' S' A' B ag en' rz' ok' f
      obtain ⟨Bs', k1, k2, k3⟩ := fin (z := z) (v := v) ag en' ok' f q
      exact h v H' S' B Bs' k1 rz' k2 k3
  | ex x1 e1 =>
    rw [e] at h
    dsimp only at h
    cases q : backOf d zs e1 with
    | none => rw [q] at h; exact h.elim
    | some b =>
      rw [q] at h
      intro cls dd σ' H' S' A' xr ag en' ok' f
      obtain ⟨Bs', k1, k2, k3⟩ := fin (z := .w .non) (v := .non) (B := []) ag en' ok' f q
      exact h cls dd H' S' Bs' xr k1 k2 k3
  | bk e1 => rw [e] at h; exact h.elim
  | ct e1 => rw [e] at h; exact h.elim
  | bad => rw [e] at h; exact h.elim
end
end Cb

end
section
set_option maxRecDepth 100000
set_option maxHeartbeats 4000000
/-! statements without loops -/
namespace Cb
open PySem PySem.Spec PyProof.Rows L2
section
variable [Tb] {G : Gc} {U : L2.WX} {K : List Nat} {X : Cx}
theorem ss_nil : PSs X [] (tS G U K fun env => .nx env) := pss_nil.imp fun D σ H ⟨env, S, A, en, ok, o⟩ => o σ H S A Agr.refl en ok (Fr.refl ok)
theorem seq_out {a b : DenS} {D : Ends} {σ : L2.St} {S : AS} {H : Hp} {A : List Addr} {env : Env} (o : OutS G U K σ S H A (kSeq a b env) D) : OutS G U K σ S H A (a env) { D with nx := tS G U K b D } := by
  unfold kSeq at o
  cases e : a env with
  | nx e1 =>
    rw [e] at o
    exact fun σ' H' S' A' ag en ok f => ⟨e1, S', A', en, ok, OutS.from o ag f⟩
  | rt z e1 => rw [e] at o; exact o
  | bk e1 => rw [e] at o; exact o
  | ct e1 => rw [e] at o; exact o
  | ex x e1 => rw [e] at o; exact o
  | bad => rw [e] at o; exact o
theorem ss_cons {st : Stmt} {r : List Stmt} {a b : DenS} (h1 : PS X st (tS G U K a)) (h2 : PSs X r (tS G U K b)) : PSs X (st :: r) (tS G U K (kSeq a b)) := (pss_cons h1 h2).imp fun D σ H ⟨env, S, A, en, ok, o⟩ => ⟨env, S, A, en, ok, seq_out o⟩
theorem sk_pass {pos : Pos} : PS X (.Pass pos) (tS G U K fun env => .nx env) := ps_pass.imp fun D σ H ⟨env, S, A, en, ok, o⟩ => o σ H S A Agr.refl en ok (Fr.refl ok)
theorem sk_bk {pos : Pos} : PS X (.Break pos) (tS G U K fun env => .bk env) := ps_break.imp fun D σ H ⟨env, S, A, en, ok, o⟩ => o σ H S A Agr.refl en ok (Fr.refl ok)
theorem sk_ct {pos : Pos} : PS X (.Continue pos) (tS G U K fun env => .ct env) := ps_continue.imp fun D σ H ⟨env, S, A, en, ok, o⟩ => o σ H S A Agr.refl en ok (Fr.refl ok)
theorem sk_never {st : Stmt} : PS X st (tS G U K fun _ => .bad) := ps_never.imp fun D σ H ⟨env, S, A, en, ok, o⟩ => o
theorem sk_retN {pos : Pos} : PS X (.Return none pos) (tS G U K fun env => .rt (.w .non) env) := ps_retN.imp fun D σ H ⟨env, S, A, en, ok, o⟩ => o .non σ H S A [] Agr.refl en ⟨rp_non _ _, rfl⟩ ok (Fr.refl ok)
theorem sk_ret {e : Expr} {pos : Pos} {d : Den Z} (h : PE X e (tD G U (rZ G) d)) : PS X (.Return (some e) pos) (tS G U K (kRet d)) := (ps_ret h).imp fun D σ H ⟨env, S, A, en, ok, o⟩ =>
  ⟨env, S, A, en, ok, (of_bindZ (k := fun z e => .rt z e) o).mono fun v H1 ⟨z, env1, S1, A1, B, _, en1, rz, ok1, f1, o1⟩ => o1 v σ H1 S1 A1 B Agr.refl en1 rz ok1 (Fr.refl ok1)⟩
theorem sk_retv {e : Expr} {pos : Pos} {i : Nat} (h : PE X e (tVar i)) : PS X (.Return (some e) pos) (tS G U K (kRetv i)) := (ps_ret h).imp fun D σ H ⟨env, S, A, en, ok, o⟩ => by
  unfold kRetv at o
  cases e : gets env i with
  | none => rw [e] at o; exact o.elim
  | some z =>
    rw [e] at o
    obtain ⟨v, B, R, hs, rz, pm, er⟩ := en.gets e
    have ok2 := ok.perm pm.symm
    exact ⟨v, hs, o v σ H S R B Agr.refl er rz ok2 ((Fr.refl ok).less fun a ha => pm.mem_iff.mpr ha)⟩
theorem sk_ex {e : Expr} {pos : Pos} {d : Den Z} (h : PE X e (tD G U (rZ G) d)) (hs : swapsWith e none pos.line X.env = pure false) : PS X (.Expr e pos) (tS G U K (kEx d)) := (ps_expr h hs).imp fun D σ H ⟨env, S, A, en, ok, o⟩ =>
  ⟨env, S, A, en, ok, (of_bindZ (k := fun _ e => .nx e) o).mono fun v H1 ⟨z, env1, S1, A1, B, _, en1, rz, ok1, f1, o1⟩ =>
    o1 σ H1 S1 A1 Agr.refl en1 ok1.right ((Fr.refl ok1).less fun a ha => List.mem_append_right _ ha)⟩
theorem sk_if {c : Expr} {a b : List Stmt} {pos : Pos} {t : Den Bool} {da db : DenS} (hc : PT X c (tD G U rB t)) (ha : PSs X a (tS G U K da)) (hb : PSs X b (tS G U K db)) : PS X (.If c a b pos) (tS G U K (kIte t da db)) :=
  (ps_if hc ha hb).imp fun D σ H ⟨env, S, A, en, ok, o⟩ => ⟨env, S, A, en, ok, (of_bind (rel := rB) (fun h => h.2) o).mono fun b H1 ⟨c, env1, S1, A1, _, en1, ok1, ⟨e1, _⟩, f1, o1⟩ => by
    obtain rfl : c = b := e1
    cases c with
    | true => rw [if_pos rfl]; exact ⟨env1, S1, A1, en1, ok1, o1⟩
    | false => rw [if_neg Bool.false_ne_true]; exact ⟨env1, S1, A1, en1, ok1, o1⟩⟩

/-! ### stores -/
/-- a slot laid anew: what it held is given up -/
theorem lay {S : AS} {H : Hp} {env : Env} {σ : L2.St} {A B : List Addr} {i : Nat} {z : Z} {v : V} (en : EnvR G S H env σ A) (hi : i < env.length) (rz : RZ G S H z v B) (ok : Ok S H (B ++ A)) :
    ∃ A', EnvR G S H (env.set i (some z)) (σ.set i (some v)) A' ∧ Ok S H A' ∧ ∀ a ∈ A', a ∈ B ++ A := by
  obtain ⟨R, h1, h2⟩ := en.drop i
  obtain ⟨A', h3, h4⟩ := h1.put hi rz
  have ok' : Ok S H (B ++ R) := ok.sub (List.Sublist.append_left h2 B)
  refine ⟨A', h3, ok'.perm h4, fun a ha => ?_⟩
  rcases List.mem_append.mp (h4.mem_iff.mp ha) with h | h
  · exact List.mem_append_left _ h
  · exact List.mem_append_right _ (h2.subset h)
theorem set_out {i : Nat} {z : Z} {v : V} {D : Ends} {σ : L2.St} {S : AS} {H : Hp} {A B : List Addr} {env : Env} (hk : i ∉ K) (en : EnvR G S H env σ A) (rz : RZ G S H z v B) (ok : Ok S H (B ++ A)) (o : OutS G U K σ S H (B ++ A) (setSl i z env) D) : D.nx (σ.set i (some v)) H := by
  unfold setSl at o
  by_cases hi : i < env.length
  · rw [if_pos hi] at o
    obtain ⟨A', h1, h2, h3⟩ := lay en hi rz ok
    exact o _ H S A' (Agr.set hk) h1 h2 ((Fr.refl ok).less h3)
  · rw [if_neg hi] at o; exact o.elim
theorem sk_set {i : Nat} {x : Str} {e : Expr} {pos pos' : Pos} {d : Den Z} (hN : X.N.Nodup) (hi : X.N[i]? = some x) (hx : Loc X.env.scope x) (hf : X.fn x = true) (he : PE X e (tD G U (rZ G) d)) (hs : swapsWith e (some (.Name x pos')) pos.line X.env = pure false) (hk : i ∉ K) :
    PS X (.Assign [.Name x pos'] e pos) (tS G U K (kSet i d)) := (ps_set hN hi hx he hs (.inl hf)).imp fun D σ H ⟨env, S, A, en, ok, o⟩ =>
  ⟨env, S, A, en, ok, (of_bindZ (k := fun z e => setSl i z e) o).mono fun v H1 ⟨z, env1, S1, A1, B, _, en1, rz, ok1, f1, o1⟩ => set_out hk en1 rz ok1 o1⟩
/-- several slots, from the left -/
theorem many_out {D : Ends} : ∀ {is : List Nat} {ws : List W} {vs : List V} {σ : L2.St} {S : AS} {H : Hp} {A : List Addr} {env : Env}, (∀ i ∈ is, i ∉ K) → EnvR G S H env σ A → Rps G S H ws vs → Ok S H A → OutS G U K σ S H A (setMany is ws env) D →
    is.length = vs.length ∧ D.nx ((is.zip vs).foldl (fun s p => s.set p.1 (some p.2)) σ) H
  | [], [], vs, σ, S, H, A, env, hk, en, r, ok, o => by
    obtain rfl := r.inv0
    exact ⟨rfl, o σ H S A Agr.refl en ok (Fr.refl ok)⟩
  | [], w :: ws, vs, σ, S, H, A, env, hk, en, r, ok, o => by unfold setMany at o; exact o.elim
  | i :: is, [], vs, σ, S, H, A, env, hk, en, r, ok, o => by unfold setMany at o; exact o.elim
  | i :: is, w :: ws, vs, σ, S, H, A, env, hk, en, r, ok, o => by
    obtain ⟨v, vr, rfl, r1, r2⟩ := r.inv
    unfold setMany at o
    by_cases hi : i < env.length
    · rw [if_pos hi] at o
      obtain ⟨A', h1, h2, h3⟩ := lay (B := []) (z := .w w) en hi ⟨r1, rfl⟩ ok
      obtain ⟨l, q⟩ := many_out (fun j hj => hk j (List.mem_cons_of_mem _ hj)) h1 r2 h2 (OutS.from o (Agr.set (hk i List.mem_cons_self)) ((Fr.refl ok).less h3))
      exact ⟨by simp [l], q⟩
    · rw [if_neg hi] at o; exact o.elim
/-- targets that are names -/
def NmAt (X : Cx) : Expr → Nat → Prop
  | .Name x _, i => X.N[i]? = some x ∧ Loc X.env.scope x ∧ (X.fn x = true ∨ X.env.scope.names.lookup x = some .local)
  | _, _ => False
def NmsAt (X : Cx) : List Expr → List Nat → Prop
  | [], [] => True
  | e :: es, i :: is => NmAt X e i ∧ NmsAt X es is
  | _, _ => False
def gMany : List Nat → TGs
  | [] => gNil
  | i :: is => gCons (gName i) (gMany is)
theorem nms_len : ∀ {es : List Expr} {is : List Nat}, NmsAt X es is → es.length = is.length
  | [], [], _ => rfl
  | _ :: _, _ :: _, h => by simp [nms_len h.2]
theorem nm_each {e : Expr} {i : Nat} (h : NmAt X e i) (es : List Expr) : assignEach (e :: es) X.env = (false, assign e X.env) :: assignEach es X.env := by
  cases e with
  | Name x p => rfl
  | _ => exact h.elim
theorem nms_each : ∀ {es : List Expr} {is : List Nat}, NmsAt X es is → (assignEach es X.env).length = es.length ∧ (assignEach es X.env).findIdx? (·.1) = none
  | [], [], _ => ⟨rfl, rfl⟩
  | e :: es, i :: is, h => by
    obtain ⟨h1, h2⟩ := nms_each h.2
    rw [nm_each h.1]
    exact ⟨by simp [h1], by simp [List.findIdx?_cons, h2]⟩
theorem nm_pg {e : Expr} {i : Nat} (hN : X.N.Nodup) (h : NmAt X e i) : PG X e (gName i) := by
  cases e with
  | Name x p => exact pg_name hN h.1 h.2.1 h.2.2
  | _ => exact h.elim
theorem nms_pgs (hN : X.N.Nodup) : ∀ {es : List Expr} {is : List Nat}, NmsAt X es is → PGs X es (gMany is)
  | [], [], _ => pgs_nil
  | e :: es, i :: is, h => pgs_cons (nm_pg hN h.1) (nms_pgs hN h.2) (by rw [nm_each h.1]; rfl)
theorem gMany_of : ∀ {is : List Nat} {vs : List V} {σ : L2.St} {H : Hp} {Q : L2.St → Hp → Prop}, is.length = vs.length → Q ((is.zip vs).foldl (fun s p => s.set p.1 (some p.2)) σ) H → gMany is vs σ H Q
  | [], vs, σ, H, Q, l, q => by
    have e : vs = [] := by cases vs with | nil => rfl | cons => simp at l
    subst e
    exact ⟨rfl, q⟩
  | i :: is, [], σ, H, Q, l, q => by simp at l
  | i :: is, v :: vs, σ, H, Q, l, q => ⟨v, vs, rfl, gMany_of (by simpa using l) q⟩
theorem sk_setT {is : List Nat} {es : List Expr} {k : Nat} {p : Pos} {e : Expr} {pos : Pos} {d : Den Z} (hc : X.calm = true) (hN : X.N.Nodup) (hn : NmsAt X es is) (he : PE X e (tD G U (rZ G) d)) (hs : swapsWithSole [.Tuple es k p] e pos.line X.env = pure false) (hw : swappedStores [.Tuple es k p] e X.env = pure none)
    (hG : G.K = X.K) (hk : ∀ i ∈ is, i ∉ K) : PS X (.Assign [.Tuple es k p] e pos) (tS G U K (kSetT is d)) :=
  (ps_asg (pe_fz he) (pg_tup hc (nms_pgs hN hn) ((nms_each hn).1.trans (nms_len hn)) (nms_each hn).2) hs hw rfl).imp fun D σ H ⟨env, S, A, en, ok, o⟩ => by
    refine ⟨env, S, A, en, ok, ?_⟩
    have e1 : kSetT is d env = SR.of ((cFz d env).bind fun w e => match w with | .tup ws => .ok (setMany is ws e) e | _ => .bad) := by
      unfold kSetT cFz
      cases d env <;> rfl
    rw [e1] at o
    refine (of_bind (rel := rW G) (fun h => h.2) o).mono fun v H1 ⟨w, env1, S1, A1, _, en1, ok1, ⟨r1, _⟩, f1, o1⟩ => ?_
    cases w with
    | tup ws =>
      unfold Rp at r1
      obtain ⟨a, vs, rfl, h1, h2⟩ := r1
      obtain ⟨l, q⟩ := many_out hk en1 h2 ok1 o1
      exact ⟨a, vs, rfl, hG ▸ h1, l.symm, gMany_of l q⟩
    | _ => exact o1.elim
/-- x, y = a, b: stored from the right -/
theorem sk_par2 {i j : Nat} {x y : Str} {a b : Expr} {px py pt pos : Pos} {kt k2 pt2} {d : Den (List W)} (hc : X.calm = true) (hN : X.N.Nodup) (hi : X.N[i]? = some x) (hj : X.N[j]? = some y) (hij : i ≠ j) (hx : X.env.scope.names.lookup x = some .local) (hy : X.env.scope.names.lookup y = some .local)
    (ha : PA X [a, b] (tD G U (rWs G) d)) (hw : swappedStores [.Tuple [.Name x px, .Name y py] kt pt] (.Tuple [a, b] k2 pt2) X.env = pure (some [x, y])) (hk : i ∉ K ∧ j ∉ K) :
    PS X (.Assign [.Tuple [.Name x px, .Name y py] kt pt] (.Tuple [a, b] k2 pt2) pos) (tS G U K (kPar [i, j] d)) := (ps_par hc hN hi hj hij hx hy ha hw).imp fun D σ H ⟨env, S, A, en, ok, o⟩ => by
  refine ⟨env, S, A, en, ok, (of_bind (rel := rWs G) (fun h => h.2) o).mono fun vs H1 ⟨w, env1, S1, A1, _, en1, ok1, ⟨r1, _⟩, f1, o1⟩ => ?_⟩
  obtain ⟨l, q⟩ := many_out (is := [i, j]) (fun k hk' => by rcases List.mem_cons.mp hk' with e | e; exact e ▸ hk.1; rw [List.mem_singleton.mp e]; exact hk.2) en1 r1 ok1 o1
  match vs, l with
  | [v, w'], _ => exact ⟨v, w', rfl, q⟩
theorem sk_aug {i : Nat} {x : Str} {e : Expr} {op : Operator} {pos pos' : Pos} {d : Den Z} {p : Pr} {f : Int → Int → Int} (hN : X.N.Nodup) (hi : X.N[i]? = some x) (hx : Loc X.env.scope x) (hf : X.fn x = true) (he : PE X e (tD G U (rZ G) d)) {C : Int → Int → Prop}
    (hop : PIp X op fun x y H Q => ∃ i j, x = .int i ∧ y = .int j ∧ C i j ∧ Q (.int (f i j)) H) (hp : ∀ a w z, prW p [.int a, w] = some z → ∃ b, w = .int b ∧ C a b ∧ z = .w (.int (f a b))) (hk : i ∉ K) :
    PS X (.AugAssign (.Name x pos') op e pos) (tS G U K (kAug i p d)) := (ps_aug hN hi hx (pe_fz he) hop (.inl hf)).imp fun D σ H ⟨env, S, A, en, ok, o⟩ => by
  unfold kAug at o
  cases e1 : gets env i with
  | none => rw [e1] at o; exact o.elim
  | some z =>
    rw [e1] at o
    obtain ⟨v, B, R0, hs, rz, pm, er⟩ := en.gets e1
    cases z with
    | w x =>
      cases x with
      | int a =>
        obtain ⟨rz, rfl⟩ := rz
        unfold Rp at rz
        subst rz
        refine ⟨.int a, hs, ?_⟩
        dsimp only at o
        have o2 : OutS G U K σ S H A (SR.of ((cFz d env).bind fun y env => match prW p [.int a, y] with | some (.w w) => R.ok (setSl i (.w w) env) env | _ => .bad)) D := by
          unfold cFz
          revert o
          cases d env <;> exact fun o => o
        refine ⟨env, S, A, en, ok, (of_bind (rel := rW G) (fun h => h.2) o2).mono fun y H1 ⟨w, env1, S1, A1, _, en1, ok1, ⟨r1, _⟩, f1, o1⟩ => ?_⟩
        cases q : prW p [.int a, w] with
        | none => rw [q] at o1; exact o1.elim
        | some z =>
          obtain ⟨b, rfl, hC, rfl⟩ := hp a w z q
          rw [q] at o1
          unfold Rp at r1
          subst r1
          exact ⟨a, b, rfl, rfl, hC, set_out (B := []) (z := .w (.int (f a b))) hk en1 ⟨rp_int _ _ _, rfl⟩ ok1 o1⟩
      | _ => exact o.elim
    | _ => exact o.elim

/-! ### o[k] = v -/
theorem Rps.setI {S : AS} {H : Hp} {ws : List W} {vs : List V} {w : W} {v : V} {n : Nat} (h : Rps G S H ws vs) (r : Rp G S H w v) : Rps G S H (ws.set n w) (vs.set n v) := Rps.set n h r
theorem Rpk.inv {S : AS} {H : Hp} {k : Key} {w : W} {ws : List (Key × W)} {vs : List (Key × V)} (h : Rpk G S H ((k, w) :: ws) vs) : ∃ v r, vs = (k, v) :: r ∧ Rp G S H w v ∧ Rpk G S H ws r := by unfold Rpk at h; exact h
theorem Rpk.cons {S : AS} {H : Hp} {k : Key} {w : W} {v : V} {ws : List (Key × W)} {vs : List (Key × V)} (r : Rp G S H w v) (h : Rpk G S H ws vs) : Rpk G S H ((k, w) :: ws) ((k, v) :: vs) := by unfold Rpk; exact ⟨v, vs, rfl, r, h⟩
theorem Rpk.inv0 {S : AS} {H : Hp} {vs : List (Key × V)} (h : Rpk G S H [] vs) : vs = [] := by unfold Rpk at h; exact h
theorem Rpk.nil {S : AS} {H : Hp} : Rpk G S H [] [] := by unfold Rpk; rfl
theorem Rpk.len {S : AS} {H : Hp} : ∀ {ws : List (Key × W)} {vs : List (Key × V)}, Rpk G S H ws vs → vs.length = ws.length
  | [], vs, h => by rw [h.inv0]; rfl
  | (k, w) :: ws, vs, h => by obtain ⟨v, r, rfl, _, h2⟩ := h.inv; simp [h2.len]
theorem Rpk.anyK {S : AS} {H : Hp} {k : Key} : ∀ {ws : List (Key × W)} {vs : List (Key × V)}, Rpk G S H ws vs → (vs.any fun kv => decide (kv.1 = k)) = ws.any fun kv => decide (kv.1 = k)
  | [], vs, h => by rw [h.inv0]; rfl
  | (j, w) :: ws, vs, h => by obtain ⟨v, r, rfl, _, h2⟩ := h.inv; simp [h2.anyK]
theorem Rpk.put {S : AS} {H : Hp} {k : Key} {w : W} {v : V} (r : Rp G S H w v) {ws : List (Key × W)} {vs : List (Key × V)} (h : Rpk G S H ws vs) : Rpk G S H (dput k w ws) (putK vs k v) := by
  unfold dput putK
  rw [h.anyK]
  split
  · rename_i hh; clear hh
    induction ws generalizing vs with
    | nil => rw [h.inv0]; exact .nil
    | cons p ws ih =>
      obtain ⟨j, x⟩ := p
      obtain ⟨y, vr, rfl, h1, h2⟩ := h.inv
      rw [List.map_cons, List.map_cons]
      by_cases e : j = k
      · rw [if_pos (show (j, x).1 = k from e), if_pos (show (j, y).1 = k from e)]
        exact .cons r (ih h2)
      · rw [if_neg (show ¬ (j, x).1 = k from e), if_neg (show ¬ (j, y).1 = k from e)]
        exact .cons h1 (ih h2)
  · rename_i hh; clear hh
    induction ws generalizing vs with
    | nil => rw [h.inv0]; exact .cons r .nil
    | cons p ws ih =>
      obtain ⟨j, x⟩ := p
      obtain ⟨y, vr, rfl, h1, h2⟩ := h.inv
      exact .cons h1 (ih h2)
theorem Rpk.get {S : AS} {H : Hp} {k : Key} : ∀ {ws : List (Key × W)} {vs : List (Key × V)}, Rpk G S H ws vs → (∀ w, dgetW k ws = some w → ∃ v, valV vs k = some v ∧ Rp G S H w v) ∧ (dgetW k ws = none → valV vs k = none)
  | [], vs, h => by rw [h.inv0]; exact ⟨fun w e => (nomatch e), fun _ => rfl⟩
  | (j, x) :: ws, vs, h => by
    obtain ⟨y, vr, rfl, h1, h2⟩ := h.inv
    unfold dgetW
    by_cases e : j = k
    · rw [if_pos e, valV_pos (show (j, y).1 = k from e)]
      exact ⟨fun w q => ⟨y, rfl, Option.some.inj q ▸ h1⟩, fun q => (nomatch q)⟩
    · rw [if_neg e, valV_neg (show ¬ (j, y).1 = k from e)]
      exact h2.get
theorem kOf_rel {S : AS} {H : Hp} {w : W} {k : Key} {v : V} (e : kOf w = some k) (r : Rp G S H w v) : v = kV k := by
  cases w with
  | int i => cases e; unfold Rp at r; exact r
  | str i => cases e; unfold Rp at r; exact r
  | _ => cases e
/-- the slot's object changed -/
theorem change {S : AS} {H : Hp} {env : Env} {σ : L2.St} {A R : List Addr} {i : Nat} {z' : Z} {p : Addr} {u : HO} (ok : Ok S H A) (hi : i < env.length) (hs : σ[i]? = some (some (.ref p))) (pm : A.Perm ([p] ++ R)) (er : EnvR G S H (env.set i none) σ R) (hu : Mu (some u))
    (hz' : Kp S H (upd H p u) → RZ G S (upd H p u) z' (.ref p) [p]) : ∃ A', EnvR G S (upd H p u) (env.set i (some z')) σ A' ∧ Ok S (upd H p u) A' ∧ Fr S H A S (upd H p u) A' := by
  have ok2 : Ok S H ([p] ++ R) := ok.perm pm.symm
  have hp : p ∈ [p] ++ R := by simp
  have ok3 := Ok.mutate hp ok2 hu
  have f : Fr S H ([p] ++ R) S (upd H p u) ([p] ++ R) := Fr.mutate (u := u) hp ok2
  have er2 : EnvR G S (upd H p u) (env.set i none) σ R := er.mono (f.kp ok2) f.up fun a ha o ea => by
    have ne : a ≠ p := fun z => ok2.dis (a := a) (A := [p]) (B := R) (by simp [z]) ha
    rw [upd_ne ne]; exact ea
  obtain ⟨A', h1, h2⟩ := er2.put' (by simpa using hi) hs (hz' (f.kp ok2))
  exact ⟨A', h1, ok3.perm h2, (f.wide fun a ha => pm.mem_iff.mpr ha).less fun a ha => h2.mem_iff.mp ha⟩
theorem sk_setSub {i : Nat} {o k e : Expr} {p pos : Pos} {dk d : Den Z} (hu : X.A.units + 1 < cLine) (ho : PE X o (tVar i)) (hk : PE X k (tD G U (rZ G) dk)) (he : PE X e (tD G U (rZ G) d)) (hs : swapsWithSole [.Subscript o k p] e pos.line X.env = pure false)
    (ha : ∀ v, assign (.Subscript o k p) X.env v = (do
      let ov ← holding [v] (eval o X.env)
      let iv ← holding [v, ov] (eval k X.env)
      standAt p
      holding [v, ov, iv] (PySem.setItem ov iv v)
      release [v, ov, iv] [])) : PS X (.Assign [.Subscript o k p] e pos) (tS G U K (kSetSub i dk d)) := by
  have hset : PSet X (fun o i v H Q => rSetL o i v H Q ∨ rSetD o i v H Q) := fun pins s σ H o i v ov iv u Q I r1 r2 r3 h => h.elim (set_list pins s σ H o i v ov iv u Q I r1 r2 r3) (set_dict hu pins s σ H o i v ov iv u Q I r1 r2 r3)
  refine (ps_asg (pe_fz he) (pg_sub ho (pe_fz hk) hset ha) hs rfl rfl).imp fun D σ H ⟨env, S, A, en, ok, o⟩ => ?_
  refine ⟨env, S, A, en, ok, ?_⟩
  have o1 : OutS G U K σ S H A (SR.of ((cFz d env).bind fun v env => match gets env i with | none => .bad | some _ => (cFz dk env).bind fun k env => match gets env i with | some o => (match Cb.setItem o k v with | some o => .ok (.nx (env.set i (some o))) env | none => .bad) | none => .bad)) D := by
    revert o
    unfold kSetSub cFz
    cases d env with
    | ok z e1 =>
      dsimp only [R.bind]
      cases gets e1 i with
      | none => exact fun o => o
      | some _ => dsimp only; cases dk e1 <;> exact fun o => o
    | _ => exact fun o => o
  refine (of_bind (rel := rW G) (fun h => h.2) o1).mono fun v H1 ⟨w, env1, S1, A1, _, en1, ok1, ⟨r1, _⟩, f1, o2⟩ => ?_
  cases e1 : gets env1 i with
  | none => rw [e1] at o2; exact o2.elim
  | some z0 =>
    rw [e1] at o2
    dsimp only at o2
    obtain ⟨v0, B0, R0, hs0, _, _, _⟩ := en1.gets e1
    refine ⟨v0, hs0, env1, S1, A1, en1, ok1, (of_bind (rel := rW G) (fun h => h.2) o2).mono fun y H2 ⟨wk, env2, S2, A2, _, en2, ok2, ⟨r2, _⟩, f2, o3⟩ => ?_⟩
    cases e2 : gets env2 i with
    | none => rw [e2] at o3; exact o3.elim
    | some z =>
      rw [e2] at o3
      dsimp only at o3
      obtain ⟨v', B, R, hs, rz, pm, er⟩ := en2.gets e2
      rw [hs0] at hs
      cases hs
      have r1' : Rp G S2 H2 w v := r1.mono (f2.kp ok1) f2.up
      cases z with
      | L ws =>
        cases wk with
        | int j =>
          unfold Cb.setItem at o3
          dsimp only at o3
          cases e3 : ixN ws.length j with
          | none => rw [e3] at o3; exact o3.elim
          | some n =>
            rw [e3] at o3
            obtain ⟨a, vs, rfl, h1, h2, rfl⟩ := rz
            unfold Rp at r2
            subst r2
            refine .inl ⟨a, vs, j, n, rfl, rfl, h1, by rw [h2.length]; exact e3, ?_⟩
            obtain ⟨A', k1, k2, k3⟩ := change (z' := .L (ws.set n w)) (u := .lst (vs.set n v)) ok2 (gets_lt e2) hs0 pm er trivial fun kp => ⟨a, _, rfl, upd_same, (Rps.set n h2 r1').mono kp fun _ h => h, rfl⟩
            exact o3 σ _ S2 A' Agr.refl k1 k2 k3
        | _ => exact o3.elim
      | dK kvs =>
        unfold Cb.setItem at o3
        dsimp only at o3
        cases e3 : kOf wk with
        | none => rw [e3] at o3; exact o3.elim
        | some kk =>
          rw [e3] at o3
          dsimp only at o3
          by_cases hl : kvs.length < 16777216
          · rw [if_pos (decide_eq_true hl)] at o3
            obtain ⟨a, vs, rfl, h1, h2, rfl⟩ := rz
            have ek := kOf_rel e3 r2
            subst ek
            refine .inr ⟨a, _, rfl, DPut.k h1 (by rw [h2.len, sizeLine_eq]; exact hl), ?_⟩
            obtain ⟨A', k1, k2, k3⟩ := change (z' := .dK (dput kk w kvs)) (u := .dK (putK vs kk v)) ok2 (gets_lt e2) hs0 pm er trivial fun kp => ⟨a, _, rfl, upd_same, (Rpk.put r1' h2).mono kp fun _ h => h, rfl⟩
            exact o3 σ _ S2 A' Agr.refl k1 k2 k3
          · rw [if_neg (by simpa using hl)] at o3; exact o3.elim
      | _ => exact o3.elim
end
end Cb

end
section
set_option maxRecDepth 100000
set_option maxHeartbeats 4000000
/-! loops and comprehensions -/
namespace Cb
open PySem PySem.Spec PyProof.Rows L2
/-- J yields just these -/
def ItOk (G : Gc) (S0 : AS) (H0 : Hp) (J : It) (ws : List W) : Prop := ∀ i S H, Kp S0 H0 H → (∀ a, S0 a → S a) →
  (∀ w, ws[i]? = some w → J.go i H ∧ ∀ x H', J.yld i H x H' → (∀ a o, H a = some o → H' a = some o) ∧ Rp G S H' w x) ∧ (i = ws.length → J.stop i H)
theorem none_len {ws : List W} {i : Nat} (e : i = ws.length) : ws[i]? = none := by simp [e]
def rIt (G : Gc) : Rel (List W) It := fun _ S H ws J B => ItOk G S H J ws ∧ B = []
def slotsOf : Tg → List Nat
  | .nm i => [i]
  | .tup is => is
def gTg (K' : PySem.W.Frag) : Tg → TG
  | .nm i => gName i
  | .tup is => gTup K' is.length (gMany is)
section
variable [Tb] {G : Gc} {U : L2.WX} {K : List Nat} {X : Cx}
section
variable {S : AS} {H H' : Hp} {env : Env} {σ : L2.St} {A : List Addr}
theorem ext_kp (k : ∀ a o, H a = some o → H' a = some o) : Kp S H H' := fun a u e _ _ => k a u e
theorem ext_en (k : ∀ a o, H a = some o → H' a = some o) (en : EnvR G S H env σ A) : EnvR G S H' env σ A := en.mono (ext_kp k) (fun _ h => h) fun a _ u e => k a u e
theorem ext_ok (k : ∀ a o, H a = some o → H' a = some o) (ok : Ok S H A) : Ok S H' A := ⟨ok.nd, fun a ha => by
    obtain ⟨u, e⟩ := mut_some (ok.own a ha).2
    exact ⟨(ok.own a ha).1, by rw [k a u e, ← e]; exact (ok.own a ha).2⟩, fun a ha => by
    obtain ⟨u, e⟩ := ok.dom a ha
    exact ⟨u, k a u e⟩, tabs_keep ok.tab fun b x e _ => k b x e⟩
theorem ext_fr (k : ∀ a o, H a = some o → H' a = some o) : Fr S H A S H' A := ⟨fun a u e _ _ => k a u e, fun _ h => h, fun _ h => .inl h, fun a h => .inl h, fun a u e => ⟨u, k a u e⟩⟩
end
def foldσ (is : List Nat) (vs : List V) (σ : L2.St) : L2.St := (is.zip vs).foldl (fun s p => s.set p.1 (some p.2)) σ
/-- several slots told at once -/
theorem many_env : ∀ {is : List Nat} {ws : List W} {vs : List V} {σ : L2.St} {S : AS} {H : Hp} {A : List Addr} {env e : Env}, EnvR G S H env σ A → Rps G S H ws vs → Ok S H A → setMany is ws env = .nx e →
    is.length = vs.length ∧ ∃ A', EnvR G S H e (foldσ is vs σ) A' ∧ Ok S H A' ∧ ∀ a ∈ A', a ∈ A
  | [], [], vs, σ, S, H, A, env, e, en, r, ok, h => by
    obtain rfl := r.inv0
    cases h
    exact ⟨rfl, A, en, ok, fun a h => h⟩
  | [], w :: ws, vs, σ, S, H, A, env, e, en, r, ok, h => by unfold setMany at h; cases h
  | i :: is, [], vs, σ, S, H, A, env, e, en, r, ok, h => by unfold setMany at h; cases h
  | i :: is, w :: ws, vs, σ, S, H, A, env, e, en, r, ok, h => by
    obtain ⟨v, vr, rfl, r1, r2⟩ := r.inv
    unfold setMany at h
    by_cases hi : i < env.length
    · rw [if_pos hi] at h
      obtain ⟨A', h1, h2, h3⟩ := lay (B := []) (z := .w w) en hi ⟨r1, rfl⟩ ok
      obtain ⟨l, A2, q1, q2, q3⟩ := many_env h1 r2 h2 h
      exact ⟨by simp [l], A2, q1, q2, fun a ha => h3 a (q3 a ha)⟩
    · rw [if_neg hi] at h; cases h
theorem agr_fold : ∀ {is : List Nat} {vs : List V} {σ : L2.St}, (∀ i ∈ is, i ∉ K) → Agr K σ (foldσ is vs σ)
  | [], vs, σ, _ => Agr.refl
  | i :: is, [], σ, _ => Agr.refl
  | i :: is, v :: vs, σ, h => (Agr.set (h i List.mem_cons_self)).trans (agr_fold (is := is) (vs := vs) (σ := σ.set i (some v)) fun j hj => h j (List.mem_cons_of_mem _ hj))
theorem tg_out {t : Tg} {w : W} {x : V} {env e : Env} {S : AS} {H : Hp} {σ : L2.St} {A : List Addr} {Q : L2.St → Hp → Prop} (en : EnvR G S H env σ A) (ok : Ok S H A) (r : Rp G S H w x) (h : setTg t w env = some e)
    (q : ∀ vs A', EnvR G S H e (foldσ (slotsOf t) vs σ) A' → Ok S H A' → (∀ a ∈ A', a ∈ A) → Q (foldσ (slotsOf t) vs σ) H) : gTg G.K t x σ H Q := by
  cases t with
  | nm i =>
    have h : (if i < env.length then some (env.set i (some (.w w))) else none) = some e := h
    by_cases hi : i < env.length
    · rw [if_pos hi] at h
      cases h
      obtain ⟨A', h1, h2, h3⟩ := lay (B := []) (z := .w w) en hi ⟨r, rfl⟩ ok
      exact q [x] A' h1 h2 h3
    · rw [if_neg hi] at h; cases h
  | tup is =>
    cases w with
    | tup ws =>
      unfold setTg at h
      dsimp only at h
      cases e1 : setMany is ws env with
      | nx e2 =>
        rw [e1] at h
        cases h
        unfold Rp at r
        obtain ⟨a, vs, rfl, h1, h2⟩ := r
        obtain ⟨l, A', k1, k2, k3⟩ := many_env en h2 ok e1
        exact ⟨a, vs, rfl, h1, l.symm, gMany_of l (q vs A' k1 k2 k3)⟩
      | _ => rw [e1] at h; cases h
    | _ => unfold setTg at h; cases h

/-! ### for -/
theorem sk_for {tg iter : Expr} {body : List Stmt} {pos : Pos} {t : Tg} {k : Itk} {d : Den (List W)} {db : DenS} (hp : PassesOwn (model X.prog X.w) X.A X.env X.xe) (hc : X.calm = true) (hi : PI X tg iter (tD G U (rIt G) (cIt k d))) (hg : PG X tg (gTg G.K t))
    (hb : PSs X body (tS G U K db)) (hs : ∀ x, foldedSetIterable iter X.env x = pure x) (hk : ∀ i ∈ slotsOf t, i ∉ K) : PS X (.For tg iter body [] pos) (tS G U K (kFor t k d db)) :=
  (ps_for hp hc hi hg hb hs).imp fun D σ H ⟨env, S, A, en, ok, o⟩ => by
    refine ⟨env, S, A, en, ok, (of_bind (rel := rIt G) (fun h => h.2) o).mono fun J H1 ⟨ws, env1, S1, A1, _, en1, ok1, ⟨itk, _⟩, f1, o1⟩ => ?_⟩
    have o1 : OutS G U K σ S1 H1 A1 (evFor (setTg t) db ws env1) D := o1
    refine ⟨fun i m σ' H' => m = ws.length - i ∧ i ≤ ws.length ∧ ∃ env' S' A', EnvR G S' H' env' σ' A' ∧ Ok S' H' A' ∧ Fr S1 H1 A1 S' H' A' ∧ OutS G U K σ' S' H' A' (evFor (setTg t) db (ws.drop i) env') D,
      ⟨ws.length, by simp, Nat.zero_le _, env1, S1, A1, en1, ok1, Fr.refl ok1, by simpa using o1⟩, ?_⟩
    rintro i m σ' H' ⟨rfl, hil, env', S', A', en', ok', f', o'⟩
    obtain ⟨j1, j2⟩ := itk i S' H' (f'.kp ok1) f'.up
    by_cases hlt : i < ws.length
    · have hw : ws[i]? = some ws[i] := by simp [hlt]
      obtain ⟨g1, g2⟩ := j1 _ hw
      refine .inr ⟨g1, fun σ2 H2 => ∃ env2 S2 A2, EnvR G S2 H2 env2 σ2 A2 ∧ Ok S2 H2 A2 ∧ Fr S1 H1 A1 S2 H2 A2 ∧ OutS G U K σ2 S2 H2 A2 (evFor (setTg t) db (ws.drop (i + 1)) env2) D,
        fun σ2 H2 q => ⟨ws.length - (i + 1), by omega, rfl, hlt, q⟩, fun x H2 y => ?_⟩
      obtain ⟨k, rx⟩ := g2 x H2 y
      rw [List.drop_eq_getElem_cons hlt] at o'
      unfold evFor at o'
      cases e : setTg t ws[i] env' with
      | none => rw [e] at o'; exact o'.elim
      | some e2 =>
        rw [e] at o'
        dsimp only at o'
        refine tg_out (ext_en k en') (ext_ok k ok') rx e fun vs A2 en2 ok2 s2 => ?_
        have f2 : Fr S' H' A' S' H2 A2 := (ext_fr k).less s2
        have ag : Agr K σ' (foldσ (slotsOf t) vs σ') := agr_fold hk
        refine ⟨e2, S', A2, en2, ok2, ?_⟩
        have o2 := OutS.from o' ag f2
        have f12 : Fr S1 H1 A1 S' H2 A2 := f'.trans f2
        cases e3 : db e2 with
        | nx e4 =>
          rw [e3] at o2
          exact fun σ3 H3 S3 A3 ag3 en3 ok3 f3 => ⟨e4, S3, A3, en3, ok3, f12.trans f3, OutS.from o2 ag3 f3⟩
        | ct e4 =>
          rw [e3] at o2
          exact fun σ3 H3 S3 A3 ag3 en3 ok3 f3 => ⟨e4, S3, A3, en3, ok3, f12.trans f3, OutS.from o2 ag3 f3⟩
        | bk e4 => rw [e3] at o2; exact o2
        | rt z e4 => rw [e3] at o2; exact o2
        | ex x e4 => rw [e3] at o2; exact o2
        | bad => rw [e3] at o2; exact o2
    · have e : i = ws.length := by omega
      subst e
      rw [List.drop_length] at o'
      exact .inl ⟨j2 (by simp), o' σ' H' S' A' Agr.refl en' ok' (Fr.refl ok')⟩

/-! ### while -/
theorem sk_while {c : Expr} {body : List Stmt} {pos : Pos} {f : Env → Nat} {t : Den Bool} {db : DenS} (hp : PassesOwn (model X.prog X.w) X.A X.env X.xe) (hc : PT X c (tD G U rB t)) (hb : PSs X body (tS G U K db)) : PS X (.While c body [] pos) (tS G U K (kWhile f t db)) :=
  (ps_while hp hc hb).imp fun D σ H ⟨env, S, A, en, ok, o⟩ => by
    refine ⟨fun m σ' H' => ∃ env' S' A', EnvR G S' H' env' σ' A' ∧ Ok S' H' A' ∧ OutS G U K σ' S' H' A' (evWhile t db m env') D, ⟨f env, env, S, A, en, ok, o⟩, ?_⟩
    rintro m σ' H' ⟨env', S', A', en', ok', o'⟩
    refine ⟨env', S', A', en', ok', ?_⟩
    cases m with
    | zero => exact o'.elim
    | succ m =>
      unfold evWhile at o'
      cases e : t env' with
      | ok b e1 =>
        rw [e] at o'
        intro b' H2 S2 A2 B2 en2 r2 ok2 f2
        obtain ⟨rfl, rfl⟩ := r2
        cases b with
        | false =>
          rw [if_neg Bool.false_ne_true]
          exact o' σ' H2 S2 A2 Agr.refl en2 ok2 f2
        | true =>
          rw [if_pos rfl]
          have o1 : OutS G U K σ' S' H' A' (match db e1 with | .nx env => evWhile t db m env | .ct env => evWhile t db m env | .bk env => .nx env | r => r) D := o'
          have o2 := OutS.from o1 (Agr.refl (K := K)) f2
          refine ⟨fun σ3 H3 => ∃ env3 S3 A3, EnvR G S3 H3 env3 σ3 A3 ∧ Ok S3 H3 A3 ∧ OutS G U K σ3 S3 H3 A3 (evWhile t db m env3) D, fun σ3 H3 q => ⟨m, Nat.lt_succ_self m, q⟩, e1, S2, A2, en2, ok2, ?_⟩
          cases e3 : db e1 with
          | nx e4 =>
            rw [e3] at o2
            exact fun σ3 H3 S3 A3 ag3 en3 ok3 f3 => ⟨e4, S3, A3, en3, ok3, OutS.from o2 ag3 f3⟩
          | ct e4 =>
            rw [e3] at o2
            exact fun σ3 H3 S3 A3 ag3 en3 ok3 f3 => ⟨e4, S3, A3, en3, ok3, OutS.from o2 ag3 f3⟩
          | bk e4 => rw [e3] at o2; exact o2
          | rt z e4 => rw [e3] at o2; exact o2
          | ex x e4 => rw [e3] at o2; exact o2
          | bad => rw [e3] at o2; exact o2
      | ex x e1 =>
        rw [e] at o'
        exact fun cls d H2 S2 A2 h1 h2 h3 h4 => o' cls d σ' H2 S2 A2 h1 Agr.refl h2 h3 h4
      | bad => rw [e] at o'; exact o'.elim

/-! ### comprehensions -/
theorem EnvR.unset {S : AS} {H : Hp} {env : Env} {σ : L2.St} {A : List Addr} : ∀ {i : Nat}, EnvR G S H env (σ.set i none) A → EnvR G S H env σ A := by
  intro i h
  induction σ generalizing env A i with
  | nil => simpa using h
  | cons o σ ih =>
    cases i with
    | zero =>
      have h' : EnvR G S H env (none :: σ) A := h
      cases h' with
      | off t => exact .off t
      | er k t => exact .er (fun a e p => (nomatch (k a e p).1)) t
    | succ i =>
      have h' : EnvR G S H env (o :: σ.set i none) A := h
      cases h' with
      | off t => exact .off (ih t)
      | on r t => exact .on r (ih t)
      | er k t => exact .er (by simpa using k) (ih t)
theorem EnvR.unwipe {S : AS} {H : Hp} {env : Env} {σ : L2.St} {A : List Addr} : ∀ {vs : List Nat}, EnvR G S H env (wipe σ vs) A → EnvR G S H env σ A
  | [], h => h
  | v :: vs, h => EnvR.unwipe (vs := vs) (EnvR.unset h)
theorem EnvR.drop2 {S : AS} {H : Hp} {env : Env} {σ : L2.St} {A : List Addr} (h : EnvR G S H env σ A) : ∀ i : Nat, ∃ R, EnvR G S H (env.set i none) (σ.set i none) R ∧ List.Sublist R A := by
  induction h with
  | nil => intro i; exact ⟨[], by simpa using EnvR.nil, .slnil⟩
  | @off env σ A o t ih =>
    intro i
    cases i with
    | zero => exact ⟨A, by simpa using EnvR.off t, List.Sublist.refl _⟩
    | succ i =>
      obtain ⟨R, h1, h2⟩ := ih i
      exact ⟨R, by simpa using EnvR.off h1, h2⟩
  | @on z v B env σ A r t ih =>
    intro i
    cases i with
    | zero => exact ⟨A, by simpa using EnvR.off t, List.sublist_append_right _ _⟩
    | succ i =>
      obtain ⟨R, h1, h2⟩ := ih i
      exact ⟨B ++ R, by simpa using EnvR.on r h1, List.Sublist.append_left h2 B⟩
  | @er env σ A o k t ih =>
    intro i
    cases i with
    | zero => exact ⟨A, by simpa using EnvR.off t, List.Sublist.refl _⟩
    | succ i =>
      obtain ⟨R, h1, h2⟩ := ih i
      exact ⟨R, by simpa using EnvR.er (by simpa using k) h1, h2⟩
theorem EnvR.wiped {S : AS} {H : Hp} {env : Env} {σ : L2.St} {A : List Addr} (h : EnvR G S H env σ A) : ∀ vs : List Nat, ∃ R, EnvR G S H (wipeE env vs) (wipe σ vs) R ∧ List.Sublist R A
  | [] => ⟨A, h, List.Sublist.refl _⟩
  | v :: vs => by
    obtain ⟨R, h1, h2⟩ := EnvR.wiped h vs
    obtain ⟨R', h3, h4⟩ := h1.drop2 v
    exact ⟨R', h3, h4.trans h2⟩
theorem restE_len {e0 env : Env} : ∀ vs : List Nat, (restE e0 env vs).length = env.length
  | [] => rfl
  | v :: vs => by unfold restE; rw [List.length_set, restE_len vs]
/-- the block's own names as they were -/
theorem EnvR.rest {S0 S : AS} {H0 H : Hp} {e0 env : Env} {σ : L2.St} {A0 A : List Addr} (h0 : EnvR G S0 H0 e0 σ A0) (kp : Kp S0 H0 H) (up : ∀ a, S0 a → S a) (h : EnvR G S H env σ A) (nd : A.Nodup) : ∀ vs : List Nat, ∃ R, EnvR G S H (restE e0 env vs) σ R ∧ R.Nodup ∧ ∀ a ∈ R, a ∈ A
  | [] => ⟨A, h, nd, fun a h => h⟩
  | v :: vs => by
    obtain ⟨R, h1, n1, h2⟩ := EnvR.rest h0 kp up h nd vs
    obtain ⟨R', h3, h4⟩ := h1.drop v
    have n3 : R'.Nodup := n1.sublist h4
    unfold restE
    cases e : Cb.gets e0 v with
    | none => exact ⟨R', h3, n3, fun a ha => h2 a (h4.subset ha)⟩
    | some z =>
      cases z with
      | w x =>
        obtain ⟨y, B, R0, hs, rz, _, _⟩ := h0.gets e
        by_cases hv : v < (restE e0 env vs).length
        · obtain ⟨A', k1, k2⟩ := h3.put' hv hs (z := .w x) (B := []) ⟨rz.1.mono kp up, rfl⟩
          exact ⟨A', k1, k2.nodup_iff.mpr n3, fun a ha => h2 a (h4.subset (k2.mem_iff.mp ha))⟩
        · have e1 : (restE e0 env vs).set v none = restE e0 env vs := List.set_eq_of_length_le (by omega)
          have e2 : (restE e0 env vs).set v (some (.w x)) = restE e0 env vs := List.set_eq_of_length_le (by omega)
          rw [e1] at h3
          show ∃ R, EnvR G S H ((restE e0 env vs).set v (some (.w x))) σ R ∧ _
          rw [e2]
          exact ⟨R', h3, n3, fun a ha => h2 a (h4.subset ha)⟩
      | _ => exact ⟨R', h3, n3, fun a ha => h2 a (h4.subset ha)⟩
theorem wipe_setN {σ : L2.St} {i : Nat} {x : Option V} : ∀ {vs : List Nat}, i ∉ vs → wipe (σ.set i x) vs = (wipe σ vs).set i x
  | [], _ => rfl
  | v :: vs, h => by
    have h1 : i ≠ v := fun e => h (by rw [e]; exact List.mem_cons_self)
    unfold wipe
    rw [wipe_setN fun m => h (List.mem_cons_of_mem _ m), List.set_comm _ _ h1]
theorem wipe_set {σ : L2.St} {i : Nat} {x : Option V} : ∀ {vs : List Nat}, i ∈ vs → wipe (σ.set i x) vs = wipe σ vs
  | [], h => absurd h (by simp)
  | v :: vs, h => by
    unfold wipe
    by_cases hm : i ∈ vs
    · rw [wipe_set hm]
    · rcases List.mem_cons.mp h with rfl | h
      · rw [wipe_setN hm, List.set_set]
      · exact absurd h hm
theorem wipe_fold {vs : List Nat} : ∀ {is : List Nat} {xs : List V} {σ : L2.St}, (∀ i ∈ is, i ∈ vs) → wipe (foldσ is xs σ) vs = wipe σ vs
  | [], xs, σ, _ => rfl
  | i :: is, [], σ, _ => rfl
  | i :: is, x :: xs, σ, h => by
    show wipe (foldσ is xs (σ.set i (some x))) vs = _
    rw [wipe_fold fun j hj => h j (List.mem_cons_of_mem _ hj), wipe_set (h i List.mem_cons_self)]
theorem wipe_wipe {σ : L2.St} : ∀ {vs us : List Nat}, (∀ i ∈ us, i ∈ vs) → wipe (wipe σ us) vs = wipe σ vs
  | vs, [], _ => rfl
  | vs, u :: us, h => by
    show wipe ((wipe σ us).set u none) vs = _
    rw [wipe_set (h u List.mem_cons_self), wipe_wipe fun j hj => h j (List.mem_cons_of_mem _ hj)]
/-- nothing is raised in the block -/
abbrev UF : L2.WX := fun _ _ _ _ => False
theorem noX_ok {α : Type} {r : R α} {a : α} {e : Env} (h : noX r = .ok a e) : r = .ok a e := by
  cases r with
  | ok b f => exact h
  | _ => cases h
theorem lc_out {t : Tg} {vs : List Nat} {dt : Den Bool} {d : Den Z} {items : List W} {σ : L2.St} {S1 : AS} {H1 : Hp} {A1 : List Addr} {env1 : Env} {J : It} {Q : VK} (hv : ∀ i ∈ slotsOf t, i ∈ vs) (en1 : EnvR G S1 H1 env1 σ A1) (ok1 : Ok S1 H1 A1) (itk : ItOk G S1 H1 J items)
    (o : Out G U σ S1 H1 A1 (rZ G) ((noX (lcLoop (lcTurn vs t dt d) items (wipeE env1 vs) [])).bind fun ys env2 => .ok (.L ys) (restE env1 env2 vs)) Q) :
    ∀ D, H1 D = none → ∃ W : Nat → Nat → Hp → Prop, (∃ m, W 0 m (upd H1 D (.lst []))) ∧ ∀ i m H, W i m H →
      (J.stop i H ∧ Q (.ref D) H) ∨ (J.go i H ∧ ∃ Nx : Hp → Prop, (∀ H', Nx H' → ∃ m', m' < m ∧ W (i + 1) m' H') ∧ ∀ x H', J.yld i H x H' → gTg G.K t x (wipe σ vs) H' fun σ2 H2 => wipe σ2 vs = wipe σ vs ∧ (tD G UF rB dt) σ2 H2 fun b H3 =>
        if b = true then (tD G UF (rW G) (cFz d)) σ2 H3 fun y H4 => ∃ acc, H4 D = some (.lst acc) ∧ acc.length < sizeLine ∧ Nx (upd H4 D (.lst (acc ++ [y]))) else Nx H3) := by
  intro D hD
  cases e0 : noX (lcLoop (lcTurn vs t dt d) items (wipeE env1 vs) []) with
  | bad => rw [e0] at o; exact o.elim
  | ex x e => exact absurd e0 (by cases lcLoop (lcTurn vs t dt d) items (wipeE env1 vs) [] <;> simp [noX])
  | ok ys env2 =>
    rw [e0] at o
    have e0' := noX_ok e0
    have kN := keep_new (u := .lst []) hD
    obtain ⟨R1, w1, w2⟩ := en1.wiped vs
    have okN : Ok S1 (upd H1 D (.lst [])) (R1 ++ [D]) := Ok.newO (ok1.sub w2) hD trivial
    have frN : Fr S1 H1 A1 S1 (upd H1 D (.lst [])) (R1 ++ [D]) := ⟨fun a u e _ _ => kN a u e, fun _ h => h, fun _ h => .inl h, fun a h => (List.mem_append.mp h).imp (fun h => w2.subset h) fun z => by rw [List.mem_singleton.mp z]; exact hD, fun a u e => ⟨u, kN a u e⟩⟩
    refine ⟨fun i m H => m = items.length - i ∧ i ≤ items.length ∧ ∃ env S A acc vacc, EnvR G S H env (wipe σ vs) A ∧ Ok S H (A ++ [D]) ∧ Fr S1 H1 A1 S H (A ++ [D]) ∧ H D = some (.lst vacc) ∧ Rps G S H acc vacc ∧ lcLoop (lcTurn vs t dt d) (items.drop i) env acc = .ok ys env2,
      ⟨items.length, by simp, Nat.zero_le _, wipeE env1 vs, S1, R1, [], [], ext_en kN w1, okN, frN, upd_same, .nil, by simpa using e0'⟩, ?_⟩
    rintro i m H ⟨rfl, hil, env, S, A, acc, vacc, en, ok, f, hDl, racc, eL⟩
    obtain ⟨j1, j2⟩ := itk i S H (f.kp ok1) f.up
    by_cases hlt : i < items.length
    · have hw : items[i]? = some items[i] := by simp [hlt]
      obtain ⟨g1, g2⟩ := j1 _ hw
      refine .inr ⟨g1, fun H' => ∃ env S A acc vacc, EnvR G S H' env (wipe σ vs) A ∧ Ok S H' (A ++ [D]) ∧ Fr S1 H1 A1 S H' (A ++ [D]) ∧ H' D = some (.lst vacc) ∧ Rps G S H' acc vacc ∧ lcLoop (lcTurn vs t dt d) (items.drop (i + 1)) env acc = .ok ys env2,
        fun H' q => ⟨items.length - (i + 1), by omega, rfl, hlt, q⟩, fun x H2 y => ?_⟩
      obtain ⟨k, rx⟩ := g2 x H2 y
      rw [List.drop_eq_getElem_cons hlt] at eL
      unfold lcLoop lcTurn at eL
      cases e : setTg t items[i] env with
      | none => rw [e] at eL; cases eL
      | some e2 =>
        rw [e] at eL
        dsimp only at eL
        refine tg_out (ext_en k en) (ext_ok k ok.left) rx e fun xs A2 en2 ok2 s2 => ?_
        have hwp : wipe (foldσ (slotsOf t) xs (wipe σ vs)) vs = wipe σ vs := (wipe_fold hv).trans (wipe_wipe fun i h => h)
        refine ⟨hwp, ?_⟩
        generalize hσ2 : foldσ (slotsOf t) xs (wipe σ vs) = σ2 at en2 hwp ⊢
        have okD2 : Ok S H2 (A2 ++ [D]) := by
          have q := ext_ok k ok
          refine ⟨List.nodup_append.mpr ⟨ok2.nd, by simp, fun a ha b hb e => ?_⟩, fun a ha => ?_, q.dom, q.tab⟩
          · exact (List.nodup_append.mp ok.nd).2.2 a (s2 a ha) b hb e
          · rcases List.mem_append.mp ha with h | h
            · exact q.own a (List.mem_append_left _ (s2 a h))
            · exact q.own a (List.mem_append_right _ h)
        have f2 : Fr S1 H1 A1 S H2 (A2 ++ [D]) := (f.trans (ext_fr k)).less fun a ha => by
          rcases List.mem_append.mp ha with h | h
          · exact List.mem_append_left _ (s2 a h)
          · exact List.mem_append_right _ h
        have hD2 : H2 D = some (.lst vacc) := k D _ hDl
        have ra2 : Rps G S H2 acc vacc := racc.mono (ext_kp k) fun _ h => h
        -- the tests
        refine ⟨e2, S, A2, en2, ok2, ?_⟩
        cases e3 : dt e2 with
        | bad => rw [e3] at eL; cases eL
        | ex x2 e4 => rw [e3] at eL; cases eL
        | ok b e4 =>
          rw [e3] at eL
          dsimp only [R.bind] at eL
          intro b' H3 S3 A3 B3 en3 r3 ok3 f3
          obtain ⟨rfl, rfl⟩ := r3
          have ok3' : Ok S3 H3 A3 := ok3
          have okD3 : Ok S3 H3 (A3 ++ [D]) := f3.off okD2 ok3
          have hD3 : H3 D = some (.lst vacc) := f3.offK okD2 D (by simp) _ hD2
          have ra3 : Rps G S3 H3 acc vacc := ra2.mono (f3.kp ok2) f3.up
          have f13 : Fr S1 H1 A1 S3 H3 (A3 ++ [D]) := by
            refine (f2.trans (f3.wide (B := A2 ++ [D]) fun a h => List.mem_append_left _ h)) |> fun q => ⟨q.keep, q.up, q.back, fun a ha => ?_, q.dom⟩
            rcases List.mem_append.mp ha with h | h
            · exact q.own a h
            · exact f2.own a (List.mem_append_right _ h)
          cases b with
          | false =>
            rw [if_neg Bool.false_ne_true] at eL ⊢
            obtain ⟨R4, k4, l4⟩ := en3.wiped vs
            rw [hwp] at k4
            exact ⟨wipeE e4 vs, S3, R4, acc, vacc, k4, okD3.sub (List.Sublist.append_right l4 _), f13.less fun a ha => by
              rcases List.mem_append.mp ha with h | h
              · exact List.mem_append_left _ (l4.subset h)
              · exact List.mem_append_right _ h, hD3, ra3, eL⟩
          | true =>
            rw [if_pos rfl] at eL ⊢
            refine ⟨e4, S3, A3, en3, ok3', ?_⟩
            unfold cFz
            cases e5 : d e4 with
            | bad => rw [e5] at eL; cases eL
            | ex x2 e6 => rw [e5] at eL; cases eL
            | ok z e6 =>
              rw [e5] at eL
              dsimp only [R.bind] at eL ⊢
              intro yv H4 S4 A4 B4 en4 r4 ok4 f4
              obtain ⟨r4, rfl⟩ := r4
              by_cases hz : acc.length < 16777216
              · rw [if_pos hz] at eL
                have ok4' : Ok S4 H4 A4 := ok4
                have okD4 : Ok S4 H4 (A4 ++ [D]) := f4.off okD3 ok4
                have hD4 : H4 D = some (.lst vacc) := f4.offK okD3 D (by simp) _ hD3
                have ra4 : Rps G S4 H4 acc vacc := ra3.mono (f4.kp ok3') f4.up
                refine ⟨vacc, hD4, by rw [ra4.length, sizeLine_eq]; exact hz, ?_⟩
                obtain ⟨R5, k5, l5⟩ := en4.wiped vs
                rw [hwp] at k5
                have okD5 : Ok S4 H4 (R5 ++ [D]) := okD4.sub (List.Sublist.append_right l5 _)
                have hp : D ∈ R5 ++ [D] := by simp
                have fm : Fr S4 H4 (R5 ++ [D]) S4 (upd H4 D (.lst (vacc ++ [yv]))) (R5 ++ [D]) := Fr.mutate (u := .lst (vacc ++ [yv])) hp okD5
                have f14 : Fr S1 H1 A1 S4 H4 (A4 ++ [D]) := by
                  refine (f13.trans (f4.wide (B := A3 ++ [D]) fun a h => List.mem_append_left _ h)) |> fun q => ⟨q.keep, q.up, q.back, fun a ha => ?_, q.dom⟩
                  rcases List.mem_append.mp ha with h | h
                  · exact q.own a h
                  · exact f13.own a (List.mem_append_right _ h)
                refine ⟨wipeE e6 vs, S4, R5, acc ++ [frz z], vacc ++ [yv], k5.mono (fm.kp okD5) fm.up (fun a ha o ea => ?_), Ok.mutate hp okD5 trivial, (f14.less fun a ha => ?_).trans fm, upd_same, ((ra4.append (.one r4)).mono (fm.kp okD5) fm.up), eL⟩
                · have ne : a ≠ D := fun z => okD5.dis ha (by simp [z])
                  rw [upd_ne ne]; exact ea
                · rcases List.mem_append.mp ha with h | h
                  · exact List.mem_append_left _ (l5.subset h)
                  · exact List.mem_append_right _ h
              · rw [if_neg hz] at eL; cases eL
    · have e : i = items.length := by omega
      subst e
      rw [List.drop_length] at eL
      cases eL
      refine .inl ⟨j2 (by simp), ?_⟩
      obtain ⟨R', k1, k2, k3⟩ := en1.rest (f.kp ok1) f.up en.unwipe ok.left.nd vs
      refine o (.ref D) H S R' [D] k1 ⟨D, vacc, rfl, hDl, racc, rfl⟩ ?_ (f.less fun a ha => ?_)
      · refine ⟨List.nodup_append.mpr ⟨by simp, k2, fun a ha b hb e => ?_⟩, fun a ha => ?_, ok.dom, ok.tab⟩
        · rw [List.mem_singleton] at ha
          exact (List.nodup_append.mp ok.nd).2.2 b (k3 b hb) a (by simp [ha]) e.symm
        · rcases List.mem_append.mp ha with h | h
          · exact ok.own a (List.mem_append_right _ h)
          · exact ok.own a (List.mem_append_left _ (k3 a h))
      · rcases List.mem_append.mp ha with h | h
        · exact List.mem_append_right _ h
        · exact List.mem_append_left _ (k3 a h)
theorem sx_lc {elt tg iter : Expr} {ifs : List Expr} {scope : Scope} {own : List (Str × Nat)} {pos : Pos} {t : Tg} {k : Itk} {di : Den (List W)} {dt : Den Bool} {d : Den Z} (hc : X.calm = true) (hN : X.N.Nodup) (hv : ∀ i ∈ slotsOf t, i ∈ own.map (·.2)) (hi : PI X tg iter (tD G U (rIt G) (cIt k di))) (ok : BlkOk X.N X.env.scope scope own)
    (hg : ∀ (s : Shared) (H : Hp) (C : Addr) (cl : List (Str × Addr)) (fp : List Addr), PG (X.blk s H scope (compEnvC scope cl C X.env) fp) tg (gTg G.K t)) (ht : ∀ (s : Shared) (H : Hp) (C : Addr) (cl : List (Str × Addr)) (fp : List Addr), PTs (X.blk s H scope (compEnvC scope cl C X.env) fp) ifs (tD G UF rB dt))
    (he : ∀ (s : Shared) (H : Hp) (C : Addr) (cl : List (Str × Addr)) (fp : List Addr), PE (X.blk s H scope (compEnvC scope cl C X.env) fp) elt (tD G UF (rZ G) d)) (hs : ∀ x, foldedSetIterable iter X.env x = pure x) :
    PE X (.ListComp elt [⟨tg, iter, ifs, 0⟩] scope pos) (tD G U (rZ G) (cLc (own.map (·.2)) t k di dt d)) :=
  (pe_lc hc hN hi ok hg ht (fun s H C cl fp => pe_fz (he s H C cl fp)) hs).imp fun σ H Q ⟨env, S, A, en, ok, o⟩ => ⟨env, S, A, en, ok, (Out.bind (rel := rIt G) (fun h => h.2) o).mono fun J H1 ⟨ws, env1, S1, A1, _, en1, ok1, ⟨itk, _⟩, f1, o1⟩ => lc_out hv en1 ok1 itk o1⟩
/-- y = [..] on one line -/
theorem sk_setLc {i : Nat} {y : Str} {py : Pos} {elt tg iter : Expr} {ifs : List Expr} {scope : Scope} {own : List (Str × Nat)} {pos spos : Pos} {t : Tg} {k : Itk} {di : Den (List W)} {dt : Den Bool} {d : Den Z} (hc : X.calm = true) (hN : X.N.Nodup) (hy : X.N[i]? = some y) (hyl : X.env.scope.names.lookup y = some .local)
    (hsw : swapsWith (.ListComp elt [⟨tg, iter, ifs, 0⟩] scope pos) (some (.Name y py)) spos.line X.env = pure true) (hk : i ∉ K) (hv : ∀ i ∈ slotsOf t, i ∈ own.map (·.2)) (hi : PI X tg iter (tD G U (rIt G) (cIt k di))) (ok : BlkOk X.N X.env.scope scope own)
    (hg : ∀ (s : Shared) (H : Hp) (C : Addr) (cl : List (Str × Addr)) (fp : List Addr), PG (X.blk s H scope (compEnvC scope cl C X.env) fp) tg (gTg G.K t)) (ht : ∀ (s : Shared) (H : Hp) (C : Addr) (cl : List (Str × Addr)) (fp : List Addr), PTs (X.blk s H scope (compEnvC scope cl C X.env) fp) ifs (tD G UF rB dt))
    (he : ∀ (s : Shared) (H : Hp) (C : Addr) (cl : List (Str × Addr)) (fp : List Addr), PE (X.blk s H scope (compEnvC scope cl C X.env) fp) elt (tD G UF (rZ G) d)) (hs : ∀ x, foldedSetIterable iter X.env x = pure x) :
    PS X (.Assign [.Name y py] (.ListComp elt [⟨tg, iter, ifs, 0⟩] scope pos) spos) (tS G U K (kSet i (cLc (own.map (·.2)) t k di dt d))) :=
  (ps_setLc hc hN hy hyl hsw hi ok hg ht (fun s H C cl fp => pe_fz (he s H C cl fp)) hs).imp fun D σ H ⟨env, S, A, en, ok, o⟩ => by
    have o1 : Out G U σ S H A (rZ G) (cLc (own.map (·.2)) t k di dt d env) fun v H1 => D.nx (σ.set i (some v)) H1 := (of_bindZ (k := fun z e => setSl i z e) o).mono fun v H1 ⟨z, env1, S1, A1, B, _, en1, rz, ok1, f1, o1⟩ => set_out hk en1 rz ok1 o1
    exact ⟨env, S, A, en, ok, (Out.bind (rel := rIt G) (fun h => h.2) o1).mono fun J H1 ⟨ws, env1, S1, A1, _, en1, ok1, ⟨itk, _⟩, f1, o1⟩ => lc_out hv en1 ok1 itk o1⟩
end
end Cb

end
section
set_option maxRecDepth 100000
set_option maxHeartbeats 4000000
/-! what is walked -/
namespace Cb
open PySem PySem.Spec PyProof.Rows L2
section
variable [Tb] {G : Gc} {U : L2.WX} {X : Cx} {tg : Expr}
theorem _root_.L2.PI.imp {X : Cx} {tg e : Expr} {t t' : TI} (h : PI X tg e t) (i : ∀ σ H Q, t' σ H Q → t σ H Q) : PI X tg e t' := ⟨fun pins s σ H Q I q => h.run pins s σ H Q I (i σ H Q q)⟩
def iSeq (K : PySem.W.Frag) (tl : TE) : TI := fun σ H R => tl σ H fun x H1 => ∃ a, x = .ref a ∧ (((∃ xs, SqL K H1 a xs) ∧ R (Itl K a) H1) ∨ ((∃ xs, SqT K H1 a xs) ∧ R (Itt K a) H1))
theorem pi_seq {l : Expr} {tl : TE} (hl : PE X l tl) : PI X tg l (iSeq X.K tl) := by
  refine ⟨fun pins s σ H R I h => ?_⟩
  refine thn (hl.run pins s σ H _ I h) fun v s1 ⟨x, H1, I1, r1, q1⟩ => ?_
  obtain ⟨a, e, q⟩ := q1
  subst e
  cases r1
  rcases q with ⟨⟨xs, hq⟩, q⟩ | ⟨⟨xs, hq⟩, q⟩
  · obtain ⟨its, rv, p, hz⟩ := I1.list hq
    refine wpAny_pyIter_list p.isList ?_
    refine ⟨s1.heap.objs.size, [s1.heap.objs.size], _, _, H1, rfl, I1.kept (t' := s1.toks) fun b o e => Heap.get?_push_of_some _ e, turn_list a _, ⟨_, Heap.get?_push_size _ rfl, rfl, rfl⟩, fun b hb => ?_, q⟩
    have e : b = s1.heap.objs.size := by simpa using hb
    subst e
    exact I1.fpOk (Nat.le_refl _) (I1.hok.fresh (Nat.le_refl _))
  · obtain ⟨its, rv, p, hz⟩ := I1.tuple hq
    refine wpAny_pyIter_tuple (show s1.heap.IsTuple a its.toArray from p) ?_
    refine ⟨s1.heap.objs.size, [s1.heap.objs.size], _, _, H1, rfl, I1.kept (t' := s1.toks) fun b o e => Heap.get?_push_of_some _ e, turn_tuple a _, ⟨_, Heap.get?_push_size _ rfl, rfl, rfl⟩, fun b hb => ?_, q⟩
    have e : b = s1.heap.objs.size := by simpa using hb
    subst e
    exact I1.fpOk (Nat.le_refl _) (I1.hok.fresh (Nat.le_refl _))
theorem rps_at {S : AS} {H : Hp} {ws : List W} {vs : List V} {i : Nat} {w : W} {x : V} (r : Rps G S H ws vs) (e : ws[i]? = some w) (e2 : vs[i]? = some x) : Rp G S H w x := by
  obtain ⟨v, h1, h2⟩ := r.get e
  rw [e2] at h1; cases h1
  exact h2
theorem rps_none {S : AS} {H : Hp} {ws : List W} {vs : List V} {i : Nat} (r : Rps G S H ws vs) (e : ws[i]? = none) : vs.length ≤ i := by
  rw [r.length]; exact List.getElem?_eq_none_iff.mp e
theorem fz_list {S0 : AS} {H0 H : Hp} {a : Addr} {vs : List V} (f : Fz S0 H0 a (.lst vs)) (kp : Kp S0 H0 H) : SqL G.K H a vs := SqL.of (kp a _ f.2 (.inl f.1) fun _ z => by cases z)
theorem sqT_kp {K' : PySem.W.Frag} {S0 : AS} {H0 H : Hp} {a : Addr} {vs : List V} (h : SqT K' H0 a vs) (kp : Kp S0 H0 H) : SqT K' H a vs := by
  rcases h with (h | ⟨o, h⟩) | h
  · exact .inl (.inl (kp _ _ h (.inr id) not_tup))
  · exact .inl (.inr ⟨o, kp _ _ h (.inr id) not_frz⟩)
  · exact .inr h
theorem it_list {S : AS} {H : Hp} {a : Addr} {ws : List W} {vs : List V} (f : Fz S H a (.lst vs)) (r : Rps G S H ws vs) : ItOk G S H (Itl G.K a) ws := fun i S' H' kp up => by
  have hq : SqL G.K H' a vs := fz_list f kp
  have r' := r.mono kp up
  refine ⟨fun w e => ?_, fun e0 => have e := none_len e0; ⟨vs, hq, rps_none r' e⟩⟩
  obtain ⟨x, hx, rx⟩ := r'.get e
  refine ⟨⟨vs, x, hq, hx⟩, fun x' H2 ⟨e2, y⟩ => ?_⟩
  subst e2
  exact ⟨fun _ _ e => e, rps_at r' e (y vs hq)⟩
theorem it_tup {S : AS} {H : Hp} {a : Addr} {ws : List W} {vs : List V} (f : SqT G.K H a vs) (r : Rps G S H ws vs) : ItOk G S H (Itt G.K a) ws := fun i S' H' kp up => by
  have hq : SqT G.K H' a vs := sqT_kp f kp
  have r' := r.mono kp up
  refine ⟨fun w e => ?_, fun e0 => have e := none_len e0; ⟨vs, hq, rps_none r' e⟩⟩
  obtain ⟨x, hx, rx⟩ := r'.get e
  refine ⟨⟨vs, x, hq, hx⟩, fun x' H2 ⟨e2, y⟩ => ?_⟩
  subst e2
  exact ⟨fun _ _ e => e, rps_at r' e (y vs hq)⟩
theorem it_rng {S : AS} {H : Hp} (lo : Int) (n : Nat) : ItOk G S H (Itr lo n) ((List.range n).map fun (k : Nat) => .int (lo + (k : Int))) := fun i S' H' kp up => by
  refine ⟨fun w e => ?_, fun e0 => have e := none_len e0; ?_⟩
  · have hi : i < n := by
      have := (List.getElem?_eq_some_iff.mp e).1
      simpa using this
    have ew : w = .int (lo + (i : Int)) := by
      rw [List.getElem?_map, List.getElem?_range hi] at e
      exact (Option.some.inj e).symm
    refine ⟨hi, fun x H2 ⟨e2, y⟩ => ?_⟩
    subst e2 y ew
    exact ⟨fun _ _ e => e, rp_int _ _ _⟩
  · have := List.getElem?_eq_none_iff.mp e
    show n ≤ i
    simpa using this
/-- an iterable's reading from the items' meaning -/
theorem it_bind {k : Itk} {d : Den (List W)} {env : Env} {S : AS} {A : List Addr} {σ : L2.St} {H : Hp} {Q : It → Hp → Prop} (o : Out G U σ S H A (rIt G) (cIt k d env) Q) :
    Out G U σ S H A (rWs G) (d env) fun vs H1 => ∃ ws items S1, Rps G S1 H1 ws vs ∧ itW k ws = some items ∧ ∀ J, ItOk G S1 H1 J items → Q J H1 := by
  refine (Out.bind (rel := rWs G) (fun h => h.2) o).mono fun vs H1 ⟨ws, env1, S1, A1, _, en1, ok1, ⟨r1, _⟩, f1, o2⟩ => ?_
  cases e : itW k ws with
  | none => rw [e] at o2; exact o2.elim
  | some items =>
    rw [e] at o2
    exact ⟨ws, items, S1, r1, e, fun J hJ => o2 J H1 S1 A1 [] en1 ⟨hJ, rfl⟩ ok1 (Fr.refl ok1)⟩
theorem itW_val {ws items : List W} (h : itW .val ws = some items) : ws = [.lst items] ∨ ws = [.tup items] := by
  unfold itW at h
  split at h <;> first | cases h | skip
  all_goals simp_all
theorem itW_rng1 {ws items : List W} (h : itW .rng1 ws = some items) : ∃ n, ws = [.int n] ∧ bnd n = true ∧ items = (List.range n.toNat).map fun (k : Nat) => .int (k : Int) := by
  unfold itW at h
  split at h <;> first | cases h | skip
  all_goals simp_all
theorem itW_rng2 {ws items : List W} (h : itW .rng2 ws = some items) : ∃ m n, ws = [.int m, .int n] ∧ bnd m = true ∧ bnd n = true ∧ items = (List.range (n - m).toNat).map fun (k : Nat) => .int (m + (k : Int)) := by
  unfold itW at h
  split at h <;> first | cases h | skip
  all_goals simp_all
  all_goals exact ⟨_, _, ⟨rfl, rfl⟩, h.1.1, h.1.2, h.2.symm⟩
theorem itW_enum {ws items : List W} (h : itW .enum ws = some items) : ∃ a, ws = [.lst a] ∧ items = a.zipIdx.map fun p => .tup [.int (p.2 : Int), p.1] := by
  unfold itW at h
  split at h <;> first | cases h | skip
  all_goals simp_all
theorem itW_zip {ws items : List W} (h : itW .zip ws = some items) : ∃ a b, (ws = [.lst a, .lst b] ∨ ws = [.tup a, .tup b]) ∧ items = (a.zip b).map fun p => .tup [p.1, p.2] := by
  unfold itW at h
  split at h <;> first | cases h | skip
  all_goals (try rename_i heq)
  all_goals first | cases heq | skip
  · exact ⟨_, _, .inl rfl, rfl⟩
  · exact ⟨_, _, .inr rfl, rfl⟩
/-- a list or a tuple -/
theorem pi_val {l : Expr} {d : Den Z} (hG : G.K = X.K) (hl : PE X l (tD G U (rZ G) d)) : PI X tg l (tD G U (rIt G) (cIt .val (cCons d cNil))) := (pi_seq (pe_fz hl)).imp fun σ H Q ⟨env, S, A, en, ok, o⟩ => by
  refine ⟨env, S, A, en, ok, ?_⟩
  have o1 : Out G U σ S H A (rIt G) ((cFz d env).bind fun w env => match itW .val [w] with | some ws => .ok ws env | none => .bad) Q := by
    have e : ((cFz d env).bind fun w env => match itW .val [w] with | some ws => R.ok ws env | none => .bad) = cIt .val (cCons d cNil) env := by
      unfold cIt cFz cCons cNil
      cases d env <;> rfl
    rw [e]; exact o
  refine (Out.bind (rel := rW G) (fun h => h.2) o1).mono fun x H1 ⟨w, env1, S1, A1, _, en1, ok1, ⟨r1, _⟩, f1, o2⟩ => ?_
  cases e : itW .val [w] with
  | none => rw [e] at o2; exact o2.elim
  | some ws =>
    rw [e] at o2
    rcases itW_val e with q | q
    · obtain rfl : w = .lst ws := by simpa using q
      unfold Rp at r1
      obtain ⟨a, vs, rfl, h1, h2⟩ := r1
      refine ⟨a, rfl, .inl ⟨⟨vs, SqL.of h1.2⟩, ?_⟩⟩
      rw [← hG]
      exact o2 _ H1 S1 A1 [] en1 ⟨it_list h1 h2, rfl⟩ ok1 (Fr.refl ok1)
    · obtain rfl : w = .tup ws := by simpa using q
      unfold Rp at r1
      obtain ⟨a, vs, rfl, h1, h2⟩ := r1
      refine ⟨a, rfl, .inr ⟨⟨vs, hG ▸ h1⟩, ?_⟩⟩
      rw [← hG]
      exact o2 _ H1 S1 A1 [] en1 ⟨it_tup h1 h2, rfl⟩ ok1 (Fr.refl ok1)
theorem bnd_iff {n : Int} (h : bnd n = true) : -(2 ^ 62) ≤ n ∧ n < 2 ^ 62 := by
  unfold bnd at h
  rw [Bool.and_eq_true] at h
  exact ⟨of_decide_eq_true h.1, of_decide_eq_true h.2⟩
theorem rps1 {S : AS} {H : Hp} {w : W} {vs : List V} (r : Rps G S H [w] vs) : ∃ v, vs = [v] ∧ Rp G S H w v := by
  obtain ⟨v, r, rfl, h1, h2⟩ := r.inv
  obtain rfl := h2.inv0
  exact ⟨v, rfl, h1⟩
theorem rps2 {S : AS} {H : Hp} {w w' : W} {vs : List V} (r : Rps G S H [w, w'] vs) : ∃ v v', vs = [v, v'] ∧ Rp G S H w v ∧ Rp G S H w' v' := by
  obtain ⟨v, r, rfl, h1, h2⟩ := r.inv
  obtain ⟨v', rfl, h3⟩ := rps1 h2
  exact ⟨v, v', rfl, h1, h3⟩
theorem rp_int_eq {S : AS} {H : Hp} {i : Int} {v : V} (h : Rp G S H (.int i) v) : v = .int i := by unfold Rp at h; exact h
theorem pi_rng1 {a : Expr} {d : Den (List W)} {p pos : Pos} (hg : Gl X "range") (hm : X.mg "range" = none) (ns : Nst a) (ha : PA X [a] (tD G U (rWs G) d)) : PI X tg (.Call (.Name "range" p) [a] [] pos) (tD G U (rIt G) (cIt .rng1 d)) :=
  (pi_range1 hg hm ha (ns [] X.env)).imp fun σ H Q ⟨env, S, A, en, ok, o⟩ => by
    refine ⟨env, S, A, en, ok, (it_bind o).mono fun vs H1 ⟨ws, items, S1, r1, e, q⟩ => ?_⟩
    obtain ⟨n, rfl, hb, rfl⟩ := itW_rng1 e
    obtain ⟨v, rfl, h1⟩ := rps1 r1
    obtain rfl := rp_int_eq h1
    obtain ⟨b1, b2⟩ := bnd_iff hb
    refine ⟨n, rfl, b1, b2, q _ ?_⟩
    have z := it_rng (G := G) (S := S1) (H := H1) 0 n.toNat
    simpa using z
theorem pi_rng2 {a b : Expr} {d : Den (List W)} {p pos : Pos} (hg : Gl X "range") (hm : X.mg "range" = none) (ns : Nst a) (ns2 : Nst b) (ha : PA X [a, b] (tD G U (rWs G) d)) : PI X tg (.Call (.Name "range" p) [a, b] [] pos) (tD G U (rIt G) (cIt .rng2 d)) :=
  (pi_range2 hg hm ha (by rw [ns, ns2]; rfl) (ns2 [] X.env)).imp fun σ H Q ⟨env, S, A, en, ok, o⟩ => by
    refine ⟨env, S, A, en, ok, (it_bind o).mono fun vs H1 ⟨ws, items, S1, r1, e, q⟩ => ?_⟩
    obtain ⟨m, n, rfl, hb, hb2, rfl⟩ := itW_rng2 e
    obtain ⟨v, v', rfl, h1, h2⟩ := rps2 r1
    obtain rfl := rp_int_eq h1
    obtain rfl := rp_int_eq h2
    obtain ⟨b1, b2⟩ := bnd_iff hb
    obtain ⟨b3, b4⟩ := bnd_iff hb2
    exact ⟨m, n, rfl, ⟨b1, b2, b3, b4⟩, q _ (it_rng m (n - m).toNat)⟩
theorem zipIdx_at {ws : List W} {i : Nat} {w : W} (e : (ws.zipIdx.map fun p => W.tup [.int (p.2 : Int), p.1])[i]? = some w) : ∃ x, ws[i]? = some x ∧ w = .tup [.int (i : Int), x] := by
  rw [List.getElem?_map, List.getElem?_zipIdx] at e
  cases q : ws[i]? with
  | none => rw [q] at e; cases e
  | some x =>
    rw [q] at e
    exact ⟨x, rfl, by simpa using (Option.some.inj e).symm⟩
theorem rp_new {S : AS} {H : Hp} {T : Addr} {ws : List W} {vs : List V} (hT : H T = none) (r : Rps G S H ws vs) : Rp G S (upd H T (.tup vs)) (.tup ws) (.ref T) := by
  unfold Rp
  exact ⟨T, vs, rfl, SqT.of upd_same, r.mono (ext_kp (keep_new hT)) fun _ h => h⟩
theorem it_enum {S : AS} {H : Hp} {a : Addr} {ws : List W} {vs : List V} (f : Fz S H a (.lst vs)) (r : Rps G S H ws vs) : ItOk G S H (Ite G.K a) (ws.zipIdx.map fun p => .tup [.int (p.2 : Int), p.1]) := fun i S' H' kp up => by
  have hq : SqL G.K H' a vs := fz_list f kp
  have r' := r.mono kp up
  refine ⟨fun w e => ?_, fun e0 => have e := none_len e0; ⟨vs, hq, ?_⟩⟩
  · obtain ⟨x, ex, rfl⟩ := zipIdx_at e
    obtain ⟨y, hy, ry⟩ := r'.get ex
    refine ⟨⟨vs, y, hq, hy⟩, fun v H2 ⟨T, z, ev, hT, eH, hz⟩ => ?_⟩
    subst ev eH
    exact ⟨keep_new hT, rp_new hT (.cons (rp_int _ _ _) (.one (rps_at r' ex (hz vs hq))))⟩
  · have := List.getElem?_eq_none_iff.mp e
    rw [r'.length]
    simpa using this
theorem pi_en {e : Expr} {d : Den (List W)} {p pos tpos : Pos} {elts : List Expr} {kk : Nat} (hG : G.K = X.K) (hg : Gl X "enumerate") (hm : X.mg "enumerate" = none) (ns : Nst e) (ha : PA X [e] (tD G U (rWs G) d)) :
    PI X (.Tuple elts kk tpos) (.Call (.Name "enumerate" p) [e] [] pos) (tD G U (rIt G) (cIt .enum d)) :=
  (pi_enum hg hm ha (ns [] X.env)).imp fun σ H Q ⟨env, S, A, en, ok, o⟩ => by
    refine ⟨env, S, A, en, ok, (it_bind o).mono fun vs H1 ⟨ws, items, S1, r1, e, q⟩ => ?_⟩
    obtain ⟨a, rfl, rfl⟩ := itW_enum e
    obtain ⟨v, rfl, h1⟩ := rps1 r1
    unfold Rp at h1
    obtain ⟨b, vs, rfl, h2, h3⟩ := h1
    refine ⟨b, vs, rfl, SqL.of h2.2, ?_⟩
    rw [← hG]
    exact q _ (it_enum h2 h3)
theorem zip_at {ws us : List W} {i : Nat} {w : W} (e : ((ws.zip us).map fun p => W.tup [p.1, p.2])[i]? = some w) : ∃ x y, ws[i]? = some x ∧ us[i]? = some y ∧ w = .tup [x, y] := by
  rw [List.getElem?_map] at e
  cases q : (ws.zip us)[i]? with
  | none => rw [q] at e; cases e
  | some p =>
    rw [q] at e
    obtain ⟨h1, h2⟩ := List.getElem?_zip_eq_some.mp q
    exact ⟨p.1, p.2, h1, h2, (Option.some.inj e).symm⟩
theorem zip_none {ws us : List W} {i : Nat} (e : ((ws.zip us).map fun p => W.tup [p.1, p.2])[i]? = none) : ws.length ≤ i ∨ us.length ≤ i := by
  have := List.getElem?_eq_none_iff.mp e
  simp only [List.length_map, List.length_zip] at this
  omega
theorem it_zip {S : AS} {H : Hp} {a b : Addr} {ws us : List W} {vs ys : List V} (f : Fz S H a (.lst vs)) (f2 : Fz S H b (.lst ys)) (r : Rps G S H ws vs) (r2 : Rps G S H us ys) : ItOk G S H (Itz G.K a b) ((ws.zip us).map fun p => .tup [p.1, p.2]) := fun i S' H' kp up => by
  have hq : SqL G.K H' a vs := fz_list f kp
  have hq2 : SqL G.K H' b ys := fz_list f2 kp
  have r' := r.mono kp up
  have r2' := r2.mono kp up
  refine ⟨fun w e => ?_, fun e0 => have e := none_len e0; ⟨vs, ys, hq, hq2, by rw [r'.length, r2'.length]; exact zip_none e⟩⟩
  obtain ⟨x, y, ex, ey, rfl⟩ := zip_at e
  obtain ⟨v, hv, rv⟩ := r'.get ex
  obtain ⟨u, hu, ru⟩ := r2'.get ey
  refine ⟨⟨vs, ys, v, u, hq, hq2, hv, hu⟩, fun z H2 ⟨T, v1, u1, ev, hT, eH, h1, h2⟩ => ?_⟩
  subst ev eH
  exact ⟨keep_new hT, rp_new hT (.cons (rps_at r' ex (h1 vs hq)) (.one (rps_at r2' ey (h2 ys hq2))))⟩
theorem it_zipT {S : AS} {H : Hp} {a b : Addr} {ws us : List W} {vs ys : List V} (f : SqT G.K H a vs) (f2 : SqT G.K H b ys) (r : Rps G S H ws vs) (r2 : Rps G S H us ys) : ItOk G S H (_root_.RZ.ItzT G.K a b) ((ws.zip us).map fun p => .tup [p.1, p.2]) := fun i S' H' kp up => by
  have hq : SqT G.K H' a vs := sqT_kp f kp
  have hq2 : SqT G.K H' b ys := sqT_kp f2 kp
  have r' := r.mono kp up
  have r2' := r2.mono kp up
  refine ⟨fun w e => ?_, fun e0 => have e := none_len e0; ⟨vs, ys, hq, hq2, by rw [r'.length, r2'.length]; exact zip_none e⟩⟩
  obtain ⟨x, y, ex, ey, rfl⟩ := zip_at e
  obtain ⟨v, hv, rv⟩ := r'.get ex
  obtain ⟨u, hu, ru⟩ := r2'.get ey
  refine ⟨⟨vs, ys, v, u, hq, hq2, hv, hu⟩, fun z H2 ⟨T, v1, u1, ev, hT, eH, h1, h2⟩ => ?_⟩
  subst ev eH
  exact ⟨keep_new hT, rp_new hT (.cons (rps_at r' ex (h1 vs hq)) (.one (rps_at r2' ey (h2 ys hq2))))⟩
theorem pi_zp {e e2 : Expr} {d : Den (List W)} {p pos tpos : Pos} {elts : List Expr} {kk : Nat} (hG : G.K = X.K) (hg : Gl X "zip") (hm : X.mg "zip" = none) (ns : Nst e) (ns2 : Nst e2) (ha : PA X [e, e2] (tD G U (rWs G) d)) :
    PI X (.Tuple elts kk tpos) (.Call (.Name "zip" p) [e, e2] [] pos) (tD G U (rIt G) (cIt .zip d)) :=
  (_root_.RZ.pi_zipA hg hm ha (ns [e2] X.env) (by rw [ns2 [] X.env]; rfl)).imp fun σ H Q ⟨env, S, A, en, ok, o⟩ => by
    refine ⟨env, S, A, en, ok, (it_bind o).mono fun vs H1 ⟨ws, items, S1, r1, e, q⟩ => ?_⟩
    obtain ⟨a, b, hw, rfl⟩ := itW_zip e
    rcases hw with rfl | rfl
    · obtain ⟨v, v', rfl, h1, h2⟩ := rps2 r1
      unfold Rp at h1 h2
      obtain ⟨x, xs, rfl, h3, h4⟩ := h1
      obtain ⟨y, ys, rfl, h5, h6⟩ := h2
      refine ⟨x, y, xs, ys, rfl, .inl ⟨SqL.of h3.2, SqL.of h5.2, ?_⟩⟩
      rw [← hG]
      exact q _ (it_zip h3 h5 h4 h6)
    · obtain ⟨v, v', rfl, h1, h2⟩ := rps2 r1
      unfold Rp at h1 h2
      obtain ⟨x, xs, rfl, h3, h4⟩ := h1
      obtain ⟨y, ys, rfl, h5, h6⟩ := h2
      refine ⟨x, y, xs, ys, rfl, .inr ⟨hG ▸ h3, hG ▸ h5, ?_⟩⟩
      rw [← hG]
      exact q _ (it_zipT h3 h5 h4 h6)
end
end Cb

end
section
set_option maxRecDepth 100000
set_option maxHeartbeats 4000000
/-! operations, one by one -/
namespace Cb
open PySem PySem.Spec PyProof.Rows L2
section
variable {G : Gc} {U : L2.WX} {X : Cx} {S : AS} {H : Hp} {Q : VK}

/-! ### data as the library knows it -/
mutual
def toD : W → PyData
  | .non => .none
  | .bl b => .bool b
  | .int i => .int i
  | .str x => .str x
  | .tup ws => .tuple (toDs ws)
  | .lst ws => .list (toDs ws)
  | _ => .none
def toDs : List W → List PyData
  | [] => []
  | w :: ws => toD w :: toDs ws
end
mutual
theorem eqv_toD : ∀ {a b : W}, plainW a = true → plainW b = true → PyData.eqv (toD a) (toD b) = eqW a b
  | .tup a, .tup b, h1, h2 => by
    unfold plainW at h1 h2
    simp only [toD, PyData.eqv, eqW, eqv_toDs h1 h2]
  | .lst a, .lst b, h1, h2 => by
    unfold plainW at h1 h2
    simp only [toD, PyData.eqv, eqW, eqv_toDs h1 h2]
  | .str a, .str b, _, _ => by
    simp only [toD, PyData.eqv, eqW]
    by_cases e : a = b
    · subst e; simp
    · rw [decide_eq_false e]; exact beq_eq_false_iff_ne.mpr e
  | .non, b, _, h2 => by cases b <;> first | rfl | (simp [plainW] at h2; done) | simp [toD, PyData.eqv, eqW]
  | .bl x, b, _, h2 => by cases b <;> first | rfl | (simp [plainW] at h2; done) | simp [toD, PyData.eqv, eqW]
  | .int x, b, _, h2 => by cases b <;> first | rfl | (simp [plainW] at h2; done) | simp [toD, PyData.eqv, eqW]
  | .str x, .non, _, h2 => by simp [toD, PyData.eqv, eqW]
  | .str x, .bl _, _, h2 => by simp [toD, PyData.eqv, eqW]
  | .str x, .int _, _, h2 => by simp [toD, PyData.eqv, eqW]
  | .str x, .tup _, _, h2 => by simp [toD, PyData.eqv, eqW]
  | .str x, .lst _, _, h2 => by simp [toD, PyData.eqv, eqW]
  | .tup x, .non, _, h2 => by simp [toD, PyData.eqv, eqW]
  | .tup x, .bl _, _, h2 => by simp [toD, PyData.eqv, eqW]
  | .tup x, .int _, _, h2 => by simp [toD, PyData.eqv, eqW]
  | .tup x, .str _, _, h2 => by simp [toD, PyData.eqv, eqW]
  | .tup x, .lst _, _, h2 => by simp [toD, PyData.eqv, eqW]
  | .lst x, .non, _, h2 => by simp [toD, PyData.eqv, eqW]
  | .lst x, .bl _, _, h2 => by simp [toD, PyData.eqv, eqW]
  | .lst x, .int _, _, h2 => by simp [toD, PyData.eqv, eqW]
  | .lst x, .str _, _, h2 => by simp [toD, PyData.eqv, eqW]
  | .lst x, .tup _, _, h2 => by simp [toD, PyData.eqv, eqW]
  | .dK _, _, h1, _ => by simp [plainW] at h1
  | .dT _, _, h1, _ => by simp [plainW] at h1
  | .obj _ _, _, h1, _ => by simp [plainW] at h1
  | .scr _, _, h1, _ => by simp [plainW] at h1
  | _, .dK _, _, h1 => by simp [plainW] at h1
  | _, .dT _, _, h1 => by simp [plainW] at h1
  | _, .obj _ _, _, h1 => by simp [plainW] at h1
  | _, .scr _, _, h1 => by simp [plainW] at h1
theorem eqv_toDs : ∀ {a b : List W}, plainWs a = true → plainWs b = true → PyData.eqvAll (toDs a) (toDs b) = eqWs a b
  | [], [], _, _ => rfl
  | [], _ :: _, _, _ => rfl
  | _ :: _, [], _, _ => rfl
  | a :: r, b :: s, h1, h2 => by
    unfold plainWs at h1 h2
    rw [Bool.and_eq_true] at h1 h2
    simp only [toDs, PyData.eqvAll, eqWs, eqv_toD h1.1 h2.1, eqv_toDs h1.2 h2.2]
end
mutual
theorem toD_lay : ∀ {a : W}, plainW a = true → (toD a).canLay0 = true ∧ (toD a).depth = depW a
  | .non, _ => ⟨rfl, rfl⟩
  | .bl _, _ => ⟨rfl, rfl⟩
  | .int _, _ => ⟨rfl, rfl⟩
  | .str x, h => ⟨by unfold plainW at h; simpa [toD, PyData.canLay0] using h, rfl⟩
  | .tup a, h => by
    unfold plainW at h
    obtain ⟨h1, h2⟩ := toDs_lay h
    simp only [toD, PyData.canLay0, PyData.depth, depW, h1, h2]
    exact ⟨trivial, trivial⟩
  | .lst a, h => by
    unfold plainW at h
    obtain ⟨h1, h2⟩ := toDs_lay h
    simp only [toD, PyData.canLay0, PyData.depth, depW, h1, h2]
    exact ⟨trivial, trivial⟩
  | .dK _, h => by simp [plainW] at h
  | .dT _, h => by simp [plainW] at h
  | .obj _ _, h => by simp [plainW] at h
  | .scr _, h => by simp [plainW] at h
theorem toDs_lay : ∀ {a : List W}, plainWs a = true → PyData.canLayAll0 (toDs a) = true ∧ PyData.depthAll (toDs a) = depWs a
  | [], _ => ⟨rfl, rfl⟩
  | a :: r, h => by
    unfold plainWs at h
    rw [Bool.and_eq_true] at h
    obtain ⟨h1, h2⟩ := toD_lay h.1
    obtain ⟨h3, h4⟩ := toDs_lay h.2
    simp only [toDs, PyData.canLayAll0, PyData.depthAll, depWs, h1, h2, h3, h4]
    exact ⟨rfl, trivial⟩
end
theorem shW_iff {a : W} (h : shW a = true) : plainW a = true ∧ depW a ≤ 60 := by
  unfold shW at h
  rw [Bool.and_eq_true] at h
  exact ⟨h.1, of_decide_eq_true h.2⟩
theorem shWs_iff {a : List W} (h : shWs a = true) : plainWs a = true ∧ depWs a ≤ 60 := by
  unfold shWs at h
  rw [Bool.and_eq_true] at h
  exact ⟨h.1, of_decide_eq_true h.2⟩
theorem shaped_of {a : W} (h : shW a = true) : SeqAt.shaped (toD a) = true := by
  obtain ⟨h1, h2⟩ := shW_iff h
  obtain ⟨h3, h4⟩ := toD_lay h1
  show ((toD a).canLay0 && decide ((toD a).depth ≤ 64)) = true
  rw [h3, h4, Bool.true_and]
  exact decide_eq_true (by omega)
theorem shaped_list {a : List W} (h : shWs a = true) : SeqAt.shaped (.list (toDs a)) = true := by
  obtain ⟨h1, h2⟩ := shWs_iff h
  obtain ⟨h3, h4⟩ := toDs_lay h1
  show (PyData.canLay0 (.list (toDs a)) && decide (PyData.depth (.list (toDs a)) ≤ 64)) = true
  simp only [PyData.canLay0, PyData.depth, h3, h4, Bool.true_and]
  exact decide_eq_true (by omega)
theorem shaped_tup {a : List W} (h : shWs a = true) : SeqAt.shaped (.tuple (toDs a)) = true := by
  obtain ⟨h1, h2⟩ := shWs_iff h
  obtain ⟨h3, h4⟩ := toDs_lay h1
  show (PyData.canLay0 (.tuple (toDs a)) && decide (PyData.depth (.tuple (toDs a)) ≤ 64)) = true
  simp only [PyData.canLay0, PyData.depth, h3, h4, Bool.true_and]
  exact decide_eq_true (by omega)
mutual
theorem rp_dp (hG : G.K = X.K) : ∀ {w : W} {v : V}, plainW w = true → Rp G S H w v → Dp X.K H v (toD w)
  | .non, v, _, r => by unfold Rp at r; subst r; exact .non
  | .bl _, v, _, r => by unfold Rp at r; subst r; exact .bl _
  | .int _, v, _, r => by unfold Rp at r; subst r; exact .int _
  | .str _, v, _, r => by unfold Rp at r; subst r; exact .str _
  | .tup ws, v, h, r => by
    unfold Rp at r
    obtain ⟨a, vs, rfl, h1, h2⟩ := r
    unfold plainW at h
    simp only [toD]
    exact .tup (hG ▸ h1) (rps_dp hG h h2)
  | .lst ws, v, h, r => by
    unfold Rp at r
    obtain ⟨a, vs, rfl, h1, h2⟩ := r
    unfold plainW at h
    simp only [toD]
    exact .lst (SqL.of h1.2) (rps_dp hG h h2)
  | .dK _, _, h, _ => by simp [plainW] at h
  | .dT _, _, h, _ => by simp [plainW] at h
  | .obj _ _, _, h, _ => by simp [plainW] at h
  | .scr _, _, h, _ => by simp [plainW] at h
theorem rps_dp (hG : G.K = X.K) : ∀ {ws : List W} {vs : List V}, plainWs ws = true → Rps G S H ws vs → DpAll X.K H vs (toDs ws)
  | [], vs, _, r => by
    obtain rfl := r.inv0
    exact .nil
  | w :: ws, vs, h, r => by
    obtain ⟨v, r', rfl, h1, h2⟩ := r.inv
    unfold plainWs at h
    rw [Bool.and_eq_true] at h
    exact .cons (rp_dp hG h.1 h1) (rps_dp hG h.2 h2)
end
theorem vw_dp (hG : G.K = X.K) {w : W} {v : V} (h : plainW w = true) (r : Vw G S H w v) : Dp X.K H v (toD w) := by
  cases w with
  | lst ws =>
    obtain ⟨a, vs, rfl, h1, h2⟩ := r
    unfold plainW at h
    simp only [toD]
    exact .lst (SqL.of h1) (rps_dp hG h h2)
  | dK _ => simp [plainW] at h
  | dT _ => simp [plainW] at h
  | obj _ _ => simp [plainW] at h
  | _ => exact rp_dp (S := S) hG h r

/-! ### operands told apart -/
theorem vws1 {w : W} {vs : List V} (h : Vws G S H [w] vs) : ∃ v, vs = [v] ∧ Vw G S H w v := by
  obtain ⟨v, r, rfl, h1, h2⟩ := h
  obtain rfl : r = [] := h2
  exact ⟨v, rfl, h1⟩
theorem vws2 {w w' : W} {vs : List V} (h : Vws G S H [w, w'] vs) : ∃ v v', vs = [v, v'] ∧ Vw G S H w v ∧ Vw G S H w' v' := by
  obtain ⟨v, r, rfl, h1, h2⟩ := h
  obtain ⟨v', rfl, h3⟩ := vws1 h2
  exact ⟨v, v', rfl, h1, h3⟩
theorem vw_int {i : Int} {v : V} (h : Vw G S H (.int i) v) : v = .int i := by
  have h : Rp G S H (.int i) v := h
  unfold Rp at h; exact h
theorem vw_bl {i : Bool} {v : V} (h : Vw G S H (.bl i) v) : v = .bl i := by
  have h : Rp G S H (.bl i) v := h
  unfold Rp at h; exact h
theorem vw_str {i : Str} {v : V} (h : Vw G S H (.str i) v) : v = .str i := by
  have h : Rp G S H (.str i) v := h
  unfold Rp at h; exact h
theorem vw_non {v : V} (h : Vw G S H .non v) : v = .non := by
  have h : Rp G S H .non v := h
  unfold Rp at h; exact h
theorem vw_tup {ws : List W} {v : V} (h : Vw G S H (.tup ws) v) : ∃ a vs, v = .ref a ∧ SqT G.K H a vs ∧ Rps G S H ws vs := by
  have h : Rp G S H (.tup ws) v := h
  unfold Rp at h; exact h
theorem vw_scr {ws : List Int} {v : V} (h : Vw G S H (.scr ws) v) : ∃ a, v = .ref a ∧ (Sc G.K H a (ws.map V.int) ∨ Fz S H a (.lst (ws.map V.int))) := by
  have h : Rp G S H (.scr ws) v := h
  unfold Rp at h; exact h
/-- the reading of an operator of two values -/
abbrev two (r : R2) : List V → Hp → VK → Prop := fun vs H Q => ∃ x y, vs = [x, y] ∧ r x y H Q
abbrev one (r : V → Hp → VK → Prop) : List V → Hp → VK → Prop := fun vs H Q => ∃ x, vs = [x] ∧ r x H Q
/-! ### arithmetic -/
def rAdd3 (K : PySem.W.Frag) : R2 := fun x y H Q => (rI0 fun i j => .int (i + j)) x y H Q ∨ rCatA K x y H Q ∨ rCat x y H Q
theorem op_add3 : OpR X (binaryOp .Add) (rAdd3 X.K) := op_add.or (op_catA.or op_cat)
theorem pk_add (hG : G.K = X.K) : PrOk G (two (rAdd3 X.K)) (prW .add) := by
  intro S H ws vs z Q hv e q
  change p_add ws = some z at e
  unfold p_add at e
  split at e
  · obtain ⟨v, v', rfl, h1, h2⟩ := vws2 hv
    obtain rfl := vw_int h1
    obtain rfl := vw_int h2
    cases e
    exact ⟨_, _, rfl, .inl ⟨_, _, rfl, rfl, q.w (rp_int _ _ _)⟩⟩
  · rename_i a b
    obtain ⟨v, v', rfl, h1, h2⟩ := vws2 hv
    obtain ⟨p, xs, rfl, k1, k2⟩ := vw_tup h1
    obtain ⟨p', ys, rfl, k3, k4⟩ := vw_tup h2
    by_cases hz : sizeOk (a.length + b.length) = true
    · rw [if_pos hz] at e
      cases e
      refine ⟨_, _, rfl, .inr (.inl ⟨p, p', xs, ys, rfl, rfl, hG ▸ k1, hG ▸ k3, by rw [k2.length, k4.length]; exact sizeOk_le hz, fun e0 => ?_, fun _ e1 => ?_, fun _ _ => q.tup (k2.append k4)⟩)⟩
      · subst e0
        have ea : a = [] := List.length_eq_zero_iff.mp (by rw [← k2.length]; rfl)
        subst ea
        exact q.w (by unfold Rp; exact ⟨p', ys, rfl, k3, k4⟩)
      · subst e1
        have eb : b = [] := List.length_eq_zero_iff.mp (by rw [← k4.length]; rfl)
        subst eb
        exact q.w (by rw [List.append_nil]; unfold Rp; exact ⟨p, xs, rfl, k1, k2⟩)
    · rw [if_neg hz] at e; cases e
  · rename_i a b
    obtain ⟨v, v', rfl, h1, h2⟩ := vws2 hv
    obtain ⟨p, xs, rfl, k1, k2⟩ := h1
    obtain ⟨p', ys, rfl, k3, k4⟩ := h2
    by_cases hz : sizeOk (a.length + b.length) = true
    · rw [if_pos hz] at e
      cases e
      exact ⟨_, _, rfl, .inr (.inr ⟨p, p', xs, ys, rfl, rfl, k1, k3, by rw [k2.length, k4.length]; exact sizeOk_le hz, q.lst (k2.append k4)⟩)⟩
    · rw [if_neg hz] at e; cases e
  · cases e
theorem pk_sub : PrOk G (two (rI0 fun i j => .int (i - j))) (prW .sub) := by
  intro S H ws vs z Q hv e q
  change p_sub ws = some z at e
  unfold p_sub at e
  split at e
  · obtain ⟨v, v', rfl, h1, h2⟩ := vws2 hv
    obtain rfl := vw_int h1
    obtain rfl := vw_int h2
    cases e
    exact ⟨_, _, rfl, _, _, rfl, rfl, q.w (rp_int _ _ _)⟩
  · cases e
def rMul2 : R2 := fun x y H Q => (rI CMul fun i j => .int (i * j)) x y H Q ∨ (rI CMulW fun i j => .int (i * j)) x y H Q ∨ rRep x y H Q
theorem op_mul2 : OpR X (binaryOp .Mult) rMul2 := op_mul.or (op_mulW.or op_rep)
theorem bnd_in {n : Int} (h : bnd n = true) : -(2 ^ 62) ≤ n ∧ n < 2 ^ 62 := by
  unfold bnd at h
  rw [Bool.and_eq_true] at h
  exact ⟨of_decide_eq_true h.1, of_decide_eq_true h.2⟩
theorem rps_rep {ws : List W} {vs : List V} (r : Rps G S H ws vs) : ∀ n : Nat, Rps G S H (List.replicate n ws).flatten (List.replicate n vs).flatten
  | 0 => .nil
  | n + 1 => by
    rw [List.replicate_succ, List.replicate_succ, List.flatten_cons, List.flatten_cons]
    exact r.append (rps_rep r n)
theorem small_iff {i : Int} (h : small i = true) : -(2 ^ 64) < i ∧ i < 2 ^ 64 := by
  unfold small at h
  rw [Bool.and_eq_true] at h
  exact ⟨of_decide_eq_true h.1, of_decide_eq_true h.2⟩
theorem mulOk_iff {i j : Int} (h : mulOk i j = true) : CMul i j ∨ CMulW i j := by
  unfold mulOk at h
  rw [Bool.or_eq_true, Bool.or_eq_true] at h
  rcases h with (h | h) | h
  · exact .inl (.inl (small_iff h))
  · exact .inl (.inr (small_iff h))
  · exact .inr (of_decide_eq_true (p := i.natAbs.log2 + j.natAbs.log2 < 1000000) h)
theorem pk_mul : PrOk G (two rMul2) (prW .mul) := by
  intro S H ws vs z Q hv e q
  change p_mul ws = some z at e
  unfold p_mul at e
  split at e
  · rename_i i j
    obtain ⟨v, v', rfl, h1, h2⟩ := vws2 hv
    obtain rfl := vw_int h1
    obtain rfl := vw_int h2
    by_cases hm : mulOk i j = true
    · rw [if_pos hm] at e
      cases e
      have q' := q.w (rp_int S H (i * j))
      rcases mulOk_iff hm with c | c
      · exact ⟨_, _, rfl, .inl ⟨i, j, rfl, rfl, c, q'⟩⟩
      · exact ⟨_, _, rfl, .inr (.inl ⟨i, j, rfl, rfl, c, q'⟩)⟩
    · rw [if_neg hm] at e; cases e
  · rename_i a k
    obtain ⟨v, v', rfl, h1, h2⟩ := vws2 hv
    obtain rfl := vw_int h2
    obtain ⟨p, xs, rfl, k1, k2⟩ := h1
    by_cases hm : (bnd k && decide (a.length * k.toNat ≤ 16777216)) = true
    · rw [if_pos hm] at e
      cases e
      rw [Bool.and_eq_true] at hm
      obtain ⟨b1, b2⟩ := bnd_in hm.1
      have b3 := of_decide_eq_true hm.2
      exact ⟨_, _, rfl, .inr (.inr ⟨p, k, xs, rfl, rfl, k1, by omega, by omega, by rw [k2.length, sizeLine_eq]; exact b3, q.lst (rps_rep k2 _)⟩)⟩
    · rw [if_neg hm] at e; cases e
  · cases e
theorem pk_fdiv : PrOk G (two (rI CDivW fun i j => .int (i / j))) (prW .fdiv) := by
  intro S H ws vs z Q hv e q
  change p_fdiv ws = some z at e
  unfold p_fdiv at e
  split at e
  · rename_i i j
    obtain ⟨v, v', rfl, h1, h2⟩ := vws2 hv
    obtain rfl := vw_int h1
    obtain rfl := vw_int h2
    by_cases hm : (decide (0 < j) && decide (j.natAbs.log2 < 9000)) = true
    · rw [if_pos hm] at e
      cases e
      rw [Bool.and_eq_true] at hm
      exact ⟨_, _, rfl, i, j, rfl, rfl, ⟨of_decide_eq_true hm.1, of_decide_eq_true hm.2⟩, q.w (rp_int S H (i / j))⟩
    · rw [if_neg hm] at e; cases e
  · cases e
theorem pk_mod : PrOk G (two (rI (fun _ j => 0 < j) fun i j => .int (i % j))) (prW .mod) := by
  intro S H ws vs z Q hv e q
  change p_mod ws = some z at e
  unfold p_mod at e
  split at e
  · rename_i i j
    obtain ⟨v, v', rfl, h1, h2⟩ := vws2 hv
    obtain rfl := vw_int h1
    obtain rfl := vw_int h2
    by_cases hm : decide (0 < j) = true
    · rw [if_pos hm] at e
      cases e
      exact ⟨_, _, rfl, i, j, rfl, rfl, of_decide_eq_true hm, q.w (rp_int S H (i % j))⟩
    · rw [if_neg hm] at e; cases e
  · cases e
theorem pk_pow : PrOk G (two (rI CPow fun i j => .int (i ^ j.toNat))) (prW .pow) := by
  intro S H ws vs z Q hv e q
  change p_pow ws = some z at e
  unfold p_pow at e
  split at e
  · rename_i i j
    obtain ⟨v, v', rfl, h1, h2⟩ := vws2 hv
    obtain rfl := vw_int h1
    obtain rfl := vw_int h2
    by_cases hm : (small i && decide (0 ≤ j) && decide (j ≤ 1000000)) = true
    · rw [if_pos hm] at e
      cases e
      rw [Bool.and_eq_true, Bool.and_eq_true] at hm
      have hs := small_iff hm.1.1
      exact ⟨_, _, rfl, i, j, rfl, rfl, ⟨of_decide_eq_true hm.1.2, of_decide_eq_true hm.2, by omega⟩, q.w (rp_int S H (i ^ j.toNat))⟩
    · rw [if_neg hm] at e; cases e
  · cases e
theorem pk_neg : PrOk G (one (rU fun i => .int (-i))) (prW .neg) := by
  intro S H ws vs z Q hv e q
  change p_neg ws = some z at e
  unfold p_neg at e
  split at e
  · rename_i i
    obtain ⟨v, rfl, h1⟩ := vws1 hv
    obtain rfl := vw_int h1
    cases e
    exact ⟨_, rfl, i, rfl, q.w (rp_int S H (-i))⟩
  · cases e
end
end Cb

end
section
set_option maxRecDepth 100000
set_option maxHeartbeats 4000000
/-! comparisons, containers, built-in functions -/
namespace Cb
open PySem PySem.Spec PyProof.Rows L2

/-! ### < of nested tuples -/
theorem ltWs_drop {a b : List W} (i : Nat) (h1 : i < a.length) (h2 : i < b.length) : ltWs (a.drop i) (b.drop i) = if eqW a[i] b[i] then ltWs (a.drop (i + 1)) (b.drop (i + 1)) else ltW a[i] b[i] := by
  rw [List.drop_eq_getElem_cons h1, List.drop_eq_getElem_cons h2]
  rfl
theorem lexAt_ltWs {a b : List W} : ∀ (k i : Nat), k = min a.length b.length - i → i ≤ min a.length b.length →
    Ob.lexAt (fun j => eqW (a.getD j .non) (b.getD j .non)) (fun j => ltW (a.getD j .non) (b.getD j .non)) (decide (a.length < b.length)) i k = ltWs (a.drop i) (b.drop i)
  | 0, i, hk, hi => by
    rw [Ob.lexAt_zero]
    by_cases h1 : i < a.length
    · have h2 : ¬ i < b.length := by omega
      rw [List.drop_eq_getElem_cons h1, List.drop_of_length_le (by omega : b.length ≤ i)]
      exact decide_eq_false (by omega)
    · rw [List.drop_of_length_le (by omega : a.length ≤ i)]
      by_cases h2 : i < b.length
      · rw [List.drop_eq_getElem_cons h2]
        exact decide_eq_true (by omega)
      · rw [List.drop_of_length_le (by omega : b.length ≤ i)]
        exact decide_eq_false (by omega)
  | k + 1, i, hk, hi => by
    have h1 : i < a.length := by omega
    have h2 : i < b.length := by omega
    rw [ltWs_drop i h1 h2, Ob.lexAt_succ]
    have ea : a.getD i .non = a[i] := by simp [h1]
    have eb : b.getD i .non = b[i] := by simp [h2]
    simp only [ea, eb]
    rw [lexAt_ltWs k (i + 1) (by omega) (by omega)]
theorem cmpWs_at : ∀ {a b : List W} (j : Nat) (h1 : j < a.length) (h2 : j < b.length), cmpWs a b = true → cmpW a[j] b[j] = true
  | [], _, j, h1, _, _ => absurd h1 (by simp)
  | _ :: _, [], j, _, h2, _ => absurd h2 (by simp)
  | x :: r, y :: s, j, h1, h2, h => by
    unfold cmpWs at h
    rw [Bool.and_eq_true] at h
    cases j with
    | zero => exact h.1
    | succ j => exact cmpWs_at j (by simpa using h1) (by simpa using h2) h.2
theorem depWs_mem : ∀ {ws : List W} {w : W}, w ∈ ws → depW w ≤ depWs ws
  | [], _, h => absurd h (by simp)
  | x :: r, w, h => by
    unfold depWs
    rcases List.mem_cons.mp h with rfl | h
    · exact Nat.le_max_left _ _
    · exact Nat.le_trans (depWs_mem h) (Nat.le_max_right _ _)
theorem plainWs_mem : ∀ {ws : List W} {w : W}, plainWs ws = true → w ∈ ws → plainW w = true
  | [], _, _, h => absurd h (by simp)
  | x :: r, w, p, h => by
    unfold plainWs at p
    rw [Bool.and_eq_true] at p
    rcases List.mem_cons.mp h with rfl | h
    · exact p.1
    · exact plainWs_mem p.2 h
theorem readsAll_get {h : Heap} : ∀ {ws : List W} {vs : List Value} {as : List Addr}, ReadsAll h vs (toDs ws) as → vs.length = ws.length ∧ ∀ (j : Nat) (h1 : j < vs.length) (h2 : j < ws.length), ∃ bs, Reads h vs[j] (toD ws[j]) bs
  | [], vs, as, r => by
    unfold toDs at r
    cases r
    exact ⟨rfl, fun j h1 => absurd h1 (by simp)⟩
  | w :: ws, vs, as, r => by
    unfold toDs at r
    cases r with
    | cons r1 r2 =>
      obtain ⟨l, q⟩ := readsAll_get r2
      refine ⟨by simp [l], fun j h1 h2 => ?_⟩
      cases j with
      | zero => exact ⟨_, r1⟩
      | succ j => exact q j (by simpa using h1) (by simpa using h2)
theorem eqAt_W {A : Around} {s : Shared} {a b : W} {x y : Value} {as bs : List Addr} (pa : plainW a = true) (pb : plainW b = true) (ra : Reads s.heap x (toD a) as) (rb : Reads s.heap y (toD b) bs) (hu : A.units + min (depW a) (depW b) < cLine) : SeqAt.EqAt A s x y (eqW a b) := by
  obtain ⟨l1, d1⟩ := toD_lay pa
  obtain ⟨l2, d2⟩ := toD_lay pb
  rw [← eqv_toD pa pb]
  exact SeqAt.eqAt_reads _ _ A s x y as bs ra rb l1 l2 (by rw [d1, d2]; exact hu)
/-- the machine's < says what ltW says -/
theorem ltW_ok : ∀ (n : Nat) (a b : W) (A : Around) (s : Shared) (x y : Value) (as bs : List Addr), depW a ≤ n → plainW a = true → plainW b = true → cmpW a b = true → Reads s.heap x (toD a) as → Reads s.heap y (toD b) bs → A.units + n + 1 < cLine → Ob.RcOp .Lt A s x y (ltW a b)
  | n, a, b, A, s, x, y, as, bs, hd, pa, pb, e, ra, rb, hu => by
    cases a with
    | int i =>
      cases b with
      | int j =>
        simp only [toD] at ra rb
        cases ra
        cases rb
        unfold ltW
        exact Ob.RcOp.lt_int _ _ _ _
      | _ => simp [cmpW] at e
    | tup us =>
      cases b with
      | tup ws =>
        cases n with
        | zero => simp [depW] at hd
        | succ n =>
        simp only [toD] at ra rb
        unfold cmpW at e
        unfold plainW at pa pb
        have hd' : depWs us ≤ n := by simp only [depW] at hd; omega
        cases ra with
        | @tuple a1 o1 vs1 n1 xs1 as1 h1 c1 d1 r1 =>
        cases rb with
        | @tuple a2 o2 vs2 n2 xs2 as2 h2 c2 d2 r2 =>
        obtain ⟨l1, g1⟩ := readsAll_get r1
        obtain ⟨l2, g2⟩ := readsAll_get r2
        have l1' : vs1.size = us.length := by simpa using l1
        have l2' : vs2.size = ws.length := by simpa using l2
        have R := Ob.RcOp.tuples_lt (A := A) (s := s) (l := a1) (b := a2) (items := vs1) (items2 := vs2) (e := fun j => eqW (us.getD j .non) (ws.getD j .non)) (r := fun j => ltW (us.getD j .non) (ws.getD j .non)) ⟨o1, h1, c1, n1, d1⟩ ⟨o2, h2, c2, n2, d2⟩ (by omega) ?_ ?_
        · rw [l1', l2'] at R
          have z := lexAt_ltWs (a := us) (b := ws) (min us.length ws.length) 0 (by omega) (Nat.zero_le _)
          rw [z] at R
          unfold ltW
          simpa using R
        · intro j j1 j2
          have k1 : j < us.length := by omega
          have k2 : j < ws.length := by omega
          obtain ⟨b1, q1⟩ := g1 j (by simpa using j1) k1
          obtain ⟨b2, q2⟩ := g2 j (by simpa using j2) k2
          have e1 : us.getD j .non = us[j] := by simp [k1]
          have e2 : ws.getD j .non = ws[j] := by simp [k2]
          simp only [e1, e2]
          have m1 : us[j] ∈ us := List.getElem_mem k1
          have m2 : ws[j] ∈ ws := List.getElem_mem k2
          have dj := depWs_mem m1
          refine eqAt_W (plainWs_mem pa m1) (plainWs_mem pb m2) (by simpa using q1) (by simpa using q2) ?_
          show A.units + 1 + _ < _
          have := Nat.min_le_left (depW us[j]) (depW ws[j])
          omega
        · intro j j1 j2 ej
          have k1 : j < us.length := by omega
          have k2 : j < ws.length := by omega
          obtain ⟨b1, q1⟩ := g1 j (by simpa using j1) k1
          obtain ⟨b2, q2⟩ := g2 j (by simpa using j2) k2
          have e1 : us.getD j .non = us[j] := by simp [k1]
          have e2 : ws.getD j .non = ws[j] := by simp [k2]
          simp only [e1, e2]
          have m1 : us[j] ∈ us := List.getElem_mem k1
          have m2 : ws[j] ∈ ws := List.getElem_mem k2
          have dj := depWs_mem m1
          exact ltW_ok n us[j] ws[j] A.in1 s _ _ b1 b2 (by omega) (plainWs_mem pa m1) (plainWs_mem pb m2) (cmpWs_at j k1 k2 e) (by simpa using q1) (by simpa using q2) (by show A.units + 1 + n + 1 < _; omega)
      | _ => simp [cmpW] at e
    | _ => simp [cmpW] at e
end Cb

end
section
set_option maxRecDepth 100000
set_option maxHeartbeats 4000000
/-! comparisons, membership, subscripts, slices, built-in functions as operations -/
namespace Cb
open PySem PySem.Spec PyProof.Rows L2
section
variable {G : Gc} {U : L2.WX} {X : Cx}
theorem rp_blx (S : AS) (H : Hp) (b : Bool) : Rp G S H (.bl b) (.bl b) := rp_bl S H b
theorem pk_eq (hG : G.K = X.K) : PrOk G (two (rEqD X.K)) (prW .eq) := by
  intro S H ws vs z Q hv e q
  change p_eq ws = some z at e
  unfold p_eq at e
  split at e
  · rename_i a b
    obtain ⟨v, v', rfl, h1, h2⟩ := vws2 hv
    by_cases hs : (shW a && shW b) = true
    · rw [if_pos hs] at e
      cases e
      rw [Bool.and_eq_true] at hs
      refine ⟨_, _, rfl, toD a, toD b, vw_dp hG (shW_iff hs.1).1 h1, vw_dp hG (shW_iff hs.2).1 h2, shaped_of hs.1, shaped_of hs.2, ?_⟩
      rw [eqv_toD (shW_iff hs.1).1 (shW_iff hs.2).1]
      exact q.w (rp_bl S H _)
    · rw [if_neg hs] at e; cases e
  · cases e
theorem pk_ne (hG : G.K = X.K) : PrOk G (two (rNeD X.K)) (prW .ne) := by
  intro S H ws vs z Q hv e q
  change p_ne ws = some z at e
  unfold p_ne at e
  split at e
  · rename_i a b
    obtain ⟨v, v', rfl, h1, h2⟩ := vws2 hv
    by_cases hs : (shW a && shW b) = true
    · rw [if_pos hs] at e
      cases e
      rw [Bool.and_eq_true] at hs
      refine ⟨_, _, rfl, toD a, toD b, vw_dp hG (shW_iff hs.1).1 h1, vw_dp hG (shW_iff hs.2).1 h2, shaped_of hs.1, shaped_of hs.2, ?_⟩
      rw [eqv_toD (shW_iff hs.1).1 (shW_iff hs.2).1]
      exact q.w (rp_bl S H _)
    · rw [if_neg hs] at e; cases e
  · cases e
/-- < of tuples -/
def rLtW (G : Gc) : R2 := fun x y H Q => ∃ S a b, Vw G S H a x ∧ Vw G S H b y ∧ plainW a = true ∧ plainW b = true ∧ depW a ≤ 61 ∧ cmpW a b = true ∧ Q (.bl (ltW a b)) H
theorem op_ltW (hG : G.K = X.K) (hu : X.A.units + 64 < cLine) : OpR X (compareOp .Lt) (rLtW G) := by
  intro pins s σ H x y v u Q I rx ry h
  obtain ⟨S, a, b, h1, h2, pa, pb, da, hc, q⟩ := h
  obtain ⟨as, r1⟩ := Dp.reads I (toD a) x v (vw_dp hG pa h1) rx
  obtain ⟨bs, r2⟩ := Dp.reads I (toD b) y u (vw_dp hG pb h2) ry
  have R := ltW_ok 61 a b X.A s v u as bs da pa pb hc r1 r2 (by omega)
  have z : wpAny (model X.prog X.w) X.A (compareOp .Lt v u) (EP X pins σ Q) X.xe s := R X.prog X.w X.xe (EP X pins σ Q) ⟨.bl _, H, I, rfl, q⟩
  exact z
theorem pk_lt : PrOk G (two fun x y H Q => (rI0 fun i j => .bl (decide (i < j))) x y H Q ∨ rLtW G x y H Q) (prW .lt) := by
  intro S H ws vs z Q hv e q
  change p_lt ws = some z at e
  unfold p_lt at e
  split at e
  · rename_i i j
    obtain ⟨v, v', rfl, h1, h2⟩ := vws2 hv
    obtain rfl := vw_int h1
    obtain rfl := vw_int h2
    cases e
    exact ⟨_, _, rfl, .inl ⟨i, j, rfl, rfl, q.w (rp_bl S H _)⟩⟩
  · rename_i a b
    obtain ⟨v, v', rfl, h1, h2⟩ := vws2 hv
    by_cases hs : (cmpWs a b && shWs a && shWs b) = true
    · rw [if_pos hs] at e
      cases e
      rw [Bool.and_eq_true, Bool.and_eq_true] at hs
      obtain ⟨p1, d1⟩ := shWs_iff hs.1.2
      obtain ⟨p2, d2⟩ := shWs_iff hs.2
      exact ⟨_, _, rfl, .inr ⟨S, .tup a, .tup b, h1, h2, by unfold plainW; exact p1, by unfold plainW; exact p2, by unfold depW; omega, by unfold cmpW; exact hs.1.1, by unfold ltW; exact q.w (rp_bl S H _)⟩⟩
    · rw [if_neg hs] at e; cases e
  · cases e
theorem op_lt2 (hG : G.K = X.K) (hu : X.A.units + 64 < cLine) : OpR X (compareOp .Lt) (fun x y H Q => (rI0 fun i j => .bl (decide (i < j))) x y H Q ∨ rLtW G x y H Q) := op_lt.or (op_ltW hG hu)
theorem pk_le : PrOk G (two (rI0 fun i j => .bl (decide (i ≤ j)))) (prW .le) := by
  intro S H ws vs z Q hv e q
  change p_le ws = some z at e
  unfold p_le at e
  split at e
  · rename_i i j
    obtain ⟨v, v', rfl, h1, h2⟩ := vws2 hv
    obtain rfl := vw_int h1
    obtain rfl := vw_int h2
    cases e
    exact ⟨_, _, rfl, i, j, rfl, rfl, q.w (rp_bl S H _)⟩
  · cases e
theorem pk_gt : PrOk G (two (rI0 fun i j => .bl (decide (j < i)))) (prW .gt) := by
  intro S H ws vs z Q hv e q
  change p_gt ws = some z at e
  unfold p_gt at e
  split at e
  · rename_i i j
    obtain ⟨v, v', rfl, h1, h2⟩ := vws2 hv
    obtain rfl := vw_int h1
    obtain rfl := vw_int h2
    cases e
    exact ⟨_, _, rfl, i, j, rfl, rfl, q.w (rp_bl S H _)⟩
  · cases e
theorem pk_ge : PrOk G (two (rI0 fun i j => .bl (decide (j ≤ i)))) (prW .ge) := by
  intro S H ws vs z Q hv e q
  change p_ge ws = some z at e
  unfold p_ge at e
  split at e
  · rename_i i j
    obtain ⟨v, v', rfl, h1, h2⟩ := vws2 hv
    obtain rfl := vw_int h1
    obtain rfl := vw_int h2
    cases e
    exact ⟨_, _, rfl, i, j, rfl, rfl, q.w (rp_bl S H _)⟩
  · cases e

/-! ### in -/
def rInT (K : PySem.W.Frag) (neg : Bool) : R2 := fun x y H Q => ∃ d ds, Dp K H x d ∧ Dp K H y (.tuple ds) ∧ SeqAt.shaped d = true ∧ SeqAt.shaped (.tuple ds) = true ∧ Q (.bl (if neg then !(ds.any fun z => PyData.eqv z d) else ds.any fun z => PyData.eqv z d)) H
theorem op_inT (hu : X.A.units + 65 < cLine) : OpR X (compareOp .In) (rInT X.K false) := by
  intro pins s σ H x y v u Q I rx ry h
  obtain ⟨d, ds, hd, he, sd, se, q⟩ := h
  obtain ⟨as, r1⟩ := Dp.reads I d x v hd rx
  obtain ⟨bs, r2⟩ := Dp.reads I (.tuple ds) y u he ry
  exact SeqAt.in_tuple_reads r2 r1 (SeqAt.canLay_of_shaped se) (SeqAt.canLay_of_shaped sd) (room_in_shaped sd hu) ⟨.bl _, H, I, rfl, q⟩
theorem op_notInT (hu : X.A.units + 65 < cLine) : OpR X (compareOp .NotIn) (rInT X.K true) := by
  intro pins s σ H x y v u Q I rx ry h
  obtain ⟨d, ds, hd, he, sd, se, q⟩ := h
  obtain ⟨as, r1⟩ := Dp.reads I d x v hd rx
  obtain ⟨bs, r2⟩ := Dp.reads I (.tuple ds) y u he ry
  exact SeqAt.notIn_tuple_reads r2 r1 (SeqAt.canLay_of_shaped se) (SeqAt.canLay_of_shaped sd) (room_in_shaped sd hu) ⟨.bl _, H, I, rfl, q⟩
def rInDk : R2 := fun y x H Q => ∃ a o, x = .ref a ∧ DGet H a y o ∧ Q (.bl o.isSome) H
def rNinDk : R2 := fun y x H Q => ∃ a o, x = .ref a ∧ DGet H a y o ∧ Q (.bl (!o.isSome)) H
theorem op_inDk (hu : X.A.units + 1 < cLine) : OpR X (compareOp .In) rInDk := by
  intro pins s σ H y x iv u Q I ry rx h
  obtain ⟨a, o, ex, g, q⟩ := h
  subst ex
  obtain rfl : u = Value.ref a := rx
  exact d_in hu I g ry fun s' I' => ⟨.bl _, H, I', rfl, q⟩
theorem op_ninDk (hu : X.A.units + 1 < cLine) : OpR X (compareOp .NotIn) rNinDk := by
  intro pins s σ H y x iv u Q I ry rx h
  obtain ⟨a, o, ex, g, q⟩ := h
  subst ex
  obtain rfl : u = Value.ref a := rx
  exact d_notIn hu I g ry fun s' I' => ⟨.bl _, H, I', rfl, q⟩
def rIn3 (K : PySem.W.Frag) : R2 := fun x y H Q => rInD K x y H Q ∨ rInT K false x y H Q ∨ rInDk x y H Q
def rNin3 (K : PySem.W.Frag) : R2 := fun x y H Q => rNotInD K x y H Q ∨ rInT K true x y H Q ∨ rNinDk x y H Q
theorem op_in3 (hu : X.A.units + 65 < cLine) : OpR X (compareOp .In) (rIn3 X.K) := (op_inD hu).or ((op_inT hu).or (op_inDk (by omega)))
theorem op_nin3 (hu : X.A.units + 65 < cLine) : OpR X (compareOp .NotIn) (rNin3 X.K) := (op_notInD hu).or ((op_notInT hu).or (op_ninDk (by omega)))
theorem any_toDs {a : W} (pa : plainW a = true) : ∀ {b : List W}, plainWs b = true → ((toDs b).any fun z => PyData.eqv z (toD a)) = b.any fun x => eqW x a
  | [], _ => rfl
  | w :: b, h => by
    unfold plainWs at h
    rw [Bool.and_eq_true] at h
    simp only [toDs, List.any_cons, eqv_toD h.1 pa, any_toDs pa h.2]
theorem dget_of {G : Gc} {S : AS} {H : Hp} {a : W} {k : Key} {b : List (Key × W)} {v v' : V} (ek : kOf a = some k) (h1 : Vw G S H a v) (h2 : Vw G S H (.dK b) v') : ∃ p o, v' = .ref p ∧ DGet H p v o ∧ o.isSome = (dgetW k b).isSome := by
  obtain ⟨p, vs, rfl, k1, k2⟩ := h2
  have ev : v = kV k := kOf_rel (G := G) (S := S) (H := H) ek (by cases a with | int i => exact h1 | str i => exact h1 | _ => cases ek)
  subst ev
  refine ⟨p, valV vs k, rfl, DGet.k k1, ?_⟩
  obtain ⟨g1, g2⟩ := k2.get (k := k)
  cases e : dgetW k b with
  | none => rw [g2 e]; rfl
  | some w => obtain ⟨y, hy, _⟩ := g1 w e; rw [hy]; rfl
theorem pk_inn (hG : G.K = X.K) : PrOk G (two (rIn3 X.K)) (prW .inn) := by
  intro S H ws vs z Q hv e q
  change p_inn ws = some z at e
  unfold p_inn at e
  split at e
  · rename_i a b
    obtain ⟨v, v', rfl, h1, h2⟩ := vws2 hv
    by_cases hs : (shW a && shWs b) = true
    · rw [if_pos hs] at e
      cases e
      rw [Bool.and_eq_true] at hs
      refine ⟨_, _, rfl, .inr (.inl ⟨toD a, toDs b, vw_dp hG (shW_iff hs.1).1 h1, ?_, shaped_of hs.1, shaped_tup hs.2, ?_⟩)⟩
      · have := vw_dp (w := .tup b) hG (by unfold plainW; exact (shWs_iff hs.2).1) h2
        simpa [toD] using this
      · rw [if_neg Bool.false_ne_true, any_toDs (shW_iff hs.1).1 (shWs_iff hs.2).1]
        exact q.w (rp_bl S H _)
    · rw [if_neg hs] at e; cases e
  · rename_i a b
    obtain ⟨v, v', rfl, h1, h2⟩ := vws2 hv
    by_cases hs : (shW a && shWs b) = true
    · rw [if_pos hs] at e
      cases e
      rw [Bool.and_eq_true] at hs
      refine ⟨_, _, rfl, .inl ⟨toD a, toDs b, vw_dp hG (shW_iff hs.1).1 h1, ?_, shaped_of hs.1, shaped_list hs.2, ?_⟩⟩
      · have := vw_dp (w := .lst b) hG (by unfold plainW; exact (shWs_iff hs.2).1) h2
        simpa [toD] using this
      · rw [any_toDs (shW_iff hs.1).1 (shWs_iff hs.2).1]
        exact q.w (rp_bl S H _)
    · rw [if_neg hs] at e; cases e
  · rename_i a b
    obtain ⟨v, v', rfl, h1, h2⟩ := vws2 hv
    cases ek : kOf a with
    | none => rw [ek] at e; cases e
    | some k =>
      rw [ek] at e
      cases e
      obtain ⟨p, o, rfl, g, eo⟩ := dget_of ek h1 h2
      exact ⟨_, _, rfl, .inr (.inr ⟨p, o, rfl, g, by rw [eo]; exact q.w (rp_bl S H _)⟩)⟩
  · cases e
theorem pk_nin (hG : G.K = X.K) : PrOk G (two (rNin3 X.K)) (prW .nin) := by
  intro S H ws vs z Q hv e q
  change p_nin ws = some z at e
  unfold p_nin at e
  split at e
  · rename_i a b
    obtain ⟨v, v', rfl, h1, h2⟩ := vws2 hv
    by_cases hs : (shW a && shWs b) = true
    · rw [if_pos hs] at e
      cases e
      rw [Bool.and_eq_true] at hs
      refine ⟨_, _, rfl, .inr (.inl ⟨toD a, toDs b, vw_dp hG (shW_iff hs.1).1 h1, ?_, shaped_of hs.1, shaped_tup hs.2, ?_⟩)⟩
      · have := vw_dp (w := .tup b) hG (by unfold plainW; exact (shWs_iff hs.2).1) h2
        simpa [toD] using this
      · rw [if_pos rfl, any_toDs (shW_iff hs.1).1 (shWs_iff hs.2).1]
        exact q.w (rp_bl S H _)
    · rw [if_neg hs] at e; cases e
  · rename_i a b
    obtain ⟨v, v', rfl, h1, h2⟩ := vws2 hv
    by_cases hs : (shW a && shWs b) = true
    · rw [if_pos hs] at e
      cases e
      rw [Bool.and_eq_true] at hs
      refine ⟨_, _, rfl, .inl ⟨toD a, toDs b, vw_dp hG (shW_iff hs.1).1 h1, ?_, shaped_of hs.1, shaped_list hs.2, ?_⟩⟩
      · have := vw_dp (w := .lst b) hG (by unfold plainW; exact (shWs_iff hs.2).1) h2
        simpa [toD] using this
      · rw [any_toDs (shW_iff hs.1).1 (shWs_iff hs.2).1]
        exact q.w (rp_bl S H _)
    · rw [if_neg hs] at e; cases e
  · rename_i a b
    obtain ⟨v, v', rfl, h1, h2⟩ := vws2 hv
    cases ek : kOf a with
    | none => rw [ek] at e; cases e
    | some k =>
      rw [ek] at e
      cases e
      obtain ⟨p, o, rfl, g, eo⟩ := dget_of ek h1 h2
      exact ⟨_, _, rfl, .inr (.inr ⟨p, o, rfl, g, by rw [eo]; exact q.w (rp_bl S H _)⟩)⟩
  · cases e

/-! ### is -/
theorem vw_isNon {S : AS} {H : Hp} {a : W} {v : V} (h : Vw G S H a v) : decide (v = .non) = isNonW a := by
  cases a with
  | non => obtain rfl := vw_non h; rfl
  | bl b => obtain rfl := vw_bl h; rfl
  | int b => obtain rfl := vw_int h; rfl
  | str b => obtain rfl := vw_str h; rfl
  | tup b => obtain ⟨a, vs, rfl, _⟩ := vw_tup h; rfl
  | lst b => obtain ⟨a, vs, rfl, _⟩ := h; rfl
  | dK b => obtain ⟨a, vs, rfl, _⟩ := h; rfl
  | dT b => obtain ⟨a, vs, rfl, _⟩ := h; rfl
  | obj c b => obtain ⟨a, C, dx, vs, rfl, _⟩ := h; rfl
  | scr b => obtain ⟨a, rfl, _⟩ := vw_scr h; rfl
  | rng b c =>
    have h' : Rp G S H (.rng b c) v := h
    unfold Rp at h'
    obtain ⟨a, rfl, _⟩ := h'; rfl
theorem pk_isNon : PrOk G (one fun x H Q => Q (.bl (decide (x = .non))) H) (prW .isNon) := by
  intro S H ws vs z Q hv e q
  change p_isNon ws = some z at e
  unfold p_isNon at e
  split at e
  · obtain ⟨v, rfl, h1⟩ := vws1 hv
    cases e
    refine ⟨_, rfl, ?_⟩
    show Q (.bl (decide (v = .non))) H
    rw [vw_isNon h1]
    exact q.w (rp_bl S H _)
  · cases e
theorem pk_notNon : PrOk G (one fun x H Q => Q (.bl (!decide (x = .non))) H) (prW .notNon) := by
  intro S H ws vs z Q hv e q
  change p_notNon ws = some z at e
  unfold p_notNon at e
  split at e
  · obtain ⟨v, rfl, h1⟩ := vws1 hv
    cases e
    refine ⟨_, rfl, ?_⟩
    show Q (.bl (!decide (v = .non))) H
    rw [vw_isNon h1]
    exact q.w (rp_bl S H _)
  · cases e
/-- x is y, both bools -/
theorem pk_isB : PrOk G (two rIsB) (prW .isB) := by
  intro S H ws vs z Q hv e q
  change p_isB ws = some z at e
  unfold p_isB at e
  split at e
  · obtain ⟨v, v', rfl, h1, h2⟩ := vws2 hv
    obtain rfl := vw_bl h1
    obtain rfl := vw_bl h2
    cases e
    exact ⟨_, _, rfl, _, _, rfl, rfl, q.w (rp_bl S H _)⟩
  · cases e
theorem pk_notB : PrOk G (two rNotB) (prW .notB) := by
  intro S H ws vs z Q hv e q
  change p_notB ws = some z at e
  unfold p_notB at e
  split at e
  · obtain ⟨v, v', rfl, h1, h2⟩ := vws2 hv
    obtain rfl := vw_bl h1
    obtain rfl := vw_bl h2
    cases e
    exact ⟨_, _, rfl, _, _, rfl, rfl, q.w (rp_bl S H _)⟩
  · cases e
/-- x is True, x is False -/
theorem pk_isBl (b : Bool) : PrOk G (one fun x H Q => ∃ a : Bool, x = .bl a ∧ Q (.bl (decide (a = b))) H) (prW (.isBl b)) := by
  intro S H ws vs z Q hv e q
  change p_isBl b ws = some z at e
  unfold p_isBl at e
  split at e
  · rename_i a
    obtain ⟨v, rfl, h1⟩ := vws1 hv
    cases a with
    | bl c =>
      obtain rfl := vw_bl h1
      cases e
      exact ⟨_, rfl, c, rfl, q.w (rp_bl S H _)⟩
    | _ => cases e
  · cases e

/-! ### subscripts -/
def rIxDk : R2 := fun x y H Q => ∃ a v, x = .ref a ∧ DGet H a y (some v) ∧ Q v H
theorem ix_dict (hu : X.A.units + 1 < cLine) : IxR X rIxDk := by
  intro value slice pins s σ H x y v u Q I rx ry h hs
  obtain ⟨a, w, ex, g, q⟩ := h
  subst ex
  obtain rfl : v = Value.ref a := rx
  have hT := dict_typeIs I g
  unfold subscriptTail
  refine wpAny_bind ?_
  rw [getitemInPython_of_ne hT.not_modules]
  refine wpAny_bind (wpAny_specialOf hT PySem.F.slot_dict_getitem.lookup ?_)
  have fin : wpAny (model X.prog X.w) X.A (subscripted slice false (.ref a) u) (fun r s₃ => wpAny (model X.prog X.w) X.A (letTemporaryGo value (.ref a) r >>= fun _ => pure r) (EP X pins σ Q) X.xe s₃) X.xe s := by
    rw [hs]
    exact wpAny_operating (wpAny_mono (d_getItem (E := X.xe) hu I g ry fun w' s3 I3 rw' => ⟨w, H, I3, rw', q⟩) (fun r s₃ h₃ => wpAny_bind (wpAny_letTemporaryGo (wpAny_pure h₃))) fun _ _ x => x)
  first
    | exact wpAny_pure (wpAny_bind fin)
    | exact wpAny_bind (wpAny_pure (wpAny_bind fin))
    | exact wpAny_bind fin
def rIx3 (K : PySem.W.Frag) : R2 := fun x y H Q => rIxL K x y H Q ∨ rIxT K x y H Q ∨ rIxDk x y H Q
theorem ix_3 (hu : X.A.units + 1 < cLine) : IxR X (rIx3 X.K) := ix_list.or (ix_tup.or (ix_dict hu))
theorem rps_atI {S : AS} {H : Hp} {ws : List W} {vs : List V} {i : Int} {w : W} (r : Rps G S H ws vs) (e : atI ws i = some w) : ∃ v, atI vs i = some v ∧ Rp G S H w v := by
  unfold atI at e ⊢
  rw [r.length]
  cases q : ixN ws.length i with
  | none => rw [q] at e; cases e
  | some j =>
    rw [q] at e
    exact r.get e
theorem pk_ix (hG : G.K = X.K) : PrOk G (two (rIx3 X.K)) (prW .ix) := by
  intro S H ws vs z Q hv e q
  change p_ix ws = some z at e
  unfold p_ix at e
  split at e
  · rename_i a i
    obtain ⟨v, v', rfl, h1, h2⟩ := vws2 hv
    obtain rfl := vw_int h2
    obtain ⟨p, xs, rfl, k1, k2⟩ := h1
    cases ea : atI a i with
    | none => rw [ea] at e; cases e
    | some w =>
      rw [ea] at e
      cases e
      obtain ⟨y, hy, ry⟩ := rps_atI k2 ea
      exact ⟨_, _, rfl, .inl ⟨p, xs, i, y, rfl, rfl, SqL.of k1, hy, q.w ry⟩⟩
  · rename_i a i
    obtain ⟨v, v', rfl, h1, h2⟩ := vws2 hv
    obtain rfl := vw_int h2
    obtain ⟨p, xs, rfl, k1, k2⟩ := vw_tup h1
    cases ea : atI a i with
    | none => rw [ea] at e; cases e
    | some w =>
      rw [ea] at e
      cases e
      obtain ⟨y, hy, ry⟩ := rps_atI k2 ea
      exact ⟨_, _, rfl, .inr (.inl ⟨p, xs, i, y, rfl, rfl, hG ▸ k1, hy, q.w ry⟩)⟩
  · rename_i a k
    obtain ⟨v, v', rfl, h1, h2⟩ := vws2 hv
    cases ek : kOf k with
    | none => rw [ek] at e; cases e
    | some kk =>
      rw [ek] at e
      have e : (dgetW kk a).map Z.w = some z := e
      cases eg : dgetW kk a with
      | none => rw [eg] at e; cases e
      | some w =>
        rw [eg] at e
        cases e
        obtain ⟨p, xs, rfl, k1, k2⟩ := h1
        have ev : v' = kV kk := kOf_rel (G := G) (S := S) (H := H) ek (by cases k with | int i => exact h2 | str i => exact h2 | _ => cases ek)
        subst ev
        obtain ⟨y, hy, ry⟩ := (k2.get (k := kk)).1 w eg
        have g : DGet H p (kV kk) (some y) := by rw [← hy]; exact DGet.k k1
        exact ⟨_, _, rfl, .inr (.inr ⟨p, y, rfl, g, q.w ry⟩)⟩
  · cases e

/-! ### slices -/
def rSl2 (K : PySem.W.Frag) : V → Option Int → Option Int → Hp → VK → Prop := fun x lo hi H Q => rSlA K x lo hi H Q ∨ rSlL K x lo hi H Q
theorem sl_2 : SlR X (rSl2 X.K) := sl_tupA.or sl_list
theorem rps_cut {S : AS} {H : Hp} {ws : List W} {vs : List V} (lo hi : Option Int) (r : Rps G S H ws vs) : Rps G S H ((ws.drop (HT.sIx ws.length 0 lo)).take (HT.sIx ws.length ws.length hi - HT.sIx ws.length 0 lo)) (cutV vs lo hi) := by
  unfold cutV
  rw [r.length]
  exact Rps.take _ (Rps.drop _ r)
theorem rps_ints {S : AS} {H : Hp} : ∀ ns : List Int, Rps G S H (ns.map .int) (ns.map V.int)
  | [] => .nil
  | n :: ns => .cons (rp_int _ _ _) (rps_ints ns)
theorem pk_sl (hG : G.K = X.K) (lo hi : Option Int) : PrOk G (one fun x H Q => rSl2 X.K x lo hi H Q) (prW (.sl lo hi)) := by
  intro S H ws vs z Q hv e q
  change p_sl lo hi ws = some z at e
  unfold p_sl at e
  split at e
  · rename_i a
    obtain ⟨v, rfl, h1⟩ := vws1 hv
    obtain ⟨p, xs, rfl, k1, k2⟩ := vw_tup h1
    cases e
    refine ⟨_, rfl, .inl ⟨p, xs, rfl, hG ▸ k1, fun hw => ?_, fun _ => q.tup (rps_cut lo hi k2)⟩⟩
    refine q.w ?_
    rw [k2.length] at hw
    rw [hw.1, hw.2]
    simp only [List.drop_zero, Nat.sub_zero, List.take_length]
    unfold Rp
    exact ⟨p, xs, rfl, k1, k2⟩
  · rename_i a
    obtain ⟨v, rfl, h1⟩ := vws1 hv
    obtain ⟨p, xs, rfl, k1, k2⟩ := h1
    cases e
    exact ⟨_, rfl, .inr ⟨p, xs, rfl, SqL.of k1, q.lst (rps_cut lo hi k2)⟩⟩
  · rename_i a
    obtain ⟨v, rfl, h1⟩ := vws1 hv
    obtain ⟨p, rfl, k1⟩ := vw_scr h1
    cases e
    have k2 : SqL X.K H p (a.map V.int) := k1.elim (fun k => hG ▸ k.sq) fun k => SqL.of k.2
    refine ⟨_, rfl, .inr ⟨p, _, rfl, k2, q.lst ?_⟩⟩
    have z := rps_cut lo hi (rps_ints (G := G) (S := S) (H := H) a)
    simpa [List.map_take, List.map_drop] using z
  · cases e

/-! ### built-in functions -/
theorem call_lenK : CallR X (.builtin "len") (fun xs H Q => ∃ a kvs, xs = [.ref a] ∧ Rd H a (.dK kvs) ∧ Q (.int kvs.length) H) := by
  intro pins s σ H xs us Q I r h
  obtain ⟨a, kvs, rfl, e, q⟩ := h
  obtain rfl := Vals.ref1 r
  exact d_len I e fun t s' I' => ⟨.int _, H, I', ⟨_, rfl⟩, q⟩
def rLen2 (K : PySem.W.Frag) : List V → Hp → VK → Prop := fun xs H Q => (∃ x n, xs = [x] ∧ LenV K x H n ∧ Q (.int n) H) ∨ ∃ a kvs, xs = [.ref a] ∧ Rd H a (.dK kvs) ∧ Q (.int kvs.length) H
theorem call_len2 : CallR X (.builtin "len") (rLen2 X.K) := call_len.or call_lenK
theorem pk_len (hG : G.K = X.K) : PrOk G (rLen2 X.K) (prW .len) := by
  intro S H ws vs z Q hv e q
  change p_len ws = some z at e
  unfold p_len at e
  split at e
  · rename_i a
    obtain ⟨v, rfl, h1⟩ := vws1 hv
    obtain ⟨p, xs, rfl, k1, k2⟩ := vw_tup h1
    cases e
    refine .inl ⟨_, xs.length, rfl, .inr ⟨xs, hG ▸ k1, rfl⟩, ?_⟩
    rw [k2.length]
    exact q.w (rp_int S H _)
  · rename_i a
    obtain ⟨v, rfl, h1⟩ := vws1 hv
    obtain ⟨p, xs, rfl, k1, k2⟩ := h1
    cases e
    refine .inl ⟨_, xs.length, rfl, .inl ⟨xs, SqL.of k1, rfl⟩, ?_⟩
    rw [k2.length]
    exact q.w (rp_int S H _)
  · rename_i a
    obtain ⟨v, rfl, h1⟩ := vws1 hv
    obtain ⟨p, xs, rfl, k1, k2⟩ := h1
    cases e
    refine .inr ⟨p, xs, rfl, .inl k1, ?_⟩
    rw [k2.len]
    exact q.w (rp_int S H _)
  · cases e
theorem asBls_vals {S : AS} {H : Hp} : ∀ {ws : List W} {vs : List V} {bs : List Bool}, Rps G S H ws vs → asBls ws = some bs → vs = bs.map V.bl
  | [], vs, bs, r, e => by cases e; exact r.inv0
  | w :: ws, vs, bs, r, e => by
    obtain ⟨v, r', rfl, h1, h2⟩ := r.inv
    cases w with
    | bl b =>
      have e : (asBls ws).map (b :: ·) = some bs := e
      cases q : asBls ws with
      | none => rw [q] at e; cases e
      | some cs =>
        rw [q] at e
        cases e
        unfold Rp at h1
        rw [h1, asBls_vals h2 q]
        rfl
    | _ => cases e
theorem asInts_vals {S : AS} {H : Hp} : ∀ {ws : List W} {vs : List V} {bs : List Int}, Rps G S H ws vs → asInts ws = some bs → vs = bs.map V.int
  | [], vs, bs, r, e => by cases e; exact r.inv0
  | w :: ws, vs, bs, r, e => by
    obtain ⟨v, r', rfl, h1, h2⟩ := r.inv
    cases w with
    | int b =>
      have e : (asInts ws).map (b :: ·) = some bs := e
      cases q : asInts ws with
      | none => rw [q] at e; cases e
      | some cs =>
        rw [q] at e
        cases e
        unfold Rp at h1
        rw [h1, asInts_vals h2 q]
        rfl
    | _ => cases e
theorem pk_all (hG : G.K = X.K) : PrOk G (rAll X.K) (prW .all) := by
  intro S H ws vs z Q hv e q
  change p_all ws = some z at e
  unfold p_all at e
  split at e
  · rename_i a
    obtain ⟨v, rfl, h1⟩ := vws1 hv
    obtain ⟨p, xs, rfl, k1, k2⟩ := h1
    cases eb : asBls a with
    | none => rw [eb] at e; cases e
    | some bs =>
      rw [eb] at e
      cases e
      rw [asBls_vals k2 eb] at k1
      exact ⟨p, bs, rfl, SqL.of k1, q.w (rp_bl S H _)⟩
  · cases e
theorem pk_any (hG : G.K = X.K) : PrOk G (rAny X.K) (prW .any) := by
  intro S H ws vs z Q hv e q
  change p_any ws = some z at e
  unfold p_any at e
  split at e
  · rename_i a
    obtain ⟨v, rfl, h1⟩ := vws1 hv
    obtain ⟨p, xs, rfl, k1, k2⟩ := h1
    cases eb : asBls a with
    | none => rw [eb] at e; cases e
    | some bs =>
      rw [eb] at e
      cases e
      rw [asBls_vals k2 eb] at k1
      exact ⟨p, bs, rfl, SqL.of k1, q.w (rp_bl S H _)⟩
  · cases e
theorem pk_abs : PrOk G (fun xs H Q => ∃ i, xs = [.int i] ∧ Q (.int (if i < 0 then -i else i)) H) (prW .abs) := by
  intro S H ws vs z Q hv e q
  change p_abs ws = some z at e
  unfold p_abs at e
  split at e
  · rename_i i
    obtain ⟨v, rfl, h1⟩ := vws1 hv
    obtain rfl := vw_int h1
    cases e
    exact ⟨i, rfl, q.w (rp_int S H _)⟩
  · cases e
theorem pk_int : PrOk G (fun xs H Q => (∃ i, xs = [.int i] ∧ Q (.int i) H) ∨ ∃ k, xs = [.bl k] ∧ Q (.int (if k then 1 else 0)) H) (prW .int) := by
  intro S H ws vs z Q hv e q
  change p_int ws = some z at e
  unfold p_int at e
  split at e
  · rename_i i
    obtain ⟨v, rfl, h1⟩ := vws1 hv
    obtain rfl := vw_int h1
    cases e
    exact .inl ⟨i, rfl, q.w (rp_int S H _)⟩
  · cases e
theorem pk_sum (hG : G.K = X.K) : PrOk G (rSum X.K) (prW .sum) := by
  intro S H ws vs z Q hv e q
  change p_sum ws = some z at e
  unfold p_sum at e
  split at e
  · rename_i a
    obtain ⟨v, rfl, h1⟩ := vws1 hv
    obtain ⟨p, xs, rfl, k1, k2⟩ := h1
    cases eb : asInts a with
    | none => rw [eb] at e; cases e
    | some bs =>
      rw [eb] at e
      cases e
      rw [asInts_vals k2 eb] at k1
      exact ⟨p, bs, rfl, SqL.of k1, q.w (rp_int S H _)⟩
  · cases e
theorem pk_list (hG : G.K = X.K) : PrOk G (fun xs H Q => ∃ p ys, xs = [.ref p] ∧ (SqL X.K H p ys ∨ SqT X.K H p ys) ∧ ∀ l, H l = none → Q (.ref l) (upd H l (.lst ys))) (prW .list) := by
  intro S H ws vs z Q hv e q
  change p_list ws = some z at e
  unfold p_list at e
  split at e
  · obtain ⟨v, rfl, h1⟩ := vws1 hv
    obtain ⟨p, xs, rfl, k1, k2⟩ := vw_tup h1
    cases e
    exact ⟨p, xs, rfl, .inr (hG ▸ k1), q.lst k2⟩
  · obtain ⟨v, rfl, h1⟩ := vws1 hv
    obtain ⟨p, xs, rfl, k1, k2⟩ := h1
    cases e
    exact ⟨p, xs, rfl, .inl (SqL.of k1), q.lst k2⟩
  · cases e
theorem pk_tuple (hG : G.K = X.K) : PrOk G (fun xs H Q => ∃ p ys, xs = [.ref p] ∧ ((SqL X.K H p ys ∧ ∀ l, H l = none → Q (.ref l) (upd H l (.tup ys))) ∨ (SqT X.K H p ys ∧ Q (.ref p) H))) (prW .tuple) := by
  intro S H ws vs z Q hv e q
  change p_tuple ws = some z at e
  unfold p_tuple at e
  split at e
  · obtain ⟨v, rfl, h1⟩ := vws1 hv
    obtain ⟨p, xs, rfl, k1, k2⟩ := vw_tup h1
    cases e
    exact ⟨p, xs, rfl, .inr ⟨hG ▸ k1, q.w (by unfold Rp; exact ⟨p, xs, rfl, k1, k2⟩)⟩⟩
  · obtain ⟨v, rfl, h1⟩ := vws1 hv
    obtain ⟨p, xs, rfl, k1, k2⟩ := h1
    cases e
    exact ⟨p, xs, rfl, .inl ⟨SqL.of k1, q.tup k2⟩⟩
  · cases e
end
end Cb

end
section
set_option maxRecDepth 100000
set_option maxHeartbeats 4000000
/-! sorted -/
namespace Cb
open PySem PySem.Spec PyProof.Rows PySem.W

/-! ### the order of data, as the library has it -/
mutual
theorem alike_of : ∀ {a b : W}, cmpW a b = true → alike (toD a) (toD b) = true
  | .int _, .int _, _ => by simp [toD, alike]
  | .tup a, .tup b, h => by
    unfold cmpW at h
    simp only [toD, alike]
    exact alikes_of h
  | .int _, .non, h => by simp [cmpW] at h
  | .int _, .bl _, h => by simp [cmpW] at h
  | .int _, .str _, h => by simp [cmpW] at h
  | .int _, .tup _, h => by simp [cmpW] at h
  | .int _, .lst _, h => by simp [cmpW] at h
  | .int _, .dK _, h => by simp [cmpW] at h
  | .int _, .dT _, h => by simp [cmpW] at h
  | .int _, .obj _ _, h => by simp [cmpW] at h
  | .int _, .scr _, h => by simp [cmpW] at h
  | .tup _, .non, h => by simp [cmpW] at h
  | .tup _, .bl _, h => by simp [cmpW] at h
  | .tup _, .str _, h => by simp [cmpW] at h
  | .tup _, .int _, h => by simp [cmpW] at h
  | .tup _, .lst _, h => by simp [cmpW] at h
  | .tup _, .dK _, h => by simp [cmpW] at h
  | .tup _, .dT _, h => by simp [cmpW] at h
  | .tup _, .obj _ _, h => by simp [cmpW] at h
  | .tup _, .scr _, h => by simp [cmpW] at h
  | .non, _, h => by simp [cmpW] at h
  | .bl _, _, h => by simp [cmpW] at h
  | .str _, _, h => by simp [cmpW] at h
  | .lst _, _, h => by simp [cmpW] at h
  | .dK _, _, h => by simp [cmpW] at h
  | .dT _, _, h => by simp [cmpW] at h
  | .obj _ _, _, h => by simp [cmpW] at h
  | .scr _, _, h => by simp [cmpW] at h
theorem alikes_of : ∀ {a b : List W}, cmpWs a b = true → alikeAll (toDs a) (toDs b) = true
  | [], _, _ => by simp [toDs, alikeAll]
  | _ :: _, [], _ => by simp [toDs, alikeAll]
  | a :: r, b :: s, h => by
    unfold cmpWs at h
    rw [Bool.and_eq_true] at h
    simp only [toDs, alikeAll, alike_of h.1, alikes_of h.2]
    rfl
end
/-- two that can be compared: ints, or tuples -/
theorem cmp_cases {a b : W} (h : cmpW a b = true) : (∃ i j, a = .int i ∧ b = .int j) ∨ ∃ r s, a = .tup r ∧ b = .tup s ∧ cmpWs r s = true := by
  unfold cmpW at h
  split at h
  · exact .inl ⟨_, _, rfl, rfl⟩
  · exact .inr ⟨_, _, rfl, rfl, h⟩
  · cases h
theorem eqv_nil1 (b : List PyData) : ∀ y, PyProof.Rows.lexLt itemOrd (keyToksAll []) (keyToksAll (y :: b)) = true := fun y => by
  rw [toks_all_cons]
  simp only [keyToksAll]
  rw [lex_diff (O := itemOrd) (by simp)]
  rfl
theorem eqv_nil2 (b : List PyData) : ∀ y, PyProof.Rows.lexLt itemOrd (keyToksAll (y :: b)) (keyToksAll []) = false := fun y => by
  rw [toks_all_cons]
  simp only [keyToksAll]
  rw [lex_diff (O := itemOrd) (by simp)]
  rfl
mutual
theorem dataLt_of : ∀ (a b : W), cmpW a b = true → plainW a = true → plainW b = true → dataLt (toD a) (toD b) = ltW a b
  | .int i, b, h, _, _ => by
    rcases cmp_cases h with ⟨i', j, e1, e2⟩ | ⟨r, s, e1, _⟩
    · cases e1; subst e2
      simp only [toD, ltW]
      exact dataLt_int i j
    · cases e1
  | .tup a, b, h, h1, h2 => by
    rcases cmp_cases h with ⟨i', j, e1, e2⟩ | ⟨r, s, e1, e2, h3⟩
    · cases e1
    · cases e1; subst e2
      unfold plainW at h1 h2
      simp only [toD, ltW]
      rw [dataLt_tuple]
      exact dataLts_of a s h3 h1 h2
  | .non, b, h, _, _ => by simp [cmpW] at h
  | .bl _, b, h, _, _ => by simp [cmpW] at h
  | .str _, b, h, _, _ => by simp [cmpW] at h
  | .lst _, b, h, _, _ => by simp [cmpW] at h
  | .dK _, b, h, _, _ => by simp [cmpW] at h
  | .dT _, b, h, _, _ => by simp [cmpW] at h
  | .obj _ _, b, h, _, _ => by simp [cmpW] at h
  | .scr _, b, h, _, _ => by simp [cmpW] at h
theorem dataLts_of : ∀ (a b : List W), cmpWs a b = true → plainWs a = true → plainWs b = true → PyProof.Rows.lexLt itemOrd (keyToksAll (toDs a)) (keyToksAll (toDs b)) = ltWs a b
  | [], [], _, _, _ => by simp only [toDs, ltWs]; exact lex_irrefl _
  | [], y :: b, _, _, _ => by simp only [toDs, ltWs]; exact eqv_nil1 _ _
  | x :: a, [], _, _, _ => by simp only [toDs, ltWs]; exact eqv_nil2 _ _
  | x :: a, y :: b, h, h1, h2 => by
    unfold cmpWs at h
    unfold plainWs at h1 h2
    rw [Bool.and_eq_true] at h h1 h2
    simp only [toDs, ltWs]
    rw [dataLt_cons (alike_of h.1), eqv_toD h1.1 h2.1, dataLt_of x y h.1 h1.1 h2.1, dataLts_of a b h.2 h1.2 h2.2]
end
mutual
theorem cmp_tri : ∀ (a b : W), cmpW a b = true → ltW a b = false → ltW b a = false → a = b
  | .int i, b, h, h1, h2 => by
    rcases cmp_cases h with ⟨i', j, e1, e2⟩ | ⟨r, s, e1, _⟩
    · cases e1; subst e2
      unfold ltW at h1 h2
      have h1 := of_decide_eq_false h1
      have h2 := of_decide_eq_false h2
      have : i = j := by omega
      rw [this]
    · cases e1
  | .tup a, b, h, h1, h2 => by
    rcases cmp_cases h with ⟨i', j, e1, e2⟩ | ⟨r, s, e1, e2, h3⟩
    · cases e1
    · cases e1; subst e2
      unfold ltW at h1 h2
      rw [cmps_tri a s h3 h1 h2]
  | .non, b, h, _, _ => by simp [cmpW] at h
  | .bl _, b, h, _, _ => by simp [cmpW] at h
  | .str _, b, h, _, _ => by simp [cmpW] at h
  | .lst _, b, h, _, _ => by simp [cmpW] at h
  | .dK _, b, h, _, _ => by simp [cmpW] at h
  | .dT _, b, h, _, _ => by simp [cmpW] at h
  | .obj _ _, b, h, _, _ => by simp [cmpW] at h
  | .scr _, b, h, _, _ => by simp [cmpW] at h
theorem cmps_tri : ∀ (a b : List W), cmpWs a b = true → ltWs a b = false → ltWs b a = false → a = b
  | [], [], _, _, _ => rfl
  | [], y :: b, _, h1, _ => by simp [ltWs] at h1
  | x :: a, [], _, _, h2 => by simp [ltWs] at h2
  | x :: a, y :: b, h, h1, h2 => by
    unfold cmpWs at h
    rw [Bool.and_eq_true] at h
    unfold ltWs at h1 h2
    by_cases e1 : eqW x y = true
    · rw [if_pos e1] at h1
      have exy := cmp_eq x y h.1 e1
      subst exy
      rw [if_pos e1] at h2
      rw [cmps_tri a b h.2 h1 h2]
    · rw [if_neg e1] at h1
      by_cases e2 : eqW y x = true
      · have exy := cmp_eq y x (cmp_comm x y h.1) e2
        subst exy
        exact absurd e2 e1
      · rw [if_neg e2] at h2
        have exy := cmp_tri x y h.1 h1 h2
        subst exy
        exact absurd (cmp_refl_eq x h.1) e1
theorem cmp_eq : ∀ (a b : W), cmpW a b = true → eqW a b = true → a = b
  | .int i, b, h, h1 => by
    rcases cmp_cases h with ⟨i', j, e1, e2⟩ | ⟨r, s, e1, _⟩
    · cases e1; subst e2
      unfold eqW at h1
      rw [beq_iff_eq.mp h1]
    · cases e1
  | .tup a, b, h, h1 => by
    rcases cmp_cases h with ⟨i', j, e1, e2⟩ | ⟨r, s, e1, e2, h3⟩
    · cases e1
    · cases e1; subst e2
      unfold eqW at h1
      rw [cmps_eq a s h3 h1]
  | .non, b, h, _ => by simp [cmpW] at h
  | .bl _, b, h, _ => by simp [cmpW] at h
  | .str _, b, h, _ => by simp [cmpW] at h
  | .lst _, b, h, _ => by simp [cmpW] at h
  | .dK _, b, h, _ => by simp [cmpW] at h
  | .dT _, b, h, _ => by simp [cmpW] at h
  | .obj _ _, b, h, _ => by simp [cmpW] at h
  | .scr _, b, h, _ => by simp [cmpW] at h
theorem cmps_eq : ∀ (a b : List W), cmpWs a b = true → eqWs a b = true → a = b
  | [], [], _, _ => rfl
  | [], y :: b, _, h1 => by simp [eqWs] at h1
  | x :: a, [], _, h2 => by simp [eqWs] at h2
  | x :: a, y :: b, h, h1 => by
    unfold cmpWs at h
    unfold eqWs at h1
    rw [Bool.and_eq_true] at h h1
    rw [cmp_eq x y h.1 h1.1, cmps_eq a b h.2 h1.2]
theorem cmp_comm : ∀ (a b : W), cmpW a b = true → cmpW b a = true
  | .int i, b, h => by
    rcases cmp_cases h with ⟨i', j, e1, e2⟩ | ⟨r, s, e1, _⟩
    · cases e1; subst e2
      rfl
    · cases e1
  | .tup a, b, h => by
    rcases cmp_cases h with ⟨i', j, e1, e2⟩ | ⟨r, s, e1, e2, h3⟩
    · cases e1
    · cases e1; subst e2
      unfold cmpW
      exact cmps_comm a s h3
  | .non, b, h => by simp [cmpW] at h
  | .bl _, b, h => by simp [cmpW] at h
  | .str _, b, h => by simp [cmpW] at h
  | .lst _, b, h => by simp [cmpW] at h
  | .dK _, b, h => by simp [cmpW] at h
  | .dT _, b, h => by simp [cmpW] at h
  | .obj _ _, b, h => by simp [cmpW] at h
  | .scr _, b, h => by simp [cmpW] at h
theorem cmps_comm : ∀ (a b : List W), cmpWs a b = true → cmpWs b a = true
  | [], [], _ => rfl
  | [], y :: b, _ => rfl
  | x :: a, [], _ => rfl
  | x :: a, y :: b, h => by
    unfold cmpWs at h ⊢
    rw [Bool.and_eq_true] at h ⊢
    exact ⟨cmp_comm x y h.1, cmps_comm a b h.2⟩
theorem cmp_refl_eq : ∀ (a : W), cmpW a a = true → eqW a a = true
  | .int i, h => by unfold eqW; exact beq_self_eq_true i
  | .tup a, h => by
    unfold cmpW at h
    unfold eqW
    exact cmps_refl_eq a h
  | .non, h => by simp [cmpW] at h
  | .bl _, h => by simp [cmpW] at h
  | .str _, h => by simp [cmpW] at h
  | .lst _, h => by simp [cmpW] at h
  | .dK _, h => by simp [cmpW] at h
  | .dT _, h => by simp [cmpW] at h
  | .obj _ _, h => by simp [cmpW] at h
  | .scr _, h => by simp [cmpW] at h
theorem cmps_refl_eq : ∀ (a : List W), cmpWs a a = true → eqWs a a = true
  | [], _ => rfl
  | x :: a, h => by
    unfold cmpWs at h
    unfold eqWs
    rw [Bool.and_eq_true] at h ⊢
    exact ⟨cmp_refl_eq x h.1, cmps_refl_eq a h.2⟩
end
/-! ### insertion sorts -/
theorem insW_perm {lt : W → W → Bool} {x : W} : ∀ l : List W, (insW lt x l).Perm (x :: l)
  | [] => List.Perm.refl _
  | y :: r => by
    unfold insW
    split
    · exact (List.Perm.cons y (insW_perm r)).trans (List.Perm.swap x y r)
    · exact List.Perm.refl _
theorem sortW_perm {lt : W → W → Bool} : ∀ l : List W, (sortW lt l).Perm l
  | [] => List.Perm.refl _
  | x :: l => (insW_perm _).trans (List.Perm.cons x (sortW_perm l))
theorem insW_pw {lt : W → W → Bool} (T : TotalLe fun a b => !lt b a) {x : W} : ∀ {l : List W}, l.Pairwise (fun a b => (!lt b a) = true) → (insW lt x l).Pairwise fun a b => (!lt b a) = true
  | [], _ => List.pairwise_singleton _ _
  | y :: r, h => by
    obtain ⟨h1, h2⟩ := List.pairwise_cons.mp h
    unfold insW
    split
    · rename_i hlt
      refine List.pairwise_cons.mpr ⟨fun z hz => ?_, insW_pw T h2⟩
      rcases List.mem_cons.mp ((insW_perm r).mem_iff.mp hz) with e | e
      · subst e
        rcases T.total y z with q | q
        · exact q
        · have q : (!lt y z) = true := q
          rw [hlt] at q; cases q
      · exact h1 z e
    · rename_i hlt
      have hlt : (!lt y x) = true := by cases q : lt y x <;> simp_all
      refine List.pairwise_cons.mpr ⟨fun z hz => ?_, h⟩
      rcases List.mem_cons.mp hz with e | e
      · subst e; exact hlt
      · exact T.trans x y z hlt (h1 z e)
theorem sortW_pw {lt : W → W → Bool} (T : TotalLe fun a b => !lt b a) : ∀ l : List W, (sortW lt l).Pairwise fun a b => (!lt b a) = true
  | [] => List.Pairwise.nil
  | x :: l => insW_pw T (sortW_pw T l)
theorem insW_congr {lt lt' : W → W → Bool} {x : W} : ∀ {l : List W}, (∀ y ∈ l, lt y x = lt' y x) → insW lt x l = insW lt' x l
  | [], _ => rfl
  | y :: r, h => by
    unfold insW
    rw [h y List.mem_cons_self, insW_congr fun z hz => h z (List.mem_cons_of_mem _ hz)]
theorem sortW_congr {lt lt' : W → W → Bool} : ∀ {l : List W}, (∀ x ∈ l, ∀ y ∈ l, lt x y = lt' x y) → sortW lt l = sortW lt' l
  | [], _ => rfl
  | x :: l, h => by
    unfold sortW
    rw [sortW_congr fun a ha b hb => h a (List.mem_cons_of_mem _ ha) b (List.mem_cons_of_mem _ hb)]
    exact insW_congr fun y hy => h y (List.mem_cons_of_mem _ ((sortW_perm l).mem_iff.mp hy)) x List.mem_cons_self
theorem total_data : TotalLe (dataLe false toD) := sortLe_total _ _ _
theorem sortable_iff {ws : List W} (h : sortable ws = true) : shWs ws = true ∧ ∀ a ∈ ws, ∀ b ∈ ws, cmpW a b = true := by
  unfold sortable at h
  rw [Bool.and_eq_true] at h
  exact ⟨h.1, fun a ha b hb => List.all_eq_true.mp (List.all_eq_true.mp h.2 a ha) b hb⟩
theorem sort_eq {ws : List W} (h : sortable ws = true) : ws.mergeSort (dataLe false toD) = sortW ltW ws := by
  obtain ⟨h1, h2⟩ := sortable_iff h
  have hp : ∀ x ∈ ws, plainW x = true := fun x hx => plainWs_mem (shWs_iff h1).1 hx
  have e : sortW ltW ws = sortW (fun a b => dataLt (toD a) (toD b)) ws := sortW_congr fun x hx y hy => (dataLt_of x y (h2 x hx y hy) (hp x hx) (hp y hy)).symm
  have hle : dataLe false toD = fun a b => !dataLt (toD b) (toD a) := rfl
  rw [e]
  refine List.Perm.eq_of_pairwise (le := fun a b => dataLe false toD a b = true) (fun a b ha hb h3 h4 => ?_) (sort_pairwise total_data ws) (sortW_pw total_data ws) ((List.mergeSort_perm _ _).trans (sortW_perm ws).symm)
  have ha : a ∈ ws := (List.mergeSort_perm _ _).mem_iff.mp ha
  have hb : b ∈ ws := (sortW_perm ws).mem_iff.mp hb
  rw [hle] at h3 h4
  have h3 : dataLt (toD b) (toD a) = false := by simpa using h3
  have h4 : dataLt (toD a) (toD b) = false := by simpa using h4
  rw [dataLt_of _ _ (h2 b hb a ha) (hp b hb) (hp a ha)] at h3
  rw [dataLt_of _ _ (h2 a ha b hb) (hp a ha) (hp b hb)] at h4
  exact cmp_tri a b (h2 a ha b hb) h4 h3
end Cb

end
section
set_option maxRecDepth 100000
set_option maxHeartbeats 4000000
/-! sorted(xs), as the machine does it -/
namespace Cb
open PySem PySem.Spec PyProof.Rows PySem.W PySem.Calls PySem.SeqAt
section
variable {prog : Program} {w : World} {A : Around} {E : Value → Shared → Prop} {s : Shared}
theorem oneLt_tup {f : Bool} {xs ys : List PyData} {a b : Value} {as bs : List Addr} {Q : Bool → Shared → Prop} (ra : Reads s.heap a (.tuple xs) as) (rb : Reads s.heap b (.tuple ys) bs) (hal : alikeAll xs ys = true)
    (hu : A.units + min (PyData.depth (.tuple xs)) (PyData.depth (.tuple ys)) < cLine) (hq : Q (dataLt (.tuple xs) (.tuple ys)) s) : wpAny (model prog w) A (oneLt' f a b) Q E s := by
  cases f with
  | false =>
    rw [oneLt'_eq]
    simp only [Bool.false_eq_true, if_false]
    exact wpAny_bind (rcLt_alike (.tuple xs) (.tuple ys) A s a b as bs ra rb (by simpa [alike] using hal) (by simp) hu prog w E _ (wpAny_truthy_bool hq))
  | true =>
    cases ra with
    | @tuple l o vs n _ as₁ h1 h2 h3 h4 =>
      cases rb with
      | @tuple l' o' vs' n' _ bs₁ k1 k2 k3 k4 =>
        have n1 : vs.size = xs.length := by simpa using SeqAt.ReadsAll.length _ _ _ h4
        have n2 : vs'.size = ys.length := by simpa using SeqAt.ReadsAll.length _ _ _ k4
        rw [dataLt_tuple, ← firstLt_toks xs ys hal, ← n1, ← n2] at hq
        rw [oneLt'_eq]
        simp only [if_true]
        refine wpAny_bind (wpAny_cRoomFor (SeqAt.room_here hu) ?_)
        obtain ⟨cls, dd, data, sl⟩ := o
        obtain ⟨cls2, dd2, data2, sl2⟩ := o'
        simp only at h2 h3 k2 k3
        subst h2 h3 k2 k3
        refine wpAny_bind (wpAny_callSpecialIfBound?_slot (T := "tuple") ⟨_, h1, rfl⟩ F.slot_tuple_lt (call_meets F.slot_tuple_lt ⟨_, h1, rfl⟩ F.entry_tuple_lt (F.args_tuple_lt_2 _ _)
          (PySem.SeqAt.tuple_ltAt l l' vs vs' n n' dd dd2 sl sl2 (pairEq xs ys) (fun j => dataLt (xs.getD j .none) (ys.getD j .none))) ⟨h1, k1, fun j j1 j2 => ?_, fun j j1 j2 hj => ?_, ?_⟩))
        · have := eqAt_alikeAll xs ys A.in1 s vs.toList vs'.toList _ _ h4 k4 hal (SeqAt.room_in hu) j (by simpa using j1) (by simpa using j2)
          simpa using this
        · have := rcLt_alikeAll xs ys A.in1 s vs.toList vs'.toList _ _ h4 k4 hal (SeqAt.room_in hu) j (by simpa using j1) (by simpa using j2) hj
          simpa using this
        · exact wpAny_truthy_bool hq
/-- a tuple, and its first item -/
def FirstOf (h : Heap) (v : Value) (f : Option Value) : Prop := ∃ a o xs n, v = .ref a ∧ h.get? a = some o ∧ o.cls = .type "tuple" ∧ o.data = .seq xs n ∧ xs[0]? = f
theorem firsts_any {M : Model} : ∀ {vs : List Value} {fs : List (Option Value)} {Q : List (Option Value) → Shared → Prop}, EachIs (FirstOf s.heap) vs fs → Q fs s → wpAny M A (vs.mapM firstOfTuple') Q E s
  | _, _, Q, .nil, h => by rw [List.mapM_nil]; exact wpAny_pure h
  | _, _, Q, .cons ⟨a, o, xs, n, e, ho, hc, hd, hf⟩ t, h => by
    subst e
    rw [List.mapM_cons]
    refine wpAny_bind ?_
    rw [kas_first_eq]
    refine wpAny_bind (Looks.here (show Looks M s.heap (typeOf (.ref a)) o.cls from (Looks.ld ho).andThen .now) ?_)
    rw [hc, if_neg (by first | decide | simp)]
    refine wpAny_bind (listItems_at ho hd (wpAny_pure ?_))
    rw [hf]
    exact wpAny_bind (firsts_any t (wpAny_pure h))
theorem firsts_of {h : Heap} : ∀ {vs : List Value} {ds : List PyData}, EachIs (fun v d => ∃ as, Reads h v d as) vs ds → (∀ d ∈ ds, ∃ t, d = .tuple t) → ∃ fs, EachIs (FirstOf h) vs fs ∧ fs.map Option.isSome = ds.map fun d => match d with | .tuple (_ :: _) => true | _ => false
  | _, _, .nil, _ => ⟨[], .nil, rfl⟩
  | _, _, .cons (b := d) ⟨as, r⟩ t, ht => by
    obtain ⟨fs, h1, h2⟩ := firsts_of t fun d hd => ht d (List.mem_cons_of_mem _ hd)
    obtain ⟨l, rfl⟩ := ht d (List.mem_cons_self ..)
    cases r with
    | @tuple a o xs n _ _ ho hc hd hr =>
      have hl : xs.size = l.length := by simpa using SeqAt.ReadsAll.length _ _ _ hr
      refine ⟨xs[0]? :: fs, .cons ⟨a, o, xs, n, rfl, ho, hc, hd, rfl⟩ h1, ?_⟩
      rw [List.map_cons, List.map_cons, h2]
      cases l with
      | nil =>
        have : xs[0]? = none := Array.getElem?_eq_none (by rw [hl]; exact Nat.le_refl _)
        rw [this]; rfl
      | cons x r =>
        have h0 : 0 < xs.size := by rw [hl]; exact Nat.succ_pos _
        rw [Array.getElem?_eq_getElem h0]; rfl
theorem kind_tups {M : Model} {vs : List Value} {fs : List (Option Value)} {Q : SortKind → Shared → Prop} (e : EachIs (FirstOf s.heap) vs fs) (hne : vs ≠ []) (hno : (fs.all fun f => f.isSome) = false) (h : Q (if (fs[0]?.bind id).isSome then general' else oneType') s) :
    wpAny M A (keyKind' vs.toArray) Q E s := by
  rw [keyKind'_eq, List.mapM_toArray, map_eq_pure_bind]
  refine wpAny_bind (wpAny_bind (firsts_any e (wpAny_pure ?_)))
  rw [if_neg (by rw [List.all_toArray, hno]; exact Bool.false_ne_true)]
  have e0 : (fs.toArray[0]?.bind id) = fs[0]?.bind id := by simp
  rw [e0]
  by_cases h0 : (fs[0]?.bind id).isSome = true
  · rw [if_pos h0] at h ⊢
    exact wpAny_pure h
  · rw [if_neg h0] at h ⊢
    rw [oneTypeOnly'_eq, List.mapM_toArray, map_eq_pure_bind]
    refine wpAny_bind (wpAny_bind (wpAny_bind (kas_mapM (r := Value.type "tuple") _ (fun v hv Q' hq => ?_) (wpAny_pure ?_))))
    · obtain ⟨f, _, a, o, xs, n, rfl, ho, hc, _⟩ := e.left v hv
      exact (show Looks M s.heap (typeOf (.ref a)) (Value.type "tuple") from hc ▸ (Looks.ld ho).andThen .now).here hq
    · obtain ⟨v, r, rfl⟩ : ∃ v r, vs = v :: r := by
        cases vs with
        | nil => exact absurd rfl hne
        | cons v r => exact ⟨v, r, rfl⟩
      have hall : ((List.map (fun _ => Value.type "tuple") (v :: r)).toArray.all fun x => x == Value.type "tuple") = true := by
        simp only [List.all_toArray, List.all_map, List.all_eq_true]
        intro _ _
        rfl
      have h0 : (List.map (fun _ => Value.type "tuple") (v :: r)).toArray[0]? = some (Value.type "tuple") := by simp
      rw [h0]
      simp only [hall, if_true]
      exact wpAny_pure (wpAny_pure h)
/-- tuples, some of them empty -/
theorem sorts_tups {vs : List Value} {ds : List PyData} (e : EachIs (fun v d => ∃ as, Reads s.heap v d as) vs ds) (hal : AllAlike ds) (ht : ∀ d ∈ ds, ∃ t, d = .tuple t) (hu : ∀ d, d ∈ ds → A.units + d.depth < cLine) : SortsAt prog w A s (dataKind s.heap ds) vs := by
  by_cases hn : ∀ d, d ∈ ds → ∃ x r, d = .tuple (x :: r)
  · exact SortsAt.data e hal (.inl hn) hu
  · obtain ⟨fs, h1, h2⟩ := firsts_of e ht
    refine ⟨fun v hv => ?_, if (fs[0]?.bind id).isSome then general' else oneType', fun E x y a b Q ha hb hq => ?_, fun h2' E Q hq => ?_⟩
    · obtain ⟨d, hd, as, r⟩ := e.left v hv
      exact ⟨_, dataKind_some hal hd r⟩
    · obtain ⟨d, as, hd, ra, rfl⟩ := dataKind_inv ha
      obtain ⟨d', as', hd', rb, rfl⟩ := dataKind_inv hb
      obtain ⟨l, rfl⟩ := ht d hd
      obtain ⟨l', rfl⟩ := ht d' hd'
      have hdd : alikeAll l l' = true := by simpa [alike] using hal _ hd _ hd'
      have hr : A.units + min (PyData.depth (.tuple l)) (PyData.depth (.tuple l')) < cLine := Nat.lt_of_le_of_lt (Nat.add_le_add_left (Nat.min_le_left _ _) _) (hu _ hd)
      have hq' : Q (dataLt (.tuple l) (.tuple l')) s := hq
      split
      · exact oneLt_tup (f := false) ra rb hdd hr hq'
      · exact oneLt_tup (f := true) ra rb hdd hr hq'
    · refine kind_tups h1 (fun e0 => by subst e0; simp at h2') ?_ hq
      have hx : ∃ d ∈ ds, ¬ ∃ x r, d = .tuple (x :: r) := Classical.byContradiction fun hc => hn fun d hd => Classical.byContradiction fun hd2 => hc ⟨d, hd, hd2⟩
      obtain ⟨d, hd, hd2⟩ := hx
      have hf : false ∈ fs.map Option.isSome := by
        rw [h2]
        refine List.mem_map.mpr ⟨d, hd, ?_⟩
        split
        · rename_i x r
          exact absurd ⟨x, r, rfl⟩ hd2
        · rfl
      obtain ⟨f, hf1, hf2⟩ := List.mem_map.mp hf
      exact List.all_eq_false.mpr ⟨f, hf1, by rw [hf2]; exact Bool.false_ne_true⟩
end
end Cb

end
section
set_option maxRecDepth 100000
set_option maxHeartbeats 4000000
/-! sorted(xs) as an operation -/
namespace Cb
open PySem PySem.Spec PyProof.Rows L2
open PySem.W (EachIs SortsAt AllAlike dataLe dataKind alike sort_maps sortingHeap copyHeap sorting_copy_old sortVals_data sortVals_length sorted_vals)
def rSortD (K : PySem.W.Frag) : List V → Hp → VK → Prop := fun vs H Q => ∃ (a : Addr) (xs : List V) (ds : List PyData), vs = [V.ref a] ∧ SqL K H a xs ∧ DpAll K H xs ds ∧ AllAlike ds ∧ ((∀ d ∈ ds, d ≠ .none ∧ ∀ t, d ≠ .tuple t) ∨ ∀ d ∈ ds, ∃ t, d = .tuple t) ∧ (∀ d ∈ ds, d.depth ≤ 60) ∧
  ∀ p, H p = none → Q (.ref p) (upd H p (.lst (((xs.zip ds).mergeSort (dataLe false fun q => q.2)).map fun q => q.1)))
theorem each_zip {h : Heap} : ∀ {vs : List Value} {xs : List V} {ds : List PyData} {as : List Addr}, Vals xs vs → ReadsAll h vs ds as → EachIs (fun v (p : V × PyData) => RelV p.1 v) vs (xs.zip ds) ∧ EachIs (fun v (p : V × PyData) => ∃ as, Reads h v p.2 as) vs (xs.zip ds) ∧ (xs.zip ds).map (fun q => q.2) = ds
  | _, _, _, _, .nil, r => by
    cases r
    exact ⟨.nil, .nil, rfl⟩
  | _, _, _, _, .cons h t, r => by
    cases r with
    | cons r1 r2 =>
      obtain ⟨a, b, c⟩ := each_zip t r2
      exact ⟨.cons h a, .cons ⟨_, r1⟩ b, by rw [List.zip_cons_cons, List.map_cons, c]⟩
theorem vals_each : ∀ {vs : List Value} {ps : List (V × PyData)}, EachIs (fun v (p : V × PyData) => RelV p.1 v) vs ps → Vals (ps.map fun q => q.1) vs
  | _, _, .nil => .nil
  | _, _, .cons h t => .cons h (vals_each t)
section
variable {G : Gc} {X : Cx} {S : AS} {H : Hp} {Q : VK}
theorem cr_sortD (hu : X.A.units + 65 < cLine) : CallR X (.builtin "sorted") (rSortD X.K) := by
  intro pins s σ H vs us Q I r h
  obtain ⟨a, xs, ds, rfl, hs, hd, hal, hk, hdp, q⟩ := h
  obtain ⟨its, rv, hl, hz⟩ := I.list hs
  rw [Vals.ref1 r]
  obtain ⟨as, hr⟩ := Dp.readsAll I ds xs its hd rv
  obtain ⟨e1, e2, e3⟩ := each_zip rv hr
  have er : EachIs (fun v (p : V × PyData) => ∃ as, Reads (sortingHeap (copyHeap s.heap its) (s.heap.objs.size + 1) its) v p.2 as) its (xs.zip ds) := e2.mono fun _ _ ⟨as, r⟩ => ⟨as, PyProof.Rows.Reads.keeps (fun _ _ => sorting_copy_old) r⟩
  have hud : ∀ d ∈ ds, X.A.in1.in1.units + d.depth < cLine := fun d hd => by
    have h1 : X.A.in1.in1.units ≤ X.A.units + 2 := Nat.le_refl _
    have h2 := hdp d hd
    omega
  have er' : EachIs (fun v d => ∃ as, Reads (sortingHeap (copyHeap s.heap its) (s.heap.objs.size + 1) its) v d as) its ds := by
    have z := PySem.W.each_map (R := fun v d => ∃ as, Reads (sortingHeap (copyHeap s.heap its) (s.heap.objs.size + 1) its) v d as) (fun q : V × PyData => q.2) er
    rwa [e3] at z
  have SA : SortsAt X.prog X.w X.A.in1.in1 { s with heap := sortingHeap (copyHeap s.heap its) (s.heap.objs.size + 1) its } (dataKind (sortingHeap (copyHeap s.heap its) (s.heap.objs.size + 1) its) ds) its := by
    rcases hk with hk | hk
    · exact PySem.W.SortsAt.data (s := { s with heap := sortingHeap (copyHeap s.heap its) (s.heap.objs.size + 1) its }) er' hal (.inr hk) hud
    · exact sorts_tups (s := { s with heap := sortingHeap (copyHeap s.heap its) (s.heap.objs.size + 1) its }) er' hal hk hud
  have hz' : its.length ≤ sizeLine := by rw [← rv.length]; exact hz
  have sd := sortVals_data (enc := fun q : V × PyData => q.2) false e1 er (by rw [e3]; exact hal)
  rw [e3] at sd
  refine sorted_vals hl.isList SA hz' ?_
  generalize hout : PySem.W.sortVals (dataKind (sortingHeap (copyHeap s.heap its) (s.heap.objs.size + 1) its) ds) false its its = out at sd
  obtain ⟨ep, he'⟩ := PyProof.Rows.sortedAll_at s.heap its out.toArray
  have hv := vals_each sd
  have hlen : (((xs.zip ds).mergeSort (dataLe false fun q => q.2)).map fun q => q.1).length ≤ sizeLine := by
    rw [List.length_map, (List.mergeSort_perm _ _).length_eq, ← e1.length]
    exact hz'
  exact ⟨.ref _, upd H (s.heap.objs.size + 1) (.lst _), I.laid (t' := s.toks) (fun _ _ => PyProof.Rows.sortedAll_old) (Nat.le_succ _) ⟨hlen, out, ep, hv, he'⟩, rfl, q _ (I.hok.fresh (Nat.le_succ _))⟩
theorem toDs_mem : ∀ {ws : List W} {d : PyData}, d ∈ toDs ws → ∃ w ∈ ws, d = toD w
  | [], _, h => by cases h
  | w :: ws, d, h => by
    rcases List.mem_cons.mp h with e | h
    · exact ⟨w, List.mem_cons_self, e⟩
    · obtain ⟨w', h1, h2⟩ := toDs_mem h
      exact ⟨w', List.mem_cons_of_mem _ h1, h2⟩
theorem zip_toDs : ∀ (vs : List V) (ws : List W), vs.zip (toDs ws) = (vs.zip ws).map fun p => (p.1, toD p.2)
  | [], ws => by cases ws <;> rfl
  | v :: vs, [] => rfl
  | v :: vs, w :: ws => by
    show (v, toD w) :: vs.zip (toDs ws) = (v, toD w) :: _
    rw [zip_toDs vs ws]; rfl
theorem rps_zip : ∀ {ws : List W} {vs : List V}, Rps G S H ws vs → (∀ p ∈ vs.zip ws, Rp G S H p.2 p.1) ∧ (vs.zip ws).map (fun p => p.2) = ws
  | [], vs, h => by rw [h.inv0]; exact ⟨fun p hp => absurd hp (by simp), rfl⟩
  | w :: ws, vs, h => by
    obtain ⟨v, r, rfl, h1, h2⟩ := h.inv
    obtain ⟨a, b⟩ := rps_zip h2
    refine ⟨fun p hp => ?_, by rw [List.zip_cons_cons, List.map_cons, b]⟩
    rcases List.mem_cons.mp hp with e | e
    · subst e; exact h1
    · exact a p e
theorem zip_rps : ∀ {ps : List (V × W)}, (∀ p ∈ ps, Rp G S H p.2 p.1) → Rps G S H (ps.map fun p => p.2) (ps.map fun p => p.1)
  | [], _ => .nil
  | p :: ps, h => .cons (h p List.mem_cons_self) (zip_rps fun q hq => h q (List.mem_cons_of_mem _ hq))
theorem cmp_kind {ws : List W} (h : ∀ a ∈ ws, ∀ b ∈ ws, cmpW a b = true) : (∀ d ∈ toDs ws, d ≠ .none ∧ ∀ t, d ≠ .tuple t) ∨ ∀ d ∈ toDs ws, ∃ t, d = .tuple t := by
  cases ws with
  | nil => exact .inl fun d hd => by cases hd
  | cons w ws =>
    cases w with
    | int i =>
      refine .inl fun d hd => ?_
      obtain ⟨w, hw, rfl⟩ := toDs_mem hd
      rcases cmp_cases (h _ List.mem_cons_self _ hw) with ⟨_, j, _, e⟩ | ⟨_, _, e, _⟩
      · subst e; simp [toD]
      · cases e
    | tup t =>
      refine .inr fun d hd => ?_
      obtain ⟨w, hw, rfl⟩ := toDs_mem hd
      rcases cmp_cases (h _ List.mem_cons_self _ hw) with ⟨_, _, e, _⟩ | ⟨_, r, _, e, _⟩
      · cases e
      · subst e; exact ⟨toDs r, rfl⟩
    | _ => exact absurd (h _ List.mem_cons_self _ List.mem_cons_self) (by simp [cmpW])
theorem pk_sorted (hG : G.K = X.K) : PrOk G (rSortD X.K) (prW .sorted) := by
  intro S H ws vs z Q hv e q
  change p_sorted ws = some z at e
  unfold p_sorted at e
  split at e
  · rename_i a
    obtain ⟨v, rfl, h1⟩ := vws1 hv
    obtain ⟨p, xs, rfl, k1, k2⟩ := h1
    by_cases hs : sortable a = true
    · rw [if_pos hs] at e
      cases e
      obtain ⟨s1, s2⟩ := sortable_iff hs
      have sp := shWs_iff s1
      refine ⟨p, xs, toDs a, rfl, SqL.of k1, rps_dp (S := S) hG sp.1 k2, fun d hd d' hd' => ?_, cmp_kind s2, fun d hd => ?_, ?_⟩
      · obtain ⟨w, hw, rfl⟩ := toDs_mem hd
        obtain ⟨w', hw', rfl⟩ := toDs_mem hd'
        exact alike_of (s2 w hw w' hw')
      · obtain ⟨w, hw, rfl⟩ := toDs_mem hd
        rw [(toD_lay (plainWs_mem sp.1 hw)).2]
        exact Nat.le_trans (depWs_mem hw) sp.2
      · obtain ⟨r1, r2⟩ := rps_zip k2
        have e1 : ((xs.zip (toDs a)).mergeSort (dataLe false fun q => q.2)).map (fun q => q.1) = ((xs.zip a).mergeSort (dataLe false fun q => toD q.2)).map (fun q => q.1) := by
          rw [zip_toDs, ← sort_maps (r := dataLe false fun q : V × W => toD q.2) (s := dataLe false fun q : V × PyData => q.2) (fun p : V × W => (p.1, toD p.2)) (fun _ _ _ _ => rfl), List.map_map]
          rfl
        have e2 : ((xs.zip a).mergeSort (dataLe false fun q => toD q.2)).map (fun q => q.2) = sortW ltW a := by
          rw [sort_maps (r := dataLe false fun q : V × W => toD q.2) (s := dataLe false toD) (fun p : V × W => p.2) (fun _ _ _ _ => rfl), r2, sort_eq hs]
        have r3 := zip_rps (G := G) (S := S) (H := H) (ps := (xs.zip a).mergeSort (dataLe false fun q => toD q.2)) fun p hp => r1 p ((List.mergeSort_perm _ _).mem_iff.mp hp)
        rw [e1]
        rw [e2] at r3
        exact q.lst r3
    · rw [if_neg hs] at e; cases e
  · cases e
end
end Cb

end
section
set_option maxRecDepth 100000
set_option maxHeartbeats 4000000
/-! isinstance, fields, methods of lists, calls -/
namespace Cb
open PySem PySem.Spec PyProof.Rows L2
section
variable [Tb] {G : Gc} {U : L2.WX} {X : Cx} {S : AS} {H : Hp} {Q : VK} {apos cpos : Pos} {n : Nat}

/-! ### isinstance(x, T), T built in -/
def tyN : Ty → String
  | .int => "int"
  | .bool => "bool"
  | .tuple => "tuple"
  | .list => "list"
  | .dict => "dict"
  | .str => "str"
  | .own _ => ""
def tyNS : Ty → Str
  | .int => "int"
  | .bool => "bool"
  | .tuple => "tuple"
  | .list => "list"
  | .dict => "dict"
  | .str => "str"
  | .own _ => ""
def kindW : W → String
  | .non => "NoneType"
  | .bl _ => "bool"
  | .int _ => "int"
  | .str _ => "str"
  | .tup _ => "tuple"
  | .lst _ => "list"
  | .scr _ => "list"
  | .dK _ => "dict"
  | .dT _ => "dict"
  | .obj _ _ => ""
  | .rng _ _ => ""
theorem tyx_tup {K : PySem.W.Frag} {a : Addr} {xs : List V} (h : SqT K H a xs) : TyX K H (.ref a) (.type "tuple") := by
  rcases h with (h | ⟨o, h⟩) | ⟨o, its, n, h, c, _⟩
  · exact .base (.tup h)
  · exact .fTuple h
  · exact .kTuple h c
theorem tyx_of (hG : G.K = X.K) {w : W} {v : V} (hk : isKit w = true) (h : Vw G S H w v) : TyX X.K H v (.type (kindW w)) := by
  cases w with
  | non => obtain rfl := vw_non h; exact .base .non
  | bl b => obtain rfl := vw_bl h; exact .base (.bl b)
  | int i => obtain rfl := vw_int h; exact .base (.int i)
  | str x => obtain rfl := vw_str h; exact .base (.str x)
  | tup ws => obtain ⟨a, vs, rfl, h1, _⟩ := vw_tup h; exact tyx_tup (hG ▸ h1)
  | lst ws => obtain ⟨a, vs, rfl, h1, _⟩ := h; exact .base (.lst h1)
  | dK ws => obtain ⟨a, vs, rfl, h1, _⟩ := h; exact .base (.dK h1)
  | dT ws => obtain ⟨a, vs, rfl, h1, _⟩ := h; exact .base (.dT h1)
  | obj c ws => cases hk
  | rng b c => cases hk
  | scr ns =>
    obtain ⟨a, rfl, h1⟩ := vw_scr h
    rcases h1 with (⟨o, h1⟩ | ⟨o, its, n, h1, c, _⟩) | h1
    · exact .base (.frz h1)
    · exact .kList (hG ▸ h1) c
    · exact .base (.lst h1.2)
def isOwnTy : Ty → Bool
  | .own _ => true
  | _ => false
theorem kit_dec {K : PySem.W.Frag} (t : Ty) (w : W) (ht : isOwnTy t = false) (hk : isKit w = true) : PySem.W.kitOne K (.type (kindW w)) (.type (tyN t)) = some (isTy t w) := by
  refine kit_ty ?_
  cases t <;> cases w <;> first | (cases ht; done) | (exact absurd hk Bool.false_ne_true) | (dsimp only [kindW, tyN, isTy]; decide +kernel)
theorem sx_isi {t : Ty} {e : Expr} {d : Den Od} {p p2 q pos : Pos} (hG : G.K = X.K) (ht : isOwnTy t = false) (ns : Nst e) (he : PE X e (tD G U (rO G) d)) (hg : Gl X "isinstance") (hm : X.mg "isinstance" = none) (hg2 : Gl X (tyNS t)) (hm2 : X.mg (tyNS t) = none) :
    PE X (.Call (.Name "isinstance" p) [e, .Name (tyNS t) p2] [] pos) (tD G U (rZ G) (cPr (.isinst [t]) (cConsO d cNil))) := by
  have hv : bootBuiltins (tyNS t) = some (.type (tyN t)) ∧ tyNS t ≠ "__name__" ∧ (tyNS t == ("__debug__" : Str)) = false := by
    cases t <;> first | (cases ht; done) | exact ⟨rfl, by decide, by decide⟩
  have h2 : PE X (.Name (tyNS t) p2) (tC (.ty (tyN t))) := pe_bltn hg2 hm2 hv.1 (by rfl) hv.2.1 hv.2.2
  have hs : PA X [e, .Name (tyNS t) p2] (tCons (tD G U (rO G) d) (tCons (tC (.ty (tyN t))) tNil)) := pa_cons he (pa_cons h2 pa_nil (by rfl)) (ns _ _)
  refine (pe_callB call_isi hg hm rfl hs (he := ns _ _) (hpl := by rfl)).imp fun σ H Q ⟨env, S, A, en, ok, o⟩ => ⟨env, S, A, en, ok, ?_⟩
  have o1 : Out G U σ S H A (rZ G) ((d env).bind fun a env => primM (.isinst [t]) [a] env) Q := by
    have e : ((d env).bind fun a env => primM (.isinst [t]) [a] env) = cPr (.isinst [t]) (cConsO d cNil) env := by
      unfold cPr cConsO cNil
      cases d env <;> rfl
    rw [e]; exact o
  refine (Out.bind (rel := rO G) (fun h => h.2) o1).mono fun x H1 ⟨oa, env1, S1, A1, _, en1, ok1, ⟨r1, _⟩, f1, o2⟩ => ?_
  show rIsi X.K [x, .ty (tyN t)] H1 Q
  refine prim_out (p := .isinst [t]) (r := fun vs H Q => ∃ x, vs = [x] ∧ rIsi X.K [x, .ty (tyN t)] H Q) ?_ (ods := [oa]) (vs := [x]) en1 ok1 ⟨x, [], rfl, r1, rfl⟩ o2 |> fun ⟨x', e, q⟩ => by cases e; exact q
  intro S H ws vs z Q hv e q
  change p_isinst [t] ws = some z at e
  unfold p_isinst at e
  split at e
  · rename_i a
    by_cases hk : isKit a = true
    · rw [if_pos hk] at e
      cases e
      obtain ⟨v, rfl, h1⟩ := vws1 hv
      refine ⟨v, rfl, v, _, _, _, isTy t a, rfl, .ty _, tyx_of hG hk h1, kit_dec t a ht hk, ?_⟩
      have e : ([t].any fun t => isTy t a) = isTy t a := by simp
      rw [e] at q
      exact q.w (rp_bl _ _ _)
    · rw [if_neg hk] at e; cases e
  · cases e

/-! ### e.f -/
/-- what the text says of a class's field -/
def FldOk (G : Gc) (K : PySem.W.Frag) (cs : List Str) (f : Str) : Prop := ∀ c C, cs.contains c = true → G.cm c = some C → Cls K C ∧ NoAttr K C f
theorem rpf_look : ∀ {fs : List (Str × W)} {vs : List (Str × V)} {f : Str} {w : W}, Rpf G S H fs vs → fs.lookup f = some w → ∃ v, vs.lookup f = some v ∧ Rp G S H w v
  | [], vs, f, w, h, e => by cases e
  | (g, x) :: fs, vs, f, w, h, e => by
    unfold Rpf at h
    obtain ⟨v, r, rfl, h1, h2⟩ := h
    rw [List.lookup_cons] at e ⊢
    cases q : f == g with
    | true =>
      rw [q] at e
      cases e
      exact ⟨v, rfl, h1⟩
    | false =>
      rw [q] at e
      exact rpf_look h2 e
theorem sx_fld {cs : List Str} {f : Str} {e : Expr} {d : Den Od} {pos : Pos} (hF : FldOk G X.K cs f) (he : PE X e (tD G U (rO G) d)) (hb : attributeBase e f X.env (eval e X.env) = eval e X.env) : PE X (.Attribute e f pos) (tD G U (rZ G) (cPr (.fld cs f) (cConsO d cNil))) := by
  refine sx_pr1 (r := fun x H Q => ∃ a C dx fs v, x = .ref a ∧ H a = some (.ins C dx fs) ∧ Cls X.K C ∧ NoAttr X.K C f ∧ fs.lookup f = some v ∧ Q v H) ?_ he fun ta ha => pe_fld ha hb
  intro S H ws vs z Q hv e q
  change p_fld cs f ws = some z at e
  unfold p_fld at e
  split at e
  · rename_i c fs
    obtain ⟨v, rfl, h1⟩ := vws1 hv
    by_cases hc : cs.contains c = true
    · rw [if_pos hc] at e
      cases el : fs.lookup f with
      | none => rw [el] at e; cases e
      | some w =>
        rw [el] at e
        cases e
        obtain ⟨a, C, dx, vs, rfl, hcm, h2, h3⟩ := h1
        obtain ⟨v, hl, hr⟩ := rpf_look h3 el
        obtain ⟨k1, k2⟩ := hF c C hc hcm
        exact ⟨_, rfl, a, C, dx, vs, v, rfl, h2, k1, k2, hl, q.w hr⟩
    · rw [if_neg hc] at e; cases e
  · cases e

/-! ### methods that change a list -/
theorem mut_out {t : Mt} {i : Nat} {r : V → List V → Hp → VK → Prop} (hr : ∀ {S H a vs ws xs args v' zs' Q}, Rps G S H ws xs → H a = some (.lst xs) → Rps G S H args vs → mtZ t (.L ws) args = some (.w v', .L zs') → (∀ v ys, Rp G S H v' v → Rps G S H zs' ys → Q v (upd H a (.lst ys))) → r (.ref a) vs H Q)
    (hz : ∀ ws args v z', mtZ t (.L ws) args = some (v, z') → ∃ v' zs', v = .w v' ∧ z' = .L zs') (hz2 : ∀ z args p, mtZ t z args = some p → ∃ ws, z = .L ws)
    {env : Env} {A : List Addr} {σ : L2.St} {d : Den (List W)} (en : EnvR G S H env σ A) (ok : Ok S H A) (o : Out G U σ S H A (rZ G) (cMut t i d env) Q) :
    ∃ a xs, σ[i]? = some (some (.ref a)) ∧ H a = some (.lst xs) ∧ Out G U σ S H A (rWs G) (d env) fun vs H1 => r (.ref a) vs H1 Q := by
  unfold cMut at o
  cases e0 : gets env i with
  | none => rw [e0] at o; exact o.elim
  | some z0 =>
    rw [e0] at o
    cases z0 with
    | L ws0 =>
      rw [if_pos (show isL (some (.L ws0)) = true from rfl)] at o
      obtain ⟨v, B, R, hs, rz, _, _⟩ := en.gets e0
      obtain ⟨a, xs, rfl, h1, h2, rfl⟩ := rz
      refine ⟨a, xs, hs, h1, (Out.bind (rel := rWs G) (fun h => h.2) o).mono fun vs H1 ⟨args, env1, S1, A1, _, en1, ok1, ⟨r1, _⟩, f1, o1⟩ => ?_⟩
      unfold mutM at o1
      cases e1 : gets env1 i with
      | none => rw [e1] at o1; exact o1.elim
      | some z =>
        rw [e1] at o1
        dsimp only at o1
        cases e2 : mtZ t z args with
        | none => rw [e2] at o1; exact o1.elim
        | some p =>
          obtain ⟨v2, z2⟩ := p
          rw [e2] at o1
          obtain ⟨ws, rfl⟩ := hz2 _ _ _ e2
          obtain ⟨v', zs', rfl, rfl⟩ := hz _ _ _ _ e2
          obtain ⟨u, B, R, hs1, rz1, pm, er⟩ := en1.gets e1
          rw [hs] at hs1
          cases hs1
          obtain ⟨a', xs1, ea, h3, h4, rfl⟩ := rz1
          cases ea
          have ok2 := ok1.perm pm.symm
          have hp : a ∈ A1 := pm.mem_iff.mpr (by simp)
          refine hr h4 h3 r1 e2 fun y ys ry rys => ?_
          have f2 : Fr S1 H1 A1 S1 (upd H1 a (.lst ys)) A1 := Fr.mutate hp ok1
          have ok3 : Ok S1 (upd H1 a (.lst ys)) A1 := Ok.mutate hp ok1 trivial
          have er2 : EnvR G S1 (upd H1 a (.lst ys)) (env1.set i none) σ R := er.mono (f2.kp ok1) f2.up fun b hb u eu => by
            have ne : b ≠ a := fun z => ok2.dis (A := [a]) (B := R) (by simp) (z ▸ hb)
            rw [upd_ne ne]; exact eu
          obtain ⟨A', k1, k2⟩ := er2.put' (z := .L zs') (B := [a]) (gets_lt e1) hs ⟨a, ys, rfl, upd_same, rys.mono (f2.kp ok1) f2.up, rfl⟩
          have pA : A'.Perm A1 := k2.trans pm.symm
          exact o1 y _ S1 A' [] k1 ⟨ry.mono (f2.kp ok1) f2.up, rfl⟩ (ok3.perm pA) (f2.less fun b hb => pA.mem_iff.mp hb)
    | _ => exact o.elim
theorem mtZ_app {ws args : List W} {v z' : Z} (e : mtZ .append (.L ws) args = some (v, z')) : ∃ x, args = [x] ∧ ws.length < 16777216 ∧ v = .w .non ∧ z' = .L (ws ++ [x]) := by
  match args, e with
  | [x], e =>
    change (if decide (ws.length < 16777216) then some (Z.w W.non, Z.L (ws ++ [x])) else none) = some (v, z') at e
    by_cases h : decide (ws.length < 16777216) = true
    · rw [if_pos h] at e
      cases e
      exact ⟨x, rfl, of_decide_eq_true h, rfl, rfl⟩
    · rw [if_neg h] at e; cases e
  | [], e => cases e
  | _ :: _ :: _, e => cases e
theorem mtZ_ext {ws args : List W} {v z' : Z} (e : mtZ .extend (.L ws) args = some (v, z')) : ∃ b, args = [.lst b] ∧ sizeOk (ws.length + b.length) = true ∧ v = .w .non ∧ z' = .L (ws ++ b) := by
  match args, e with
  | [.lst b], e =>
    change (if sizeOk (ws.length + b.length) then some (Z.w W.non, Z.L (ws ++ b)) else none) = some (v, z') at e
    by_cases h : sizeOk (ws.length + b.length) = true
    · rw [if_pos h] at e
      cases e
      exact ⟨b, rfl, h, rfl, rfl⟩
    · rw [if_neg h] at e; cases e
  | [], e => cases e
  | [.non], e => cases e
  | [.bl _], e => cases e
  | [.int _], e => cases e
  | [.str _], e => cases e
  | [.tup _], e => cases e
  | [.dK _], e => cases e
  | [.dT _], e => cases e
  | [.obj _ _], e => cases e
  | [.scr _], e => cases e
  | a :: _ :: _, e => cases a <;> cases e
theorem mtZ_pop0 {ws args : List W} {v z' : Z} (e : mtZ .pop0 (.L ws) args = some (v, z')) : ∃ x, args = [] ∧ ws[ws.length - 1]? = some x ∧ v = .w x ∧ z' = .L ws.dropLast := by
  match args, e with
  | [], e =>
    change ((ws[ws.length - 1]?).map fun x => (Z.w x, Z.L ws.dropLast)) = some (v, z') at e
    cases h : ws[ws.length - 1]? with
    | none => rw [h] at e; cases e
    | some x => rw [h] at e; cases e; exact ⟨x, rfl, rfl, rfl, rfl⟩
  | _ :: _, e => cases e
theorem mtZ_pop1 {ws args : List W} {v z' : Z} (e : mtZ .pop1 (.L ws) args = some (v, z')) : ∃ i k x, args = [.int i] ∧ bnd i = true ∧ seqIndex? i ws.length = some k ∧ ws[k]? = some x ∧ v = .w x ∧ z' = .L (ws.eraseIdx k) := by
  match args, e with
  | [.int i], e =>
    change (if bnd i then (seqIndex? i ws.length).bind fun k => (ws[k]?).map fun x => (Z.w x, Z.L (ws.eraseIdx k)) else none) = some (v, z') at e
    by_cases hb : bnd i = true
    · rw [if_pos hb] at e
      cases h : seqIndex? i ws.length with
      | none => rw [h] at e; cases e
      | some k =>
        rw [h] at e
        change ((ws[k]?).map fun x => (Z.w x, Z.L (ws.eraseIdx k))) = some (v, z') at e
        cases h2 : ws[k]? with
        | none => rw [h2] at e; cases e
        | some x => rw [h2] at e; cases e; exact ⟨i, k, x, rfl, hb, h, h2, rfl, rfl⟩
    · rw [if_neg hb] at e; cases e
  | [], e => cases e
  | [.non], e => cases e
  | [.bl _], e => cases e
  | [.lst _], e => cases e
  | [.str _], e => cases e
  | [.tup _], e => cases e
  | [.dK _], e => cases e
  | [.dT _], e => cases e
  | [.obj _ _], e => cases e
  | [.scr _], e => cases e
  | a :: _ :: _, e => cases a <;> cases e
theorem mtZ_clear {ws args : List W} {v z' : Z} (e : mtZ .clear (.L ws) args = some (v, z')) : args = [] ∧ v = .w .non ∧ z' = .L [] := by
  match args, e with
  | [], e => cases e; exact ⟨rfl, rfl, rfl⟩
  | _ :: _, e => cases e
theorem mtZ_L {t : Mt} {z : Z} {args : List W} {p : Z × Z} (e : mtZ t z args = some p) : ∃ ws, z = .L ws := by
  cases z with
  | L ws => exact ⟨ws, rfl⟩
  | _ => cases t <;> cases e
theorem mtZ_shape {t : Mt} {ws args : List W} {v z' : Z} (e : mtZ t (.L ws) args = some (v, z')) : ∃ v' zs', v = .w v' ∧ z' = .L zs' := by
  cases t with
  | append => obtain ⟨x, _, _, h1, h2⟩ := mtZ_app e; exact ⟨_, _, h1, h2⟩
  | extend => obtain ⟨x, _, _, h1, h2⟩ := mtZ_ext e; exact ⟨_, _, h1, h2⟩
  | pop0 => obtain ⟨x, _, _, h1, h2⟩ := mtZ_pop0 e; exact ⟨_, _, h1, h2⟩
  | pop1 => obtain ⟨_, _, x, _, _, _, _, h1, h2⟩ := mtZ_pop1 e; exact ⟨_, _, h1, h2⟩
  | clear => obtain ⟨_, h1, h2⟩ := mtZ_clear e; exact ⟨_, _, h1, h2⟩
theorem mut_go {t : Mt} {i : Nat} {r : V → List V → Hp → VK → Prop} (hr : ∀ {S H a vs ws xs args v' zs' Q}, Rps G S H ws xs → H a = some (.lst xs) → Rps G S H args vs → mtZ t (.L ws) args = some (.w v', .L zs') → (∀ v ys, Rp G S H v' v → Rps G S H zs' ys → Q v (upd H a (.lst ys))) → r (.ref a) vs H Q)
    {x : Str} {e : Expr} {es : List Expr} {d : Den (List W)} (he : PE X e (tVar i)) (hs : PA X es (tD G U (rWs G) d)) (h : ∀ to ta, PE X e to → PA X es ta → PE X (.Call (.Attribute e x apos) es [] cpos) (tBM X.K "list" r to ta)) :
    PE X (.Call (.Attribute e x apos) es [] cpos) (tD G U (rZ G) (cMut t i d)) := (h _ _ he hs).imp fun σ H Q ⟨env, S, A, en, ok, o⟩ => by
  obtain ⟨a, xs, h1, h2, h3⟩ := mut_out hr (fun _ _ _ _ e => mtZ_shape e) (fun _ _ _ e => mtZ_L e) en ok o
  exact ⟨.ref a, h1, .inl ⟨rfl, xs, SqL.of h2⟩, env, S, A, en, ok, h3⟩
theorem sx_append {i : Nat} {e el : Expr} {d : Den Z} {apos cpos : Pos} (ns : Nst el) (he : PE X e (tVar i)) (hd : PE X el (tD G U (rZ G) d)) (hb : attributeBase e "append" X.env (eval e X.env) = eval e X.env)
    (hfew : ((backTo cpos (starEach [el] X.env)).all (fun x => !x.1) && (backToKw cpos (keywordEach [] X.env)).all (fun x => x.1.isSome) && decide (([el] : List Expr).length + ([] : List Keyword).length + (if ([] : List Keyword).isEmpty then 0 else 1) < 30)) = true) (hline : (apos.endLine == cpos.line) = true) :
    PE X (.Call (.Attribute e "append" apos) [el] [] cpos) (tD G U (rZ G) (cMut .append i (cCons d cNil))) :=
  mut_go (r := rAppend) (fun {S H a vs ws xs args v' zs' Q} h1 h2 h3 e q => by
    obtain ⟨x, rfl, hl, e1, e2⟩ := mtZ_app e
    cases e1; cases e2
    obtain ⟨v, r, rfl, r1, r2⟩ := h3.inv
    obtain rfl := r2.inv0
    exact ⟨a, xs, v, rfl, rfl, h2, by rw [h1.length, sizeLine_eq]; exact hl, q .non _ (rp_non _ _) (h1.append (.one r1))⟩) he (pa_cs ns hd pa_nl)
    fun to ta ho ha => pe_bm PySem.F.plainAttrs_list PySem.F.slot_list_append rfl (fun _ _ _ _ _ _ _ _ _ => mt_append _ _ _ _ _ _ _ _ _) ho ha hb hfew hline (ns _ _) (by rfl)
theorem sx_extend {i : Nat} {e el : Expr} {d : Den Z} {apos cpos : Pos} (ns : Nst el) (he : PE X e (tVar i)) (hd : PE X el (tD G U (rZ G) d)) (hb : attributeBase e "extend" X.env (eval e X.env) = eval e X.env)
    (hfew : ((backTo cpos (starEach [el] X.env)).all (fun x => !x.1) && (backToKw cpos (keywordEach [] X.env)).all (fun x => x.1.isSome) && decide (([el] : List Expr).length + ([] : List Keyword).length + (if ([] : List Keyword).isEmpty then 0 else 1) < 30)) = true) (hline : (apos.endLine == cpos.line) = true) :
    PE X (.Call (.Attribute e "extend" apos) [el] [] cpos) (tD G U (rZ G) (cMut .extend i (cCons d cNil))) :=
  mut_go (r := rExtend) (fun {S H a vs ws xs args v' zs' Q} h1 h2 h3 e q => by
    obtain ⟨b, rfl, hl, e1, e2⟩ := mtZ_ext e
    cases e1; cases e2
    obtain ⟨v, r, rfl, r1, r2⟩ := h3.inv
    obtain rfl := r2.inv0
    unfold Rp at r1
    obtain ⟨c, ys, rfl, f1, f2⟩ := r1
    exact ⟨a, c, xs, ys, rfl, rfl, h2, f1.2, by rw [h1.length, f2.length]; exact sizeOk_le hl, q .non _ (rp_non _ _) (h1.append f2)⟩) he (pa_cs ns hd pa_nl)
    fun to ta ho ha => pe_bm PySem.F.plainAttrs_list PySem.F.slot_list_extend rfl (fun _ _ _ _ _ _ _ _ _ => mt_extend _ _ _ _ _ _ _ _ _) ho ha hb hfew hline (ns _ _) (by rfl)
theorem rps_eraseIdx : ∀ {ws : List W} {vs : List V} (n : Nat), Rps G S H ws vs → Rps G S H (ws.eraseIdx n) (vs.eraseIdx n)
  | [], _, n, h => by rw [h.inv0]; simp; exact .nil
  | w :: ws, _, 0, h => by
    obtain ⟨v, r, q, h1, h2⟩ := h.inv
    subst q
    exact h2
  | w :: ws, _, n + 1, h => by
    obtain ⟨v, r, q, h1, h2⟩ := h.inv
    subst q
    exact .cons h1 (rps_eraseIdx n h2)
theorem rps_dropLast {ws : List W} {vs : List V} (h : Rps G S H ws vs) : Rps G S H ws.dropLast vs.dropLast := by
  rw [List.dropLast_eq_take, List.dropLast_eq_take, h.length]
  exact Rps.take _ h
theorem sx_pop1 {i : Nat} {e el : Expr} {d : Den Z} {apos cpos : Pos} (ns : Nst el) (he : PE X e (tVar i)) (hd : PE X el (tD G U (rZ G) d)) (hb : attributeBase e "pop" X.env (eval e X.env) = eval e X.env)
    (hfew : ((backTo cpos (starEach [el] X.env)).all (fun x => !x.1) && (backToKw cpos (keywordEach [] X.env)).all (fun x => x.1.isSome) && decide (([el] : List Expr).length + ([] : List Keyword).length + (if ([] : List Keyword).isEmpty then 0 else 1) < 30)) = true) (hline : (apos.endLine == cpos.line) = true) :
    PE X (.Call (.Attribute e "pop" apos) [el] [] cpos) (tD G U (rZ G) (cMut .pop1 i (cCons d cNil))) :=
  mut_go (r := rPopAt) (fun {S H a vs ws xs args v' zs' Q} h1 h2 h3 e q => by
    obtain ⟨n, k, x, rfl, hb, hk, hx, e1, e2⟩ := mtZ_pop1 e
    cases e1; cases e2
    obtain ⟨v, r, rfl, r1, r2⟩ := h3.inv
    obtain rfl := r2.inv0
    unfold Rp at r1
    subst r1
    obtain ⟨y, hy, ry⟩ := h1.get hx
    have hb := bnd_iff hb
    exact ⟨a, xs, n, k, y, rfl, rfl, h2, by omega, by omega, by rw [h1.length]; exact hk, hy, q y _ ry (rps_eraseIdx k h1)⟩) he (pa_cs ns hd pa_nl)
    fun to ta ho ha => pe_bm PySem.F.plainAttrs_list PySem.F.slot_list_pop rfl (fun _ _ _ _ _ _ _ _ _ => mt_popAt _ _ _ _ _ _ _ _ _) ho ha hb hfew hline (ns _ _) (by rfl)
theorem mut_go0 {t : Mt} {i : Nat} {r : V → List V → Hp → VK → Prop} (hr : ∀ {S H a vs ws xs args v' zs' Q}, Rps G S H ws xs → H a = some (.lst xs) → Rps G S H args vs → mtZ t (.L ws) args = some (.w v', .L zs') → (∀ v ys, Rp G S H v' v → Rps G S H zs' ys → Q v (upd H a (.lst ys))) → r (.ref a) vs H Q)
    {x : Str} {e : Expr} {apos cpos : Pos} (he : PE X e (tVar i)) (h : ∀ to, PE X e to → PE X (.Call (.Attribute e x apos) [] [] cpos) (tBM0 X.K "list" r to)) :
    PE X (.Call (.Attribute e x apos) [] [] cpos) (tD G U (rZ G) (cMut t i cNil)) := (h _ he).imp fun σ H Q ⟨env, S, A, en, ok, o⟩ => by
  obtain ⟨a, xs, h1, h2, h3⟩ := mut_out hr (fun _ _ _ _ e => mtZ_shape e) (fun _ _ _ e => mtZ_L e) en ok o
  exact ⟨.ref a, h1, .inl ⟨rfl, xs, SqL.of h2⟩, h3 [] H S A [] en ⟨.nil, rfl⟩ ok (Fr.refl ok)⟩
theorem sx_pop0 {i : Nat} {e : Expr} {apos cpos : Pos} (he : PE X e (tVar i)) (hb : attributeBase e "pop" X.env (eval e X.env) = eval e X.env) (hline : (apos.endLine == cpos.line) = true) :
    PE X (.Call (.Attribute e "pop" apos) [] [] cpos) (tD G U (rZ G) (cMut .pop0 i cNil)) :=
  mut_go0 (r := rPop) (fun {S H a vs ws xs args v' zs' Q} h1 h2 h3 e q => by
    obtain ⟨x, rfl, hx, e1, e2⟩ := mtZ_pop0 e
    cases e1; cases e2
    obtain rfl := h3.inv0
    obtain ⟨y, hy, ry⟩ := h1.get hx
    exact ⟨a, xs, y, rfl, rfl, h2, by rw [h1.length]; exact hy, q y _ ry (rps_dropLast h1)⟩) he
    fun to ho => pe_bm0 PySem.F.plainAttrs_list PySem.F.slot_list_pop rfl (fun _ _ _ _ _ _ _ _ _ => mt_pop _ _ _ _ _ _ _ _ _) ho hb hline
theorem sx_clear {i : Nat} {e : Expr} {apos cpos : Pos} (he : PE X e (tVar i)) (hb : attributeBase e "clear" X.env (eval e X.env) = eval e X.env) (hline : (apos.endLine == cpos.line) = true) :
    PE X (.Call (.Attribute e "clear" apos) [] [] cpos) (tD G U (rZ G) (cMut .clear i cNil)) :=
  mut_go0 (r := rClear) (fun {S H a vs ws xs args v' zs' Q} h1 h2 h3 e q => by
    obtain ⟨rfl, e1, e2⟩ := mtZ_clear e
    cases e1; cases e2
    obtain rfl := h3.inv0
    exact ⟨a, xs, rfl, rfl, h2, q .non _ (rp_non _ _) .nil⟩) he
    fun to ho => pe_bm0 PySem.F.plainAttrs_list PySem.F.slot_list_clear rfl (fun _ _ _ _ _ _ _ _ _ => mt_clear _ _ _ _ _ _ _ _ _) ho hb hline

/-! ### calls -/
/-- what stands behind a name that is called -/
structure FnS (G : Gc) (X : Cx) (nm : Str) (n : Nat) (m : Mean) : Prop where
  ex : ∃ (f : Addr) (fd : FuncData) (ps : List Str) (k : Nat), X.mg nm = some (.ref f) ∧ PySem.W.keepIn X.K (.ref f) = true ∧ L2.Binds X.K fd ps [] ∧ FnOk X.prog X.w X.K X.mg X.base (L2.CX X.prog X.w) k f fd ps (spM G n m) ∧ Room k X.A
theorem sx_call {nm : Str} {m : Mean} {e : Expr} {es : List Expr} {p pos : Pos} {d : Den (List Od)} (F : FnS G X nm n m) (hl : ∀ env os env', d env = .ok os env' → os.length = n) (tk : Takes X U) (hg : Gl X nm) (ns : Nst e) (ha : PA X (e :: es) (tD G U (rOs G) d)) (hpl : (backTo pos (starEach es X.env)).any (·.1) = false)
    (hdb : (nm == ("__debug__" : Str)) = false) : PE X (.Call (.Name nm p) (e :: es) [] pos) (tD G U (rZ G) (cCall m d)) := by
  obtain ⟨f, fd, ps, k, h1, h2, h3, h4, h5⟩ := F.ex
  refine (pe_callS (E := WE U) h4 h5 hg h1 h2 h3 (passAt tk) ha hdb (ns _ _) hpl).imp fun σ H Q ⟨env, S, A, en, ok, o⟩ => ⟨env, S, A, en, ok, ?_⟩
  refine (Out.bind (rel := rOs G) (fun h => h.2) o).mono fun vs H1 ⟨os, env1, S1, A1, e1, en1, ok1, ⟨r1, _⟩, f1, o2⟩ => call_out (hl _ _ _ e1) en1 ok1 r1 o2
end
end Cb

end
section
set_option maxRecDepth 100000
set_option maxHeartbeats 4000000
/-! instances: C(..), o.f = v -/
namespace Cb
open PySem PySem.Spec PyProof.Rows L2
section
variable [Tb] {G : Gc} {U : L2.WX} {X : Cx} {S : AS} {H : Hp} {Q : VK} {n : Nat}
theorem make_out {m : Mean} {c : Str} {C : Addr} {ods : List Od} {vs : List V} {env : Env} {A : List Addr} {σ : L2.St} (hc : G.cm c = some C) (hn : ods.length = n) (en : EnvR G S H env σ A) (ok : Ok S H A) (h : OdRs G σ S H ods vs) (o : Out G U σ S H A (rZ G) (makeM c m ods env) Q) :
    ∀ x dx, H x = none → H dx = none → dx ≠ x → spM G (n + 1) m (.ref x :: vs) (upd (upd H dx (.own x)) x (.ins C dx [])) (fun v H2 => v = .non ∧ Q (.ref x) H2) fun cls d H' => U cls d σ H' := by
  intro x dx hx hdx hne
  unfold makeM at o
  cases e : resAll env ods with
  | none => rw [e] at o; exact o.elim
  | some zs =>
    rw [e] at o
    dsimp only at o
    cases hnd : (lent ods zs).isEmpty with
    | false => rw [hnd, if_neg Bool.false_ne_true] at o; exact o.elim
    | true =>
      rw [hnd, if_pos rfl] at o
      have hl0 : lent ods zs = [] := List.isEmpty_iff.mp hnd
      obtain ⟨Bs, R, k1, k2, k3⟩ := lend en h e (by rw [hl0]; exact List.nodup_nil)
      rw [hl0] at k3
      have k3 : EnvR G S H env σ R := k3
      have hx2 : (upd H dx (.own x)) x = none := by rw [upd_ne (Ne.symm hne)]; exact hx
      have okA : Ok S H (Bs.flatten ++ R) := ok.perm k2.symm
      have ok1 : Ok S (upd (upd H dx (.own x)) x (.ins C dx [])) ((Bs.flatten ++ R) ++ [x]) := Ok.newO (okA.new hdx) hx2 trivial
      have fr1 : Fr S H (Bs.flatten ++ R) S (upd (upd H dx (.own x)) x (.ins C dx [])) ((Bs.flatten ++ R) ++ [x]) := (Fr.new okA hdx).trans (Fr.newO (okA.new hdx) hx2)
      have kH : ∀ a u, H a = some u → (upd (upd H dx (.own x)) x (.ins C dx [])) a = some u := fun a u ea => by
        rw [upd_ne (ne_of_none ea hx), upd_ne (ne_of_none ea hdx)]; exact ea
      have bkH : ∀ a, (upd (upd H dx (.own x)) x (.ins C dx [])) a = none → H a = none := fun a z => by
        cases ea : H a with
        | none => rfl
        | some u => rw [kH a u ea] at z; cases z
      have kp1 : Kp S H (upd (upd H dx (.own x)) x (.ins C dx [])) := fun a u ea _ _ => kH a u ea
      have hmono : ∀ {zs : List Z} {vs : List V} {Bs : List (List Addr)}, RZs G S H zs vs Bs → RZs G S (upd (upd H dx (.own x)) x (.ins C dx [])) zs vs Bs := by
        intro zs
        induction zs with
        | nil => exact fun h => h
        | cons z zs ih =>
          intro vs Bs ⟨v, r, B, Br, e1, e2, h1, h2⟩
          exact ⟨v, r, B, Br, e1, e2, h1.mono kp1 (fun _ h => h) fun a _ u ea => kH a u ea, ih h2⟩
      have pm1 : ((Bs.flatten ++ R) ++ [x]).Perm ((x :: Bs.flatten) ++ R) := (List.perm_append_comm (l₁ := Bs.flatten ++ R) (l₂ := [x]))
      have ok2 : Ok S (upd (upd H dx (.own x)) x (.ins C dx [])) ((x :: Bs.flatten) ++ R) := ok1.perm pm1.symm
      refine ⟨by simp [h.len, hn], .obj c [] :: zs, S, [x] :: Bs, ⟨_, _, [x], Bs, rfl, rfl, ⟨x, C, dx, [], rfl, hc, upd_same, by unfold Rpf; rfl, rfl⟩, hmono k1⟩, ok2.left, ?_⟩
      cases q : m (.obj c [] :: zs) with
      | bad => rw [q] at o; exact o.elim
      | ok z0 back =>
        rw [q] at o
        have k4 : EnvR G S (upd (upd H dx (.own x)) x (.ins C dx [])) env σ R := k3.mono kp1 (fun _ h => h) fun a _ u ea => kH a u ea
        intro v H' S' B Bs' rb rz ok' f
        cases z0 with
        | w w0 =>
          cases w0 with
          | non =>
            cases back with
            | nil => exact o.elim
            | cons z back =>
              obtain ⟨rz, rfl⟩ := rz
              unfold Rp at rz
              subst rz
              refine ⟨rfl, ?_⟩
              obtain ⟨v1, r1, B1, Br, e1, rfl, r2, r3⟩ := rb
              cases e1
              have k5 : EnvR G S' H' env σ R := k4.mono (f.kp ok2.left) f.up (f.offK ok2)
              have ok3 : Ok S' H' (([] ++ (B1 :: Br).flatten) ++ R) := f.off ok2 ok'
              have ok4 : Ok S' H' (B1 ++ R) := by
                have e : (([] ++ (B1 :: Br).flatten) ++ R) = (B1 ++ Br.flatten) ++ R := by simp
                rw [e] at ok3
                exact ok3.sub (List.Sublist.append_right (List.sublist_append_left _ _) R)
              refine o (.ref x) H' S' R B1 k5 r2 ok4 ?_
              have f2 : Fr S H (Bs.flatten ++ R) S' H' (B1 ++ R) := ⟨fun a u ea na => f.keep a u (kH a u ea) fun hm => by
                  rcases List.mem_cons.mp hm with z | z
                  · rw [z, hx] at ea; cases ea
                  · exact na (List.mem_append_left _ z), f.up, fun a ha => by
                  rcases f.back a ha with z | z | z
                  · exact .inl z
                  · rcases List.mem_cons.mp z with z | z
                    · exact .inr (.inr (z ▸ hx))
                    · exact .inr (.inl (List.mem_append_left _ z))
                  · exact .inr (.inr (bkH a z)), fun a ha => by
                  rcases List.mem_append.mp ha with z | z
                  · rcases f.own a (by simp; exact .inl z) with z | z
                    · rcases List.mem_cons.mp z with z | z
                      · exact .inr (z ▸ hx)
                      · exact .inl (List.mem_append_left _ z)
                    · exact .inr (bkH a z)
                  · exact .inl (List.mem_append_right _ z), fun a u ea => f.dom a u (kH a u ea)⟩
              exact f2.wide fun a ha => k2.mem_iff.mpr ha
          | _ => exact o.elim
        | _ => exact o.elim
      | ex x1 back =>
        rw [q] at o
        have k4 : EnvR G S (upd (upd H dx (.own x)) x (.ins C dx [])) env σ R := k3.mono kp1 (fun _ h => h) fun a _ u ea => kH a u ea
        intro cls d H' S' Bs' xr rb ok' f
        have k5 : EnvR G S' H' env σ R := k4.mono (f.kp ok2.left) f.up (f.offK ok2)
        have ok3 : Ok S' H' (Bs'.flatten ++ R) := f.off ok2 ok'
        refine o cls d H' S' R xr k5 ok3.right ?_
        have f2 : Fr S H (Bs.flatten ++ R) S' H' R := ⟨fun a u ea na => f.keep a u (kH a u ea) fun hm => by
            rcases List.mem_cons.mp hm with z | z
            · rw [z, hx] at ea; cases ea
            · exact na (List.mem_append_left _ z), f.up, fun a ha => by
            rcases f.back a ha with z | z | z
            · exact .inl z
            · rcases List.mem_cons.mp z with z | z
              · exact .inr (.inr (z ▸ hx))
              · exact .inr (.inl (List.mem_append_left _ z))
            · exact .inr (.inr (bkH a z)), fun a ha => .inl (List.mem_append_right _ ha), fun a u ea => f.dom a u (kH a u ea)⟩
        exact f2.wide fun a ha => k2.mem_iff.mpr ha
/-- the callee runs on a new instance -/
theorem run_makeS {C f : Addr} {fd : FuncData} {ps : List Str} {sp : Sp} {CX : CXT} {k : Nat} {E : XK} {pins : List (Addr × Obj)} {σ : L2.St} {s : Shared} {us : List Value} {vs : List V} (M : Mk X.K C f) (F : FnOk X.prog X.w X.K X.mg X.base CX k f fd ps sp) (hr : Room (k + 1) X.A) (hb : L2.Binds X.K fd ps [])
    (hx : PassesAt CX X σ E) (I : Inv X pins σ H s) (r : Vals vs us)
    (h : ∀ x dx, H x = none → H dx = none → dx ≠ x → sp (.ref x :: vs) (upd (upd H dx (.own x)) x (.ins C dx [])) (fun v H2 => v = .non ∧ Q (.ref x) H2) E) :
    wpAny (model X.prog X.w) X.A (call (.ref C) us) (EP X pins σ Q) X.xe s := by
  have hq := h (s.heap.objs.size + 1) s.heap.objs.size (I.hok.fresh (Nat.le_succ _)) (I.hok.fresh (Nat.le_refl _)) (Nat.ne_of_lt (Nat.lt_succ_self _))
  have I2 := Inv.made (C := C) I
  have r2 : Vals (V.ref (s.heap.objs.size + 1) :: vs) (Value.ref (s.heap.objs.size + 1) :: us) := .cons rfl r
  have hl : (Value.ref (s.heap.objs.size + 1) :: us).length = ps.length := by
    have e := r2.length
    rw [F.len _ _ _ _ hq] at e
    exact e.symm
  have b := hb _ (Value.ref (s.heap.objs.size + 1) :: us) I2.kIn (by rw [List.append_nil]; exact hl)
  rw [List.append_nil] at b
  refine wpAny_call (make_map (f := f) I.kIn M.makes M.init (beq_iff_eq.mp M.fn) (codeAny_mono (F.run _ X.stack _ _ ⟨Value.ref (s.heap.objs.size + 1) :: us, []⟩ (Value.ref (s.heap.objs.size + 1) :: us) _ _ E (hr.make C us [])
    (I2.env0.make C us []) b r2 hq) fun r s' hq' => ?_))
  cases r with
  | error e => exact hx pins _ _ e s' I2 hq'
  | ok fl =>
    cases fl with
    | ret u =>
      obtain ⟨v, H', I3, rv, ev, q3⟩ := I2.after hq'
      subst ev
      exact ⟨rv, ⟨V.ref (s.heap.objs.size + 1), H', I3, rfl, q3⟩⟩
    | next => exact False.elim hq'
    | brk => exact False.elim hq'
    | cont => exact False.elim hq'
/-- what stands behind a class's name -/
structure ClS (G : Gc) (X : Cx) (nm : Str) (n : Nat) (m : Mean) : Prop where
  ex : ∃ (C f : Addr) (fd : FuncData) (ps : List Str) (k : Nat), G.cm nm = some C ∧ X.mg nm = some (.ref C) ∧ Mk X.K C f ∧ L2.Binds X.K fd ps [] ∧ FnOk X.prog X.w X.K X.mg X.base (L2.CX X.prog X.w) k f fd ps (spM G (n + 1) m) ∧ Room (k + 1) X.A
theorem sx_make {nm : Str} {m : Mean} {e : Expr} {es : List Expr} {p pos : Pos} {d : Den (List Od)} (F : ClS G X nm n m) (hl : ∀ env os env', d env = .ok os env' → os.length = n) (tk : Takes X U) (hg : Gl X nm) (ns : Nst e) (ha : PA X (e :: es) (tD G U (rOs G) d)) (hpl : (backTo pos (starEach es X.env)).any (·.1) = false)
    (hdb : (nm == ("__debug__" : Str)) = false) : PE X (.Call (.Name nm p) (e :: es) [] pos) (tD G U (rZ G) (cMk nm m d)) := by
  obtain ⟨C, f, fd, ps, k, h0, h1, h2, h3, h4, h5⟩ := F.ex
  refine ⟨fun pins s σ H Q I ⟨env, S, A, en, ok, o⟩ => ?_⟩
  refine wpAny_Call_Name_kw (ld_glob I hg h1 ?_ hdb)
  refine PySem.W.callWith_K (h₀ := X.base) I.ok.mod.kin h2.kp (thn (ha.run pos pins s σ H (fun vs H1 => ∀ x dx, H1 x = none → H1 dx = none → dx ≠ x → spM G (n + 1) m (.ref x :: vs) (upd (upd H1 dx (.own x)) x (.ins C dx [])) (fun v H2 => v = .non ∧ Q (.ref x) H2) fun cls d H' => U cls d σ H') I
    ⟨env, S, A, en, ok, (Out.bind (rel := rOs G) (fun h => h.2) o).mono fun vs H1 ⟨os, env1, S1, A1, e1, en1, ok1, ⟨r1, _⟩, f1, o2⟩ => make_out h0 (hl _ _ _ e1) en1 ok1 r1 o2⟩) fun us s1 ⟨vs, H1, I1, r, q⟩ => ⟨I1.kIn, ?_⟩) (ns _ _) hpl
  exact run_makeS h2 h4 h5 h3 (passAt tk σ) I1 r q

/-! ### o.f = v -/
theorem rpf_put {fs : List (Str × W)} {vs : List (Str × V)} {f : Str} {w : W} {v : V} (h : Rpf G S H fs vs) (r : Rp G S H w v) : Rpf G S H (putFW f w fs) (putF f v vs) := by
  induction fs generalizing vs with
  | nil =>
    unfold Rpf at h
    subst h
    unfold putFW putF Rpf
    exact ⟨v, [], rfl, r, by unfold Rpf; rfl⟩
  | cons p fs ih =>
    obtain ⟨g, x⟩ := p
    unfold Rpf at h
    obtain ⟨y, rr, rfl, h1, h2⟩ := h
    unfold putFW putF
    by_cases e : g = f
    · rw [if_pos e, if_pos e]
      unfold Rpf
      exact ⟨v, rr, by first | rfl | rw [e], r, h2⟩
    · rw [if_neg e, if_neg e]
      unfold Rpf
      exact ⟨y, _, rfl, h1, ih h2⟩
theorem rpf_len : ∀ {fs : List (Str × W)} {vs : List (Str × V)}, Rpf G S H fs vs → vs.length = fs.length
  | [], vs, h => by unfold Rpf at h; rw [h]; rfl
  | (g, x) :: fs, vs, h => by
    unfold Rpf at h
    obtain ⟨y, rr, rfl, _, h2⟩ := h
    simp [rpf_len h2]
/-- the class's facts for all fields that are laid -/
theorem sk_setFld {K : List Nat} {i : Nat} {f : Str} {o e : Expr} {pos pos' : Pos} {d : Den Z} {cs : List Str} (hF : FldOk G X.K cs f) (ho : PE X o (tVar i)) (he : PE X e (tD G U (rZ G) d)) (hs : swapsWith e (some (.Attribute o f pos')) pos.line X.env = pure false) :
    PS X (.Assign [.Attribute o f pos'] e pos) (tS G U K (kSetFld cs i f d)) := (ps_fld ho (pe_fz he) hs).imp fun D σ H ⟨env, S, A, en, ok, o⟩ => by
  refine ⟨env, S, A, en, ok, ?_⟩
  have o2 : OutS G U K σ S H A (SR.of ((cFz d env).bind fun w env => match gets env i with
    | some (.obj c fs) => if cs.contains c && decide (fs.length < 1000) then .ok (.nx (env.set i (some (.obj c (putFW f w fs))))) env else .bad
    | _ => .bad)) D := by
    have e : SR.of ((cFz d env).bind fun w env => match gets env i with
      | some (.obj c fs) => if cs.contains c && decide (fs.length < 1000) then .ok (.nx (env.set i (some (.obj c (putFW f w fs))))) env else .bad
      | _ => .bad) = kSetFld cs i f d env := by
      unfold cFz kSetFld
      cases d env <;> rfl
    rw [e]; exact o
  refine (of_bind (rel := rW G) (fun h => h.2) o2).mono fun y H1 ⟨w, env1, S1, A1, _, en1, ok1, ⟨r1, _⟩, f1, o3⟩ => ?_
  cases e1 : gets env1 i with
  | none => rw [e1] at o3; exact o3.elim
  | some z =>
    rw [e1] at o3
    cases z with
    | obj c fs =>
      dsimp only at o3
      by_cases hl : (cs.contains c && decide (fs.length < 1000)) = true
      · rw [if_pos hl] at o3
        obtain ⟨hlc, hl⟩ := Bool.and_eq_true_iff.mp hl
        obtain ⟨v, B, R, hs, rz, pm, er⟩ := en1.gets e1
        obtain ⟨a, C, dx, vs, rfl, hcm, h1, h2, rfl⟩ := rz
        obtain ⟨k1, k2⟩ := hF c C hlc hcm
        have hp : a ∈ A1 := pm.mem_iff.mpr (by simp)
        have ok2 := ok1.perm pm.symm
        have f2 : Fr S1 H1 A1 S1 (upd H1 a (.ins C dx (putF f y vs))) A1 := Fr.mutate hp ok1
        have ok3 : Ok S1 (upd H1 a (.ins C dx (putF f y vs))) A1 := Ok.mutate hp ok1 trivial
        have er2 : EnvR G S1 (upd H1 a (.ins C dx (putF f y vs))) (env1.set i none) σ R := er.mono (f2.kp ok1) f2.up fun b hb u eu => by
          have ne : b ≠ a := fun z => ok2.dis (A := [a]) (B := R) (by simp) (z ▸ hb)
          rw [upd_ne ne]; exact eu
        have hrp : Rpf G S1 (upd H1 a (.ins C dx (putF f y vs))) (putFW f w fs) (putF f y vs) := Rpf.mono (f2.kp ok1) f2.up (rpf_put h2 r1)
        obtain ⟨A', j1, j2⟩ := er2.put' (z := .obj c (putFW f w fs)) (B := [a]) (gets_lt e1) hs ⟨a, C, dx, _, rfl, hcm, upd_same, hrp, rfl⟩
        have pA : A'.Perm A1 := j2.trans pm.symm
        refine ⟨.ref a, hs, a, C, dx, vs, rfl, h1, k1, k2, by rw [rpf_len h2]; exact of_decide_eq_true hl, ?_⟩
        exact o3 σ _ S1 A' Agr.refl j1 (ok3.perm pA) (f2.less fun b hb => pA.mem_iff.mp hb)
      · rw [if_neg hl] at o3; exact o3.elim
    | _ => exact o3.elim
end
end Cb

end
section
set_option maxRecDepth 100000
set_option maxHeartbeats 4000000
/-! enumerate(tuple) -/
namespace Cb
open PySem PySem.Spec PyProof.Rows L2
theorem meets_enT {v : Value} {o : Obj} {H : Heap → Prop} (B : Begins v o H) :
    Meets (Builtin.«enumerate.__new__» ⟨[.type "enumerate", v], []⟩) (fun _ R s => H s.heap ∧
      R (.ok (.ret (.ref (s.heap.push o).objs.size))) { s with heap := (s.heap.push o).push { cls := .type "enumerate", data := .fields #[.none, .bool false, .ref s.heap.objs.size, rawInt 0, .none, .none] } }) :=
  .of_wp fun prog w A R s h => by
    obtain ⟨hp, g, d, tk, os⟩ := s; obtain ⟨h1, h⟩ := h
    have hsub := sub_enumerate
    have q1 : ∀ {A' : Around} {E : Value → Shared → Prop} {Q : Value → Shared → Prop}, Q (.ref hp.objs.size) ⟨hp.push o, g, d, tk, os⟩ → wpAny (model prog w) A' (pyIter v) Q E ⟨hp, g, d, tk, os⟩ :=
      fun q => B.iter prog w _ _ ⟨hp, g, d, tk, os⟩ _ h1 q
    wp_walk using q1
    refine wpAny_stack_any fun st => wpAny_pure ?_
    split
    · rename_i c _ _ _ _ _
      cases (c == Value.type "enumerate")
      · wp_walk using q1
        exact ⟨_, rfl, h⟩
      · wp_walk using q1
        exact ⟨_, rfl, h⟩
    · wp_walk using q1
      exact ⟨_, rfl, h⟩
section
variable {prog : Program} {w : World} {A : Around} {E : Value → Shared → Prop} {s : Shared}
theorem call_enT {v : Value} {o : Obj} {H : Heap → Prop} {Q : Value → Shared → Prop} (B : Begins v o H) (h1 : H s.heap)
    (h : ∀ h', IsEnum h' (s.heap.objs.size + 1) s.heap.objs.size 0 .none → h'.get? s.heap.objs.size = some o → h'.objs.size = s.heap.objs.size + 2 →
      (∀ b o, s.heap.get? b = some o → h'.get? b = some o) → Q (.ref (s.heap.objs.size + 1)) { s with heap := h' }) :
    wpAny (model prog w) A (call (.type "enumerate") [v]) Q E s := by
  refine callType_new F.called_enumerate (by decide) (F.typeCall_enumerate_1 _) (F.newCall_enumerate_1 _) (fun obj => F.args_object_init_2 obj _) F.entry_enumerate_new
    (meets_enT B) ⟨h1, ?_⟩
  have hz : (s.heap.push o).objs.size = s.heap.objs.size + 1 := Heap.size_push ..
  show _ ∧ _
  rw [hz]
  have he : IsEnum ((s.heap.push o).push { cls := .type "enumerate", data := .fields #[.none, .bool false, .ref s.heap.objs.size, rawInt 0, .none, .none] }) (s.heap.objs.size + 1) s.heap.objs.size 0 .none := by
    have := Heap.get?_push_size (s.heap.push o) (o := { cls := .type "enumerate", data := .fields #[.none, .bool false, .ref s.heap.objs.size, rawInt 0, .none, .none] }) rfl
    rw [hz] at this; exact this
  refine ⟨⟨_, he, rfl⟩, h _ he (Heap.get?_push_of_some _ (Heap.get?_push_size _ B.free)) (by rw [Heap.size_push, hz]) fun b o x => Heap.get?_push_of_some _ (Heap.get?_push_of_some _ x)⟩
end
/-- the tuple at a, of the items xs, each item in a new pair -/
def IteT (K : PySem.W.Frag) (a : Addr) (xs : List V) : It :=
  ⟨fun i H => SqT K H a xs ∧ i < xs.length, fun i H v H' => ∃ T x, v = .ref T ∧ H T = none ∧ H' = upd H T (.tup [.int (i : Nat), x]) ∧ xs[i]? = some x, fun i H => SqT K H a xs ∧ i = xs.length⟩
theorem turn_enT {P : Program} {w : World} {K : PySem.W.Frag} {elts : List Expr} {kk : Nat} {tpos : Pos} (a e it : Addr) (xs : List V) :
    Turn P w K (.Tuple elts kk tpos) (IteT K a xs) [e, it] e (fun i h => (∃ old, IsEnum h e it ((i : Nat) : Int) old) ∧ h.IsTupleIter it a i ∧ e ≠ it) where
  mem := by simp
  obj := fun i h st b hb => by
    obtain ⟨⟨old, he⟩, ⟨o, ho, hc, hd⟩, _⟩ := st
    have e' : b = e ∨ b = it := by simpa using hb
    rcases e' with z | z
    · rw [z]; exact ⟨_, he, fun v q => nomatch q⟩
    · rw [z]; exact ⟨o, ho, fun v q => by rw [hd] at q; cases q⟩
  keep := fun i h h' st k => by
    obtain ⟨⟨old, he⟩, ⟨o, ho, hc, hd⟩, hne⟩ := st
    exact ⟨⟨old, k e (by simp) _ he⟩, ⟨o, k it (by simp) _ ho, hc, hd⟩, hne⟩
  item := by
    intro X hP hw hK hc i pins s σ H E I hf st hg
    subst hP hw hK
    obtain ⟨⟨old, he⟩, hit, hne⟩ := st
    obtain ⟨hq, hi⟩ := hg
    obtain ⟨its, rv, p, hz⟩ := I.tuple hq
    have hlen := rv.length
    have hel : e < s.heap.objs.size := Heap.lt_size he
    have hil : it < s.heap.objs.size := by obtain ⟨_, q, _⟩ := hit; exact Heap.lt_size q
    have hat : a ≠ it := fun z => by
      obtain ⟨o, ho, hc', _⟩ := hit
      obtain ⟨o2, ho2, hc2, _⟩ := p
      rw [z, ho] at ho2
      cases ho2
      rw [hc'] at hc2
      exact absurd hc2 (by decide)
    have hae : a ≠ e := fun z => by
      obtain ⟨o2, ho2, hc2, _⟩ := p
      rw [z, he] at ho2
      cases ho2
      exact absurd (show Value.type "enumerate" = Value.type "tuple" from hc2) (by decide)
    refine wpAny_pyNext_enum_itemD (Draws.tuple (A := X.A.in1) (by simp [I.ok.hd hc]) it a hat its.toArray) he ⟨hit, p⟩ (by simp; omega) hne (by simp [Ne.symm hae, hne]) fun u h' tk hu ho st' hT hsz hk => ?_
    obtain ⟨x, hx, ru⟩ : ∃ x, xs[i]? = some x ∧ RelV x u := by
      have hxi : xs[i]? = some xs[i] := List.getElem?_eq_getElem hi
      obtain ⟨u', hu', ru'⟩ := rv.get hxi
      have e1 : its[i]? = some u := by simpa using hu
      rw [hu'] at e1
      cases e1
      exact ⟨_, hxi, ru'⟩
    refine ⟨_, rfl, wpAny_letOwnedTupleGo_enum (s := { s with heap := h', toks := tk + 1 }) ho fun h'' he' sb => ?_⟩
    have hT2 : h''.get? s.heap.objs.size = some { cls := .type "tuple", data := .seq #[.int i tk, u] } := (sb.2 _ (Nat.ne_of_gt hel)).trans hT
    have new : ObjOk X.prog X.w (upd H s.heap.objs.size (.tup [.int (i : Nat), x])) h'' s.heap.objs.size (.tup [.int (i : Nat), x]) :=
      ⟨by show 2 ≤ sizeLine; decide, [.int i tk, u], .cons ⟨_, rfl⟩ (.cons ru .nil), ⟨_, hT2, rfl, _, rfl⟩⟩
    have I1 : Inv X pins σ (upd H s.heap.objs.size (.tup [.int (i : Nat), x])) { s with heap := h'', toks := tk + 1 } :=
      I.turnedNew (ch := [e, it]) (fun b ob hb q => (sb.2 b (fun z => hb (by simp [z]))).trans (hk b ob (fun z => hb (by simp [z])) (fun z => hb (by simp [z])) q)) hf (Nat.le_refl _) new
    obtain ⟨⟨oi, hoi, hci, hdi⟩, _⟩ := st'
    refine ⟨.ref s.heap.objs.size, _, I1, rfl, ⟨_, x, rfl, I.hok.fresh (Nat.le_refl _), rfl, hx⟩, ⟨⟨u, ?_⟩, ⟨oi, (sb.2 it (Ne.symm hne)).trans hoi, hci, hdi⟩, hne⟩, fun b hb => ?_⟩
    · have e1 : ((i + 1 : Nat) : Int) = (i : Int) + 1 := by omega
      rw [e1]; exact he'
    · have hb' : b < s.heap.objs.size := by
        have e' : b = e ∨ b = it := by simpa using hb
        rcases e' with z | z
        · rw [z]; exact hel
        · rw [z]; exact hil
      rw [upd_ne (Nat.ne_of_lt hb')]
      exact (hf b hb).1
  done := by
    intro X hP hw hK hc i pins s σ H E I hf st hg
    subst hP hw hK
    obtain ⟨⟨old, he⟩, hit, hne⟩ := st
    obtain ⟨hq, hx⟩ := hg
    obtain ⟨its, rv, p, hz⟩ := I.tuple hq
    obtain ⟨f0, f1, f2, f3, f4, f5⟩ := hf it (by simp)
    have hl := rv.length
    have hat : a ≠ it := fun z => by
      obtain ⟨o, ho, hc', _⟩ := hit
      obtain ⟨o2, ho2, hc2, _⟩ := p
      rw [z, ho] at ho2
      cases ho2
      rw [hc'] at hc2
      exact absurd hc2 (by decide)
    have hD := Draws.tuple (prog := X.prog) (w := X.w) (A := X.A.in1) (by simp [I.ok.hd hc]) it a hat its.toArray
    refine wpAny_pyNext_enum_endD hD he (by
      have e : its.toArray.size = i := by simp; omega
      rw [e]
      exact ⟨hit, p⟩) fun h' eb => ⟨rfl, I.turned (t' := s.toks) (fun b o hb q => eb b o hb q) f0 f1 f3 f4 f5⟩
  self := fun A i s Q E st h => let ⟨⟨_, he⟩, _⟩ := st; wpAny_pyIter_enum he h
def iEnT (K : PySem.W.Frag) (ta : TA) : TI := fun σ H R => ta σ H fun vs H1 => ∃ a xs, vs = [.ref a] ∧ SqT K H1 a xs ∧ R (IteT K a xs) H1
theorem pi_enT0 {X : Cx} {e : Expr} {ta : TA} {p pos tpos : Pos} {elts : List Expr} {kk : Nat} (hg : Gl X "enumerate") (hm : X.mg "enumerate" = none) (ha : PA X [e] ta) (hs : starEach [e] X.env = [(false, eval e X.env)]) :
    PI X (.Tuple elts kk tpos) (.Call (.Name "enumerate" p) [e] [] pos) (iEnT X.K ta) := by
  refine ⟨fun pins s σ H R I h => ?_⟩
  refine Call_ (ld_blt I hg hm boot_enumerate (PyProof.Rows.callWith_type1 (thn (ha.run pos pins s σ H _ I h) fun us s1 ⟨vs, H1, I1, r1, q1⟩ => ?_) hs rfl))
  obtain ⟨a, xs, ex, hq, q⟩ := q1
  subst ex
  cases r1 with
  | cons r rr =>
    cases rr
    cases r
    obtain ⟨its, rv, p', hz⟩ := I1.tuple hq
    refine call_enT (begins_tuple a its.toArray) p' fun h' he hit hsz hk => wpAny_pyIter_enum he ?_
    have I2 : Inv X pins σ H1 { s1 with heap := h' } := I1.kept (t' := s1.toks) hk
    refine ⟨s1.heap.objs.size + 1, [s1.heap.objs.size + 1, s1.heap.objs.size], _, _, H1, rfl, I2, turn_enT a (s1.heap.objs.size + 1) s1.heap.objs.size xs, ⟨⟨.none, he⟩, ⟨_, hit, rfl, rfl⟩, Nat.succ_ne_self _⟩, fun b hb => ?_, q⟩
    have e' : b = s1.heap.objs.size + 1 ∨ b = s1.heap.objs.size := by simpa using hb
    have hle : s1.heap.objs.size ≤ b := by
      rcases e' with z | z
      · rw [z]; exact Nat.le_add_right _ _
      · rw [z]; exact Nat.le_refl _
    exact I1.fpOk hle (I1.hok.fresh hle)
section
variable [Tb] {G : Gc} {U : L2.WX} {X : Cx}
theorem it_enT {S : AS} {H : Hp} {a : Addr} {ws : List W} {vs : List V} (f : SqT G.K H a vs) (r : Rps G S H ws vs) : ItOk G S H (IteT G.K a vs) (ws.zipIdx.map fun p => .tup [.int (p.2 : Int), p.1]) := fun i S' H' kp up => by
  have hq : SqT G.K H' a vs := kp.sqT f
  have r' := r.mono kp up
  refine ⟨fun w e => ?_, fun e0 => ⟨hq, by rw [r'.length]; simpa using e0⟩⟩
  obtain ⟨x, ex, rfl⟩ := zipIdx_at e
  obtain ⟨y, hy, ry⟩ := r'.get ex
  refine ⟨⟨hq, (List.getElem?_eq_some_iff.mp hy).1⟩, fun v H2 ⟨T, z, ev, hT, eH, hz⟩ => ?_⟩
  subst ev eH
  exact ⟨keep_new hT, rp_new hT (.cons (rp_int _ _ _) (.one (rps_at r' ex hz)))⟩
theorem itW_enT {ws items : List W} (h : itW .enT ws = some items) : ∃ a, ws = [.tup a] ∧ items = a.zipIdx.map fun p => .tup [.int (p.2 : Int), p.1] := by
  unfold itW at h
  split at h <;> first | cases h | skip
  all_goals simp_all
theorem pi_enT {e : Expr} {d : Den (List W)} {p pos tpos : Pos} {elts : List Expr} {kk : Nat} (hG : G.K = X.K) (hg : Gl X "enumerate") (hm : X.mg "enumerate" = none) (ns : Nst e) (ha : PA X [e] (tD G U (rWs G) d)) :
    PI X (.Tuple elts kk tpos) (.Call (.Name "enumerate" p) [e] [] pos) (tD G U (rIt G) (cIt .enT d)) :=
  (pi_enT0 hg hm ha (ns [] X.env)).imp fun σ H Q ⟨env, S, A, en, ok, o⟩ => by
    refine ⟨env, S, A, en, ok, (it_bind o).mono fun vs H1 ⟨ws, items, S1, r1, e, q⟩ => ?_⟩
    obtain ⟨a, rfl, rfl⟩ := itW_enT e
    obtain ⟨v, rfl, h1⟩ := rps1 r1
    unfold Rp at h1
    obtain ⟨b, vs, rfl, h2, h3⟩ := h1
    refine ⟨b, vs, rfl, hG ▸ h2, ?_⟩
    rw [← hG]
    exact q _ (it_enT h2 h3)
end
end Cb

end
section
set_option maxRecDepth 100000
set_option maxHeartbeats 4000000
/-! tests; short forms for printed walks -/
namespace Cb
open PySem PySem.Spec PyProof.Rows L2
section
variable [Tb] {G : Gc} {U : L2.WX} {X : Cx} {K : List Nat}
theorem op2_in {p : Pr} {r : R2} (hp : PrOk G (fun vs H Q => ∃ x y, vs = [x, y] ∧ r x y H Q) (prW p)) {da db : Den Od} (σ : L2.St) (H : Hp) (Q : VK) (h : tD G U (rZ G) (cPr p (cConsO da (cConsO db cNil))) σ H Q) : tOp r (tD G U (rO G) da) (tD G U (rO G) db) σ H Q := by
  obtain ⟨env, S, A, en, ok, o⟩ := h
  refine ⟨env, S, A, en, ok, ?_⟩
  have o1 : Out G U σ S H A (rZ G) ((da env).bind fun a env => (db env).bind fun b env => primM p [a, b] env) Q := by
    have e : ((da env).bind fun a env => (db env).bind fun b env => primM p [a, b] env) = cPr p (cConsO da (cConsO db cNil)) env := by
      unfold cPr cConsO cNil
      cases da env with
      | ok a e1 => dsimp only [R.bind]; cases db e1 <;> rfl
      | _ => rfl
    rw [e]; exact o
  refine (Out.bind (rel := rO G) (fun h => h.2) o1).mono fun x H1 ⟨oa, env1, S1, A1, _, en1, ok1, ⟨r1, _⟩, f1, o2⟩ => ⟨env1, S1, A1, en1, ok1, ?_⟩
  refine (Out.bind (rel := rO G) (fun h => h.2) o2).mono fun y H2 ⟨ob, env2, S2, A2, _, en2, ok2, ⟨r2, _⟩, f2, o3⟩ => ?_
  obtain ⟨x', y', e, q⟩ := prim_out hp (ods := [oa, ob]) (vs := [x, y]) en2 ok2 ⟨x, [y], rfl, r1.mono f2 ok1, y, [], rfl, r2, rfl⟩ o3
  cases e
  exact q
theorem st_test {e : Expr} {t : TE} {d : Den Z} (h : PT X e (tTest t)) (i : ∀ σ H Q, tD G U (rZ G) d σ H Q → t σ H Q) : PT X e (tD G U rB (cT d)) := h.imp fun σ H Q ⟨env, S, A, en, ok, o⟩ => i σ H _ ⟨env, S, A, en, ok, cT_out o⟩
/-- a comparison of two operands: as a value, as a test -/
theorem sx_cmp {p : Pr} {r : R2} {op : CmpOp} (hp : PrOk G (two r) (prW p)) (ho : OpR X (compareOp op) r) {a b : Expr} {pos : Pos} {da db : Den Od} (ha : PE X a (tD G U (rO G) da)) (hb : PE X b (tD G U (rO G) db)) (hm : behindInMarks op b = false) :
    PE X (.Compare a [op] [b] pos) (tD G U (rZ G) (cPr p (cConsO da (cConsO db cNil)))) := (pe_cmpR ho ha hb hm).imp fun σ H Q h => op2_in hp σ H Q h
theorem st_cmp {p : Pr} {r : R2} {op : CmpOp} (hp : PrOk G (two r) (prW p)) (ho : OpR X (compareOp op) r) {a b : Expr} {pos : Pos} {da db : Den Od} (ha : PE X a (tD G U (rO G) da)) (hb : PE X b (tD G U (rO G) db)) (hm : behindInMarks op b = false) :
    PT X (.Compare a [op] [b] pos) (tD G U rB (cT (cPr p (cConsO da (cConsO db cNil))))) := st_test (pt_cmpR ho ha hb hm) fun σ H Q h => op2_in hp σ H Q h
/-- an operator -/
theorem sx_op {p : Pr} {r : R2} {op : Operator} (hp : PrOk G (two r) (prW p)) (ho : OpR X (binaryOp op) r) {a b : Expr} {pos : Pos} {da db : Den Od} (ha : PE X a (tD G U (rO G) da)) (hb : PE X b (tD G U (rO G) db)) :
    PE X (.BinOp a op b pos) (tD G U (rZ G) (cPr p (cConsO da (cConsO db cNil)))) := (pe_op ho ha hb).imp fun σ H Q h => op2_in hp σ H Q h
/-- a[b] -/
theorem sx_ix {a b : Expr} {pos : Pos} {da db : Den Od} (hG : G.K = X.K) (hu : X.A.units + 1 < cLine) (ha : PE X a (tD G U (rO G) da)) (hb : PE X b (tD G U (rO G) db)) (hs : PlainIx b) :
    PE X (.Subscript a b pos) (tD G U (rZ G) (cPr .ix (cConsO da (cConsO db cNil)))) := (pe_ix (ix_3 hu) ha hb hs).imp fun σ H Q h => op2_in (pk_ix hG) σ H Q h
/-! a <= b <= c -/
def asI : Z → Option Int
  | .w (.int i) => some i
  | _ => none
def cLe (i : Int) (d : Den Z) : Den Z := fun env => (d env).bind fun z env => match asI z with
  | some j => .ok (.w (.bl (decide (i ≤ j)))) env
  | none => .bad
def cCh (da db dc : Den Z) : Den Z := fun env => (da env).bind fun x env => (db env).bind fun y env => match asI x, asI y with
  | some i, some j => if i ≤ j then cLe j dc env else .ok (.w (.bl false)) env
  | _, _ => .bad
theorem asI_int {S : AS} {H : Hp} {z : Z} {v : V} {B : List Addr} {i : Int} (h : asI z = some i) (r : RZ G S H z v B) : v = .int i ∧ B = [] ∧ z = .w (.int i) := by
  cases z with
  | w x =>
    cases x with
    | int c =>
      obtain ⟨r, rfl⟩ := r
      unfold Rp at r
      obtain rfl : c = i := Option.some.inj h
      exact ⟨r, rfl, rfl⟩
    | _ => cases h
  | _ => cases h
theorem ch_in {da db dc : Den Z} (σ : L2.St) (H : Hp) (Q : VK) (h : tD G U (rZ G) (cCh da db dc) σ H Q) :
    tChain (rI0 fun i j => .bl (decide (i ≤ j))) (rI0 fun i j => .bl (decide (i ≤ j))) (tD G U (rW G) (cFz da)) (tD G U (rW G) (cFz db)) (tD G U (rW G) (cFz dc)) σ H Q := by
  obtain ⟨env, S, A, en, ok, o⟩ := h
  refine ⟨env, S, A, en, ok, ?_⟩
  have e0 : cCh da db dc env = (cFz da env).bind fun x env => (cFz db env).bind fun y env => match x, y with
      | .int i, .int j => if i ≤ j then (cFz dc env).bind fun z env => (match z with | .int k => .ok (.w (.bl (decide (j ≤ k)))) env | _ => .bad) else .ok (.w (.bl false)) env
      | _, _ => .bad := by
    unfold cCh cFz cLe
    cases da env with
    | ok x e1 =>
      dsimp only [R.bind]
      cases db e1 with
      | ok y e2 =>
        dsimp only [R.bind]
        cases x with
        | w x =>
          cases x with
          | int i =>
            cases y with
            | w y =>
              cases y with
              | int j =>
                dsimp only [asI, frz]
                split
                · cases dc e2 with
                  | ok z e3 =>
                    dsimp only [R.bind]
                    cases z with
                    | w z => cases z <;> rfl
                    | _ => rfl
                  | _ => rfl
                · rfl
              | _ => rfl
            | _ => rfl
          | _ => rfl
        | _ => rfl
      | _ => rfl
    | _ => rfl
  rw [e0] at o
  refine (Out.bind (rel := rW G) (fun h => h.2) o).mono fun x H1 ⟨a, env1, S1, A1, _, en1, ok1, ⟨r1, _⟩, f1, o2⟩ => ⟨env1, S1, A1, en1, ok1, ?_⟩
  refine (Out.bind (rel := rW G) (fun h => h.2) o2).mono fun y H2 ⟨b, env2, S2, A2, _, en2, ok2, ⟨r2, _⟩, f2, o3⟩ => ?_
  cases a with
  | int i =>
    cases b with
    | int j =>
      unfold Rp at r1 r2
      subst r1 r2
      refine ⟨i, j, rfl, rfl, decide (i ≤ j), rfl, ?_⟩
      dsimp only at o3
      by_cases hij : i ≤ j
      · rw [if_pos hij] at o3
        rw [decide_eq_true hij, if_pos rfl]
        refine ⟨env2, S2, A2, en2, ok2, (Out.bind (rel := rW G) (fun h => h.2) o3).mono fun z H3 ⟨c, env3, S3, A3, _, en3, ok3, ⟨r3, _⟩, f3, o4⟩ => ?_⟩
        cases c with
        | int k =>
          unfold Rp at r3
          subst r3
          exact ⟨j, k, rfl, rfl, o4 _ H3 S3 A3 [] en3 ⟨rp_bl _ _ _, rfl⟩ ok3 (Fr.refl ok3)⟩
        | _ => exact o4.elim
      · rw [if_neg hij] at o3
        rw [decide_eq_false hij, if_neg Bool.false_ne_true]
        exact o3 _ H2 S2 A2 [] en2 ⟨rp_bl _ _ _, rfl⟩ ok2 (Fr.refl ok2)
    | _ => exact o3.elim
  | _ => exact o3.elim
theorem sx_ch {a b c : Expr} {pos : Pos} {da db dc : Den Z} (ha : PE X a (tD G U (rZ G) da)) (hb : PE X b (tD G U (rZ G) db)) (hc : PE X c (tD G U (rZ G) dc)) (hm : lastMarks [.LtE, .LtE] [b, c] = false) :
    PE X (.Compare a [.LtE, .LtE] [b, c] pos) (tD G U (rZ G) (cCh da db dc)) := (pe_chain op_le op_le (pe_fz ha) (pe_fz hb) (pe_fz hc) hm).imp ch_in
theorem st_ch {a b c : Expr} {pos : Pos} {da db dc : Den Z} (ha : PE X a (tD G U (rZ G) da)) (hb : PE X b (tD G U (rZ G) db)) (hc : PE X c (tD G U (rZ G) dc)) (hm : lastMarks [.LtE, .LtE] [b, c] = false) :
    PT X (.Compare a [.LtE, .LtE] [b, c] pos) (tD G U rB (cT (cCh da db dc))) := st_test (pt_chain op_le op_le (pe_fz ha) (pe_fz hb) (pe_fz hc) hm) ch_in

/-! ### short forms -/
def kNx : DenS := fun env => .nx env
def kBad : DenS := fun _ => .bad
def kRetN : DenS := fun env => .rt (.w .non) env
def kBk : DenS := fun env => .bk env
def kCt : DenS := fun env => .ct env
theorem q_nil : PSs X [] (tS G U K kNx) := ss_nil
theorem q_bad {st : Stmt} : PS X st (tS G U K kBad) := sk_never
theorem q_retN {pos : Pos} : PS X (.Return none pos) (tS G U K kRetN) := sk_retN
theorem q_bk {pos : Pos} : PS X (.Break pos) (tS G U K kBk) := sk_bk
theorem q_ct {pos : Pos} : PS X (.Continue pos) (tS G U K kCt) := sk_ct
theorem q_int {i : Int} {j pos} : PE X (.Constant (.int i) j pos) (tD G U (rZ G) (cC (.int i))) := sx_c pe_int fun _ _ => rp_int _ _ _
theorem q_str {i : Str} {j pos} : PE X (.Constant (.str i) j pos) (tD G U (rZ G) (cC (.str i))) := sx_c pe_str fun _ _ => rp_str _ _ _
theorem q_bl {b : Bool} {j pos} : PE X (.Constant (.bool b) j pos) (tD G U (rZ G) (cC (.bl b))) := sx_c pe_bl fun _ _ => rp_bl _ _ _
theorem q_non {j pos} : PE X (.Constant .none j pos) (tD G U (rZ G) (cC .non)) := sx_c pe_non fun _ _ => rp_non _ _
/-- a global that holds an int -/
theorem q_gint {x : Str} {i : Int} {pos : Pos} {u : Value} (hg : Gl X x) (hm : X.mg x = some u) (r : RelV (.int i) u) (hd : (x == ("__debug__" : Str)) = false) : PE X (.Name x pos) (tD G U (rZ G) (cC (.int i))) := sx_c (pe_glob hg hm r hd) fun _ _ => rp_int _ _ _
theorem q_len {e : Expr} {p pos : Pos} {d : Den Od} (hG : G.K = X.K) (hg : Gl X "len") (hm : X.mg "len" = none) (ns : Nst e) (he : PE X e (tD G U (rO G) d)) : PE X (.Call (.Name "len" p) [e] [] pos) (tD G U (rZ G) (cPr .len (cConsO d cNil))) :=
  sx_prA (pk_len hG) (pa_csO ns he pa_nlO) fun t ht => pe_callB call_len2 hg hm rfl ht (he := ns _ _) (hpl := rfl)
theorem q_all {e : Expr} {p pos : Pos} {d : Den Od} (hG : G.K = X.K) (hc : X.calm = true) (hg : Gl X "all") (hm : X.mg "all" = none) (ns : Nst e) (he : PE X e (tD G U (rO G) d)) : PE X (.Call (.Name "all" p) [e] [] pos) (tD G U (rZ G) (cPr .all (cConsO d cNil))) :=
  sx_prA (pk_all hG) (pa_csO ns he pa_nlO) fun t ht => pe_callB (cr_all hc) hg hm rfl ht (he := ns _ _) (hpl := rfl)
theorem q_any {e : Expr} {p pos : Pos} {d : Den Od} (hG : G.K = X.K) (hc : X.calm = true) (hg : Gl X "any") (hm : X.mg "any" = none) (ns : Nst e) (he : PE X e (tD G U (rO G) d)) : PE X (.Call (.Name "any" p) [e] [] pos) (tD G U (rZ G) (cPr .any (cConsO d cNil))) :=
  sx_prA (pk_any hG) (pa_csO ns he pa_nlO) fun t ht => pe_callB (cr_any hc) hg hm rfl ht (he := ns _ _) (hpl := rfl)
theorem q_abs {e : Expr} {p pos : Pos} {d : Den Od} (hg : Gl X "abs") (hm : X.mg "abs" = none) (ns : Nst e) (he : PE X e (tD G U (rO G) d)) : PE X (.Call (.Name "abs" p) [e] [] pos) (tD G U (rZ G) (cPr .abs (cConsO d cNil))) :=
  sx_prA pk_abs (pa_csO ns he pa_nlO) fun t ht => pe_callB call_abs hg hm rfl ht (he := ns _ _) (hpl := rfl)
theorem q_intC {e : Expr} {p pos : Pos} {d : Den Od} (hg : Gl X "int") (hm : X.mg "int" = none) (ns : Nst e) (he : PE X e (tD G U (rO G) d)) : PE X (.Call (.Name "int" p) [e] [] pos) (tD G U (rZ G) (cPr .int (cConsO d cNil))) :=
  sx_prA pk_int (pa_csO ns he pa_nlO) fun t ht => pe_callTy call_int1 hg hm rfl ht (he := ns _ _) (hpl := rfl)
theorem q_sum {e : Expr} {p pos : Pos} {d : Den Od} (hG : G.K = X.K) (hc : X.calm = true) (hg : Gl X "sum") (hm : X.mg "sum" = none) (ns : Nst e) (he : PE X e (tD G U (rO G) d)) : PE X (.Call (.Name "sum" p) [e] [] pos) (tD G U (rZ G) (cPr .sum (cConsO d cNil))) :=
  sx_prA (pk_sum hG) (pa_csO ns he pa_nlO) fun t ht => pe_callB (cr_sum hc) hg hm rfl ht (he := ns _ _) (hpl := rfl)
theorem q_list {e : Expr} {p pos : Pos} {d : Den Od} (hG : G.K = X.K) (hg : Gl X "list") (hm : X.mg "list" = none) (ns : Nst e) (he : PE X e (tD G U (rO G) d)) : PE X (.Call (.Name "list" p) [e] [] pos) (tD G U (rZ G) (cPr .list (cConsO d cNil))) :=
  sx_prA (pk_list hG) (pa_csO ns he pa_nlO) fun t ht => pe_callTy call_list_of hg hm rfl ht (he := ns _ _) (hpl := rfl)
theorem q_tuple {e : Expr} {p pos : Pos} {d : Den Od} (hG : G.K = X.K) (hg : Gl X "tuple") (hm : X.mg "tuple" = none) (ns : Nst e) (he : PE X e (tD G U (rO G) d)) : PE X (.Call (.Name "tuple" p) [e] [] pos) (tD G U (rZ G) (cPr .tuple (cConsO d cNil))) :=
  sx_prA (pk_tuple hG) (pa_csO ns he pa_nlO) fun t ht => pe_callTy call_tuple_of hg hm rfl ht (he := ns _ _) (hpl := rfl)
theorem q_sorted {e : Expr} {p pos : Pos} {d : Den Od} (hG : G.K = X.K) (hu : X.A.units + 65 < cLine) (hg : Gl X "sorted") (hm : X.mg "sorted" = none) (ns : Nst e) (he : PE X e (tD G U (rO G) d)) : PE X (.Call (.Name "sorted" p) [e] [] pos) (tD G U (rZ G) (cPr .sorted (cConsO d cNil))) :=
  sx_prA (pk_sorted hG) (pa_csO ns he pa_nlO) fun t ht => pe_callB (cr_sortD hu) hg hm rfl ht (he := ns _ _) (hpl := rfl)
end
end Cb

end
section
set_option maxRecDepth 100000
set_option maxHeartbeats 4000000
/-! slices; callees; what every body takes -/
namespace Cb
open PySem PySem.Spec PyProof.Rows L2
/-! ### slices -/
def rOI : Rel (Option Int) (Option Int) := fun _ _ _ a b B => a = b ∧ B = []
def cNoP : Den (Option Int) := fun env => .ok none env
def cP (d : Den Z) : Den (Option Int) := fun env => (d env).bind fun z env => match asI z with
  | some i => .ok (some i) env
  | none => .bad
def cSl (de : Den Od) (dl dh : Den (Option Int)) : Den Z := fun env => (de env).bind fun o env => (dl env).bind fun l env => (dh env).bind fun h env => primM (.sl l h) [o] env
section
variable [Tb] {G : Gc} {U : L2.WX} {X : Cx} {K : List Nat}
theorem po_no : PO X none (tD G U rOI cNoP) := ⟨fun pins s σ H Q I ⟨env, S, A, en, ok, o⟩ => po_none.run pins s σ H Q I (o none H S A [] en ⟨rfl, rfl⟩ ok (Fr.refl ok))⟩
theorem po_so {e : Expr} {d : Den Z} (h : PE X e (tD G U (rZ G) d)) : PO X (some e) (tD G U rOI (cP d)) := ⟨fun pins s σ H Q I ⟨env, S, A, en, ok, o⟩ => by
  refine (po_some h).run pins s σ H Q I ⟨env, S, A, en, ok, ?_⟩
  unfold cP at o
  cases e1 : d env with
  | ok z env1 =>
    rw [e1] at o
    intro v H' S' A' B h1 h2 h3 h4
    have o2 : Out G U σ S H A rOI (match asI z with | some b => R.ok (some b) env1 | none => R.bad) Q := o
    cases q : asI z with
    | none => rw [q] at o2; exact o2.elim
    | some b =>
      rw [q] at o2
      obtain ⟨rfl, rfl, rfl⟩ := asI_int q h2
      exact ⟨b, rfl, o2 _ H' S' A' [] h1 ⟨rfl, rfl⟩ h3 h4⟩
  | ex x env1 => rw [e1] at o; exact o
  | bad => rw [e1] at o; exact o⟩
theorem sx_sl {e : Expr} {lo hi : Option Expr} {de : Den Od} {dl dh : Den (Option Int)} {pos p2 : Pos} (hG : G.K = X.K) (he : PE X e (tD G U (rO G) de)) (hl : PO X lo (tD G U rOI dl)) (hh : PO X hi (tD G U rOI dh)) :
    PE X (.Subscript e (.Slice lo hi none p2) pos) (tD G U (rZ G) (cSl de dl dh)) := (pe_slice sl_2 he hl hh).imp fun σ H Q ⟨env, S, A, en, ok, o⟩ => by
  refine ⟨env, S, A, en, ok, ?_⟩
  refine (Out.bind (rel := rO G) (fun h => h.2) o).mono fun x H1 ⟨oa, env1, S1, A1, _, en1, ok1, ⟨r1, _⟩, f1, o2⟩ => ⟨env1, S1, A1, en1, ok1, ?_⟩
  refine (Out.bind (rel := rOI) (fun h => h.2) o2).mono fun l H2 ⟨l', env2, S2, A2, _, en2, ok2, ⟨r2, _⟩, f2, o3⟩ => ⟨env2, S2, A2, en2, ok2, ?_⟩
  refine (Out.bind (rel := rOI) (fun h => h.2) o3).mono fun h H3 ⟨h', env3, S3, A3, _, en3, ok3, ⟨r3, _⟩, f3, o4⟩ => ?_
  subst r2 r3
  obtain ⟨x', e, q⟩ := prim_out (pk_sl hG l' h') (ods := [oa]) (vs := [x]) en3 ok3 ⟨x, [], rfl, (r1.mono f2 ok1).mono f3 ok2, rfl⟩ o4
  cases e
  exact q
/-! ### what every body takes -/
theorem takes_c {P : Program} {w : World} {K' : PySem.W.Frag} {mg : Str → Option Value} {base : Heap} {N : List Str} {qual : Str} {scope : Scope} {f : Addr} {cdv : Value} {A : Around} {outer : List PySem.Env} {s : Shared} {H : Hp} {E : XK} :
    Takes (cxOf (L2.CX P w) P w K' mg base N qual scope f cdv A outer s H E) (fun cls d _ H => E cls d H) := takes_of rfl rfl rfl rfl
theorem passes_c {P : Program} {w : World} {K' : PySem.W.Frag} {mg : Str → Option Value} {base : Heap} {N : List Str} {qual : Str} {scope : Scope} {f : Addr} {cdv : Value} {A : Around} {outer : List PySem.Env} {s : Shared} {H : Hp} {E : XK} :
    PassesOwn (model (cxOf (L2.CX P w) P w K' mg base N qual scope f cdv A outer s H E).prog (cxOf (L2.CX P w) P w K' mg base N qual scope f cdv A outer s H E).w) (cxOf (L2.CX P w) P w K' mg base N qual scope f cdv A outer s H E).A (cxOf (L2.CX P w) P w K' mg base N qual scope f cdv A outer s H E).env (cxOf (L2.CX P w) P w K' mg base N qual scope f cdv A outer s H E).xe := passes_of rfl
theorem takes_b {X : Cx} : Takes X UF := fun _ _ ⟨_, _, _, _, _, _, _, _, _, _, _, _, _, _, _, _, w⟩ => w.elim
/-! ### callees -/
structure Cal (P : Program) (w : World) (K' : PySem.W.Frag) (mg : Str → Option Value) (base : Heap) (cm : Str → Option Addr) (k : Nat) (nm : Str) (n : Nat) (m : Mean) : Prop where
  ex : ∃ (f : Addr) (fd : FuncData) (ps : List Str), mg nm = some (.ref f) ∧ PySem.W.keepIn K' (.ref f) = true ∧ L2.Binds K' fd ps [] ∧ FnOk P w K' mg base (L2.CX P w) k f fd ps (spM ⟨K', cm⟩ n m)
theorem Cal.s {P : Program} {w : World} {K' : PySem.W.Frag} {mg : Str → Option Value} {base : Heap} {X : Cx} {cm : Str → Option Addr} {k j : Nat} {nm : Str} {n : Nat} {m : Mean} (c : Cal P w K' mg base cm k nm n m) (hr : Room j X.A) (h : k ≤ j)
    (e : X.prog = P ∧ X.w = w ∧ X.K = K' ∧ X.mg = mg ∧ X.base = base := by exact ⟨rfl, rfl, rfl, rfl, rfl⟩) : FnS ⟨K', cm⟩ X nm n m := by
  obtain ⟨rfl, rfl, rfl, rfl, rfl⟩ := e
  obtain ⟨f, fd, ps, h1, h2, h3, h4⟩ := c.ex
  exact ⟨f, fd, ps, k, h1, h2, h3, h4, hr.mono h⟩
structure CalC (P : Program) (w : World) (K' : PySem.W.Frag) (mg : Str → Option Value) (base : Heap) (cm : Str → Option Addr) (k : Nat) (nm : Str) (n : Nat) (m : Mean) : Prop where
  ex : ∃ (C f : Addr) (fd : FuncData) (ps : List Str), cm nm = some C ∧ mg nm = some (.ref C) ∧ Mk K' C f ∧ L2.Binds K' fd ps [] ∧ FnOk P w K' mg base (L2.CX P w) k f fd ps (spM ⟨K', cm⟩ (n + 1) m)
theorem CalC.s {P : Program} {w : World} {K' : PySem.W.Frag} {mg : Str → Option Value} {base : Heap} {X : Cx} {cm : Str → Option Addr} {k j : Nat} {nm : Str} {n : Nat} {m : Mean} (c : CalC P w K' mg base cm k nm n m) (hr : Room j X.A) (h : k + 1 ≤ j)
    (e : X.prog = P ∧ X.w = w ∧ X.K = K' ∧ X.mg = mg ∧ X.base = base := by exact ⟨rfl, rfl, rfl, rfl, rfl⟩) : ClS ⟨K', cm⟩ X nm n m := by
  obtain ⟨rfl, rfl, rfl, rfl, rfl⟩ := e
  obtain ⟨C, f, fd, ps, h0, h1, h2, h3, h4⟩ := c.ex
  exact ⟨C, f, fd, ps, k, h0, h1, h2, h3, h4, hr.mono h⟩
/-! lengths of argument lists -/
theorem ln_nil {env env' : Env} {os : List Od} (h : (cNil : Den (List Od)) env = .ok os env') : os.length = 0 := by cases h; rfl
theorem ln_cons {d : Den Od} {ds : Den (List Od)} {n : Nat} (h : ∀ env os env', ds env = .ok os env' → os.length = n) : ∀ env os env', cConsO d ds env = .ok os env' → os.length = n + 1 := fun env os env' e => by
  unfold cConsO at e
  cases e1 : d env with
  | ok o env1 =>
    rw [e1] at e
    dsimp only [R.bind] at e
    cases e2 : ds env1 with
    | ok os1 env2 =>
      rw [e2] at e
      cases e
      simp [h _ _ _ e2]
    | ex x e3 => rw [e2] at e; cases e
    | bad => rw [e2] at e; cases e
  | ex x e3 => rw [e1] at e; cases e
  | bad => rw [e1] at e; cases e
theorem ln0 : ∀ env os env', (cNil : Den (List Od)) env = .ok os env' → os.length = 0 := fun _ _ _ h => ln_nil h
/-- a def laid out -/
theorem Cal.of {P : Program} {w : World} {K' : PySem.W.Frag} {mg : Str → Option Value} {base : Heap} {cm : Str → Option Addr} {k : Nat} {nm : Str} {qual x : Str} {params : Arguments} {body : List Stmt} {scope : Scope} {f : Addr} {fd : FuncData} {N ps : List Str} {d : Df}
    (hm : mg nm = some (.ref f)) (F : FunD K' x qual params body scope [] [] f fd) (hb : L2.Binds K' fd ps []) (Sc : FnScope N ps scope) (hn : ps.length = d.np) (hs : N.length = d.ns) (hk : ∀ i ∈ d.keeps, i < d.np)
    (hw : ∀ (cdv : Value), CodeIs K' f cdv → ∀ (A : Around) (outer : List PySem.Env) (s : Shared) (H : Hp) (E : XK), Room k (A.deeper (envOfC qual scope s.heap.objs.size f cdv)) →
      PSs (cxOf (L2.CX P w) P w K' mg base N qual scope f cdv A outer s H E) body (tS ⟨K', cm⟩ (fun cls d _ H => E cls d H) d.keeps d.body)) : Cal P w K' mg base cm (k + 1) nm d.np (evD d) :=
  ⟨f, fd, ps, hm, F.kp, hb, def_ok d F Sc hn hs hk hw⟩
end
end Cb

end
section
set_option maxRecDepth 100000
set_option maxHeartbeats 4000000
/-! list(range(..)); x, y = a, b with owned values -/
namespace Cb
open PySem PySem.Spec PyProof.Rows L2
def rgW (a b : Int) : List W := (List.range (b - a).toNat).map fun (k : Nat) => .int (a + (k : Int))
def rgOk (a b : Int) : Bool := bnd a && bnd b && decide ((b - a).toNat ≤ 16777216)
def cRg1 (d : Den Z) : Den Z := fun env => (d env).bind fun z env => match asI z with
  | some b => if rgOk 0 b then .ok (.L (rgW 0 b)) env else .bad
  | none => .bad
def cRg2 (d e : Den Z) : Den Z := fun env => (d env).bind fun z env => (e env).bind fun y env => match asI z, asI y with
  | some a, some b => if rgOk a b then .ok (.L (rgW a b)) env else .bad
  | _, _ => .bad
def kParZ (i j : Nat) (d e : Den Z) : DenS := fun env => SR.of ((d env).bind fun z env => (e env).bind fun y env => .ok (if i < env.length ∧ j < env.length then .nx ((env.set i (some z)).set j (some y)) else .bad) env)
section
variable [Tb] {G : Gc} {U : L2.WX} {X : Cx} {K : List Nat}
theorem rgOk_iff {a b : Int} (h : rgOk a b = true) : RgOk a b := by
  unfold rgOk at h
  rw [Bool.and_eq_true, Bool.and_eq_true] at h
  obtain ⟨h1, h2⟩ := bnd_iff h.1.1
  obtain ⟨h3, h4⟩ := bnd_iff h.1.2
  exact ⟨h1, h2, h3, h4, of_decide_eq_true h.2⟩
theorem rps_rg {S : AS} {H : Hp} (a b : Int) : Rps G S H (rgW a b) (rgV a b) := by
  unfold rgW rgV
  generalize (List.range (b - a).toNat) = l
  induction l with
  | nil => exact .nil
  | cons x l ih => exact .cons (rp_int _ _ _) ih
theorem q_lrg1 {a : Expr} {d : Den Z} {p p2 pos pos2 : Pos} (hc : X.calm = true) (hg : Gl X "list") (hm : X.mg "list" = none) (hg2 : Gl X "range") (hm2 : X.mg "range" = none) (ns : Nst a) (ha : PE X a (tD G U (rZ G) d)) :
    PE X (.Call (.Name "list" p) [.Call (.Name "range" p2) [a] [] pos] [] pos2) (tD G U (rZ G) (cRg1 d)) := (pe_listRg hc hg hm (prg_1 hg2 hm2 (pe_fz ha) (ns _ _)) (by rfl)).imp fun σ H Q ⟨env, S, A, en, ok, o⟩ => by
  refine ⟨env, S, A, en, ok, ?_⟩
  have e0 : cRg1 d env = (cFz d env).bind fun w env => match w with | .int b => if rgOk 0 b then .ok (.L (rgW 0 b)) env else .bad | _ => .bad := by
    unfold cRg1 cFz
    cases d env with
    | ok z e1 =>
      cases z with
      | w x => cases x <;> rfl
      | _ => rfl
    | _ => rfl
  rw [e0] at o
  refine (Out.bind (rel := rW G) (fun h => h.2) o).mono fun x H1 ⟨a, env1, S1, A1, _, en1, ok1, ⟨r1, _⟩, f1, o2⟩ => ?_
  cases a with
  | int b =>
    unfold Rp at r1
    subst r1
    dsimp only at o2
    by_cases hr : rgOk 0 b = true
    · rw [if_pos hr] at o2
      exact ⟨b, rfl, rgOk_iff hr, (Res.out en1 ok1 o2).lst (rps_rg 0 b)⟩
    · rw [if_neg hr] at o2; exact o2.elim
  | _ => exact o2.elim
theorem q_lrg2 {a b : Expr} {d e : Den Z} {p p2 pos pos2 : Pos} (hc : X.calm = true) (hg : Gl X "list") (hm : X.mg "list" = none) (hg2 : Gl X "range") (hm2 : X.mg "range" = none) (ns : Nst a) (ns2 : Nst b) (ha : PE X a (tD G U (rZ G) d)) (hb : PE X b (tD G U (rZ G) e)) :
    PE X (.Call (.Name "list" p) [.Call (.Name "range" p2) [a, b] [] pos] [] pos2) (tD G U (rZ G) (cRg2 d e)) := (pe_listRg hc hg hm (prg_2 hg2 hm2 (pe_fz ha) (pe_fz hb) (ns _ _) (ns2 _ _) (by rw [ns2]; rfl)) (by rfl)).imp fun σ H Q ⟨env, S, A, en, ok, o⟩ => by
  refine ⟨env, S, A, en, ok, ?_⟩
  have e0 : cRg2 d e env = (cFz d env).bind fun w env => (cFz e env).bind fun y env => match w, y with | .int a, .int b => if rgOk a b then .ok (.L (rgW a b)) env else .bad | _, _ => .bad := by
    unfold cRg2 cFz
    cases d env with
    | ok z e1 =>
      dsimp only [R.bind]
      cases e e1 with
      | ok y e2 =>
        cases z with
        | w x =>
          cases x with
          | int i =>
            cases y with
            | w y => cases y <;> rfl
            | _ => rfl
          | _ => rfl
        | _ => rfl
      | _ => rfl
    | _ => rfl
  rw [e0] at o
  refine (Out.bind (rel := rW G) (fun h => h.2) o).mono fun x H1 ⟨a, env1, S1, A1, _, en1, ok1, ⟨r1, _⟩, f1, o2⟩ => ⟨env1, S1, A1, en1, ok1, ?_⟩
  refine (Out.bind (rel := rW G) (fun h => h.2) o2).mono fun y H2 ⟨b, env2, S2, A2, _, en2, ok2, ⟨r2, _⟩, f2, o3⟩ => ?_
  cases a with
  | int i =>
    cases b with
    | int j =>
      unfold Rp at r1 r2
      subst r1 r2
      dsimp only at o3
      by_cases hr : rgOk i j = true
      · rw [if_pos hr] at o3
        exact ⟨i, j, rfl, rfl, rgOk_iff hr, (Res.out en2 ok2 o3).lst (rps_rg i j)⟩
      · rw [if_neg hr] at o3; exact o3.elim
    | _ => exact o3.elim
  | _ => exact o3.elim
/-- x, y = a, b: each keeps what it owns -/
theorem sk_parZ {i j : Nat} {x y : Str} {a b : Expr} {px py pt pos : Pos} {kt k2 pt2} {d e : Den Z} (hc : X.calm = true) (hN : X.N.Nodup) (hi : X.N[i]? = some x) (hj : X.N[j]? = some y) (hij : i ≠ j) (hx : X.env.scope.names.lookup x = some .local) (hy : X.env.scope.names.lookup y = some .local)
    (na : Nst a) (nb : Nst b) (ha : PE X a (tD G U (rZ G) d)) (hb : PE X b (tD G U (rZ G) e)) (hw : swappedStores [.Tuple [.Name x px, .Name y py] kt pt] (.Tuple [a, b] k2 pt2) X.env = pure (some [x, y])) (hk : i ∉ K ∧ j ∉ K) :
    PS X (.Assign [.Tuple [.Name x px, .Name y py] kt pt] (.Tuple [a, b] k2 pt2) pos) (tS G U K (kParZ i j d e)) :=
  (ps_par hc hN hi hj hij hx hy (pa_cons ha (pa_cons hb pa_nil (nb _ _)) (na _ _)) hw).imp fun D σ H ⟨env, S, A, en, ok, o⟩ => by
  refine ⟨env, S, A, en, ok, ?_⟩
  have o0 : OutS G U K σ S H A (SR.of ((d env).bind fun z env => (e env).bind fun y env => .ok (if i < env.length ∧ j < env.length then .nx ((env.set i (some z)).set j (some y)) else .bad) env)) D := o
  cases e1 : d env with
  | bad => rw [e1] at o0; exact o0
  | ex x2 env1 => rw [e1] at o0; exact fun cls dd H' S' A' h1 h2 h3 h4 => o0 cls dd σ H' S' A' h1 Agr.refl h2 h3 h4
  | ok z env1 =>
    rw [e1] at o0
    intro v H1 S1 A1 B1 en1 rz1 ok1 f1
    have ok1' : Ok S1 H1 A1 := ok1.right
    refine ⟨env1, S1, A1, en1, ok1', ?_⟩
    cases e2 : e env1 with
    | bad => dsimp only [R.bind] at o0; rw [e2] at o0; exact o0
    | ex x2 env2 =>
      dsimp only [R.bind] at o0
      rw [e2] at o0
      intro cls dd H2 S2 A2 h1 h2 h3 h4
      have okA : Ok S1 H1 (A1 ++ B1) := ok1.perm List.perm_append_comm
      have ok2 : Ok S2 H2 (A2 ++ B1) := h4.off okA h3
      refine o0 cls dd σ H2 S2 A2 h1 Agr.refl h2 h3 ?_
      refine (f1.trans (h4.wide (B := B1 ++ A1) fun a ha => List.mem_append_right _ ha))
    | ok y' env2 =>
      dsimp only [R.bind] at o0
      rw [e2] at o0
      intro w H2 S2 A2 B2 en2 rz2 ok2 f2
      have okA : Ok S1 H1 (A1 ++ B1) := ok1.perm List.perm_append_comm
      have ok3 : Ok S2 H2 ((B2 ++ A2) ++ B1) := f2.off okA ok2
      have rz1' : RZ G S2 H2 z v B1 := rz1.mono (f2.kp ok1') f2.up (f2.offK okA)
      have o3 : OutS G U K σ S H A (if i < env2.length ∧ j < env2.length then .nx ((env2.set i (some z)).set j (some y')) else .bad) D := o0
      refine ⟨v, w, rfl, ?_⟩
      by_cases hij' : i < env2.length ∧ j < env2.length
      · rw [if_pos hij'] at o3
        have p1 : ((B2 ++ A2) ++ B1).Perm (B2 ++ (B1 ++ A2)) := by
          rw [List.append_assoc]
          exact List.Perm.append_left B2 List.perm_append_comm
        have ok4 : Ok S2 H2 (B2 ++ (B1 ++ A2)) := ok3.perm p1.symm
        obtain ⟨A3, h1, h2, h3⟩ := lay en2 hij'.1 rz1' ok4.right
        have ok5 : Ok S2 H2 (B2 ++ A3) := by
          refine ⟨List.nodup_append.mpr ⟨ok4.left.nd, h2.nd, fun a ha b hb e => ok4.dis ha (e ▸ h3 b hb)⟩, fun a ha => ?_, ok4.dom, ok4.tab⟩
          rcases List.mem_append.mp ha with h | h
          · exact ok4.own a (List.mem_append_left _ h)
          · exact h2.own a h
        obtain ⟨A4, h4, h5, h6⟩ := lay (i := j) h1 (by rw [List.length_set]; exact hij'.2) rz2 ok5
        have ag : Agr K σ ((σ.set i (some v)).set j (some w)) := (Agr.set hk.1).trans (Agr.set hk.2)
        refine o3 _ H2 S2 A4 ag h4 h5 ?_
        have f12 : Fr S H A S2 H2 (B2 ++ A2 ++ B1) := ⟨fun a u ea na => (f1.trans (f2.wide (B := B1 ++ A1) fun a ha => List.mem_append_right _ ha)).keep a u ea na, fun a h => f2.up a (f1.up a h), fun a h => (f1.trans (f2.wide (B := B1 ++ A1) fun a ha => List.mem_append_right _ ha)).back a h, fun a ha => by
          rcases List.mem_append.mp ha with h | h
          · exact (f1.trans (f2.wide (B := B1 ++ A1) fun a ha => List.mem_append_right _ ha)).own a h
          · exact f1.own a (List.mem_append_left _ h), fun a u ea => (f1.trans (f2.wide (B := B1 ++ A1) fun a ha => List.mem_append_right _ ha)).dom a u ea⟩
        refine f12.less fun a ha => ?_
        rcases List.mem_append.mp (h6 a ha) with h | h
        · exact List.mem_append_left _ (List.mem_append_left _ h)
        · rcases List.mem_append.mp (h3 a h) with h | h
          · exact List.mem_append_right _ h
          · exact List.mem_append_left _ (List.mem_append_right _ h)
      · rw [if_neg hij'] at o3; exact o3.elim
end
end Cb

end
section
set_option maxRecDepth 100000
set_option maxHeartbeats 4000000
/-! set(t) of a tuple of tuples of ints: the set is made empty, then its own __init__ walks the tuple -/
namespace Cb
open PySem PySem.Spec PyProof.Rows L2
/-- a set as it is made -/
abbrev eS (w : World) : Obj := { cls := .type "set", dict := none, data := .set #[] 0 (.fresh 0 0 (!w.params.followText "set-order")) }
/-- what is left: at the first free place a set of these; all that was is as it was -/
def LeftS (P : Program) (w : World) (ks : List (Addr × List Int)) (s z : Shared) : Prop := ∃ (g : Heap) (n : Nat) (L : List (Addr × List Int)) (es : Array (Int × Value)) (ep : Nat) (t : SetTable),
  z = { s with heap := g, toks := n } ∧ SetTR P w g s.heap.objs.size L es ep t ∧ Got ks ks.length L ∧ ∀ b o, s.heap.get? b = some o → g.get? b = some o
section
variable {P : Program} {w : World} {A : Around} {E : Value → Shared → Prop} {s : Shared} {c0 : Addr} {xs : Array Value} {ks : List (Addr × List Int)}
theorem get_none {h : Heap} {b : Addr} (hb : h.objs.size ≤ b) : h.get? b = none := by
  cases q : h.get? b with
  | none => rfl
  | some o =>
    exact absurd (Heap.lt_size q) (Nat.not_lt.mpr hb)
theorem val_at (hx : xs.toList = ks.map fun p => Value.ref p.1) (i : Nat) (v : Value) (hv : xs[i]? = some v) : ∃ p, ks[i]? = some p ∧ v = .ref p.1 := by
  rw [← Array.getElem?_toList, hx, List.getElem?_map] at hv
  obtain ⟨p, h1, h2⟩ := Option.map_eq_some_iff.mp hv
  exact ⟨p, h1, h2.symm⟩
set_option maxHeartbeats 3200000 in
/-- the set's own __init__ -/
theorem init_tups (hh : A.handled = none) (hu : A.units + 2 < cLine) (hc : s.heap.IsTuple c0 xs) (hx : xs.toList = ks.map fun p => Value.ref p.1) (few : ks.length < 64) (hk : ∀ p ∈ ks, IsT P w s.heap p.2 p.1)
    (hT : Shared.TypeIs { s with heap := s.heap.push (eS w) } (.ref s.heap.objs.size) "set") :
    codeAny (model P w) A (.call (.builtin "set.__init__") ⟨[.ref s.heap.objs.size, .ref c0], []⟩) (wants (fun r z => r = .none ∧ LeftS P w ks s z) E) { s with heap := s.heap.push (eS w) } := by
  have hn : xs.size = ks.length := by rw [← Array.length_toList, hx, List.length_map]
  refine codeAny_call_builtin F.called_set.init.plain F.entry_set_init (check_set_init_1 hT ?_)
  have hS : (s.heap.push (eS w)).get? s.heap.objs.size = some (eS w) := Heap.get?_push_size _ rfl
  obtain ⟨⟨k1, k2, k3, k4⟩, q1, q2, n0, q3⟩ := hc
  dsimp only at q2 q3
  subst q2 q3
  have q1' : (s.heap.push (eS w)).get? c0 = some { cls := .type "tuple", dict := k2, data := .seq xs n0, slots := k4 } := Heap.get?_push_of_some _ q1
  have tupl : (s.heap.push (eS w)).IsTuple c0 xs := ⟨_, q1', rfl, n0, rfl⟩
  have f1 := F.sub_tuple_set
  have f2 := F.sub_tuple_frozenset
  have f3 : (Value.type "tuple" == Value.type "dict") = false := by decide
  unfold Builtin.«set.__init__» noKeywords Builtin.Frozenset.updateFrom
  generalize hIt : pyIter = It
  wp_walk
  subst hIt
  refine wpAny_pyIter_tuple tupl (wpAny_bind (wpAny_runValue ?_))
  have hs0 : (s.heap.push (eS w)).objs.size = s.heap.objs.size + 1 := Heap.size_push ..
  have hc0 : c0 < s.heap.objs.size := Heap.lt_size q1
  have d1 : c0 ≠ (s.heap.push (eS w)).objs.size := by rw [hs0]; exact Nat.ne_of_lt (Nat.lt_succ_of_lt hc0)
  have d2 : s.heap.objs.size ∉ [(s.heap.push (eS w)).objs.size, c0] := by
    rw [hs0]
    simp only [List.mem_cons, List.not_mem_nil, or_false, not_or]
    exact ⟨Nat.ne_of_lt (Nat.lt_succ_self _), Nat.ne_of_gt hc0⟩
  refine set_update_tups (Walks.tuple (by simp [hh]) _ c0 d1 xs).toS s.heap.objs.size d2 ks hn few (val_at hx) s.heap hk (get_none (Nat.le_refl _)) (fun b hb => get_none ?_) hu (xs.size - 0) 0 _ (by omega) (Nat.zero_le _) ⟨⟨_, Heap.get?_push_size _ rfl, rfl, rfl⟩, tupl.push _⟩ (fun b o e => Heap.get?_push_of_some _ (Heap.get?_push_of_some _ e)) ?_ ?_
  · rw [List.mem_singleton.mp hb, hs0]; exact Nat.le_succ _
  · exact ⟨[], #[], 0, _, setTR_fresh (Heap.get?_push_of_some _ hS), Got.zero ks⟩
  · intro z L es ep t mv R g keep
    obtain ⟨z1, z2, z3, z4, z5⟩ := z
    obtain rfl : z2 = s.gens := mv.gens
    obtain rfl : z3 = s.drawn := mv.drawn
    obtain rfl : z5 = s.os := mv.os
    rw [hn] at g
    exact wpAny_pure (wpAny_pure ⟨rfl, z1, z4, L, es, ep, t, rfl, R, g, keep⟩)
set_option maxHeartbeats 3200000 in
/-- set(t) -/
theorem call_set_ttup {Q : Value → Shared → Prop} (hh : A.handled = none) (hu : A.units + 3 < cLine) (hc : s.heap.IsTuple c0 xs) (hx : xs.toList = ks.map fun p => Value.ref p.1) (few : ks.length < 64) (hk : ∀ p ∈ ks, IsT P w s.heap p.2 p.1)
    (hQ : ∀ z, LeftS P w ks s z → Q (.ref s.heap.objs.size) z) : wpAny (model P w) A (call (.type "set") [.ref c0]) Q E s := by
  have m1 := F.called_set.made
  have m2 := F.called_set.sub
  have m3 := F.called_set.notType
  have m4 := F.called_set.canCreate
  have m5 := F.typeCall_set_1 (.ref c0)
  have m6 := F.called_set.init.lookup
  have m7 := F.called_set.init.bind (.ref s.heap.objs.size)
  obtain ⟨y1, y2, m8⟩ := F.called_set.mro
  refine wpAny_call (codeAny_of_tree (wpAny_pure ⟨Code.quiet_builtin _ (by decide +kernel), codeAny_builtin F.entry_type_call ?_⟩))
  rw [Around.under_plain (weight_type_call_type "set" [.ref c0] []) rfl]
  repeat (any_goals (first | assumption | wp_step))
  refine codeAny_mono (code_set_led1 (.ref c0) (E := E) (Q₁ := fun v z => v = .ref s.heap.objs.size ∧ z = { s with heap := s.heap.push (eS w) }) ⟨rfl, rfl⟩) fun r z hr => ?_
  cases r with
  | ok f =>
    cases f with
    | ret v =>
      obtain ⟨rfl, rfl⟩ := hr
      have hT : Shared.TypeIs { s with heap := s.heap.push (eS w) } (.ref s.heap.objs.size) "set" := ⟨_, Heap.get?_push_size _ rfl, rfl⟩
      repeat (any_goals (first | assumption | wp_step))
      refine codeAny_mono (init_tups (E := E) (by simp [hh]) hu hc hx few hk hT) fun r2 z2 hr2 => ?_
      cases r2 with
      | ok f2 =>
        cases f2 with
        | ret v2 =>
          obtain ⟨rfl, left⟩ := hr2
          repeat (any_goals (first | assumption | wp_step))
          exact hQ _ left
        | _ => exact hr2.elim
      | error _ => exact hr2
    | _ => exact hr.elim
  | error _ => exact hr
end
end Cb

end
section
set_option maxRecDepth 100000
set_option maxHeartbeats 1000000
/-! sorted(a set), by data -/
namespace Cb
open PySem PySem.Spec PyProof.Rows PySem.W PySem.Calls PySem.SeqAt L2
theorem each_perm {β : Type} {R : Value → β → Prop} : ∀ {l l' : List Value}, l'.Perm l → ∀ {bs : List β}, EachIs R l bs → ∃ bs', bs'.Perm bs ∧ EachIs R l' bs' := by
  intro l l' p
  induction p with
  | nil => intro bs e; cases e; exact ⟨[], .nil, .nil⟩
  | cons x _ ih =>
    intro bs e
    cases e with
    | cons r t =>
      obtain ⟨bs', h1, h2⟩ := ih t
      exact ⟨_ :: bs', h1.cons _, .cons r h2⟩
  | swap x y l =>
    intro bs e
    cases e with
    | cons r1 t =>
      cases t with
      | cons r2 t => exact ⟨_ :: _ :: _, List.Perm.swap _ _ _, .cons r2 (.cons r1 t)⟩
  | trans _ _ ih1 ih2 =>
    intro bs e
    obtain ⟨b1, h1, h2⟩ := ih2 e
    obtain ⟨b2, h3, h4⟩ := ih1 h2
    exact ⟨b2, h3.trans h1, h4⟩
section
variable {P : Program} {w : World} {A : Around} {E : Value → Shared → Prop} {s : Shared} {β : Type}
theorem sorted_any {a : Addr} {es : Array (Int × Value)} {ep : Nat} {t : SetTable} {bs : List β} {R0 : Value → β → Prop} {Q : Value → Shared → Prop} (enc : β → PyData) (hh : A.handled = none) (ha : SetAt s.heap a es ep t) (hf : t.fits es.size = true) (hsz : es.size < scanBound) (hr : Ris t.place.toList)
    (hl : w.params.followText "set-order" = true ∨ t.led = true) (hi : EachIs R0 (es.toList.map (·.2)) bs) (hrd : ∀ v b, R0 v b → ∀ h : Heap, (∀ b o, s.heap.get? b = some o → h.get? b = some o) → ∃ as, Reads h v (enc b) as)
    (hal : AllAlike (bs.map enc)) (hk : Sortable (bs.map enc) ∨ ∀ d ∈ bs.map enc, ∃ t, d = .tuple t) (hdp : ∀ d ∈ bs.map enc, A.units + 2 + d.depth < cLine) (hfew : bs.length ≤ 1000000)
    (hQ : ∀ (z : Shared) (p : Addr) (out : List Value) (c : Nat) (b1 : List β), (∀ b o, s.heap.get? b = some o → z.heap.get? b = some o) → z.gens = s.gens → z.os = s.os → s.heap.objs.size ≤ p → z.heap.get? p = some (seqObj "list" out.toArray c) → b1.Perm bs → EachIs R0 out (b1.mergeSort (dataLe false enc)) → Q (.ref p) z) :
    wpAny (model P w) A (call (.builtin "sorted") [.ref a]) Q E s := by
  refine Calls.call_function_entry kind_sorted plain_sorted entry_sorted (args_sorted1 _) ?_
  unfold Builtin.«sorted»
  refine wpAny_bind (m := checkCount "sorted" 1 1 _) (wpAny_pure ?_)
  refine wpAny_bind (collect_set (A := A.in1) hh ha hf hsz hr hl fun z vs k1 hz g1 o1 pm => ?_)
  obtain ⟨b1, p1, e1⟩ := each_perm pm hi
  have hvl : vs.length ≤ sizeLine := by
    rw [e1.length, p1.length_eq, sizeLine_eq]; omega
  refine wpAny_bind (wpAny_newList ?_ hvl)
  have hoL : (z.heap.push (seqObj "list" vs.toArray 0)).get? z.heap.objs.size = some (seqObj "list" vs.toArray 0) := Heap.get?_push_size _ rfl
  have kS : ∀ b o, s.heap.get? b = some o → (sortingHeap (z.heap.push (seqObj "list" vs.toArray 0)) z.heap.objs.size vs).get? b = some o := fun b o e =>
    sortingHeap_old (Nat.ne_of_lt (Nat.lt_of_lt_of_le (Heap.lt_size e) hz)) (Heap.get?_push_of_some _ (k1 b o e))
  have pm2 : (b1.map enc).Perm (bs.map enc) := p1.map enc
  have hal1 : AllAlike (b1.map enc) := fun d hd d' hd' => hal d (pm2.mem_iff.mp hd) d' (pm2.mem_iff.mp hd')
  have er : EachIs (fun v b => ∃ as, Reads (sortingHeap (z.heap.push (seqObj "list" vs.toArray 0)) z.heap.objs.size vs) v (enc b) as) vs b1 := e1.mono fun v b r => hrd v b r _ kS
  have er' : EachIs (fun v d => ∃ as, Reads (sortingHeap (z.heap.push (seqObj "list" vs.toArray 0)) z.heap.objs.size vs) v d as) vs (b1.map enc) := PySem.W.each_map (R := fun v d => ∃ as, Reads (sortingHeap (z.heap.push (seqObj "list" vs.toArray 0)) z.heap.objs.size vs) v d as) enc er
  have hud : ∀ d ∈ b1.map enc, A.in1.in1.units + d.depth < cLine := fun d hd => by
    have h1 : A.in1.in1.units ≤ A.units + 2 := Nat.le_refl _
    have h2 := hdp d (pm2.mem_iff.mp hd)
    omega
  have SA : SortsAt P w A.in1.in1 { z with heap := sortingHeap (z.heap.push (seqObj "list" vs.toArray 0)) z.heap.objs.size vs } (dataKind (sortingHeap (z.heap.push (seqObj "list" vs.toArray 0)) z.heap.objs.size vs) (b1.map enc)) vs := by
    rcases hk with hk | hk
    · refine PySem.W.SortsAt.data (s := { z with heap := sortingHeap (z.heap.push (seqObj "list" vs.toArray 0)) z.heap.objs.size vs }) er' hal1 ?_ hud
      rcases hk with hk | hk
      · exact .inl fun d hd => hk d (pm2.mem_iff.mp hd)
      · exact .inr fun d hd => hk d (pm2.mem_iff.mp hd)
    · exact sorts_tups (s := { z with heap := sortingHeap (z.heap.push (seqObj "list" vs.toArray 0)) z.heap.objs.size vs }) er' hal1 (fun d hd => hk d (pm2.mem_iff.mp hd)) hud
  have sd := sortVals_data (enc := enc) false e1 er hal1
  refine wpAny_bind (wpAny_holding (wpAny_call_entry_kw slot_list_sort ⟨_, hoL, rfl⟩ entry_list_sort ?body (args_list_sort _)))
  case body =>
    refine list_sort_vals (s := { z with heap := z.heap.push (seqObj "list" vs.toArray 0) }) hoL SA hvl ?_
    obtain ⟨c, hc⟩ := sortedHeap_at (vs := vs) (out := (sortVals (dataKind (sortingHeap (z.heap.push (seqObj "list" vs.toArray 0)) z.heap.objs.size vs) (b1.map enc)) false vs vs).toArray) hoL
    refine ⟨_, rfl, wpAny_pure ⟨_, rfl, hQ _ z.heap.objs.size _ c b1 (fun b o e => ?_) g1 o1 hz hc p1 sd⟩⟩
    have q := k1 b o e
    have hlt := Heap.lt_size q
    show (sortedHeap (z.heap.push (seqObj "list" vs.toArray 0)) z.heap.objs.size vs _).get? b = some o
    rw [sortedHeap_old (Nat.ne_of_lt hlt) (by rw [size_push']; exact Nat.lt_succ_of_lt hlt)]
    exact Heap.get?_push_of_some _ q
end
end Cb

end
section
set_option maxRecDepth 100000
set_option maxHeartbeats 1000000
/-! sorting: one arrangement; each once -/
namespace Cb
open PySem PySem.Spec PyProof.Rows L2
theorem sort_asc {ws : List W} (h : sortable ws = true) : (sortW ltW ws).Pairwise fun a b => ltW b a = false := by
  obtain ⟨h1, h2⟩ := sortable_iff h
  have hp : ∀ x ∈ ws, plainW x = true := fun x hx => plainWs_mem (shWs_iff h1).1 hx
  have hm : ∀ x ∈ sortW ltW ws, x ∈ ws := fun x hx => (sortW_perm _).mem_iff.mp hx
  have := PySem.W.sort_pairwise total_data ws
  rw [sort_eq h] at this
  refine List.Pairwise.imp_of_mem (fun {a b} ha hb hab => ?_) this
  have e : PySem.W.dataLt (toD b) (toD a) = false := by
    have : (!PySem.W.dataLt (toD b) (toD a)) = true := hab
    simpa using this
  rwa [dataLt_of _ _ (h2 b (hm b hb) a (hm a ha)) (hp b (hm b hb)) (hp a (hm a ha))] at e
theorem sortable_sub {l l' : List W} (h : sortable l = true) (hs : ∀ x ∈ l', x ∈ l) : sortable l' = true := by
  obtain ⟨h1, h2⟩ := sortable_iff h
  have sp := shWs_iff h1
  unfold sortable
  rw [Bool.and_eq_true]
  refine ⟨?_, List.all_eq_true.mpr fun a ha => List.all_eq_true.mpr fun b hb => h2 a (hs a ha) b (hs b hb)⟩
  unfold shWs
  rw [Bool.and_eq_true]
  constructor
  · have : ∀ {m : List W}, (∀ x ∈ m, plainW x = true) → plainWs m = true := by
      intro m
      induction m with
      | nil => intro _; rfl
      | cons x m ih =>
        intro hx
        unfold plainWs
        rw [hx x List.mem_cons_self, ih fun y hy => hx y (List.mem_cons_of_mem _ hy)]
        rfl
    exact this fun x hx => plainWs_mem sp.1 (hs x hx)
  · have : ∀ {m : List W}, (∀ x ∈ m, depW x ≤ 60) → depWs m ≤ 60 := by
      intro m
      induction m with
      | nil => intro _; exact Nat.zero_le _
      | cons x m ih =>
        intro hx
        unfold depWs
        exact Nat.max_le.mpr ⟨hx x List.mem_cons_self, ih fun y hy => hx y (List.mem_cons_of_mem _ hy)⟩
    exact decide_eq_true (this fun x hx => Nat.le_trans (depWs_mem (hs x hx)) sp.2)
theorem sort_perm {l l' : List W} (h : sortable l = true) (p : l'.Perm l) : sortW ltW l' = sortW ltW l := by
  have h' := sortable_sub h fun x hx => p.mem_iff.mp hx
  obtain ⟨_, h2⟩ := sortable_iff h
  refine ((sortW_perm l').trans (p.trans (sortW_perm l).symm)).eq_of_pairwise (le := fun a b => ltW b a = false) (fun a b ha hb h1 h3 => ?_) (sort_asc h') (sort_asc h)
  have ma : a ∈ l := p.mem_iff.mp ((sortW_perm l').mem_iff.mp ha)
  have mb : b ∈ l := (sortW_perm l).mem_iff.mp hb
  exact cmp_tri a b (h2 a ma b mb) h3 h1
theorem eqW_iff {l : List W} (h : sortable l = true) {a b : W} (ha : a ∈ l) (hb : b ∈ l) : eqW a b = true ↔ a = b := by
  obtain ⟨_, h2⟩ := sortable_iff h
  constructor
  · exact cmp_eq a b (h2 a ha b hb)
  · rintro rfl
    exact cmp_refl_eq a (h2 a ha a ha)
theorem dd_mem : ∀ {l m : List W}, sortable m = true → (∀ x ∈ l, x ∈ m) → ∀ x, x ∈ dedupW l ↔ x ∈ l
  | [], m, _, _, x => by unfold dedupW; exact Iff.rfl
  | y :: l, m, h, hs, x => by
    have ih := dd_mem (l := l) h (fun x hx => hs x (List.mem_cons_of_mem _ hx)) x
    unfold dedupW
    by_cases q : (l.any fun z => eqW z y) = true
    · rw [if_pos q, ih]
      obtain ⟨z, hz, e⟩ := List.any_eq_true.mp q
      have e := (eqW_iff h (hs z (List.mem_cons_of_mem _ hz)) (hs y List.mem_cons_self)).mp e
      constructor
      · exact fun hx => List.mem_cons_of_mem _ hx
      · intro hx
        rcases List.mem_cons.mp hx with rfl | hx
        · exact e ▸ hz
        · exact hx
    · rw [if_neg q, List.mem_cons, List.mem_cons, ih]
theorem dd_nodup : ∀ {l m : List W}, sortable m = true → (∀ x ∈ l, x ∈ m) → (dedupW l).Nodup
  | [], m, _, _ => by unfold dedupW; exact List.nodup_nil
  | y :: l, m, h, hs => by
    have hs' : ∀ x ∈ l, x ∈ m := fun x hx => hs x (List.mem_cons_of_mem _ hx)
    have ih := dd_nodup h hs'
    unfold dedupW
    by_cases q : (l.any fun z => eqW z y) = true
    · rw [if_pos q]; exact ih
    · rw [if_neg q]
      refine List.nodup_cons.mpr ⟨fun hy => q ?_, ih⟩
      have hy := (dd_mem h hs' y).mp hy
      exact List.any_eq_true.mpr ⟨y, hy, (eqW_iff h (hs y List.mem_cons_self) (hs y List.mem_cons_self)).mpr rfl⟩
/-- each once, in the one arrangement -/
theorem sort_dd {a l : List W} (h : sortable a = true) (nd : l.Nodup) (hm : ∀ x, x ∈ l ↔ x ∈ a) : sortW ltW (dedupW a) = sortW ltW l := by
  have hs : sortable l = true := sortable_sub h fun x hx => (hm x).mp hx
  exact sort_perm hs ((List.perm_ext_iff_of_nodup (dd_nodup h fun _ h => h) nd).mpr fun x => (dd_mem h (fun _ h => h) x).trans (hm x).symm)
end Cb

end
section
set_option maxRecDepth 100000
set_option maxHeartbeats 4000000
namespace Cb
open PySem PySem.Spec PyProof.Rows L2
section
variable [Tb] {G : Gc} {U : L2.WX} {X : Cx} {K : List Nat}
theorem q_pts0 : PTs X [] (tD G U rB cTrue) := ⟨fun pins s σ H Q I ⟨env, S, A, en, ok, o⟩ => pts_nil.run pins s σ H Q I (o true H S A [] en ⟨rfl, rfl⟩ ok (Fr.refl ok))⟩
theorem sx_isNon {a : Expr} {j pos pos'} {d : Den Od} (ha : PE X a (tD G U (rO G) d)) : PE X (.Compare a [.Is] [.Constant .none j pos'] pos) (tD G U (rZ G) (cPr .isNon (cConsO d cNil))) := sx_pr1 pk_isNon ha fun _ h => pe_cmp (pc_isN h)
theorem sx_notNon {a : Expr} {j pos pos'} {d : Den Od} (ha : PE X a (tD G U (rO G) d)) : PE X (.Compare a [.IsNot] [.Constant .none j pos'] pos) (tD G U (rZ G) (cPr .notNon (cConsO d cNil))) := sx_pr1 pk_notNon ha fun _ h => pe_cmp (pc_notN h)
end
end Cb

end
section
set_option maxRecDepth 100000
set_option maxHeartbeats 4000000
/-! the end of a law -/
namespace Cb
open PySem PySem.Spec PyProof.Rows L2
theorem end_w [Tb] {K' : PySem.W.Frag} {cm : Str → Option Addr} {m : Mean} (hm : ∀ ns : List Int, ns.length ≤ 63 → ∃ back, m [.w (.scr ns)] = .ok (.w (.bl true)) back) (H : Hp) (a : Addr) (ns : List Int) (hl : ns.length ≤ 63) (hT : LamX.Tabs Tb.T H) (hS : SqL K' H a (ns.map V.int)) :
    spM ⟨K', cm⟩ 1 m [.ref a] H (fun v _ => v = .bl true) fun _ _ _ => False := by
  have sc : ∃ S : AS, (∀ b, S b → ∃ o, H b = some o) ∧ (Sc K' H a (ns.map V.int) ∨ Fz S H a (.lst (ns.map V.int))) := by
    rcases hS with (h | h) | h
    · exact ⟨fun b => b = a, fun b (e : b = a) => ⟨_, e ▸ h⟩, .inr ⟨rfl, h⟩⟩
    · exact ⟨fun _ => False, fun _ h => h.elim, .inl (.inl h)⟩
    · exact ⟨fun _ => False, fun _ h => h.elim, .inl (.inr h)⟩
  obtain ⟨S, hS, sc⟩ := sc
  obtain ⟨back, e⟩ := hm ns hl
  refine ⟨rfl, [.w (.scr ns)], S, [[]], ⟨.ref a, [], [], [], rfl, rfl, ⟨by unfold Rp; exact ⟨a, rfl, sc⟩, rfl⟩, rfl, rfl⟩, ⟨by simp, fun a ha => absurd ha (by simp), hS, hT⟩, ?_⟩
  rw [e]
  intro v H' S' B Bs' rb rz _ _
  obtain ⟨rz, _⟩ := rz
  unfold Rp at rz
  exact rz
theorem no_tabs {H : Hp} : LamX.Tabs [] H := fun p hp => absurd hp (by simp)
theorem walk_w {l : PySem.W.OpenLaw} {n k : Nat} {q : Program} {loose : List Str} {XP : (Str → Option Value) → Heap → Prop} {YP : World → Heap → Prop} {d : DefRec} {x : Str} (hn : l.most = some n) (hn2 : n ≤ sizeLine) (hdf : d.params.defaults = []) (hr : Room k callerA)
    (F : ∀ (w : World) (mg : Str → Option Value) (fa : Addr) (h : Heap), YP w h → h.Ns mainGlobals mg → mg d.name = some (.ref fa) → ∃ (K' : PySem.W.Frag) (fd : FuncData) (sp : Sp), K'.In h ∧ (∀ (s : Shared) (u : Value), BindsTo s fd ⟨[u], []⟩ [(x, u)]) ∧
      (∀ (H : Hp) (a : Addr) (ns : List Int), ns.length ≤ n → Only H → SqL K' H a (ns.map V.int) → sp [.ref a] H (fun v _ => v = .bl true) fun _ _ _ => False) ∧
      ∀ base : Heap, K'.In base → base.Ns mainGlobals mg → FnOk l.prog w K' mg base (L2.CX l.prog w) k fa fd [x] sp) :
    PySem.W.WalkO q loose XP YP l.row.toRowW d [] (fun f vs => PySem.call f vs) := by
  refine Att.attach_call hn hdf fun w s₀ s₁ mg mb fa o pm cd doc a vs ns Gr Y ho hd hcd hmg hobj hints hlen hg => ?_
  obtain ⟨K', fd, sp, KX, hb, hsp, hF⟩ := F w mg fa _ Y Gr.T.g hmg
  exact law_call KX Gr.T.g Gr.T.b Gr.T.builtins Gr.T.nolimit hg hobj hints (Nat.le_trans hlen hn2) hr hF hb (fun H hO hS => hsp H a ns hlen hO hS)
    fun H e s' ⟨_, _, _, _, _, _, _, _, _, _, _, _, z⟩ => z.elim
end Cb

end
section
set_option maxRecDepth 100000
set_option maxHeartbeats 4000000
/-! a lambda as a sort's key: lambda x: (len(x), x) -/
namespace Cb
open PySem PySem.Spec PyProof.Rows L2 LamX
section
variable {X : Cx} {pins : List (Addr × Obj)} {σ : L2.St} {H : Hp} {s : Shared}
/-- the name x, that holds the object at t -/
theorem ev_ref {E Q : Value → Shared → Prop} {i : Nat} {x : Str} {p : Pos} {t : Addr} (I : Inv X pins σ H s) (hN : X.N[i]? = some x) (hv : Vis X.env.scope x) (hs : σ[i]? = some (some (.ref t))) (q : Q (.ref t) s)
    (hd : (x == ("__debug__" : Str)) = false) (hc : (x == ("__classdict__" : Str)) = false) : wpAny (model X.prog X.w) X.A (eval (.Name x p) X.env) Q E s := by
  obtain ⟨m, hn, hl⟩ := I.loc
  obtain ⟨u, r, l⟩ := hl i x _ hN hs hv
  obtain rfl : u = Value.ref t := r
  rcases l with ⟨k1, k2⟩ | ⟨k1, c, k2, k3⟩
  · exact wpAny_Name (wpAny_loadName_local I.ok.kind k1 hn k2 q) hd
  · rcases k1 with k1 | k1
    · exact wpAny_Name (wpAny_loadName_cell I.ok.kind k1 k2 k3 q) hd
    · exact wpAny_Name (wpAny_loadName_free I.ok.kind k1 k2 k3 q hc) hd
/-- len(x) -/
theorem ev_len {E Q : Value → Shared → Prop} {i : Nat} {x : Str} {p p2 pos : Pos} {t : Addr} {its : Array Value} (I : Inv X pins σ H s) (hN : X.N[i]? = some x) (hv : Vis X.env.scope x) (hs : σ[i]? = some (some (.ref t))) (ht : IsTup s.heap t its) (hz : (its.size : Int) < 2 ^ 63)
    (hg : Gl X "len") (hm : X.mg "len" = none) (q : Q (.int its.size (s.toks + 1)) { s with toks := s.toks + 1 + 1 })
    (hd : (x == ("__debug__" : Str)) = false) (hc : (x == ("__classdict__" : Str)) = false) : wpAny (model X.prog X.w) X.A (eval (.Call (.Name "len" p) [.Name x p2] [] pos) X.env) Q E s :=
  Call_ (ld_blt I hg hm boot_len (PyProof.Rows.callWith_builtin1 (PyProof.Rows.args_cons (ev_ref I hN hv hs (PyProof.Rows.args_nil (PyProof.Rows.len_tuple ht hz q)) hd hc) rfl) rfl rfl))
/-- (len(x), x) -/
def KeyLT (x : Str) : Expr → Prop
  | .Tuple [.Call (.Name f _) [.Name y _] [] _, .Name z _] _ _ => f = "len" ∧ y = x ∧ z = x
  | _ => False
theorem ev_keyLT {E Q : Value → Shared → Prop} {i : Nat} {x : Str} {e : Expr} {t : Addr} {its : Array Value} (he : KeyLT x e) (I : Inv X pins σ H s) (hN : X.N[i]? = some x) (hv : Vis X.env.scope x) (hs : σ[i]? = some (some (.ref t))) (ht : IsTup s.heap t its) (hz : (its.size : Int) < 2 ^ 63)
    (hg : Gl X "len") (hm : X.mg "len" = none) (q : ∀ tk tk', Q (.ref s.heap.objs.size) { s with heap := s.heap.push { cls := .type "tuple", data := .seq #[.int its.size tk, .ref t] }, toks := tk' })
    (hd : (x == ("__debug__" : Str)) = false) (hc : (x == ("__classdict__" : Str)) = false) : wpAny (model X.prog X.w) X.A (eval e X.env) Q E s := by
  unfold KeyLT at he
  split at he
  · obtain ⟨rfl, rfl, rfl⟩ := he
    refine wpAny_Tuple_spliced (PyProof.Rows.args_cons (ev_len I hN hv hs ht hz hg hm (PyProof.Rows.args_cons (ev_ref (I.tok _) hN hv hs (PyProof.Rows.args_nil ⟨?_, q _ _⟩) hd hc) rfl) hd hc) rfl)
    rw [sizeLine_eq]
    show 2 ≤ 16777216
    decide
  · exact he.elim
/-- the lambda, called with the tuple at t -/
theorem lam_key {x : Str} {f c' : Addr} {qual : Str} {params : Arguments} {body : Expr} {scope : Scope} {pm ctv : Value} {t : Addr} {its : Array Value} (I : Inv X pins σ H s) (hr : X.A.depth < recursionLimit) (hh : X.A.handled = none)
    (of : s.heap.get? f = some (PySem.W.kla_obj "<lambda>" qual params body scope [] pm c' ctv)) (hc : H c' = some (CodeO c' qual)) (S : FnScope [x] [x] scope)
    (hbind : ∀ u, bindArgs (PySem.W.kla_fn "<lambda>" qual params body scope [] pm (.ref c') ctv) ⟨[u], []⟩ = pure [(x, u)]) (hb : KeyLT x body) (hv : Vis scope x) (hg : ∀ L, (envOfC qual scope L f (.ref c')).kindOf "len" = some .globalImplicit) (hm : X.mg "len" = none)
    (hd : (x == ("__debug__" : Str)) = false) (hcd : (x == ("__classdict__" : Str)) = false)
    (ht : IsTup s.heap t its) (hz : (its.size : Int) < 2 ^ 63) (h : Heap) (tk : Nat) (hk : ∀ b o, s.heap.get? b = some o → h.get? b = some o) :
    wpAny (model X.prog X.w) X.A.in1.in1 (call (.ref f) [.ref t]) (fun u s2 => ∃ (h' : Heap) (tk' : Nat) (T : Addr) (k : Tok), s2 = { s with heap := h', toks := tk' } ∧ (∀ b o, h.get? b = some o → h'.get? b = some o) ∧ u = .ref T ∧
      h'.get? T = some { cls := .type "tuple", data := .seq #[.int its.size k, .ref t] }) (fun _ _ => False) { s with heap := h, toks := tk } := by
  have I1 : Inv X pins σ H { s with heap := h, toks := tk } := I.kept hk
  have e0 := I1.env0
  have e1 : Env0 X.prog X.w X.K X.mg X.base X.A.in1.in1 X.stack { s with heap := h, toks := tk } H := ⟨e0.frames, e0.mod, e0.bs, e0.bsz, e0.funs, e0.frf, e0.hok, e0.bare⟩
  obtain ⟨⟨oc, vs, tq, hoc, hdc, hvc⟩, _, _⟩ := I1.hok c' _ hc
  have of1 := hk _ _ of
  have ht1 : IsTup h t its := by
    obtain ⟨o, k1, k2⟩ := ht
    exact ⟨o, hk _ _ k1, k2⟩
  refine wpAny_call (PySem.W.kla_callFunE hr of1 rfl S.co S.gen rfl ⟨c', oc, vs, tq, rfl, hoc, hdc, hvc⟩ ?_)
  rw [hbind]
  have hkind : ∀ y ∈ [x].zip [Value.ref t], scope.names.lookup y.1 = some .local ∨ (scope.names.lookup y.1 = some .cell ∧ ((cellsFrom (h.objs.size + 1) scope.names []).lookup y.1).isSome = true) := fun ⟨n, v⟩ hy => by
    rcases S.par n (List.of_mem_zip hy).1 with q | q
    · exact .inl q
    · exact .inr ⟨q, PySem.W.cellsFrom_some _ _ _ (.inl q)⟩
  refine wpAny_pure (wpAny_newFunctionEnv_cells (binds := [x].zip [Value.ref t]) S.kind hkind fun env he s1 z => ?_)
  subst he
  have I2 := inv_start (CX := L2.CX X.prog X.w) (E := fun _ _ _ => False) (vs := [V.ref t]) S (show X.A.in1.in1.handled = none from hh) e1 rfl (.cons rfl .nil) z
  obtain ⟨h1, tk1, rfl, hk1⟩ := z.done
  have ht2 : IsTup h1 t its := by
    obtain ⟨o, k1, k2⟩ := ht1
    exact ⟨o, hk1 _ _ k1, k2⟩
  refine ⟨e0.mod.nolimit.keeps fun b o e => hk1 _ _ (e0.bs b o e).1, PySem.W.kla_codeExpr ?_⟩
  refine ev_keyLT hb I2 (i := 0) rfl hv rfl ht2 hz (hg _) hm (fun k k' => ?_) hd hcd
  exact ⟨_, _, h1.objs.size, k, rfl, fun b o e => Heap.get?_push_of_some _ (hk1 b o e), rfl, Heap.get?_push_size _ rfl⟩
end
end Cb

end
section
set_option maxRecDepth 100000
set_option maxHeartbeats 4000000
namespace Cb
open PySem PySem.Spec PyProof.Rows L2 LamX
section
variable {X : Cx} {pins : List (Addr × Obj)} {σ : L2.St} {H : Hp} {s : Shared}
/-- what stands behind the making of a lambda -/
structure Made (H H1 : Hp) : Prop where
  keep : ∀ b o, H b = some o → NoT o → H1 b = some o
  dom : ∀ b o, H b = some o → ∃ o', H1 b = some o'
theorem lam_new {T : List (Addr × Str)} {c P : Addr} {qn : Str} {params : Arguments} {body : Expr} {scope : Scope} {pos : Pos} {E Q : Value → Shared → Prop} (I : Inv X pins σ H s) (B : TabB X.base X.mg c P) (hc : X.env.code = .ref c) (hq : X.env.qual ++ "<lambda>" = qn)
    (hP : (P, qn) ∈ T) (hu : ∀ p ∈ T, p.1 = P → p.2 = qn) (hT : Tabs T H) (hd : defaultsOf params X.env = ([], [])) (hf : ∀ y ∈ scope.names, y.2 ≠ .free)
    (fin : ∀ (f c' : Addr) (pm ct : Value) (H1 : Hp) (t : Shared), Inv X pins σ H1 t → Made H H1 → Tabs T H1 → t.heap.get? f = some (PySem.W.kla_obj "<lambda>" qn params body scope [] pm c' ct) → H1 c' = some (CodeO c' qn) → Q (.ref f) t) :
    wpAny (model X.prog X.w) X.A (eval (.Lambda params body scope pos) X.env) Q E s := by
  subst hq
  have cl0 : cloFrom X.env.cells scope.names [] = [] := by
    cases e : cloFrom X.env.cells scope.names [] with
    | nil => rfl
    | cons p l =>
      rcases cloFrom_mem (cells := X.env.cells) (acc := []) (show (p.1, p.2) ∈ cloFrom X.env.cells scope.names [] by rw [e]; exact List.mem_cons_self) with h | ⟨h, _⟩
      · cases h
      · exact absurd rfl (hf _ h)
  have clos := closure_ok (scope := scope) (env := X.env) fun y hy e => absurd e (hf y hy)
  rw [cl0] at clos
  obtain ⟨tab, a1, a2, a3⟩ := hT _ hP
  have g0 : s.heap.get? P = some { cls := .none, data := .fields tab } := I.hok P _ a1
  have g1 : s.heap.BuiltinsAt X.mg P := B.bm.keeps I.bk
  have g2 := I.mod.glob.keeps I.bk
  have g3 := B.code.keeps I.bk
  refine PySem.W.kla_eval hd ?_
  cases q : codeAmong pos tab.toList with
  | some cv =>
    obtain ⟨c', rfl, hc'⟩ := a3 pos cv q
    refine PySem.W.kla_makeFunctionHit (mg := X.mg) clos I.ok.glob g2 hc g3 g0 a2 q g1 fun ct h tk hk hz => ?_
    have J : Inv X pins σ H { s with heap := h.push (PySem.W.kla_obj "<lambda>" (X.env.qual ++ "<lambda>") params body scope [] ((X.mg "__name__").getD .none) c' ct), toks := tk } := I.kept fun b o e => Heap.get?_push_of_some _ (hk b o e)
    exact fin h.objs.size c' _ ct H _ J ⟨fun _ _ e _ => e, fun _ o e => ⟨o, e⟩⟩ hT (Heap.get?_push_size _ rfl) hc'
  | none =>
    refine PySem.W.kla_makeFunction (mg := X.mg) clos I.ok.glob g2 hc g3 g0 a2 q B.gP g1 fun c' ct h tk hk hge hlt hr ht => ?_
    obtain ⟨c2, oc, vs, tq, ec, hoc, hdt, hv⟩ := hr
    cases ec
    have n0 : H c' = none := I.hok.fresh hge
    have J := inv_table (t' := tk) (more := #[rawInt pos.line, rawInt pos.col, .ref c']) (h' := h.push (PySem.W.kla_obj "<lambda>" (X.env.qual ++ "<lambda>") params body scope [] ((X.mg "__name__").getD .none) c' ct)) I a1
      (fun b o hb e => Heap.get?_push_of_some _ (hk b o hb e)) (Heap.get?_push_of_some _ ht) hge ⟨oc, vs, tq, Heap.get?_push_of_some _ hoc, hdt, hv⟩
    have kp : ∀ b o, H b = some o → NoT o → (upd (upd H P (.tbl (tab ++ #[rawInt pos.line, rawInt pos.col, .ref c']))) c' (CodeO c' (X.env.qual ++ "<lambda>"))) b = some o := fun b o e n => by
      have nP : b ≠ P := fun z => by
        rw [z, a1] at e
        exact n tab (Option.some.inj e).symm
      rw [upd_ne (ne_of_none e n0), upd_ne nP, e]
    have at_P : (upd (upd H P (.tbl (tab ++ #[rawInt pos.line, rawInt pos.col, .ref c']))) c' (CodeO c' (X.env.qual ++ "<lambda>"))) P = some (.tbl (tab ++ #[rawInt pos.line, rawInt pos.col, .ref c'])) := by
      rw [upd_ne (ne_of_none a1 n0), upd_same]
    have lst : (tab ++ #[rawInt pos.line, rawInt pos.col, .ref c']).toList = tab.toList ++ [rawInt pos.line, rawInt pos.col, .ref c'] := by simp
    refine fin h.objs.size c' _ ct _ _ J ⟨kp, fun b o e => ?_⟩ (fun p hp => ?_) (Heap.get?_push_size _ rfl) upd_same
    · by_cases z : b = P
      · rw [z]; exact ⟨_, at_P⟩
      · exact ⟨o, by rw [upd_ne (ne_of_none e n0), upd_ne z, e]⟩
    · by_cases z : p.1 = P
      · rw [hu p hp z, z]
        refine ⟨_, at_P, by rw [lst]; exact PySem.TriplesOk_snoc _ _ _ _ a2, fun p' cv hcv => ?_⟩
        rw [lst] at hcv
        rcases among_app _ a2 hcv with k | k
        · obtain ⟨c0, e1, e2⟩ := a3 p' cv k
          exact ⟨c0, e1, kp _ _ e2 codeO_ne⟩
        · exact ⟨c', k, upd_same⟩
      · obtain ⟨ps, b1, b2, b3⟩ := hT p hp
        refine ⟨ps, by rw [upd_ne (ne_of_none b1 n0), upd_ne z, b1], b2, fun p' cv hcv => ?_⟩
        obtain ⟨c0, e1, e2⟩ := b3 p' cv hcv
        exact ⟨c0, e1, kp _ _ e2 codeO_ne⟩
end
end Cb

end
section
set_option maxRecDepth 100000
set_option maxHeartbeats 4000000
/-! sorted(e, key=lambda x: (len(x), x)) -/
namespace Cb
open PySem PySem.Spec PyProof.Rows L2 LamX PySem.W
/-! ### data -/
def itW1 (l : List Int) : W := .tup (l.map .int)
theorem asInts_eq : ∀ {ws : List W} {l : List Int}, asInts ws = some l → ws = l.map .int
  | [], l, h => by cases h; rfl
  | w :: ws, l, h => by
    cases w with
    | int i =>
      change (asInts ws).map (i :: ·) = some l at h
      cases q : asInts ws with
      | none => rw [q] at h; cases h
      | some m =>
        rw [q] at h
        cases h
        rw [asInts_eq q]
        rfl
    | _ => cases h
theorem asInts_map (l : List Int) : asInts (l.map .int) = some l := by
  induction l with
  | nil => rfl
  | cons a l ih => simp [asInts, ih]
theorem allIT : ∀ {ws : List W}, ws.all isIT = true → ∃ Ls : List (List Int), ws = Ls.map itW1
  | [], _ => ⟨[], rfl⟩
  | w :: ws, h => by
    rw [List.all_cons, Bool.and_eq_true] at h
    obtain ⟨Ls, rfl⟩ := allIT h.2
    cases w with
    | tup l =>
      have h1 : (asInts l).isSome = true := h.1
      obtain ⟨m, hm⟩ := Option.isSome_iff_exists.mp h1
      exact ⟨m :: Ls, by rw [List.map_cons, asInts_eq hm]; rfl⟩
    | _ => exact absurd h.1 (by simp [isIT])
theorem toDs_ints (l : List Int) : toDs (l.map .int) = l.map .int := by
  induction l with
  | nil => rfl
  | cons a l ih => simp [toDs, toD, ih]
theorem un_key (l : List Int) : unKey (keyLW (itW1 l)) = itW1 l := rfl
section
variable {X : Cx} {pins : List (Addr × Obj)} {σ : L2.St} {H : Hp} {s : Shared}
/-- a tuple of ints on the heap -/
def TupAt (h : Heap) (p : V × List Int) (v : Value) : Prop := RelV p.1 v ∧ ∃ t its, v = .ref t ∧ IsTup h t its ∧ Vals (p.2.map V.int) its.toList ∧ its.size ≤ sizeLine
theorem each_tups {G : Gc} (hG : G.K = X.K) {S : AS} (I : Inv X pins σ H s) : ∀ {its : List Value} {xs : List V} {Ls : List (List Int)}, Vals xs its → Rps G S H (Ls.map itW1) xs → EachIs (fun v p => TupAt s.heap p v) its (xs.zip Ls)
  | _, _, [], .nil, r => .nil
  | _, _, [], .cons _ _, r => by
    have := r.inv0
    cases this
  | _, _, l :: Ls, .nil, r => by
    obtain ⟨v, vr, e, _⟩ := r.inv
    cases e
  | _, _, l :: Ls, .cons (a := x) (b := u) r1 t, r => by
    obtain ⟨v, vr, e, k1, k2⟩ := r.inv
    cases e
    refine .cons ?_ (each_tups hG I t k2)
    unfold itW1 Rp at k1
    obtain ⟨a, vs, rfl, h1, h2⟩ := k1
    have e2 : vs = l.map V.int := asInts_vals (G := G) (S := S) (H := H) h2 (asInts_map l)
    rw [e2] at h1
    obtain rfl : u = Value.ref a := r1
    obtain ⟨its, rv, pl, hz⟩ := I.tuple (hG ▸ h1)
    exact ⟨rfl, a, its.toArray, rfl, pl, by simpa using rv, by rw [List.size_toArray, ← rv.length]; exact hz⟩
theorem reads_ints {h : Heap} : ∀ {l : List Int} {vs : List Value}, Vals (l.map V.int) vs → ReadsAll h vs (l.map .int) []
  | [], _, .nil => .nil
  | i :: l, _, .cons r t => by
    obtain ⟨k, rfl⟩ := r
    exact .cons (as := []) (bs := []) (.int i k) (reads_ints t)
/-- what the key reads as -/
def kD (p : V × List Int) : PyData := .tuple [.int (p.2.length : Nat), .tuple (p.2.map .int)]
theorem kD_toD (p : V × List Int) : kD p = toD (keyLW (itW1 p.2)) := by
  show _ = toD (.tup [.int ((p.2.map W.int).length : Nat), .tup (p.2.map W.int)])
  simp [toD, toDs, toDs_ints, kD]
theorem tups_kp {h h' : Heap} (k : ∀ b o, h.get? b = some o → h'.get? b = some o) {p : V × List Int} {v : Value} (t : TupAt h p v) : TupAt h' p v := by
  obtain ⟨r, a, its, e, ⟨o, h1, h2⟩, h3⟩ := t
  exact ⟨r, a, its, e, ⟨o, k _ _ h1, h2⟩, h3⟩
theorem each_vals : ∀ {out : List Value} {bs : List (V × List Int)} {h : Heap}, EachIs (fun v p => TupAt h p v) out bs → Vals (bs.map fun p => p.1) out
  | _, _, _, .nil => .nil
  | _, _, _, .cons r t => .cons r.1 (each_vals t)
theorem zip_rps1 {G : Gc} {S : AS} {H : Hp} : ∀ {Ls : List (List Int)} {xs : List V}, Rps G S H (Ls.map itW1) xs → (∀ p ∈ xs.zip Ls, Rp G S H (itW1 p.2) p.1) ∧ (xs.zip Ls).map (fun p => p.2) = Ls
  | [], xs, r => by
    rw [List.zip_nil_right]
    exact ⟨fun p hp => absurd hp (by simp), rfl⟩
  | l :: Ls, xs, r => by
    obtain ⟨v, vr, rfl, k1, k2⟩ := r.inv
    obtain ⟨h1, h2⟩ := zip_rps1 k2
    rw [List.zip_cons_cons]
    refine ⟨fun p hp => ?_, by rw [List.map_cons, h2]⟩
    rcases List.mem_cons.mp hp with e | e
    · rw [e]; exact k1
    · exact h1 p e
theorem rps_zip1 {G : Gc} {S : AS} {H : Hp} : ∀ {ps : List (V × List Int)}, (∀ p ∈ ps, Rp G S H (itW1 p.2) p.1) → Rps G S H (ps.map fun p => itW1 p.2) (ps.map fun p => p.1)
  | [], _ => .nil
  | p :: ps, h => .cons (h p List.mem_cons_self) (rps_zip1 fun q hq => h q (List.mem_cons_of_mem _ hq))
end
/-- what the text says of the lambda, where it stands -/
structure LamAt (X : Cx) (T : List (Addr × Str)) (x : Str) (params : Arguments) (body : Expr) (scope : Scope) : Prop where
  ex : ∃ (c P : Addr) (qn : Str), TabB X.base X.mg c P ∧ X.env.code = .ref c ∧ X.env.qual ++ "<lambda>" = qn ∧ (P, qn) ∈ T ∧ (∀ p ∈ T, p.1 = P → p.2 = qn) ∧
    (∀ c' pm ct u, bindArgs (PySem.W.kla_fn "<lambda>" qn params body scope [] pm (.ref c') ct) ⟨[u], []⟩ = pure [(x, u)]) ∧ ∀ L f c', (envOfC qn scope L f (.ref c')).kindOf "len" = some .globalImplicit
  dfl : defaultsOf params X.env = ([], [])
  free : ∀ y ∈ scope.names, y.2 ≠ .free
  sc : FnScope [x] [x] scope
  vis : Vis scope x
  body : KeyLT x body
  n1 : (x == ("__debug__" : Str)) = false
  n2 : (x == ("__classdict__" : Str)) = false
section
variable [Tb] {G : Gc} {U : L2.WX} {X : Cx}
theorem sx_sortLT {x : Str} {e : Expr} {d : Den Od} {p pos kp lp : Pos} {params : Arguments} {body : Expr} {scope : Scope} (hG : G.K = X.K) (hc : X.calm = true) (hdep : X.A.depth < recursionLimit) (hu : X.A.units + 65 < cLine) (ns : Nst e) (he : PE X e (tD G U (rO G) d))
    (hg : Gl X "sorted") (hm : X.mg "sorted" = none) (L : LamAt X Tb.T x params body scope) (hml : X.mg "len" = none)
    (hall : (backToKw pos (keywordEach [⟨some "key", .Lambda params body scope lp, kp⟩] X.env)).all (·.1.isSome) = true) (hno : (backToKw pos (keywordEach [⟨some "key", .Lambda params body scope lp, kp⟩] X.env)).any (·.1.isNone) = false)
    (hks : (backToKw pos (keywordEach [⟨some "key", .Lambda params body scope lp, kp⟩] X.env)).filterMap (·.1) = [("key" : Str)]) (hpl : (backTo pos (starEach [e] X.env)).any (·.1) = false) (hst : backTo pos (starEach [e] X.env) = (false, eval e X.env) :: backTo pos (starEach [] X.env)) :
    PE X (.Call (.Name "sorted" p) [e] [⟨some "key", .Lambda params body scope lp, kp⟩] pos) (tD G U (rZ G) (cPr .sortLT (cConsO d cNil))) := by
  refine ⟨fun pins s σ H Q I ⟨env, S, A, en, ok, o⟩ => ?_⟩
  have o1 : Out G U σ S H A (rZ G) ((d env).bind fun a env => primM .sortLT [a] env) Q := by
    have e : ((d env).bind fun a env => primM .sortLT [a] env) = cPr .sortLT (cConsO d cNil) env := by
      unfold cPr cConsO cNil
      cases d env <;> rfl
    rw [e]; exact o
  refine wpAny_Call_Name_kw (ld_blt I hg hm (show bootBuiltins "sorted" = some (.builtin "sorted") from rfl) ?_)
  refine PyProof.Rows.callWith_kw (thn ((pa_cons he pa_nil (ns _ _)).run pos pins s σ H (fun vs H1 => ∃ v oa env1 S1 A1, vs = [v] ∧ EnvR G S1 H1 env1 σ A1 ∧ Ok S1 H1 A1 ∧ OdR G σ S1 H1 oa v ∧ Out G U σ S1 H1 A1 (rZ G) (primM .sortLT [oa] env1) Q) I
    ⟨env, S, A, en, ok, (Out.bind (rel := rO G) (fun h => h.2) o1).mono fun v H1 ⟨oa, env1, S1, A1, _, en1, ok1, ⟨r1, _⟩, f1, o2⟩ => ⟨v, oa, env1, S1, A1, rfl, en1, ok1, r1, o2⟩⟩) fun us s1 ⟨vs, H1, I1, r1, v, oa, env1, S1, A1, ev, en1, ok1, rd, o2⟩ => ?_) hst hpl hall hno
  subst ev
  obtain ⟨uv, rfl, rv⟩ := vals1 r1
  unfold primM at o2
  cases er : resAll env1 [oa] with
  | none => rw [er] at o2; exact o2.elim
  | some zs =>
    rw [er] at o2
    dsimp only at o2
    have hvw := res_vw en1 (ods := [oa]) (vs := [v]) ⟨v, [], rfl, rd, rfl⟩ er
    cases q : prW .sortLT (zs.map frz) with
    | none => rw [q] at o2; exact o2.elim
    | some z =>
      rw [q] at o2
      dsimp only at o2
      change p_sortLT (zs.map frz) = some z at q
      unfold p_sortLT at q
      split at q
      · rename_i ws eq
        rw [eq] at hvw
        obtain ⟨v', e1, hv⟩ := vws1 hvw
        cases e1
        obtain ⟨a, xs, rfl, k1, k2⟩ := hv
        by_cases hs : (ws.all isIT && sortable (ws.map keyLW)) = true
        · rw [if_pos hs] at q
          cases q
          rw [Bool.and_eq_true] at hs
          obtain ⟨Ls, rfl⟩ := allIT hs.1
          obtain rfl : uv = Value.ref a := rv
          obtain ⟨c, P, qn, B, hcd, hq, hP, huq, hbd, hkl⟩ := L.ex
          show wpAny _ _ (evalAll ((do let v ← eval (.Lambda params body scope lp) X.env; standAt pos; pure v) :: [])) _ _ s1
          refine wpAny_evalAll_cons (wpAny_bind (lam_new I1 B hcd hq hP huq ok1.tab L.dfl L.free fun f c' pm ct H2 s2 I2 md tb hf hcc => wpAny_bind (wpAny_standAt (wpAny_pure (wpAny_evalAll_nil ?_)))))
          rw [hks]
          have kp : Kp S1 H1 H2 := fun b o e _ nt => md.keep b o e nt
          have k1' : H2 a = some (.lst xs) := md.keep _ _ k1 fun _ h => by cases h
          have k2' : Rps G S1 H2 (Ls.map itW1) xs := k2.mono kp fun _ h => h
          obtain ⟨its, rv2, hls, hz⟩ := I2.list (SqL.of k1' : SqL X.K H2 a xs)
          have ez : EachIs (fun v p => TupAt s2.heap p v) its (xs.zip Ls) := each_tups hG I2 rv2 k2'
          obtain ⟨zr, zm⟩ := zip_rps1 k2'
          have sk : (xs.zip Ls).map kD = toDs ((Ls.map itW1).map keyLW) := by
            have e1 : (xs.zip Ls).map kD = ((xs.zip Ls).map fun p => p.2).map fun l => toD (keyLW (itW1 l)) := by
              rw [List.map_map]
              exact List.map_congr_left fun p _ => kD_toD p
            rw [e1, zm]
            clear e1 zr zm ez k2' k2 hs o2 er hvw eq
            induction Ls with
            | nil => rfl
            | cons l Ls ih => rw [List.map_cons, List.map_cons, List.map_cons, ih]; simp [toDs]
          obtain ⟨s1', s2'⟩ := sortable_iff hs.2
          have sp := shWs_iff s1'
          have hlen : (xs.zip Ls).length = xs.length := by
            have := k2'.length
            rw [List.length_map] at this
            rw [List.length_zip]; omega
          have hmem : ∀ p ∈ xs.zip Ls, keyLW (itW1 p.2) ∈ (Ls.map itW1).map keyLW := fun p hp => List.mem_map_of_mem (List.mem_map_of_mem (List.of_mem_zip hp).2)
          show wpAny _ _ (call (.builtin "sorted") [Value.ref a] [(("key" : Str), Value.ref f)]) _ _ s2
          refine PySem.W.sorted_key_data (β := V × List Int) (b := false) (R := fun v p => TupAt s2.heap p v) kD hls.isList ez ?_ ?_ ?_ ?_ (PyProof.Rows.ksk_s1 _ _) (fun _ => PyProof.Rows.ksk_l1 _ _) (fun _ => PyProof.Rows.ksk_t1 _ _) ?_ ?_
          · intro d hd d' hd'
            rw [sk] at hd hd'
            obtain ⟨w, hw, rfl⟩ := toDs_mem hd
            obtain ⟨w', hw', rfl⟩ := toDs_mem hd'
            exact alike_of (s2' w hw w' hw')
          · exact PySem.W.Sortable.tuples fun p => ⟨_, _, rfl⟩
          · rw [hlen]; exact hz
          · intro p hp
            rw [kD_toD, (toD_lay (plainWs_mem sp.1 (hmem p hp))).2]
            have := depWs_mem (hmem p hp)
            have := sp.2
            omega
          · intro v p ⟨r, t, tis, e, ht, hi, hzt⟩ hp h tk hk
            subst e
            have hsl := sizeLine_eq
            refine wpAny_mono (lam_key (x := x) I2 hdep (I2.ok.hd hc) hf hcc L.sc (fun u => hbd c' pm ct u) L.body L.vis (fun L' => hkl L' f c') hml L.n1 L.n2 ht (by omega) h tk hk) (fun u s3 ⟨h', tk', T, k, e3, e4, e5, e6⟩ => ?_) fun _ _ x => x
            subst e5
            refine ⟨h', tk', e3, e4, ?_⟩
            obtain ⟨o, t1, t2⟩ := ht
            have e7 : (its.length : Nat) = its.length := rfl
            have e8 : tis.size = p.2.length := by
              have := hi.length
              simpa using this.symm
            refine .tuple e6 rfl rfl (.cons (as := []) (bs := []) ?_ (.cons (as := []) (bs := []) ?_ .nil))
            · rw [e8]
              exact .int _ _
            · obtain ⟨n, t3⟩ := t2.2
              exact .tuple (e4 _ _ (hk _ _ t1)) t2.1 t3 (reads_ints hi)
          · intro out cap h' tk hk hn ho hl eo
            have rv3 := each_vals eo
            generalize hps : (xs.zip Ls).mergeSort (PySem.W.dataLe false kD) = ps at eo rv3
            have pm2 : ps.Perm (xs.zip Ls) := by rw [← hps]; exact List.mergeSort_perm _ _
            have hres : (sortW ltW ((Ls.map itW1).map keyLW)).map unKey = ps.map fun p => itW1 p.2 := by
              have e1 : ps.map (fun p => keyLW (itW1 p.2)) = sortW ltW ((Ls.map itW1).map keyLW) := by
                rw [← hps, sort_maps (r := PySem.W.dataLe false kD) (s := PySem.W.dataLe false toD) (fun p : V × List Int => keyLW (itW1 p.2)) (fun p _ p' _ => by unfold PySem.W.dataLe sortLe; simp only [kD_toD])]
                have e2 : (xs.zip Ls).map (fun p => keyLW (itW1 p.2)) = (Ls.map itW1).map keyLW := by
                  rw [List.map_map]
                  conv => rhs; rw [← zm]
                  rw [List.map_map]
                  rfl
                rw [e2, sort_eq hs.2]
              rw [← e1, List.map_map]
              exact List.map_congr_left fun p _ => un_key p.2
            rw [hres] at o2
            have hlo : ps.length ≤ sizeLine := by rw [pm2.length_eq, hlen]; exact hz
            have nP : H2 (s2.heap.objs.size + 1) = none := I2.hok.fresh (Nat.le_succ _)
            have I3 := I2.laid (o := .lst (ps.map fun p => p.1)) (t' := tk) hk (Nat.le_succ (s2.heap.objs.size)) ⟨by rw [List.length_map]; exact hlo, out, cap, rv3, ho⟩
            refine ⟨.ref _, _, I3, rfl, ?_⟩
            have kn := keep_new (u := .lst (ps.map fun p => p.1)) nP
            have rps : Rps G S1 H2 (ps.map fun p => itW1 p.2) (ps.map fun p => p.1) := rps_zip1 fun p hp => zr p (pm2.mem_iff.mp hp)
            have kp3 : Kp S1 H1 (upd H2 (s2.heap.objs.size + 1) (.lst (ps.map fun p => p.1))) := fun b o e _ nt => kn b o (md.keep b o e nt)
            have n1 : H1 (s2.heap.objs.size + 1) = none := by
              cases e : H1 (s2.heap.objs.size + 1) with
              | none => rfl
              | some o =>
                obtain ⟨o', e'⟩ := md.dom _ o e
                rw [nP] at e'; cases e'
            have ownK : ∀ b ∈ A1, ∀ o, H1 b = some o → upd H2 (s2.heap.objs.size + 1) (.lst (ps.map fun p => p.1)) b = some o := fun b hb o e => kn b o (md.keep b o e (NoT.mu (e ▸ (ok1.own b hb).2)))
            have notA : s2.heap.objs.size + 1 ∉ A1 := fun h => by
              have := (ok1.own _ h).2
              rw [n1] at this; exact this
            refine o2 (.ref (s2.heap.objs.size + 1)) _ S1 A1 [s2.heap.objs.size + 1] (en1.mono kp3 (fun _ h => h) ownK) ⟨_, _, rfl, upd_same, rps.mono (ext_kp kn) fun _ h => h, rfl⟩ ⟨?_, ?_, ?_, ?_⟩ ⟨?_, fun _ h => h, fun _ h => .inl h, ?_, ?_⟩
            · exact List.nodup_cons.mpr ⟨notA, ok1.nd⟩
            · intro b hb
              rcases List.mem_cons.mp hb with e | e
              · subst e
                refine ⟨fun h => ?_, by rw [upd_same]; trivial⟩
                obtain ⟨o, e⟩ := ok1.dom _ h
                rw [n1] at e; cases e
              · obtain ⟨u, eu⟩ := mut_some (ok1.own b e).2
                exact ⟨(ok1.own b e).1, by rw [ownK b e u eu, ← eu]; exact (ok1.own b e).2⟩
            · intro b hb
              obtain ⟨o, e⟩ := ok1.dom b hb
              obtain ⟨o', e'⟩ := md.dom b o e
              exact ⟨o', kn b o' e'⟩
            · exact tabs_keep tb fun b o e _ => kn b o e
            · exact fun b o e _ nt => kn b o (md.keep b o e nt)
            · intro b hb
              rcases List.mem_cons.mp hb with e | e
              · exact .inr (e ▸ n1)
              · exact .inl e
            · intro b o e
              obtain ⟨o', e'⟩ := md.dom b o e
              exact ⟨o', kn b o' e'⟩
        · rw [if_neg hs] at q; cases q
      · cases q
end
end Cb

end
section
set_option maxRecDepth 100000
set_option maxHeartbeats 1000000
/-! sorted(set(xs)), xs ints or tuples of ints -/
namespace Cb
open PySem PySem.Spec PyProof.Rows L2 PySem.W
section
variable {X : Cx}
/-- set(t), t a tuple of tuples of ints -/
def rSetTt (K : PySem.W.Frag) (P : Program) (w : World) : List V → Hp → VK → Prop := fun vs H Q => ∃ (t : Addr) (ks : List (Addr × List Int)), vs = [V.ref t] ∧ SqT K H t (ks.map fun p => V.ref p.1) ∧
  (∀ p ∈ ks, SqT K H p.1 (p.2.map V.int)) ∧ ks.length < 64 ∧ ∀ a L, H a = none → (∀ p ∈ L, p ∈ ks) → (∀ p ∈ ks, p.2 ∈ L.map (·.2)) → Q (.ref a) (upd H a (SetTO P w a L))
theorem cr_setTt (hc : X.calm = true) (hu : X.A.units + 64 < cLine) : CallR X (.type "set") (rSetTt X.K X.prog X.w) := fun pins s σ H vs us Q I r h => by
  obtain ⟨t, ks, rfl, ht, hk, hf, q⟩ := h
  obtain ⟨its, rv, tupl, _⟩ := I.tuple ht
  have hn : H s.heap.objs.size = none := I.hok.fresh (Nat.le_refl _)
  rw [Vals.ref1 r]
  refine call_set_ttup (P := X.prog) (w := X.w) (I.ok.hd hc) (by omega) tupl (by simpa using refs_of_vals rv) hf (fun p hp => I.isT (hk p hp)) fun z hz => ?_
  obtain ⟨g, n, L, es, ep, tb, rfl, R, got, keep⟩ := hz
  exact ⟨.ref s.heap.objs.size, upd H s.heap.objs.size (SetTO X.prog X.w s.heap.objs.size L), I.laid (t' := n) keep (Nat.le_refl _) (setTO_new R.t0), rfl, q _ L hn (fun p hp => List.mem_of_mem_take (got.sub p hp)) fun p hp => got.all p (by rw [List.take_length]; exact hp)⟩
/-- set(t), t a tuple of ints -/
def rSetIt (K : PySem.W.Frag) (w : World) : List V → Hp → VK → Prop := fun vs H Q => ∃ (t : Addr) (ns : List Int), vs = [V.ref t] ∧ SqT K H t (ns.map V.int) ∧ ns.length < 64 ∧
  ∀ a c, H a = none → c ≤ ns.length → Q (.ref a) (upd H a (SetO w a (fun j => decide (j ∈ ns)) c))
theorem cr_setIt (hc : X.calm = true) : CallR X (.type "set") (rSetIt X.K X.w) := fun pins s σ H vs us Q I r h => by
  obtain ⟨t, ns, rfl, ht, hf, q⟩ := h
  obtain ⟨its, rv, tupl, _⟩ := I.tuple ht
  have hn : H s.heap.objs.size = none := I.hok.fresh (Nat.le_refl _)
  rw [Vals.ref1 r]
  have hi : IntsAre its.toArray.toList ns := ints_of_vals rv
  exact call_set_tupI ns (I.ok.hd hc) (show s.heap.IsTuple t its.toArray from tupl) hi (by unfold scanBound; omega) fun h' tk c R hcn k =>
    ⟨.ref s.heap.objs.size, upd H s.heap.objs.size (SetO X.w s.heap.objs.size (fun j => decide (j ∈ ns)) c), I.laid (t' := tk) k (Nat.le_refl _) (setO_new R), rfl, q _ c hn hcn⟩
def kT (p : Addr × List Int) : PyData := .tuple (p.2.map .int)
/-- sorted(s), s a set of tuples of ints -/
def rSortTa (K : PySem.W.Frag) (P : Program) (w : World) : List V → Hp → VK → Prop := fun vs H Q => ∃ (a : Addr) (L : List (Addr × List Int)), vs = [V.ref a] ∧ H a = some (SetTO P w a L) ∧ (∀ p ∈ L, SqT K H p.1 (p.2.map V.int)) ∧
  ∀ (b1 : List (Addr × List Int)) (p : Addr), b1.Perm L → (b1.map (·.2)).Nodup → H p = none → Q (.ref p) (upd H p (.lst ((b1.mergeSort (dataLe false kT)).map fun q => V.ref q.1)))
theorem alike_ints : ∀ (l m : List Int), alikeAll (l.map PyData.int) (m.map PyData.int) = true
  | [], [] => by simp [alikeAll]
  | [], _ :: _ => by simp [alikeAll]
  | _ :: _, [] => by simp [alikeAll]
  | a :: l, b :: m => by
    have := alike_ints l m
    simp [alikeAll, alike, this]
theorem kT_dep (l : List Int) : PyData.depthAll (l.map PyData.int) = 0 := by
  induction l with
  | nil => rfl
  | cons a l ih => simp [PyData.depthAll, PyData.depth, ih]
theorem cr_sortTa (hc : X.calm = true) (hu : X.A.units + 65 < cLine) : CallR X (.builtin "sorted") (rSortTa X.K X.prog X.w) := by
  intro pins s σ H vs us Q I r h
  obtain ⟨a, L, rfl, ha, hk, q⟩ := h
  have R0 : SetT0 X.prog X.w s.heap a L := (I.hok a _ ha).1
  obtain ⟨es, ep, t, R⟩ := R0.full fun p hp => I.isT (hk p hp)
  rw [Vals.ref1 r]
  obtain ⟨o, ho, hex, hd⟩ := R.ob
  have hsz := R.size
  have hfew := R.few
  have hes : es.toList.map (·.2) = L.map fun q => Value.ref q.1 := by
    rw [R.rows]
    unfold L2.rowsOf
    rw [List.map_map]; rfl
  have hi : ∀ L0 : List (Addr × List Int), (∀ p ∈ L0, p ∈ L) → EachIs (fun v (p : Addr × List Int) => v = Value.ref p.1 ∧ p ∈ L) (L0.map fun q => Value.ref q.1) L0 := by
    intro L0
    induction L0 with
    | nil => intro _; exact .nil
    | cons p L0 ih => intro h0; exact .cons ⟨rfl, h0 p List.mem_cons_self⟩ (ih fun q hq => h0 q (List.mem_cons_of_mem _ hq))
  refine sorted_any (β := Addr × List Int) (R0 := fun v p => v = Value.ref p.1 ∧ p ∈ L) kT (I.ok.hd hc) ⟨o, ho, hex.1, hd⟩ R.fits (by unfold scanBound; omega) R.tab.ris R.led (by rw [hes]; exact hi L fun _ h => h) ?_ ?_ (.inr ?_) ?_ (by omega) ?_
  · rintro v p ⟨rfl, hp⟩ h hk'
    obtain ⟨its, rv, ⟨o, h1, h2, n, h3⟩, _⟩ := I.tuple (hk p hp)
    exact ⟨[], .tuple (hk' _ _ h1) h2 h3 (reads_ints (by simpa using rv))⟩
  · intro d hd d' hd'
    obtain ⟨p, _, rfl⟩ := List.mem_map.mp hd
    obtain ⟨p', _, rfl⟩ := List.mem_map.mp hd'
    unfold kT alike
    exact alike_ints _ _
  · intro d hd
    obtain ⟨p, _, rfl⟩ := List.mem_map.mp hd
    exact ⟨_, rfl⟩
  · intro d hd
    obtain ⟨p, _, rfl⟩ := List.mem_map.mp hd
    unfold kT PyData.depth
    rw [kT_dep]
    omega
  · intro z p out c b1 k g o' hp hg pm eo
    have hlen : ((b1.mergeSort (dataLe false kT)).map fun q => V.ref q.1).length ≤ sizeLine := by
      rw [List.length_map, (List.mergeSort_perm _ _).length_eq, pm.length_eq, sizeLine_eq]; omega
    have hn : H p = none := I.hok.fresh hp
    have hv : ∀ {out : List Value} {b : List (Addr × List Int)}, EachIs (fun v (p : Addr × List Int) => v = Value.ref p.1 ∧ p ∈ L) out b → Vals (b.map fun q => V.ref q.1) out := by
      intro out b e
      induction e with
      | nil => exact .nil
      | cons r _ ih => exact .cons r.1 ih
    have J : Inv X pins σ (upd H p (.lst ((b1.mergeSort (dataLe false kT)).map fun q => V.ref q.1))) { s with heap := z.heap, gens := z.gens, drawn := z.drawn, toks := z.toks } :=
      I.call (ch := []) (Un.laid k hp hn) (I.hok.laid k hp ⟨hlen, out, c, hv eo, hg⟩) (by rw [g]; exact I.bare) (fun _ z => nomatch z)
    have e : z = { s with heap := z.heap, gens := z.gens, drawn := z.drawn, toks := z.toks } := by
      cases z
      cases s
      cases o'
      rfl
    rw [e]
    exact ⟨.ref p, _, J, rfl, q b1 p pm ((pm.map (·.2)).nodup_iff.mpr R.nd) hn⟩
end
/-! ### the composition -/
def rSetU (K : PySem.W.Frag) (P : Program) (w : World) : List V → Hp → VK → Prop := fun vs H Q => rSetTt K P w vs H Q ∨ rSetOfT K P w vs H Q ∨ rSetIt K w vs H Q
def rSortU2 (K : PySem.W.Frag) (P : Program) (w : World) : List V → Hp → VK → Prop := fun vs H Q => rSortTa K P w vs H Q ∨ rSortedSet w vs H Q
def rSS2 (K : PySem.W.Frag) (P : Program) (w : World) : List V → Hp → VK → Prop := fun vs H Q => rSetU K P w vs H fun v H1 => rSortU2 K P w [v] H1 Q
section
variable [Tb] {X : Cx} {G : Gc} {U : L2.WX}
theorem ks_ofT {S : AS} {H : Hp} : ∀ {Ls : List (List Int)} {vs : List V}, Rps G S H (Ls.map itW1) vs →
    ∃ ks : List (Addr × List Int), vs = ks.map (fun p => V.ref p.1) ∧ ks.map (·.2) = Ls ∧ ∀ q ∈ ks, Rp G S H (itW1 q.2) (.ref q.1) ∧ SqT G.K H q.1 (q.2.map V.int)
  | [], vs, h => ⟨[], h.inv0, rfl, fun q hq => by cases hq⟩
  | l :: Ls, vs, h => by
    obtain ⟨v, r, rfl, h1, h2⟩ := h.inv
    obtain ⟨ks, rfl, e, hk⟩ := ks_ofT h2
    have h1' := h1
    unfold itW1 Rp at h1'
    obtain ⟨b, us, rfl, hb, hu⟩ := h1'
    rw [asInts_vals (G := G) (S := S) (H := H) hu (asInts_map l)] at hb
    refine ⟨(b, l) :: ks, rfl, by rw [List.map_cons, e], fun q hq => ?_⟩
    rcases List.mem_cons.mp hq with rfl | hq
    · exact ⟨h1, hb⟩
    · exact hk q hq
theorem rps_ksT {S : AS} {H : Hp} : ∀ {L : List (Addr × List Int)}, (∀ q ∈ L, Rp G S H (itW1 q.2) (.ref q.1)) → Rps G S H (L.map fun q => itW1 q.2) (L.map fun q => V.ref q.1)
  | [], _ => .nil
  | q :: L, h => .cons (h q List.mem_cons_self) (rps_ksT fun r hr => h r (List.mem_cons_of_mem _ hr))
theorem isI_ints : ∀ {ws : List W}, ws.all isI = true → ∃ ns : List Int, ws = ns.map .int
  | [], _ => ⟨[], rfl⟩
  | w :: ws, h => by
    rw [List.all_cons, Bool.and_eq_true] at h
    obtain ⟨ns, rfl⟩ := isI_ints h.2
    cases w with
    | int i => exact ⟨i :: ns, rfl⟩
    | _ => exact absurd h.1 (by simp [isI])
theorem itW1_inj {l m : List Int} (h : itW1 l = itW1 m) : l = m := by
  have h1 : (l.map W.int) = m.map W.int := by injection h
  have h2 := asInts_map l
  rw [h1, asInts_map m] at h2
  exact (Option.some.inj h2).symm
/-- tuples of ints: what the set's sorted list is -/
theorem tups_out {S : AS} {H : Hp} {Q : VK} {Ls : List (List Int)} {ks : List (Addr × List Int)} (hG : G.K = X.K) (hks : ks.map (·.2) = Ls) (hk : ∀ q ∈ ks, Rp G S H (itW1 q.2) (.ref q.1) ∧ SqT G.K H q.1 (q.2.map V.int)) (hs : sortable (Ls.map itW1) = true)
    (q : Res G S H (.L (sortW ltW (dedupW (Ls.map itW1)))) Q) (a : Addr) (L : List (Addr × List Int)) (ha : H a = none) (hsub : ∀ p ∈ L, p ∈ ks) (hall : ∀ p ∈ ks, p.2 ∈ L.map (·.2)) : rSortU2 X.K X.prog X.w [.ref a] (upd H a (SetTO X.prog X.w a L)) Q := by
  have kp1 : ∀ b o, H b = some o → upd H a (SetTO X.prog X.w a L) b = some o := keep_new ha
  refine .inl ⟨a, L, rfl, upd_same, fun p hp => ?_, fun b1 p pm nd hp => ?_⟩
  · have h := (hk p (hsub p hp)).2
    rw [hG] at h
    exact sqT_kp (S0 := S) h fun b o e _ _ => kp1 b o e
  · have hk' : ∀ q ∈ b1, Rp G S H (itW1 q.2) (.ref q.1) := fun q hq => (hk q (hsub q (pm.mem_iff.mp hq))).1
    have nd2 : (b1.map fun q => itW1 q.2).Nodup := by
      refine List.pairwise_map.mpr ((List.pairwise_map.mp nd).imp fun {x y} hne e => hne (itW1_inj e))
    have hm : ∀ x, x ∈ (b1.map fun q => itW1 q.2) ↔ x ∈ Ls.map itW1 := by
      intro x
      rw [← hks, List.map_map]
      constructor
      · intro hx
        obtain ⟨q, hq, rfl⟩ := List.mem_map.mp hx
        exact List.mem_map.mpr ⟨q, hsub q (pm.mem_iff.mp hq), rfl⟩
      · intro hx
        obtain ⟨q, hq, rfl⟩ := List.mem_map.mp hx
        obtain ⟨r, hr, e⟩ := List.mem_map.mp (hall q hq)
        exact List.mem_map.mpr ⟨r, pm.mem_iff.mpr hr, by show itW1 r.2 = itW1 q.2; rw [e]⟩
    have hs1 : sortable (b1.map fun q => itW1 q.2) = true := sortable_sub hs fun x hx => (hm x).mp hx
    have e1 : (b1.mergeSort (dataLe false kT)).map (fun q => itW1 q.2) = sortW ltW (dedupW (Ls.map itW1)) := by
      rw [sort_dd hs nd2 hm, ← sort_eq hs1]
      refine sort_maps (r := dataLe false kT) (s := dataLe false toD) (fun q : Addr × List Int => itW1 q.2) fun p _ p' _ => ?_
      have : ∀ p : Addr × List Int, kT p = toD (itW1 p.2) := fun p => by
        show _ = toD (.tup (p.2.map W.int))
        simp [toD, toDs_ints, kT]
      unfold dataLe sortLe
      simp only [this]
    have kp2 : ∀ b o, H b = some o → upd (upd H a (SetTO X.prog X.w a L)) p (.lst ((b1.mergeSort (dataLe false kT)).map fun q => V.ref q.1)) b = some o := fun b o e => keep_new hp b o (kp1 b o e)
    rw [← e1] at q
    refine q _ _ [p] kp2 ⟨p, _, rfl, upd_same, (rps_ksT fun q hq => ((hk' q ((List.mergeSort_perm _ _).mem_iff.mp hq)).mono (fun b o e _ _ => kp2 b o e) fun _ h => h)), rfl⟩ (by simp) fun b hb => ?_
    obtain rfl : b = p := by simpa using hb
    refine ⟨?_, by rw [upd_same]; trivial⟩
    cases e8 : H b with
    | none => rfl
    | some o => rw [kp1 b o e8] at hp; cases hp
theorem pk_sset2 (hG : G.K = X.K) : PrOk G (rSS2 X.K X.prog X.w) (prW .sset) := by
  intro S H ws vs z Q hv e q
  change p_sset ws = some z at e
  unfold p_sset at e
  split at e
  · rename_i a
    obtain ⟨v, rfl, h1⟩ := vws1 hv
    obtain ⟨t, xs, rfl, k1, k2⟩ := vw_tup h1
    by_cases hs : ((a.all isI || a.all isIT) && sortable a && decide (a.length < 64)) = true
    · rw [if_pos hs] at e
      cases e
      rw [Bool.and_eq_true, Bool.and_eq_true, Bool.or_eq_true] at hs
      obtain ⟨⟨hk, hs⟩, hl⟩ := hs
      have hl := of_decide_eq_true hl
      rw [hG] at k1
      rcases hk with hk | hk
      · obtain ⟨ns, rfl⟩ := isI_ints hk
        have e2 : xs = ns.map V.int := asInts_vals (G := G) (S := S) (H := H) k2 (asInts_map ns)
        subst e2
        rw [List.length_map] at hl
        refine .inr (.inr ⟨t, ns, rfl, k1, hl, fun a c ha hc => .inr ⟨a, _, c, rfl, upd_same, by omega, fun ns' p hpw hm _ hp => ?_⟩⟩)
        have kp1 := keep_new (u := SetO X.w a (fun j => decide (j ∈ ns)) c) ha
        have nd : (ns'.map W.int).Nodup := List.pairwise_map.mpr (hpw.imp fun {x y} hlt e => by injection e; omega)
        have hm2 : ∀ x, x ∈ ns'.map W.int ↔ x ∈ ns.map W.int := by
          intro x
          constructor
          · intro hx
            obtain ⟨i, hi, rfl⟩ := List.mem_map.mp hx
            exact List.mem_map.mpr ⟨i, of_decide_eq_true ((hm i).mp hi), rfl⟩
          · intro hx
            obtain ⟨i, hi, rfl⟩ := List.mem_map.mp hx
            exact List.mem_map.mpr ⟨i, (hm i).mpr (decide_eq_true hi), rfl⟩
        have e1 : sortW ltW (dedupW (ns.map W.int)) = ns'.map W.int := by
          rw [sort_dd hs nd hm2]
          have hs1 : sortable (ns'.map W.int) = true := sortable_sub hs fun x hx => (hm2 x).mp hx
          refine (sortW_perm _).eq_of_pairwise (le := fun a b => ltW b a = false) (fun a b ha hb h1 h3 => ?_) (sort_asc hs1) (List.pairwise_map.mpr (hpw.imp fun {x y} hlt => ?_))
          · obtain ⟨_, h2⟩ := sortable_iff hs1
            exact cmp_tri a b (h2 a ((sortW_perm _).mem_iff.mp ha) b hb) h3 h1
          · show decide (y < x) = false
            exact decide_eq_false (by omega)
        rw [e1] at q
        have kp2 : ∀ b o, H b = some o → upd (upd H a (SetO X.w a (fun j => decide (j ∈ ns)) c)) p (.lst (ns'.map V.int)) b = some o := fun b o e => keep_new hp b o (kp1 b o e)
        refine q _ _ [p] kp2 ⟨p, _, rfl, upd_same, rps_ints ns', rfl⟩ (by simp) fun b hb => ?_
        obtain rfl : b = p := by simpa using hb
        refine ⟨?_, by rw [upd_same]; trivial⟩
        cases e8 : H b with
        | none => rfl
        | some o => rw [kp1 b o e8] at hp; cases hp
      · obtain ⟨Ls, rfl⟩ := allIT hk
        obtain ⟨ks, rfl, e2, hk⟩ := ks_ofT k2
        have hkl : ks.length < 64 := by
          have := congrArg List.length e2
          rw [List.length_map] at this
          rw [List.length_map] at hl
          omega
        exact .inl ⟨t, ks, rfl, k1, fun p hp => hG ▸ (hk p hp).2, hkl, fun a L ha hsub hall => tups_out hG e2 hk hs q a L ha hsub hall⟩
    · rw [if_neg hs] at e; cases e
  · rename_i a
    obtain ⟨v, rfl, h1⟩ := vws1 hv
    obtain ⟨t, xs, rfl, k1, k2⟩ := h1
    by_cases hs : (a.all isIT && sortable a && decide (a.length < 64)) = true
    · rw [if_pos hs] at e
      cases e
      rw [Bool.and_eq_true, Bool.and_eq_true] at hs
      obtain ⟨⟨hk, hs⟩, hl⟩ := hs
      have hl := of_decide_eq_true hl
      obtain ⟨Ls, rfl⟩ := allIT hk
      obtain ⟨ks, rfl, e2, hk⟩ := ks_ofT k2
      have hkl : ks.length < 64 := by
        have := congrArg List.length e2
        rw [List.length_map] at this
        rw [List.length_map] at hl
        omega
      exact .inr (.inl ⟨t, ks, rfl, SqL.of k1, fun p hp => hG ▸ (hk p hp).2, hkl, fun a L ha hsub hall => tups_out hG e2 hk hs q a L ha hsub hall⟩)
    · rw [if_neg hs] at e; cases e
  · cases e
theorem q_sset {e : Expr} {p p2 pos pos2 : Pos} {d : Den Od} (hG : G.K = X.K) (hc : X.calm = true) (hu : X.A.units + 65 < cLine) (hg : Gl X "sorted") (hm : X.mg "sorted" = none) (hg2 : Gl X "set") (hm2 : X.mg "set" = none) (ns : Nst e) (he : PE X e (tD G U (rO G) d)) :
    PE X (.Call (.Name "sorted" p) [.Call (.Name "set" p2) [e] [] pos2] [] pos) (tD G U (rZ G) (cPr .sset (cConsO d cNil))) :=
  sx_prA (pk_sset2 hG) (pa_csO ns he pa_nlO) fun t ht => by
    have h1 : PE X (.Call (.Name "set" p2) [e] [] pos2) (tCB (rSetU X.K X.prog X.w) t) := pe_callTy ((cr_setTt hc (by omega)).or ((cr_setOfT hc (by omega)).or (cr_setIt hc))) hg2 hm2 rfl ht (he := ns _ _) (hpl := rfl)
    have h2 : PE X (.Call (.Name "sorted" p) [.Call (.Name "set" p2) [e] [] pos2] [] pos) (tCB (rSortU2 X.K X.prog X.w) (tCons (tCB (rSetU X.K X.prog X.w) t) tNil)) :=
      pe_callB ((cr_sortTa hc hu).or (cr_sortedSet hc)) hg hm rfl (pa_cons h1 pa_nil (by rfl)) (he := by rfl) (hpl := rfl)
    exact h2
end
end Cb

end
section
set_option maxRecDepth 100000
set_option maxHeartbeats 1000000
/-! {'a': x, ..}; x is True -/
namespace Cb
open PySem PySem.Spec PyProof.Rows L2
theorem put_new {k : Key} {v : V} {kvs : List (Key × V)} (h : ∀ p ∈ kvs, p.1 ≠ k) : putK kvs k v = kvs ++ [(k, v)] := by
  unfold putK
  rw [if_neg]
  intro hc
  obtain ⟨p, hp, e⟩ := List.any_eq_true.mp hc
  exact h p hp (by simpa using e)
theorem merge_new : ∀ {more kvs : List (Key × V)}, (more.map (·.1)).Nodup → (∀ p ∈ kvs, ∀ q ∈ more, p.1 ≠ q.1) → mergeK kvs more = kvs ++ more
  | [], kvs, _, _ => by simp [mergeK]
  | p :: more, kvs, nd, h => by
    rw [List.map_cons, List.nodup_cons] at nd
    have e : mergeK kvs (p :: more) = mergeK (putK kvs p.1 p.2) more := rfl
    rw [e, put_new fun q hq => h q hq p List.mem_cons_self, merge_new nd.2, List.append_assoc]
    · rfl
    · intro q hq r hr
      rcases List.mem_append.mp hq with hq | hq
      · exact h q hq r (List.mem_cons_of_mem _ hr)
      · rw [List.mem_singleton.mp hq]
        exact fun e => nd.1 (List.mem_map.mpr ⟨r, hr, e.symm⟩)
section
variable [Tb] {G : Gc} {U : L2.WX} {X : Cx}
structure PPd (G : Gc) (U : L2.WX) (X : Cx) (pos : Pos) (keys : List (Option Expr)) (values : List Expr) (ks : List Str) (d : Den (List W)) : Prop where
  ex : ∃ trs, PPs X pos keys values trs ∧ keys.length = ks.length ∧ values.length = ks.length ∧ keys.all (·.isSome) = true ∧ ∀ σ H Q, tD G U (rWs G) d σ H (fun vs H1 => Q ((ks.map V.str).zip vs) H1) → tPairs trs σ H Q
theorem pd_nil {pos : Pos} : PPd G U X pos [] [] [] cNil := ⟨[], pps_nil, rfl, rfl, rfl, fun σ H Q ⟨env, S, A, en, ok, o⟩ => o [] H S A [] en ⟨Rps.nil, rfl⟩ ok (Fr.refl ok)⟩
theorem pd_cons {pos p : Pos} {k : Str} {j} {v : Expr} {keys : List (Option Expr)} {values : List Expr} {ks : List Str} {d : Den Z} {ds : Den (List W)} (hv : PE X v (tD G U (rZ G) d)) (h : PPd G U X pos keys values ks ds) :
    PPd G U X pos (some (.Constant (.str k) j p) :: keys) (v :: values) (k :: ks) (cCons d ds) := by
  obtain ⟨trs, h1, h2, h3, h4, h5⟩ := h.ex
  refine ⟨_, pps_cons pe_str (pe_fz hv) h1, by simp [h2], by simp [h3], by simp [h4], fun σ H Q ⟨env, S, A, en, ok, o⟩ => ?_⟩
  show tD G U (rW G) (cFz d) σ H _
  refine ⟨env, S, A, en, ok, ?_⟩
  have o1 : Out G U σ S H A (rWs G) ((cFz d env).bind fun w env => (ds env).bind fun ws env => .ok (w :: ws) env) fun vs H1 => Q (((k :: ks).map V.str).zip vs) H1 := by
    have e : (cFz d env).bind (fun w env => (ds env).bind fun ws env => R.ok (w :: ws) env) = cCons d ds env := by
      unfold cFz cCons
      cases d env <;> rfl
    rw [e]; exact o
  refine (Out.bind (rel := rW G) (fun h => h.2) o1).mono fun x H1 ⟨w, env1, S1, A1, _, en1, ok1, ⟨rw1, _⟩, f1, o2⟩ => h5 σ H1 _ ⟨env1, S1, A1, en1, ok1, ?_⟩
  refine (Out.bind (rel := rWs G) (fun h => h.2) o2).mono fun xs H2 ⟨ws, env2, S2, A2, _, en2, ok2, ⟨rw2, _⟩, f2, o3⟩ => ?_
  exact o3 (x :: xs) H2 S2 A2 [] en2 ⟨.cons (rw1.mono (f2.kp ok1) f2.up) rw2, rfl⟩ ok2 (Fr.refl ok2)
theorem rpk_zip {S : AS} {H : Hp} : ∀ {ks : List Str} {ws : List W} {vs : List V}, Rps G S H ws vs → ks.length = ws.length → Rpk G S H ((ks.map Sum.inr).zip ws) ((ks.map (Sum.inr : Str → Key)).zip vs)
  | [], [], vs, r, _ => by rw [r.inv0]; exact Rpk.nil
  | k :: ks, w :: ws, vs, r, h => by
    obtain ⟨v, vr, rfl, r1, r2⟩ := r.inv
    exact Rpk.cons r1 (rpk_zip r2 (by simpa using h))
  | [], _ :: _, _, _, h => by simp at h
  | _ :: _, [], _, _, h => by simp at h
theorem zip_strs : ∀ (ks : List Str) (vs : List V), (ks.map V.str).zip vs = ((ks.map (Sum.inr : Str → Key)).zip vs).map fun kv => (kV kv.1, kv.2)
  | [], _ => rfl
  | _ :: _, [] => rfl
  | k :: ks, v :: vs => by
    simp only [List.map_cons, List.zip_cons_cons, zip_strs ks vs]
    rfl
theorem sx_dic {pos : Pos} {keys : List (Option Expr)} {values : List Expr} {ks : List Str} {d : Den (List W)} (h : PPd G U X pos keys values ks d) (h0 : keys ≠ []) (h15 : keys.length ≤ 15) : PE X (.Dict keys values pos) (tD G U (rZ G) (cDic ks d)) := by
  obtain ⟨trs, h1, h2, h3, h4, h5⟩ := h.ex
  refine (pe_disp h1 h4 (h2.trans h3.symm) h0 h15).imp fun σ H Q ⟨env, S, A, en, ok, o⟩ => ?_
  intro p hp
  have kn := keep_new (u := .dK []) hp
  have npA : p ∉ A := fun h => by
    have := (ok.own p h).2
    rw [hp] at this; exact this
  refine h5 σ _ _ ⟨env, S, A, en.mono (ext_kp kn) (fun _ h => h) fun a _ u e => kn a u e, ok.new hp, ?_⟩
  unfold cDic at o
  cases e : d env with
  | bad => rw [e] at o; exact o.elim
  | ex x e1 =>
    rw [e] at o
    intro cls dd H' S' A' xr en' ok' f
    exact o cls dd H' S' A' xr en' ok' ((Fr.new ok hp).trans f)
  | ok ws env1 =>
    rw [e] at o
    dsimp only [R.bind] at o
    intro vs H2 S2 A2 B en2 rws ok2 f2
    obtain ⟨rws, rfl⟩ := rws
    have ok2' : Ok S2 H2 A2 := ok2
    by_cases hc : (decide (ks.length = ws.length) && decide ks.Nodup && sizeOk ws.length) = true
    · rw [if_pos hc] at o
      rw [Bool.and_eq_true, Bool.and_eq_true] at hc
      obtain ⟨⟨c1, c2⟩, c3⟩ := hc
      have c1 := of_decide_eq_true c1
      have c2 := of_decide_eq_true c2
      have hp2 : H2 p = some (.dK []) := f2.keep p _ upd_same npA fun _ z => by cases z
      have lk : vs.length = ks.length := by rw [rws.length, c1]
      have nd : (((ks.map (Sum.inr : Str → Key)).zip vs).map (·.1)).Nodup := by
        have e : (((ks.map (Sum.inr : Str → Key)).zip vs).map (·.1)) = ks.map Sum.inr := by
          rw [← List.unzip_fst, List.unzip_zip (by simp [lk])]
        rw [e]
        exact List.pairwise_map.mpr (c2.imp fun {a b} hne e => hne (by injection e))
      refine ⟨hp2, (ks.map Sum.inr).zip vs, zip_strs ks vs, ?_, ?_⟩
      · rw [List.length_zip, List.length_map]
        omega
      rw [merge_new nd fun p hp => absurd hp (by simp), List.nil_append]
      have np2 : p ∉ A2 := fun h => by
        rcases f2.own p h with h | h
        · exact npA h
        · rw [upd_same] at h; cases h
      have nS2 : ¬ S2 p := fun h => by
        rcases f2.back p h with h | h | h
        · obtain ⟨u, eu⟩ := ok.dom p h
          rw [hp] at eu; cases eu
        · exact npA h
        · rw [upd_same] at h; cases h
      have kp2 : ∀ a o, H2 a = some o → a ≠ p → upd H2 p (.dK ((ks.map Sum.inr).zip vs)) a = some o := fun a o e n => by rw [upd_ne n]; exact e
      have kpS : Kp S2 H2 (upd H2 p (.dK ((ks.map Sum.inr).zip vs))) := fun a o e hs _ => kp2 a o e fun z => by
        rw [z] at hs e
        rw [hp2] at e
        cases e
        rcases hs with hs | hs
        · exact nS2 hs
        · exact hs trivial
      refine o (.ref p) _ S2 A2 [p] (en2.mono kpS (fun _ h => h) fun a ha u e => kp2 a u e fun z => np2 (z ▸ ha)) ⟨p, _, rfl, upd_same, (rpk_zip rws c1).mono kpS fun _ h => h, rfl⟩ ⟨List.nodup_cons.mpr ⟨np2, ok2'.nd⟩, fun a ha => ?_, fun a ha => ?_, ?_⟩ ⟨fun a u e na nt => ?_, f2.up, fun a ha => ?_, fun a ha => ?_, fun a u e => ?_⟩
      · rcases List.mem_cons.mp ha with z | z
        · subst z
          exact ⟨nS2, by rw [upd_same]; trivial⟩
        · refine ⟨(ok2'.own a z).1, ?_⟩
          rw [upd_ne (fun (y : a = p) => np2 (y ▸ z))]
          exact (ok2'.own a z).2
      · obtain ⟨u, eu⟩ := ok2'.dom a ha
        by_cases z : a = p
        · exact absurd (z ▸ ha) nS2
        · exact ⟨u, kp2 a u eu z⟩
      · refine tabs_keep ok2'.tab fun b u e nm => kp2 b u e fun z => nm ?_
        rw [z, hp2] at e
        cases e
        trivial
      · have na' : a ≠ p := ne_of_none e hp
        exact kp2 a u (f2.keep a u (kn a u e) na nt) na'
      · rcases f2.back a ha with h | h | h
        · exact .inl h
        · exact .inr (.inl h)
        · refine .inr (.inr ?_)
          cases ea : H a with
          | none => rfl
          | some u => rw [kn a u ea] at h; cases h
      · rcases List.mem_cons.mp ha with z | z
        · exact .inr (z ▸ hp)
        · rcases f2.own a z with h | h
          · exact .inl h
          · refine .inr ?_
            cases ea : H a with
            | none => rfl
            | some u => rw [kn a u ea] at h; cases h
      · obtain ⟨u', eu⟩ := f2.dom a u (kn a u e)
        by_cases z : a = p
        · exact ⟨_, by rw [z, upd_same]⟩
        · exact ⟨u', kp2 a u' eu z⟩
    · rw [if_neg hc] at o; exact o.elim
end
end Cb

end
section
set_option maxRecDepth 100000
set_option maxHeartbeats 4000000
/-! isinstance of several types, index, min, {}, sorted(dict) -/
namespace Cb
open PySem PySem.Spec PyProof.Rows L2
section
variable [Tb] {G : Gc} {U : L2.WX} {X : Cx} {S : AS} {H : Hp} {Q : VK}
/-! ### isinstance(x, (T, ..)) -/
inductive TyNs (X : Cx) : List Expr → List Ty → Prop where
  | nil : TyNs X [] []
  | cons {t : Ty} {p : Pos} {es : List Expr} {ts : List Ty} (ht : isOwnTy t = false) (hg : Gl X (tyNS t)) (hm : X.mg (tyNS t) = none) (r : TyNs X es ts) : TyNs X (.Name (tyNS t) p :: es) (t :: ts)
theorem tyNs_no {es : List Expr} {ts : List Ty} (h : TyNs X es ts) : ts.all (fun t => !isOwnTy t) = true := by
  induction h with
  | nil => rfl
  | cons ht _ _ _ ih => simp [ht, ih]
theorem pa_tys {es : List Expr} {ts : List Ty} (h : TyNs X es ts) : PA X es fun σ H Q => Q (ts.map fun t => .ty (tyN t)) H := by
  induction h with
  | nil => exact pa_nil
  | @cons t p es ts ht hg hm r ih =>
    have hv : bootBuiltins (tyNS t) = some (.type (tyN t)) ∧ tyNS t ≠ "__name__" ∧ (tyNS t == ("__debug__" : Str)) = false := by
      cases t <;> first | (cases ht; done) | exact ⟨rfl, by decide, by decide⟩
    have h2 : PE X (.Name (tyNS t) p) (tC (.ty (tyN t))) := pe_bltn hg hm hv.1 (by rfl) hv.2.1 hv.2.2
    exact (pa_cons h2 ih (by rfl)).imp fun σ H Q q => q
theorem tyx_ext {K : PySem.W.Frag} {p : Addr} {u : HO} {x : V} {t : Value} (hp : H p = none) (h : TyX K H x t) : TyX K (upd H p u) x t := by
  have k : ∀ {a o}, H a = some o → upd H p u a = some o := fun {a o} e => keep_new hp a o e
  cases h with
  | base b =>
    cases b with
    | non => exact .base .non
    | bl y => exact .base (.bl y)
    | int y => exact .base (.int y)
    | str y => exact .base (.str y)
    | flt y => exact .base (.flt y)
    | lst e => exact .base (.lst (k e))
    | frz e => exact .base (.frz (k e))
    | tup e => exact .base (.tup (k e))
    | dK e => exact .base (.dK (k e))
    | dT e => exact .base (.dT (k e))
    | ins e cl ha hn htk hm => exact .base (.ins (k e) cl ha hn htk hm)
  | byt y => exact .byt y
  | set e => exact .set (k e)
  | kList e c => exact .kList e c
  | kTuple e c => exact .kTuple e c
  | kDict e c => exact .kDict e c
  | fTuple e => exact .fTuple (k e)
  | fDict e => exact .fDict (k e)
theorem kit_decs {K : PySem.W.Frag} (w : W) (hk : isKit w = true) : ∀ (ts : List Ty), ts.all (fun t => !isOwnTy t) = true → PySem.W.kitAny K (.type (kindW w)) (ts.map fun t => .type (tyN t)) = some (ts.any fun t => isTy t w)
  | [], _ => kitAny_nil
  | t :: ts, h => by
    rw [List.all_cons, Bool.and_eq_true] at h
    have h1 : isOwnTy t = false := by simpa using h.1
    refine kitAny_cons (kit_dec t w h1 hk) (fun e => ?_) fun e => ?_
    · rw [List.any_cons, e, Bool.false_or]
      exact kit_decs w hk ts h.2
    · rw [List.any_cons, e, Bool.true_or]
theorem paired_tys : ∀ ts : List Ty, Paired ClsV (ts.map fun t => V.ty (tyN t)) (ts.map fun t => Value.type (tyN t))
  | [] => .nil
  | t :: ts => .cons (.ty _) (paired_tys ts)
theorem sx_isiT {ts : List Ty} {e : Expr} {es : List Expr} {k : Nat} {tp : Pos} {d : Den Od} {p pos : Pos} (hG : G.K = X.K) (hl : ts.length ≤ 1000) (ns : Nst e) (he : PE X e (tD G U (rO G) d)) (hg : Gl X "isinstance") (hm : X.mg "isinstance" = none) (hT : TyNs X es ts) :
    PE X (.Call (.Name "isinstance" p) [e, .Tuple es k tp] [] pos) (tD G U (rZ G) (cPr (.isinst ts) (cConsO d cNil))) := by
  have hs : PA X [e, .Tuple es k tp] (tCons (tD G U (rO G) d) (tCons _ tNil)) := pa_cons he (pa_cons (pe_tup (pa_tys hT)) pa_nil (by rfl)) (ns _ _)
  refine (pe_callB call_isiT hg hm rfl hs (he := ns _ _) (hpl := by rfl)).imp fun σ H Q ⟨env, S, A, en, ok, o⟩ => ⟨env, S, A, en, ok, ?_⟩
  have o1 : Out G U σ S H A (rZ G) ((d env).bind fun a env => primM (.isinst ts) [a] env) Q := by
    have e : ((d env).bind fun a env => primM (.isinst ts) [a] env) = cPr (.isinst ts) (cConsO d cNil) env := by
      unfold cPr cConsO cNil
      cases d env <;> rfl
    rw [e]; exact o
  refine (Out.bind (rel := rO G) (fun h => h.2) o1).mono fun x H1 ⟨oa, env1, S1, A1, _, en1, ok1, ⟨r1, _⟩, f1, o2⟩ => ?_
  have key : ∃ (t : Value) (b : Bool), TyX X.K H1 x t ∧ PySem.W.kitAny X.K t (ts.map fun t => .type (tyN t)) = some b ∧ ∀ p, H1 p = none → Q (.bl b) (upd H1 p (.tup (ts.map fun t => .ty (tyN t)))) := by
    refine prim_out (p := .isinst ts) (r := fun vs H Q => ∃ (x : V) (t : Value) (b : Bool), vs = [x] ∧ TyX X.K H x t ∧ PySem.W.kitAny X.K t (ts.map fun t => .type (tyN t)) = some b ∧ ∀ p, H p = none → Q (.bl b) (upd H p (.tup (ts.map fun t => .ty (tyN t))))) ?_ (ods := [oa]) (vs := [x]) en1 ok1 ⟨x, [], rfl, r1, rfl⟩ o2 |> fun ⟨x', t, b, e, q⟩ => by cases e; exact ⟨t, b, q⟩
    intro S H ws vs z Q hv e q
    change p_isinst ts ws = some z at e
    unfold p_isinst at e
    split at e
    · rename_i a
      by_cases hk : isKit a = true
      · rw [if_pos hk] at e
        cases e
        obtain ⟨v, rfl, h1⟩ := vws1 hv
        exact ⟨v, _, _, rfl, tyx_of hG hk h1, kit_decs a hk ts (tyNs_no hT), fun p hp => q _ _ [] (keep_new hp) ⟨rp_bl _ _ _, rfl⟩ List.nodup_nil (fun a ha => absurd ha (by simp))⟩
      · rw [if_neg hk] at e; cases e
    · cases e
  obtain ⟨t, b, k1, k2, k3⟩ := key
  have hsl := sizeLine_eq
  refine ⟨by rw [List.length_map]; omega, fun p hp => ?_⟩
  exact ⟨x, p, _, t, _, b, rfl, upd_same, paired_tys ts, tyx_ext hp k1, k2, k3 p hp⟩

/-! ### {}, sorted(d) -/
def cDk0 : Den Z := fun env => .ok (.dK []) env
theorem sx_dk0 {pos : Pos} : PE X (.Dict [] [] pos) (tD G U (rZ G) cDk0) := pe_dnewK.imp fun σ H Q ⟨env, S, A, en, ok, o⟩ => (Res.out en ok o).dK Rpk.nil
theorem sort_ints {ks ys : List Int} (hs : sortable (ks.map W.int) = true) (hp : ys.Perm ks) (hw : ys.Pairwise (· ≤ ·)) : sortW ltW (ks.map .int) = ys.map .int := by
  refine ((sortW_perm _).trans (hp.map W.int).symm).eq_of_pairwise (le := fun a b => ltW b a = false) (fun a b ha hb h1 h3 => ?_) (sort_asc hs) (List.pairwise_map.mpr (hw.imp fun {x y} hle => ?_))
  · obtain ⟨_, h2⟩ := sortable_iff hs
    exact cmp_tri a b (h2 a ((sortW_perm _).mem_iff.mp ha) b ((hp.map W.int).mem_iff.mp hb)) h3 h1
  · show decide (y < x) = false
    exact decide_eq_false (by omega)
theorem intKeys_eq : ∀ {kvs : List (Key × W)} {ks : List Int}, intKeys kvs = some ks → kvs.map (·.1) = ks.map Sum.inl
  | [], ks, h => by cases h; rfl
  | (k, w) :: r, ks, h => by
    cases k with
    | inl i =>
      change (intKeys r).map (i :: ·) = some ks at h
      cases q : intKeys r with
      | none => rw [q] at h; cases h
      | some m =>
        rw [q] at h
        cases h
        rw [List.map_cons, List.map_cons, intKeys_eq q]
    | inr x => cases h
theorem rpk_keys {S : AS} {H : Hp} : ∀ {ws : List (Key × W)} {vs : List (Key × V)}, Rpk G S H ws vs → vs.map (·.1) = ws.map (·.1)
  | [], vs, h => by rw [h.inv0]; rfl
  | (k, w) :: ws, vs, h => by
    obtain ⟨v, r, rfl, _, h2⟩ := h.inv
    rw [List.map_cons, List.map_cons, rpk_keys h2]
theorem sortable_ints (ks : List Int) : sortable (ks.map W.int) = true := by
  unfold sortable
  rw [Bool.and_eq_true]
  constructor
  · have h1 : plainWs (ks.map W.int) = true := by
      induction ks with
      | nil => rfl
      | cons a l ih => simp [plainWs, plainW, ih]
    have h2 : depWs (ks.map W.int) = 0 := by
      clear h1
      induction ks with
      | nil => rfl
      | cons a l ih => simp [depWs, depW, ih]
    unfold shWs
    rw [h1, h2]
    rfl
  · exact List.all_eq_true.mpr fun a ha => List.all_eq_true.mpr fun b hb => by
      obtain ⟨i, _, rfl⟩ := List.mem_map.mp ha
      obtain ⟨j, _, rfl⟩ := List.mem_map.mp hb
      rfl
def rSortK : List V → Hp → VK → Prop := fun xs H Q => ∃ (a : Addr) (kvs : List (Key × V)) (ks : List Int), xs = [.ref a] ∧ Rd H a (.dK kvs) ∧ kvs.map (·.1) = ks.map Sum.inl ∧ ks.length < 64 ∧
  ∀ (ys : List Int) (p : Addr), ys.Perm ks → ys.Pairwise (· ≤ ·) → H p = none → Q (.ref p) (upd H p (.lst (ys.map V.int)))
theorem pk_sortK : PrOk G rSortK (prW .sortK) := by
  intro S H ws vs z Q hv e q
  change p_sortK ws = some z at e
  unfold p_sortK at e
  split at e
  · rename_i a
    obtain ⟨v, rfl, h1⟩ := vws1 hv
    obtain ⟨p, xs, rfl, k1, k2⟩ := h1
    by_cases hl : decide (a.length < 64) = true
    · rw [if_pos hl] at e
      cases ek : intKeys a with
      | none => rw [ek] at e; cases e
      | some ks =>
        rw [ek] at e
        cases e
        have e1 := intKeys_eq ek
        have hl := of_decide_eq_true hl
        have hkl : ks.length < 64 := by
          have := congrArg List.length e1
          rw [List.length_map, List.length_map] at this
          omega
        refine ⟨p, xs, ks, rfl, .inl k1, (rpk_keys k2).trans e1, hkl, fun ys p hp hw hn => ?_⟩
        dsimp only at q
        rw [sort_ints (sortable_ints ks) hp hw] at q
        exact q.lst (rps_ints ys) p hn
    · rw [if_neg hl] at e; cases e
  · cases e
theorem q_sortK {e : Expr} {p pos : Pos} {d : Den Od} (hc : X.calm = true) (hg : Gl X "sorted") (hm : X.mg "sorted" = none) (ns : Nst e) (he : PE X e (tD G U (rO G) d)) : PE X (.Call (.Name "sorted" p) [e] [] pos) (tD G U (rZ G) (cPr .sortK (cConsO d cNil))) :=
  sx_prA pk_sortK (pa_csO ns he pa_nlO) fun t ht => pe_callB (call_sortedDI hc) hg hm rfl ht (he := ns _ _) (hpl := rfl)
end
end Cb
namespace Cb
open PySem PySem.Spec PyProof.Rows L2
/-- where nothing is promised -/
theorem pss_bad [Tb] {G : Gc} {U : L2.WX} {K : List Nat} {X : Cx} {ss : List Stmt} : PSs X ss (tS G U K kBad) := ⟨fun pins s σ H D I ⟨env, S, A, en, ok, o⟩ => o.elim⟩
end Cb

end
section
set_option maxRecDepth 100000
set_option maxHeartbeats 1000000
namespace Cb
open PySem PySem.Spec PyProof.Rows L2 LamX
/-- the table of the def at f is one of the tables -/
structure LamH [Tb] (K' : PySem.W.Frag) (mg : Str → Option Value) (base : Heap) (f : Addr) (qn : Str) : Prop where
  ex : ∀ c, (∃ oc od fd osl, K'.lookup f = some ⟨oc, od, .func fd, osl⟩ ∧ fd.code = .ref c) → ∃ P, TabB base mg c P ∧ (P, qn) ∈ Tb.T ∧ ∀ p ∈ Tb.T, p.1 = P → p.2 = qn
theorem lamAt [Tb] {X : Cx} {f : Addr} {cdv : Value} {qn x : Str} {params : Arguments} {body : Expr} {scope : Scope} (h : LamH X.K X.mg X.base f qn) (hcv : CodeIs X.K f cdv) (hc : X.env.code = cdv) (hq : X.env.qual ++ "<lambda>" = qn)
    (hb : ∀ c' pm ct u, bindArgs (PySem.W.kla_fn "<lambda>" qn params body scope [] pm (.ref c') ct) ⟨[u], []⟩ = pure [(x, u)]) (hl : ∀ L f c', (envOfC qn scope L f (.ref c')).kindOf "len" = some .globalImplicit)
    (dfl : defaultsOf params X.env = ([], [])) (free : scope.names.all (fun y => !decide (y.2 = .free)) = true) (sc : FnScope [x] [x] scope) (vis : Vis scope x) (kb : KeyLT x body) (n1 : (x == ("__debug__" : Str)) = false) (n2 : (x == ("__classdict__" : Str)) = false) : LamAt X Tb.T x params body scope := by
  obtain ⟨c, oc, od, fd, osl, e, lk, e2⟩ := hcv
  obtain ⟨P, t1, t2, t3⟩ := h.ex c ⟨oc, od, fd, osl, lk, e2⟩
  exact ⟨⟨c, P, qn, t1, hc.trans e, hq, t2, t3, hb, hl⟩, dfl, fun y hy => by simpa using List.all_eq_true.mp free y hy, sc, vis, kb, n1, n2⟩
/-- the end of a law whose defs make lambdas -/
theorem end_tabs {l : PySem.W.OpenLaw} {n k : Nat} {q : Program} {loose : List Str} {XP : (Str → Option Value) → Heap → Prop} {fas : List He.Fa} {fns : List He.DefD} {tf : List He.Defn} {ex : PySem.W.Frag → Bool} {steps : Nat} {d : DefRec} {x : Str}
    (hn : l.most = some n) (hn2 : n ≤ sizeLine) (hdf : d.params.defaults = []) (hr : Room k callerA)
    (F : ∀ (w : World) (mg : Str → Option Value) (fa : Addr) (h : Heap) (K : PySem.W.Frag), K.In h → He.SaysX fas fns [] tf ex w h K → h.Ns mainGlobals mg → mg d.name = some (.ref fa) →
      ∃ (fd : FuncData) (sp : Sp), (∀ (s : Shared) (u : Value), BindsTo s fd ⟨[u], []⟩ [(x, u)]) ∧
        (∀ (H : Hp) (a : Addr) (ns : List Int), ns.length ≤ n → (∀ p ∈ tf.map (He.cT K), H p.2 = some (.tbl #[])) → SqL K H a (ns.map V.int) → sp [.ref a] H (fun v _ => v = .bl true) fun _ _ _ => False) ∧
        ∀ base : Heap, K.In base → base.Ns mainGlobals mg → (∀ p ∈ tf.map (He.cT K), TabB base mg p.1 p.2) → FnOk l.prog w K mg base (L2.CX l.prog w) k fa fd [x] sp) :
    PySem.W.WalkO q loose XP (He.hookX steps fas fns [] tf ex).says l.row.toRowW d [] (fun f vs => PySem.call f vs) := by
  refine walk_ofTsE (CX := fun w => L2.CX l.prog w) (k := k) (x := x) hn hn2 hdf hr (fun w mg fa h Y G hmg => ?_) fun w H s e s' ⟨_, _, _, _, _, _, _, _, _, _, _, _, z⟩ => z.elim
  obtain ⟨K, KX, c⟩ := Y
  obtain ⟨fd, sp, h1, h2, h3⟩ := F w mg fa h K KX c G hmg
  refine ⟨K, KX, fd, tf.map (He.cT K), sp, fun p hp => ?_, fun p hp => ?_, fun p hp => ?_, h1, fun H a ns hl _ hH hS => h2 H a ns hl hH hS, h3⟩
  · obtain ⟨q, hq, rfl⟩ := List.mem_map.mp hp
    exact c.empty q hq
  · obtain ⟨q, hq, rfl⟩ := List.mem_map.mp hp
    exact c.out q hq
  · obtain ⟨q, hq, rfl⟩ := List.mem_map.mp hp
    exact PySem.W.codeHd_of_K KX (c.hd q hq)
/-- the tables of K's defs tf, their lambdas' names -/
def tbs (K' : PySem.W.Frag) (tf : List (He.Defn × Str)) : Tb := ⟨tf.map fun p => ((He.cT K' p.1).2, p.2), none⟩
theorem tbs_start {K' : PySem.W.Frag} {tf : List (He.Defn × Str)} {H : Hp} (h : ∀ p ∈ (tf.map (·.1)).map (He.cT K'), H p.2 = some (.tbl #[])) : Tabs (tbs K' tf).T H := fun p hp => by
  obtain ⟨q, hq, rfl⟩ := List.mem_map.mp (show p ∈ tf.map fun p => ((He.cT K' p.1).2, p.2) from hp)
  exact TabS.nil (h _ (List.mem_map_of_mem (List.mem_map_of_mem hq)))
/-- one def alone makes a lambda -/
theorem lamH_one {K' : PySem.W.Frag} {mg : Str → Option Value} {base : Heap} {at_ : He.Defn} {qn : Str} (h : ∀ p ∈ [at_].map (He.cT K'), TabB base mg p.1 p.2) : @LamH (tbs K' [(at_, qn)]) K' mg base (He.fAd K' at_) qn :=
  @LamH.mk (tbs K' [(at_, qn)]) _ _ _ _ _ fun c ⟨oc, od, fd, osl, lk, e⟩ => by
    have e2 : He.codeOf K' at_ = c := He.codeOf_eq lk e
    have t := h (He.cT K' at_) (by simp)
    have e3 : (He.cT K' at_).1 = c := e2
    refine ⟨(He.cT K' at_).2, e3 ▸ t, (show ((He.cT K' at_).2, qn) ∈ [((He.cT K' at_).2, qn)] from List.mem_singleton.mpr rfl), fun p hp _ => ?_⟩
    have : p = ((He.cT K' at_).2, qn) := List.mem_singleton.mp (show p ∈ [((He.cT K' at_).2, qn)] from hp)
    rw [this]
end Cb

end
section
set_option maxRecDepth 100000
set_option maxHeartbeats 1000000
/-! own errors: raised, caught, asked of -/
namespace Cb
open PySem PySem.Spec PyProof.Rows L2
/-- is the class c below d -/
def errSub (c d : Str) : Bool := decide (c = d) || (decide (d = "BlankError") || decide (d = "ValueError"))
def hasE (env : Env) (i : Nat) : Bool := match env[i]? with
  | some (some .err) => true
  | _ => false
/-- isinstance(e, ..), e the caught error in slot i: the answer is known -/
def cIsE (i : Nat) (b : Bool) : Den Z := fun env => if hasE env i then .ok (.w (.bl b)) env else .bad
/-- e.f -/
def cFdE (i : Nat) (f : Str) (fs : List (Str × W)) : Den Z := fun env => if hasE env i then (match fs.lookup f with
  | some w => .ok (.w w) env
  | none => .bad) else .bad
def kRaise (c : Str) : DenS := fun env => .ex ⟨c, []⟩ env
/-- the error's slot is emptied behind the suite -/
def SR.out (i : Nat) : SR → SR
  | .nx e => .nx (e.set i none)
  | .rt z e => .rt z (e.set i none)
  | .bk e => .bk (e.set i none)
  | .ct e => .ct (e.set i none)
  | _ => .bad
def kTry (i : Nat) (es : List Str) (cn : Str) (body : DenS) (suite : Ex → DenS) : DenS := fun env => match body env with
  | .ex x e => if es.contains x.c && decide (e.length = env.length) then (if errSub x.c cn then SR.out i (suite x (e.set i (some .err))) else .ex x e) else .bad
  | r => r

/-! ### slots -/
theorem EnvR.fit {T T' : Tb} {G : Gc} {S : AS} {H : Hp} {e : Env} {σ : List (Option V)} {A : List Addr} (h : @EnvR T G S H e σ A) (k : ∀ i, T'.er = some i → e.length ≤ i.pos) : @EnvR T' G S H e σ A := by
  induction h with
  | nil => exact @EnvR.nil T' G S H
  | off _ ih => exact @EnvR.off T' _ _ _ _ _ _ _ (ih fun i q => Nat.le_of_succ_le (k i q))
  | on r _ ih => exact @EnvR.on T' _ _ _ _ _ _ _ _ _ r (ih fun i q => Nat.le_of_succ_le (k i q))
  | @er env σ A o q t ih =>
    refine @EnvR.er T' _ _ _ _ _ _ _ (fun i z p => ?_) (ih fun i q => Nat.le_of_succ_le (k i q))
    have h1 := k i z
    have h2 := @EnvR.length _ _ _ T _ _ _ t
    simp at h1
    omega
theorem EnvR.unfit {T T' : Tb} {G : Gc} {S : AS} {H : Hp} {e : Env} {σ : List (Option V)} {A : List Addr} (h : @EnvR T G S H e σ A) (k : T'.er = none) : @EnvR T' G S H e σ A := by
  induction h with
  | nil => exact @EnvR.nil T' G S H
  | off _ ih => exact @EnvR.off T' _ _ _ _ _ _ _ ih
  | on r _ ih => exact @EnvR.on T' _ _ _ _ _ _ _ _ _ r ih
  | er q t ih => exact @EnvR.er T' _ _ _ _ _ _ _ (fun i z p => by rw [k] at z; cases z) ih
/-- the caught error is laid into slot i -/
theorem EnvR.catch {T T' : Tb} {G : Gc} {S : AS} {H : Hp} {a : Addr} {d : Option Addr} {fs : List (Str × W)} {e : Env} {σ : List (Option V)} {A : List Addr} (h : @EnvR T G S H e σ A) (xd : XdR G S H fs d) :
    ∀ {i : Nat}, i < e.length → T'.er = some ⟨a, e.length - 1 - i, d, fs⟩ → ∃ R, @EnvR T' G S H (e.set i (some .err)) (σ.set i (some (.ref a))) R ∧ List.Sublist R A := by
  induction h with
  | nil => intro i hi; simp at hi
  | @off env σ A o t ih =>
    intro i hi hT
    cases i with
    | zero => exact ⟨A, @EnvR.er T' _ _ _ _ _ _ _ (fun j q p => by rw [hT] at q; cases q; exact ⟨rfl, xd⟩) (t.fit fun j q => by rw [hT] at q; cases q; simp), List.Sublist.refl _⟩
    | succ i =>
      obtain ⟨R, h1, h2⟩ := ih (i := i) (by simpa using hi) (by rw [hT]; simp; omega)
      exact ⟨R, @EnvR.off T' _ _ _ _ _ _ _ h1, h2⟩
  | @on z v B env σ A r t ih =>
    intro i hi hT
    cases i with
    | zero => exact ⟨A, @EnvR.er T' _ _ _ _ _ _ _ (fun j q p => by rw [hT] at q; cases q; exact ⟨rfl, xd⟩) (t.fit fun j q => by rw [hT] at q; cases q; simp), List.sublist_append_right _ _⟩
    | succ i =>
      obtain ⟨R, h1, h2⟩ := ih (i := i) (by simpa using hi) (by rw [hT]; simp; omega)
      exact ⟨B ++ R, @EnvR.on T' _ _ _ _ _ _ _ _ _ r h1, List.Sublist.append_left h2 B⟩
  | @er env σ A o k t ih =>
    intro i hi hT
    cases i with
    | zero => exact ⟨A, @EnvR.er T' _ _ _ _ _ _ _ (fun j q p => by rw [hT] at q; cases q; exact ⟨rfl, xd⟩) (t.fit fun j q => by rw [hT] at q; cases q; simp), List.Sublist.refl _⟩
    | succ i =>
      obtain ⟨R, h1, h2⟩ := ih (i := i) (by simpa using hi) (by rw [hT]; simp; omega)
      refine ⟨R, @EnvR.er T' _ _ _ _ _ _ _ (fun j q p => ?_) h1, h2⟩
      rw [hT] at q; cases q
      have h3 := @EnvR.length _ _ _ T _ _ _ t
      simp at p hi
      omega
/-- what slot i holds -/
theorem EnvR.held [Tb] {G : Gc} {S : AS} {H : Hp} {e : Env} {σ : List (Option V)} {A : List Addr} {i0 : ErI} (h : EnvR G S H e σ A) (hT : Tb.er = some i0) : ∀ {i : Nat}, e[i]? = some (some .err) → i0.pos = e.length - 1 - i → σ[i]? = some (some (.ref i0.a)) ∧ XdR G S H i0.fs i0.d := by
  induction h with
  | nil => intro i hi; simp at hi
  | @off env σ A o t ih =>
    intro i hi hp
    cases i with
    | zero => simp at hi
    | succ i => simpa using ih (i := i) (by simpa using hi) (by rw [hp]; simp; omega)
  | @on z v B env σ A r t ih =>
    intro i hi hp
    cases i with
    | zero =>
      simp at hi
      subst hi
      exact r.elim
    | succ i => simpa using ih (i := i) (by simpa using hi) (by rw [hp]; simp; omega)
  | @er env σ A o k t ih =>
    intro i hi hp
    cases i with
    | zero =>
      obtain ⟨h1, h2⟩ := k i0 hT (by rw [hp, t.length]; simp)
      exact ⟨by simpa using h1, h2⟩
    | succ i => simpa using ih (i := i) (by simpa using hi) (by rw [hp]; simp; omega)

theorem ok_tb {T T' : Tb} {S : AS} {H : Hp} {A : List Addr} (e : T'.T = T.T) (h : @Ok T S H A) : @Ok T' S H A := @Ok.mk T' S H A (@Ok.nd T S H A h) (@Ok.own T S H A h) (@Ok.dom T S H A h) (by rw [e]; exact @Ok.tab T S H A h)
/-! ### isinstance(e, ..) -/
section
variable {prog : Program} {w : World} {A : Around} {E : Value → Shared → Prop} {s : Shared} {K : PySem.W.Frag} {x D : Addr} {ox : Obj} {od : Option Obj}
open PySem.W in
theorem err_class {Q : Option Value → Shared → Prop} (C : ExcC K D) (hK : K.In s.heap) (J : InstAt s.heap x ox D od) (q : Q (some (.ref D)) { s with toks := s.toks + 1 }) : wpAny (model prog w) A (getAttr? (.ref x) "__class__") Q E s := by
  have f0 : findObj K D od "__class__" = some (.bind (.builtin "getset_descriptor.__get__") (.builtin "object.__class__")) := by
    obtain ⟨cd, hc, _⟩ := any_some C.hd
    unfold findObj
    rw [show clsIn K D = some cd from hc, Option.bind_some, C.ha, Option.bind_some]
    simp [C.hn, C.ht]
  obtain ⟨hp, gg, dd, tk, oo⟩ := s
  have K0 := J.type (M := model prog w)
  have K1 := looks_findIn (M := model prog w) hK C.hg
  have K2 := looks_findIn (M := model prog w) hK C.hk
  have K3 := looks_find (M := model prog w) hK J f0
  have isb : Looks (model prog w) hp (isInstance (.ref x) (.type "BaseException")) true := K0.andThen (looks_subIn hK C.hs)
  have y0 : (Value.builtin "BaseException.__getattribute__" == Value.builtin "object.__getattribute__") = false := by decide +kernel
  have y1 : (onTheHeap (Value.ref D) && Value.builtin "BaseException.__getattribute__" == Value.builtin "object.__getattribute__") = false := by rw [y0]; rfl
  unfold getAttr? getAttrBy? getAttrBy
  refine wpAny_bind (wpAny_mkText (wpAny_bind (wpAny_attempt (wpAny_holding (wpAny_bind (K0.at (wpAny_bind (K1.at ?_))))))))
  show wpAny (model prog w) A (if (onTheHeap (Value.ref D) && Value.builtin "BaseException.__getattribute__" == Value.builtin "object.__getattribute__") = true then _ else _) _ _ _
  rw [y1, if_neg Bool.false_ne_true]
  unfold getAttrByItsOwn hookBefore
  refine wpAny_bind ?_
  rw [if_pos (show onTheHeap (Value.ref D) = true from rfl)]
  refine K2.at (wpAny_bind (wpAny_attempt (wpAny_holding ?_)))
  unfold callGetattribute
  rw [show (false && onTheHeap (Value.builtin "BaseException.__getattribute__")) = false from rfl, if_neg Bool.false_ne_true]
  unfold boundAndCalled
  rw [PySem.F.excAttr_ValueError.ga.bind (.ref x)]
  refine wpAny_bind (wpAny_pure ?_)
  show wpAny (model prog w) A (call (.builtin "BaseException.__getattribute__") [.ref x, .str "__class__" tk]) _ _ _
  refine wpAny_call (codeAny_call_builtin PySem.F.excAttr_ValueError.ga.plain PySem.F.entry_bexc_ga ?_)
  refine @check_slot (model prog w) _ _ ⟨hp, gg, dd, tk + 1, oo⟩ "BaseException.__getattribute__" "BaseException" "__getattribute__" (.ref x) [.str "__class__" tk] [] _ (by decide +kernel) (by decide +kernel) isb (PySem.F.args_bexc_ga (.ref x) (.str "__class__" tk)) ?_
  unfold Builtin.«object.__getattribute__»
  refine wpAny_bind (wpAny_of_eq (a := ((Value.ref x : Value), [Value.str "__class__" tk])) (by first | rfl | (simp only [slotArgs]; rfl)) ?_)
  refine wpAny_bind (wpAny_pure (wpAny_bind (K0.at (wpAny_bind (K3.at ?_)))))
  show wpAny (model prog w) _ (holding [Value.builtin "object.__class__"] (call (.builtin "getset_descriptor.__get__") [.builtin "object.__class__", .ref x, .ref D]) >>= ret) _ _ _
  refine wpAny_bind (wpAny_holding (wpAny_call (class_get (s := ⟨hp, gg, dd, tk + 1, oo⟩) (ox := ox) (od := od) hK J C.hm ?_)))
  refine wpAny_pure ?_
  show wpAny (model prog w) _ (handedOut (.ref D)) _ _ _
  rw [handedOut_of (v := .ref D) rfl]
  first
    | exact wpAny_pure (wpAny_pure q)
    | exact wpAny_pure q
    | exact wpAny_pure (wpAny_bind (wpAny_pure (wpAny_pure q)))
open PySem.W in
theorem err_kit (C : ExcC K D) : KitX K (.ref x) (.ref D) (fun h => InstAt h x ox D od) where
  ty := fun _ _ _ J => J.type
  it := fun _ _ hK _ => by
    obtain ⟨cd, hc, _⟩ := any_some C.hd
    unfold clsIn at hc
    split at hc
    · rename_i c2 d2 cd2 sl2 ho
      intro A2 Q2 E2 s2 k2 q2
      unfold isType loadHead
      exact wpAny_bind (wpAny_loadPart (k2 _ _ (hK _ _ ho)) (wpAny_pure q2))
    · cases hc
  ne := fun h tp dd its n sl hK htp => by
    obtain ⟨cd, hc, _⟩ := any_some C.hd
    refine Bool.eq_false_iff.mpr fun q => ?_
    have e : D = tp := Value.ref.inj (beq_iff_eq.mp q)
    subst e
    unfold clsIn at hc
    split at hc
    · rename_i c2 d2 cd2 sl2 ho
      cases (hK _ _ ho).symm.trans htp
    · cases hc
  ca := fun hK J k => err_class C hK J k
end
/-- isinstance(e, c), e the caught error with whatever dict -/
def rIsX (K : PySem.W.Frag) (D a : Addr) (d : Option Addr) : List V → Hp → VK → Prop := fun xs H Q => ∃ (c : V) (cv : Value) (b : Bool), xs = [.ref a, c] ∧ (∀ u, RelV c u → u = cv) ∧ PySem.W.kitOne K (.ref D) cv = some b ∧ (d = none ∨ ∃ dd vs, d = some dd ∧ H dd = some (.xd vs)) ∧ Q (.bl b) H
theorem call_isX {X : Cx} {a D : Addr} {d : Option Addr} {oe : Obj} {pn : List (Addr × Obj)} (C : ExcC X.K D) (hz : Zc (.ref D) d oe) (hf : ∃ vs, oe.data = .fields vs) : CallR (X.suite a ((a, oe) :: pn)) (.builtin "isinstance") (rIsX X.K D a d) := by
  intro pins s σ H xs us Q I r h
  obtain ⟨c, cv, b, rfl, hcv, e, hd, q⟩ := h
  cases r with
  | cons rx rr => cases rr with
    | cons rt rr =>
      cases rr
      cases rx
      have ec := hcv _ rt
      subst ec
      have hget := (I.pin (a, oe) (List.mem_append.mpr (.inl List.mem_cons_self))).1
      have key : ∃ od, PySem.W.InstAt s.heap a oe D od := by
        obtain ⟨vs, hv⟩ := hf
        rcases hd with rfl | ⟨dd, fs, rfl, hx⟩
        · refine ⟨none, hget, hz.1, by unfold PySem.W.notCls; rw [hv], ?_⟩
          rw [hz.2]; trivial
        · have hx' : ObjOk X.prog X.w H s.heap dd (.xd fs) := I.hok dd _ hx
          obtain ⟨mA, hns, _⟩ := hx'
          obtain ⟨od, ho, _⟩ := lookIn_ns hns
          refine ⟨some od, hget, hz.1, by unfold PySem.W.notCls; rw [hv], ?_⟩
          rw [hz.2]; exact ho
      obtain ⟨od, J⟩ := key
      exact PySem.W.kia_one (err_kit (x := a) (ox := oe) (od := od) C) I.kIn J e (fun z => nomatch z) fun tk => ⟨.bl b, H, I.kept (t' := tk) fun _ _ z => z, rfl, q⟩
section
variable [Tb] {G : Gc} {U : L2.WX} {X : Cx} {K : List Nat}
theorem sx_isE {a D : Addr} {oe : Obj} {pn : List (Addr × Obj)} {i : Nat} {d : Option Addr} {fs : List (Str × W)} {b : Bool} {x y : Str} {cv : Value} {v : V} {px pc p pos : Pos} (T : Tb.er = some ⟨a, X.N.length - 1 - i, d, fs⟩) (C : ExcC X.K D) (hz : Zc (.ref D) d oe) (hf : ∃ vs, oe.data = .fields vs)
    (he : PE (X.suite a ((a, oe) :: pn)) (.Name x px) (tVar i)) (hc : PE (X.suite a ((a, oe) :: pn)) (.Name y pc) (tC v)) (hv : ∀ u, RelV v u → u = cv) (hk : PySem.W.kitOne X.K (.ref D) cv = some b) (hg : Gl X "isinstance") (hm : X.mg "isinstance" = none) :
    PE (X.suite a ((a, oe) :: pn)) (.Call (.Name "isinstance" p) [.Name x px, .Name y pc] [] pos) (tD G U (rZ G) (cIsE i b)) := by
  have base := pe_callB (X := X.suite a ((a, oe) :: pn)) (p := p) (pos := pos) (call_isX C hz hf) hg hm rfl (pa_cons he (pa_cons hc pa_nil (by rfl)) (by rfl))
  refine ⟨fun pins s σ H Q I h => base.run pins s σ H Q I ?_⟩
  obtain ⟨env, S, A, en, ok, o⟩ := h
  unfold cIsE hasE at o
  split at o
  · rename_i e1
    · rw [if_pos rfl] at o
      have hl : σ.length = X.N.length := I.len
      obtain ⟨h1, h2⟩ := en.held T e1 (by show X.N.length - 1 - i = _; rw [← hl, en.length])
      refine ⟨.ref a, h1, v, cv, b, rfl, hv, hk, ?_, o.here en ok ⟨rp_bl _ _ _, rfl⟩⟩
      rcases h2 with ⟨_, h2⟩ | ⟨dd, vs, h2, h3, _⟩
      · exact .inl h2
      · exact .inr ⟨dd, vs, h2, h3⟩
  · exact o.elim
/-- e.f -/
theorem sx_fdE {a D : Addr} {oe : Obj} {pn : List (Addr × Obj)} {i : Nat} {d : Option Addr} {fs : List (Str × W)} {x f : Str} {px pos : Pos} (T : Tb.er = some ⟨a, X.N.length - 1 - i, d, fs⟩) (C : ExcC X.K D) (hno : PySem.W.findIn X.K (.ref D) f = some none) (hz : Zc (.ref D) d oe) (hf : ∃ vs, oe.data = .fields vs)
    (he : PE (X.suite a ((a, oe) :: pn)) (.Name x px) (tVar i)) (hb : attributeBase (.Name x px) f X.env (eval (.Name x px) X.env) = eval (.Name x px) X.env := by rfl) :
    PE (X.suite a ((a, oe) :: pn)) (.Attribute (.Name x px) f pos) (tD G U (rZ G) (cFdE i f fs)) := by
  have base := pe_xf (pos := pos) (n := f) ⟨C.hg, C.hk, C.hs, C.hd⟩ hno hz hf he hb
  refine ⟨fun pins s σ H Q I h => base.run pins s σ H Q I ?_⟩
  obtain ⟨env, S, A, en, ok, o⟩ := h
  unfold cFdE hasE at o
  split at o
  · rename_i e1
    · rw [if_pos rfl] at o
      have hl : σ.length = X.N.length := I.len
      obtain ⟨h1, h2⟩ := en.held T e1 (by show X.N.length - 1 - i = _; rw [← hl, en.length])
      cases q : fs.lookup f with
      | none => rw [q] at o; exact o.elim
      | some w =>
        rw [q] at o
        rcases h2 with ⟨h2, _⟩ | ⟨dd, vs, h2, h3, h4⟩
        · have h2' : fs = [] := h2
          rw [h2'] at q; cases q
        · have look : ∀ {l : List (Str × W)} {vs : List (Str × V)}, Rpf G S H l vs → l.lookup f = some w → ∃ v, vs.lookup f = some v ∧ Rp G S H w v := by
            intro l
            induction l with
            | nil => intro vs _ z; cases z
            | cons p l ih =>
              intro vs hr z
              obtain ⟨g, y⟩ := p
              unfold Rpf at hr
              obtain ⟨v, r, rfl, k1, k2⟩ := hr
              rw [List.lookup_cons] at z ⊢
              cases e : (f == g) with
              | true => rw [e] at z; cases z; exact ⟨v, rfl, k1⟩
              | false => rw [e] at z; exact ih k2 z
          obtain ⟨v, k1, k2⟩ := look h4 q
          exact ⟨.ref a, h1, rfl, rfl, dd, vs, v, h2, h3, k1, o.here en ok ⟨k2, rfl⟩⟩
  · exact o.elim

/-! ### raise -/
theorem pmk0 {C : Addr} {bmB : List Value} {B newId initId : String} {x : Str} {p pos : Pos} (F : ExcBaseFacts B newId initId bmB) (q : PySem.W.excIn X.K C bmB newId = true) (gC : X.mg x = some (.ref C)) (kC : PySem.W.keepIn X.K (.ref C) = true) (r : Raises X (.ref C)) (hg : Gl X x)
    (hdb : (x == ("__debug__" : Str)) = false := by decide) : PMk X (.Call (.Name x p) [] [] pos) (fun _ H Q => Q (.ref C) none H) := by
  intro pins s σ H Q I h
  refine wpAny_Call_Name_kw (ld_glob I hg gC (PySem.W.callWith_K0 I.kIn kC ?_) hdb)
  show wpAny _ _ (call (.ref C) []) _ _ _
  obtain ⟨bm, N, nm, qn, bs, hdct, sn, sub, ab, col, dd, k0, k1, k2, k3, k5, mN, h1, h2, h3, T⟩ := exc_obj I.kIn q
  exact wpAny_call_exc_subT F T h1 h2 h3 (fun h' e hm => mk_of I hm r h (I.hok.gone hm.new)) (Nat.zero_le _)
theorem sk_raise0 {C : Addr} {x : Str} {p pos pos2 : Pos} (hc : X.calm = true) (tk : Takes X U) (hcm : G.cm x = some C) (q : PySem.W.excIn X.K C He.veBase "ValueError.__new__" = true) (gC : X.mg x = some (.ref C)) (kC : PySem.W.keepIn X.K (.ref C) = true) (h1 : PySem.W.subIn X.K (.ref C) (.type "BaseException") = some true)
    (h2 : PySem.W.typeIn X.K (.ref C) = some (.type "type")) (hg : Gl X x) (hdb : (x == ("__debug__" : Str)) = false := by decide) : PS X (.Raise (some (.Call (.Name x p) [] [] pos)) none pos2) (tS G U K (kRaise x)) :=
  (ps_raise hc tk (pmk0 PySem.F.excBase_ValueError q gC kC (raises_own h1 h2) hg hdb)).imp fun D σ H ⟨env, S, A, en, ok, o⟩ => o (.ref C) none σ H S A ⟨C, hcm, rfl, .inl ⟨rfl, rfl⟩⟩ Agr.refl en ok (Fr.refl ok)
end

/-! ### try -/
/-- inside the suite -/
@[reducible] def tbE [T : Tb] (a : Addr) (n : Nat) (d : Option Addr) (fs : List (Str × W)) : Tb := ⟨T.T, some ⟨a, n, d, fs⟩⟩
section
variable [T : Tb] {G : Gc} {U : L2.WX} {X : Cx} {K : List Nat}

theorem sk_try {i : Nat} {es : List Str} {cn n : Str} {c : Value} {body suite : List Stmt} {b₀ : Stmt} {np pos pos' : Pos} {db : DenS} {ds : Ex → DenS} (ne : T.er = none) (hs : X.stack = X.env :: X.outer) (hf : X.env.frame = some X.env.locals) (hN : X.N.Nodup) (hi : X.N[i]? = some n) (hln : X.env.kindOf n = some .local)
    (hc : Names X cn c) (tk : Takes X U) (hik : i ∉ K) (herr : ∀ x ∈ es, ∀ C, G.cm x = some C → PySem.W.exmOne X.K (.ref C) c = some (errSub x cn))
    (hb : ∀ (W : L2.WX) (pn : List (Addr × Obj)) (xe : Value → Shared → Prop), Takes (X.tr pn xe) W → PassesOwn (model X.prog X.w) X.A X.env xe → PSs (X.tr pn xe) body (tS G W K db))
    (hsu : ∀ (a : Addr) (oe : Obj) (C : Addr) (d : Option Addr) (pn : List (Addr × Obj)) (x : Ex), x.c ∈ es → G.cm x.c = some C → Zc (.ref C) d oe → (∃ vs, oe.data = .fields vs) →
      PSs (X.suite a ((a, oe) :: pn)) (b₀ :: suite) (@tS (tbE a (X.N.length - 1 - i) d x.fs) G U K (ds x))) :
    PS X (.Try body [.ExceptHandler (some (.Name cn np)) (some n) (b₀ :: suite) pos'] [] [] pos) (tS G U K (kTry i es cn db ds)) := by
  have kit := ps_try_as (pos := pos) (pos' := pos') (np := np) (tb := fun W => tS G W K db) (ts := fun a cls d D σ H => ∃ x C, x.c ∈ es ∧ G.cm x.c = some C ∧ cls = .ref C ∧ @tS (tbE a (X.N.length - 1 - i) d x.fs) G U K (ds x) D σ H) hs hf hN hi hln hc tk hb fun a oe cls d pn hz hv =>
    ⟨fun pins s σ H D I ⟨x, C, q1, q2, q3, q4⟩ => by subst q3; exact (hsu a oe C d pn x q1 q2 hz hv).run pins s σ H D I q4⟩
  refine ⟨fun pins s σ0 H0 D I ⟨env, S, A, en, ok, o⟩ => kit.run pins s σ0 H0 D I ⟨env, S, A, en, ok, ?_⟩⟩
  have hl : env.length = X.N.length := by rw [← en.length]; exact I.len
  have hlt : i < X.N.length := (List.getElem?_eq_some_iff.mp hi).1
  unfold kTry at o
  cases e : db env with
  | nx e1 => rw [e] at o; exact o
  | rt z e1 => rw [e] at o; exact o
  | bk e1 => rw [e] at o; exact o
  | ct e1 => rw [e] at o; exact o
  | bad => rw [e] at o; exact o.elim
  | ex x e1 =>
    rw [e] at o
    intro cls d σ' H' S' A' xr ag en' ok' f
    obtain ⟨C, hcm, rfl, xd⟩ := xr
    dsimp only at o
    split at o
    · rename_i hx
      obtain ⟨hx1, hx2⟩ := Bool.and_eq_true_iff.mp hx
      have hxe : x.c ∈ es := by simpa using hx1
      have hle : e1.length = X.N.length := (of_decide_eq_true hx2).trans hl
      refine ⟨errSub x.c cn, herr x.c hxe C hcm, fun hy a ha => ?_, fun hn => ?_⟩
      · rw [if_pos hy] at o
        obtain ⟨R, k1, k2⟩ := EnvR.catch (T' := tbE a (X.N.length - 1 - i) d x.fs) (a := a) en' xd (i := i) (by omega) (by rw [hle]; rfl)
        refine ⟨x, C, hxe, hcm, rfl, _, S', R, k1, ok_tb (T := T) (T' := tbE a (X.N.length - 1 - i) d x.fs) rfl (ok'.sub k2), ?_⟩
        have f2 : Fr S H0 A S' H' R := f.less fun b hb => k2.subset hb
        have fin : ∀ {e2 : Env} {σ2 : L2.St} {S2 : AS} {H2 : Hp} {A2 : List Addr}, @EnvR (tbE a (X.N.length - 1 - i) d x.fs) G S2 H2 e2 σ2 A2 → Agr K (σ'.set i (some (.ref a))) σ2 → ∃ R2, EnvR G S2 H2 (e2.set i none) (σ2.set i none) R2 ∧ List.Sublist R2 A2 ∧ Agr K σ0 (σ2.set i none) := by
          intro e2 σ2 S2 H2 A2 h1 h2
          obtain ⟨R2, j1, j2⟩ := EnvR.drop2 (EnvR.unfit (T' := T) h1 ne) i
          exact ⟨R2, j1, j2, (ag.trans ((Agr.set hik).trans h2)).trans (Agr.set hik)⟩
        cases q : ds x (e1.set i (some .err)) with
        | nx e2 =>
          rw [q] at o
          intro σ2 H2 S2 A2 h1 h2 h3 h4
          obtain ⟨R2, j1, j2, j3⟩ := fin h2 h1
          exact o _ H2 S2 R2 j3 j1 ((ok_tb (T := tbE a (X.N.length - 1 - i) d x.fs) (T' := T) rfl h3).sub j2) ((f2.trans h4).less fun b hb => j2.subset hb)
        | bk e2 =>
          rw [q] at o
          intro σ2 H2 S2 A2 h1 h2 h3 h4
          obtain ⟨R2, j1, j2, j3⟩ := fin h2 h1
          exact o _ H2 S2 R2 j3 j1 ((ok_tb (T := tbE a (X.N.length - 1 - i) d x.fs) (T' := T) rfl h3).sub j2) ((f2.trans h4).less fun b hb => j2.subset hb)
        | ct e2 =>
          rw [q] at o
          intro σ2 H2 S2 A2 h1 h2 h3 h4
          obtain ⟨R2, j1, j2, j3⟩ := fin h2 h1
          exact o _ H2 S2 R2 j3 j1 ((ok_tb (T := tbE a (X.N.length - 1 - i) d x.fs) (T' := T) rfl h3).sub j2) ((f2.trans h4).less fun b hb => j2.subset hb)
        | rt z e2 =>
          rw [q] at o
          intro v σ2 H2 S2 A2 B h1 h2 h0 h3 h4
          obtain ⟨R2, j1, j2, j3⟩ := fin h2 h1
          have sb : List.Sublist (B ++ R2) (B ++ A2) := List.Sublist.append_left j2 B
          exact o v _ H2 S2 R2 B j3 j1 h0 ((ok_tb (T := tbE a (X.N.length - 1 - i) d x.fs) (T' := T) rfl h3).sub sb) ((f2.trans h4).less fun b hb => sb.subset hb)
        | ex y e2 => rw [q] at o; exact o.elim
        | bad => rw [q] at o; exact o.elim
      · rw [if_neg (by rw [hn]; exact Bool.false_ne_true)] at o
        exact o (.ref C) d σ' H' S' A' ⟨C, hcm, rfl, xd⟩ ag en' ok' f
    · exact o.elim
end
end Cb

end
section
set_option maxRecDepth 100000
set_option maxHeartbeats 1000000
/-! own errors: the facts of their classes -/
namespace Cb
open PySem PySem.Spec PyProof.Rows L2
def excB (K : PySem.W.Frag) (D : Addr) : Bool :=
  decide (PySem.W.findIn K (.ref D) "__getattribute__" = some (some (.builtin "BaseException.__getattribute__"))) && (decide (PySem.W.findIn K (.ref D) "__getattr__" = some none) && (decide (PySem.W.subIn K (.ref D) (.type "BaseException") = some true) && (PySem.W.hasDictIn K D &&
  (decide (PySem.W.findIn K (.ref D) "__class__" = some (some (.builtin "object.__class__"))) && (decide (PySem.W.specialIn K (.builtin "object.__class__") "__get__" = some (some (.builtin "getset_descriptor.__get__"))) && (decide (PySem.W.takesIn K (.builtin "object.__class__") = some true) && decide (PySem.W.mroIn K D (.type "object") = some true)))))))
theorem excB_ok {K : PySem.W.Frag} {D : Addr} (h : excB K D = true) : ExcC K D := by
  unfold excB at h
  simp only [Bool.and_eq_true, decide_eq_true_eq] at h
  obtain ⟨h1, h2, h3, h4, h5, h6, h7, h8⟩ := h
  exact ⟨h1, h2, h3, h4, h5, h6, h7, h8⟩
/-- what is asked of the error classes es, in one -/
def errB (es : List Str) (K : PySem.W.Frag) : Bool := es.all fun c => excB K (He.ga K c) && (decide (PySem.W.kitOne K (.ref (He.ga K c)) (.type "ValueError") = some true) && (("BlankError" : Str) :: es).all fun y =>
  decide (PySem.W.kitOne K (.ref (He.ga K c)) (.ref (He.ga K y)) = some (errSub c y)) && decide (PySem.W.exmOne K (.ref (He.ga K c)) (.ref (He.ga K y)) = some (errSub c y)))
structure ErrK (K' : PySem.W.Frag) (cm : Str → Option Addr) (mg : Str → Option Value) (es : List Str) : Prop where
  fe : ∀ c ∈ es, ∀ C, cm c = some C → ExcC K' C ∧ PySem.W.kitOne K' (.ref C) (.type "ValueError") = some true ∧ ∀ y ∈ ("BlankError" : Str) :: es, ∀ D, mg y = some (.ref D) → PySem.W.kitOne K' (.ref C) (.ref D) = some (errSub c y) ∧ PySem.W.exmOne K' (.ref C) (.ref D) = some (errSub c y)
  gl : ∀ y ∈ ("BlankError" : Str) :: es, ∃ D, mg y = some (.ref D)
theorem errK_of {K' : PySem.W.Frag} {cm : Str → Option Addr} {mg : Str → Option Value} {es : List Str} (h : errB es K' = true) (hc : ∀ c ∈ es, ∀ C, cm c = some C → C = He.ga K' c) (hg : ∀ y ∈ ("BlankError" : Str) :: es, mg y = some (.ref (He.ga K' y))) : ErrK K' cm mg es := by
  refine ⟨fun c hce C e => ?_, fun y hy => ⟨_, hg y hy⟩⟩
  obtain rfl := hc c hce C e
  have h1 := List.all_eq_true.mp h c hce
  simp only [Bool.and_eq_true, decide_eq_true_eq] at h1
  obtain ⟨h1, h2, h3⟩ := h1
  refine ⟨excB_ok h1, h2, fun y hy D e => ?_⟩
  have e2 := hg y hy
  rw [e] at e2
  cases e2
  have h4 := List.all_eq_true.mp h3 y hy
  simp only [Bool.and_eq_true, decide_eq_true_eq] at h4
  exact h4
/-- an error class without an own __init__ that is made -/
structure ErrM (K' : PySem.W.Frag) (cm : Str → Option Addr) (mg : Str → Option Value) (c : Str) : Prop where
  ex : ∃ C, cm c = some C ∧ PySem.W.excIn K' C He.veBase "ValueError.__new__" = true ∧ mg c = some (.ref C) ∧ PySem.W.keepIn K' (.ref C) = true ∧ PySem.W.subIn K' (.ref C) (.type "BaseException") = some true ∧ PySem.W.typeIn K' (.ref C) = some (.type "type")
theorem errM_of {K' : PySem.W.Frag} {cm : Str → Option Addr} {mg : Str → Option Value} {c : Str} (h : (He.Fa.exc c).ok K' = true) (h1 : cm c = some (He.ga K' c)) (h2 : mg c = some (.ref (He.ga K' c))) : ErrM K' cm mg c := by
  obtain ⟨a1, a2, a3, a4⟩ := He.exc_ok h
  exact ⟨_, h1, a1, h2, a2, a3, a4⟩
section
variable [T : Tb] {G : Gc} {U : L2.WX} {X : Cx} {K : List Nat}
theorem sk_raiseE {x : Str} {p pos pos2 : Pos} (em : ErrM X.K G.cm X.mg x) (hc : X.calm = true) (tk : Takes X U) (hg : Gl X x) (hdb : (x == ("__debug__" : Str)) = false := by decide) : PS X (.Raise (some (.Call (.Name x p) [] [] pos)) none pos2) (tS G U K (kRaise x)) := by
  obtain ⟨C, h1, h2, h3, h4, h5, h6⟩ := em.ex
  exact sk_raise0 hc tk h1 h2 h3 h4 h5 h6 hg hdb
theorem sk_tryE {i : Nat} {es : List Str} {cn n : Str} {body suite : List Stmt} {b₀ : Stmt} {np pos pos' : Pos} {db : DenS} {ds : Ex → DenS} (ne : T.er = none) (er : ErrK X.K G.cm X.mg es) (hs : X.stack = X.env :: X.outer) (hf : X.env.frame = some X.env.locals) (hN : X.N.Nodup) (hi : X.N[i]? = some n) (hln : X.env.kindOf n = some .local)
    (hcn : cn ∈ ("BlankError" : Str) :: es) (hg : Gl X cn) (hdb : (cn == ("__debug__" : Str)) = false) (tk : Takes X U) (hik : i ∉ K)
    (hb : ∀ (W : L2.WX) (pn : List (Addr × Obj)) (xe : Value → Shared → Prop), Takes (X.tr pn xe) W → PassesOwn (model X.prog X.w) X.A X.env xe → PSs (X.tr pn xe) body (tS G W K db))
    (hsu : ∀ (a : Addr) (oe : Obj) (C : Addr) (d : Option Addr) (pn : List (Addr × Obj)) (x : Ex), x.c ∈ es → G.cm x.c = some C → Zc (.ref C) d oe → (∃ vs, oe.data = .fields vs) →
      ∀ T2 : Tb, T2.er = some ⟨a, X.N.length - 1 - i, d, x.fs⟩ → PSs (X.suite a ((a, oe) :: pn)) (b₀ :: suite) (@tS T2 G U K (ds x))) :
    PS X (.Try body [.ExceptHandler (some (.Name cn np)) (some n) (b₀ :: suite) pos'] [] [] pos) (tS G U K (kTry i es cn db ds)) := by
  obtain ⟨D, gD⟩ := er.gl cn hcn
  exact sk_try (c := .ref D) ne hs hf hN hi hln ⟨hg, hdb, .inl gD⟩ tk hik (fun x hx C hC => (((er.fe x hx C hC).2.2) cn hcn D gD).2) hb fun a oe C d pn x h1 h2 h3 h4 => hsu a oe C d pn x h1 h2 h3 h4 (tbE a (X.N.length - 1 - i) d x.fs) rfl
end
section
variable [T : Tb] {G : Gc} {U : L2.WX} {X : Cx} {K : List Nat} {a C : Addr} {oe : Obj} {d : Option Addr} {pn : List (Addr × Obj)} {xx : Ex} {es : List Str} {i : Nat} {x y : Str} {px pc p pos : Pos}
theorem sx_isEo (hT : T.er = some ⟨a, X.N.length - 1 - i, d, xx.fs⟩) (er : ErrK X.K G.cm X.mg es) (hx : xx.c ∈ es) (hcm : G.cm xx.c = some C) (hz : Zc (.ref C) d oe) (hf : ∃ vs, oe.data = .fields vs) (he : PE (X.suite a ((a, oe) :: pn)) (.Name x px) (tVar i)) (hy : y ∈ ("BlankError" : Str) :: es) (hgy : Gl X y) (hdb : (y == ("__debug__" : Str)) = false) (hg : Gl X "isinstance") (hm : X.mg "isinstance" = none) :
    PE (X.suite a ((a, oe) :: pn)) (.Call (.Name "isinstance" p) [.Name x px, .Name y pc] [] pos) (tD G U (rZ G) (cIsE i (errSub xx.c y))) := by
  obtain ⟨D, gD⟩ := er.gl y hy
  obtain ⟨k1, _, k3⟩ := er.fe _ hx C hcm
  exact @sx_isE T G U X a C oe pn i d xx.fs (errSub xx.c y) x y (.ref D) (.ref D) px pc p pos hT k1 hz hf he (pe_glob hgy gD rfl hdb) (fun u h => h) (k3 y hy D gD).1 hg hm
theorem sx_isEv (hT : T.er = some ⟨a, X.N.length - 1 - i, d, xx.fs⟩) (er : ErrK X.K G.cm X.mg es) (hx : xx.c ∈ es) (hcm : G.cm xx.c = some C) (hz : Zc (.ref C) d oe) (hf : ∃ vs, oe.data = .fields vs) (he : PE (X.suite a ((a, oe) :: pn)) (.Name x px) (tVar i)) (hgy : Gl X "ValueError") (hmy : X.mg "ValueError" = none) (hg : Gl X "isinstance") (hm : X.mg "isinstance" = none) :
    PE (X.suite a ((a, oe) :: pn)) (.Call (.Name "isinstance" p) [.Name x px, .Name "ValueError" pc] [] pos) (tD G U (rZ G) (cIsE i true)) := by
  obtain ⟨k1, k2, _⟩ := er.fe _ hx C hcm
  exact @sx_isE T G U X a C oe pn i d xx.fs true x "ValueError" (.type "ValueError") (.ty "ValueError") px pc p pos hT k1 hz hf he (pe_bltn hgy hmy rfl (by rfl) (by decide) (by decide)) (fun u h => h) k2 hg hm
end
end Cb

end
section
set_option maxRecDepth 100000
set_option maxHeartbeats 1000000
/-! own classes: isinstance, == by the own __eq__ -/
namespace Cb
open PySem PySem.Spec PyProof.Rows L2
structure OwnK (K' : PySem.W.Frag) (C : Addr) : Prop where
  cl : Cls K' C
  ha : PySem.W.findIn K' (.ref C) "__class__" = some (some (.builtin "object.__class__"))
  hn : PySem.W.specialIn K' (.builtin "object.__class__") "__get__" = some (some (.builtin "getset_descriptor.__get__"))
  ht : PySem.W.takesIn K' (.builtin "object.__class__") = some true
  hm : PySem.W.mroIn K' C (.type "object") = some true
  hc : (PySem.W.clsIn K' C).isSome = true
  hy : PySem.W.typeIn K' (.ref C) = some (.type "type")
def ownB (K' : PySem.W.Frag) (C : Addr) : Bool :=
  decide (PySem.W.findIn K' (.ref C) "__class__" = some (some (.builtin "object.__class__"))) && (decide (PySem.W.specialIn K' (.builtin "object.__class__") "__get__" = some (some (.builtin "getset_descriptor.__get__"))) && (decide (PySem.W.takesIn K' (.builtin "object.__class__") = some true) &&
  (decide (PySem.W.mroIn K' C (.type "object") = some true) && ((PySem.W.clsIn K' C).isSome && decide (PySem.W.typeIn K' (.ref C) = some (.type "type"))))))
theorem ownB_ok {K' : PySem.W.Frag} {C : Addr} (h : ownB K' C = true) (cl : Cls K' C) : OwnK K' C := by
  unfold ownB at h
  simp only [Bool.and_eq_true, decide_eq_true_eq] at h
  obtain ⟨h1, h2, h3, h4, h5, h6⟩ := h
  exact ⟨cl, h1, h2, h3, h4, h5, h6⟩
/-- an own class of the program, by its name -/
structure OwnI (K' : PySem.W.Frag) (cm : Str → Option Addr) (mg : Str → Option Value) (c : Str) : Prop where
  ex : ∃ C, cm c = some C ∧ mg c = some (.ref C) ∧ OwnK K' C
/-- isinstance(x, c), c an own class -/
def isOwnW (c : Str) : W → Option Bool
  | .obj d _ => if d = c then some true else none
  | .rng _ _ => none
  | _ => some false
def cIsO (c : Str) (d : Den Od) : Den Z := fun env => (d env).bind fun o env => match o.res env with
  | some z => (match isOwnW c (frz z) with
    | some b => .ok (.w (.bl b)) env
    | none => .bad)
  | none => .bad
/-- a == b by the meaning m of a's own __eq__ -/
def eqO (c : Str) (m : Mean) (a b : W) : Option Bool := match a, isOwnW c b, m [.w a, .w b] with
  | .obj d _, some _, .ok (.w (.bl r)) _ => if d = c then some r else none
  | _, _, _ => none
def cEqO (c : Str) (m : Mean) (d e : Den Z) : Den Z := fun env => (d env).bind fun a env => (e env).bind fun b env => match eqO c m (frz a) (frz b) with
  | some r => .ok (.w (.bl r)) env
  | none => .bad
theorem not_first {K' : PySem.W.Frag} {C : Addr} (w : W) (hk : isKit w = true) : PySem.W.notFirst K' C (.type (kindW w)) = true := by
  cases w <;> first | (cases hk; done) | (unfold PySem.W.notFirst kindW; kernel_rfl)
theorem kit_own {K' : PySem.W.Frag} {C : Addr} (o : OwnK K' C) (w : W) (hk : isKit w = true) : PySem.W.kitOne K' (.type (kindW w)) (.ref C) = some false := by
  have h1 : PySem.W.kitCls K' (.type (kindW w)) (.ref C) = PySem.W.subIn K' (.type (kindW w)) (.ref C) := by
    show (if ((PySem.W.clsIn K' C).isSome && PySem.W.typeIn K' (.ref C) == some (.type "type")) = true then _ else _) = _
    rw [if_pos (by rw [o.hc, o.hy]; rfl)]
  have h2 : PySem.W.kitOne K' (.type (kindW w)) (.ref C) = PySem.W.kitCls K' (.type (kindW w)) (.ref C) := by
    unfold PySem.W.kitOne
    rw [if_neg (by simp)]
  rw [h2, h1]
  cases w <;> first | (cases hk; done) | (unfold PySem.W.subIn kindW; kernel_rfl)
section
variable [Tb] {G : Gc} {U : L2.WX} {X : Cx} {S : AS} {H : Hp} {Q : VK}
theorem isKit_iff {w : W} : isKit w = true ∨ (∃ c fs, w = .obj c fs) ∨ ∃ lo hi, w = .rng lo hi := by cases w <;> first | exact .inl rfl | exact .inr (.inl ⟨_, _, rfl⟩) | exact .inr (.inr ⟨_, _, rfl⟩)
theorem own_tyx (hG : G.K = X.K) {c : Str} {C : Addr} (hcm : G.cm c = some C) (o : OwnK X.K C) {w : W} {v : V} {b : Bool} (h : Vw G S H w v) (e : isOwnW c w = some b) : ∃ t, TyX X.K H v t ∧ PySem.W.kitOne X.K t (.ref C) = some b ∧ PySem.W.notFirst X.K C t = true := by
  rcases isKit_iff (w := w) with hk | ⟨d, fs, rfl⟩ | ⟨lo, hi, rfl⟩
  · have hb : b = false := by
      cases w <;> first | (cases hk; done) | (cases e; rfl)
    subst hb
    exact ⟨_, tyx_of hG hk h, kit_own o w hk, not_first w hk⟩
  · have e : (if d = c then some true else none) = some b := e
    by_cases hd : d = c
    · subst hd
      rw [if_pos rfl] at e
      obtain rfl : true = b := Option.some.inj e
      obtain ⟨a, D, dx, vs, rfl, hD, h1, _⟩ := h
      rw [hcm] at hD
      cases hD
      refine ⟨.ref C, .base (.ins h1 o.cl o.ha o.hn o.ht o.hm), ?_, ?_⟩
      · unfold PySem.W.kitOne; rw [if_pos (by simp)]
      · unfold PySem.W.notFirst; simp
    · rw [if_neg hd] at e; cases e
  · cases e
theorem sx_isO {c : Str} {e : Expr} {d : Den Od} {p p2 pos : Pos} (hG : G.K = X.K) (ow : OwnI X.K G.cm X.mg c) (ns : Nst e) (he : PE X e (tD G U (rO G) d)) (hg : Gl X "isinstance") (hm : X.mg "isinstance" = none) (hg2 : Gl X c) (hdb : (c == ("__debug__" : Str)) = false) :
    PE X (.Call (.Name "isinstance" p) [e, .Name c p2] [] pos) (tD G U (rZ G) (cIsO c d)) := by
  obtain ⟨C, hcm, hmc, o⟩ := ow.ex
  have h2 : PE X (.Name c p2) (tC (.ref C)) := pe_glob hg2 hmc rfl hdb
  have hs : PA X [e, .Name c p2] (tCons (tD G U (rO G) d) (tCons (tC (.ref C)) tNil)) := pa_cons he (pa_cons h2 pa_nil (by rfl)) (ns _ _)
  refine (pe_callB call_isi hg hm rfl hs (he := ns _ _) (hpl := by rfl)).imp fun σ H Q ⟨env, S, A, en, ok, oo⟩ => ⟨env, S, A, en, ok, ?_⟩
  refine (Out.bind (rel := rO G) (fun h => h.2) oo).mono fun x H1 ⟨oa, env1, S1, A1, _, en1, ok1, ⟨r1, _⟩, f1, o2⟩ => ?_
  show rIsi X.K [x, .ref C] H1 Q
  cases e0 : oa.res env1 with
  | none => rw [e0] at o2; exact o2.elim
  | some z =>
    rw [e0] at o2
    dsimp only at o2
    cases e1 : isOwnW c (frz z) with
    | none => rw [e1] at o2; exact o2.elim
    | some b =>
      rw [e1] at o2
      have hv : Vw G S1 H1 (frz z) x := by
        cases oa with
        | w y =>
          cases e0
          exact Rp.vw r1
        | s i =>
          obtain ⟨v, B, R, hs, rz, _, _⟩ := en1.gets (show gets env1 i = some z from e0)
          have r1' : σ[i]? = some (some x) := r1
          rw [r1'] at hs
          cases hs
          exact rz.vw
      obtain ⟨t, ty, k1, _⟩ := own_tyx hG hcm o hv e1
      exact ⟨x, .ref C, t, _, b, rfl, .own C, ty, k1, o2.here en1 ok1 ⟨rp_bl _ _ _, rfl⟩⟩
/-- what a method's function keeps -/
structure MtS [Tb] (G : Gc) (X : Cx) (c n : Str) (k : Nat) (m : Mean) : Prop where
  ex : ∃ (C f : Addr) (fd : FuncData) (ps : List Str) (j : Nat), G.cm c = some C ∧ PySem.W.findIn X.K (.ref C) n = some (some (.ref f)) ∧ PySem.W.isFn X.K (.ref f) = true ∧ L2.Binds X.K fd ps [] ∧ FnOk X.prog X.w X.K X.mg X.base (L2.CX X.prog X.w) j f fd ps (spM G k m) ∧ Room j X.A
theorem op_eqO (hG : G.K = X.K) {c : Str} {m : Mean} (ow : OwnI X.K G.cm X.mg c) (mt : MtS G X c "__eq__" 2 m) :
    OpR X (compareOp .Eq) (fun x y H Q => ∃ S A a b r, Rp G S H a x ∧ Rp G S H b y ∧ Ok S H A ∧ eqO c m a b = some r ∧ ∀ S' H', Ok S' H' A → Fr S H [] S' H' [] → Q (.bl r) H') := by
  intro pins s σ H x y v u Q I rx ry hq
  obtain ⟨S, A, a, b, r, ra, rb, ok, e, q⟩ := hq
  obtain ⟨C, hcm, hmc, o⟩ := ow.ex
  obtain ⟨C2, f, fd, ps, j, hcm2, hfi, hfn, hb, F, hr⟩ := mt.ex
  rw [hcm] at hcm2
  cases hcm2
  show wpAny (model X.prog X.w) X.A (richCompare .Eq v u) (EP X pins σ Q) X.xe s
  have he : ∃ fs bb back, a = .obj c fs ∧ isOwnW c b = some bb ∧ m [.w a, .w b] = .ok (.w (.bl r)) back := by
    unfold eqO at e
    split at e
    · rename_i d fs bb rr back e1 e2
      by_cases hd : d = c
      · subst hd
        rw [if_pos rfl] at e
        obtain rfl := Option.some.inj e
        exact ⟨fs, bb, back, rfl, e1, e2⟩
      · rw [if_neg hd] at e; cases e
    · cases e
  obtain ⟨fs, bb, back, rfl, e1, e2⟩ := he
  obtain ⟨t, ty, _, nf⟩ := own_tyx hG hcm o (Rp.vw rb) e1
  have ra' := ra
  unfold Rp at ra'
  obtain ⟨p, D, dx, vs, rfl, hD, h1, _⟩ := ra'
  rw [hcm] at hD
  cases hD
  cases rx
  obtain ⟨mA, J, _⟩ := ins_get I.hok h1.2
  obtain ⟨od, J, _⟩ := J.look
  obtain ⟨P', Z, pz, _⟩ := kit_of I ry ty
  obtain ⟨mm, hF⟩ := I.fr
  refine PySem.W.cmp_K (op := .Eq) (tb := t) hr.units0 hF I.ok.mod.kin J (Z.ty _ _ I.kIn pz) nf hfi hfn ?_
  have hsp : spM G 2 m [.ref p, y] H (fun v H' => v = .bl r ∧ ∃ S', Ok S' H' A ∧ Fr S H [] S' H' []) (fun _ _ _ => False) := by
    refine ⟨rfl, [.w (.obj c fs), .w b], S, [[], []], ⟨_, _, [], _, rfl, rfl, ⟨ra, rfl⟩, _, _, [], _, rfl, rfl, ⟨rb, rfl⟩, rfl, rfl⟩, ok.nil, ?_⟩
    rw [e2]
    intro v' H' S' B Bs' rb' rz ok' f'
    obtain ⟨rz1, rfl⟩ := rz
    unfold Rp at rz1
    subst rz1
    have f2 : Fr S H [] S' H' [] := f'.less fun a h => absurd h (by simp)
    exact ⟨rfl, S', f2.off (B := A) ok ok'.nil, f2⟩
  have e0 : Env0 X.prog X.w X.K X.mg X.base X.A X.stack s H := I.env0
  have hl := F.len _ _ _ _ hsp
  refine wpAny_call (codeAny_mono (F.run X.A X.stack s H ⟨[.ref p, u], []⟩ [.ref p, u] [.ref p, y] _ _ hr e0 (by
    have := hb s [.ref p, u] I.kIn (by simpa using hl)
    simpa using this) (.cons rfl (.cons ry .nil)) hsp) fun z s' hq => ?_)
  cases z with
  | error e =>
    obtain ⟨_, _, _, _, _, _, _, _, _, _, _, _, zz⟩ := hq
    exact zz.elim
  | ok fl =>
    cases fl with
    | ret w0 =>
      obtain ⟨z, H', I', rz, ez, S', ok2, f2⟩ := I.after hq
      subst ez
      cases rz
      exact ⟨.bl r, H', I', rfl, q S' H' ok2 f2⟩
    | next => exact False.elim hq
    | brk => exact False.elim hq
    | cont => exact False.elim hq
/-- both operands frozen, then compared -/
theorem fz2 {d e : Den Z} {RR : R2} {σ : L2.St} {H : Hp} {Q : VK} {c : Str} {m : Mean}
    (h : ∀ x y H1 (Q : VK), (∃ S A a b r, Rp G S H1 a x ∧ Rp G S H1 b y ∧ Ok S H1 A ∧ eqO c m a b = some r ∧ ∀ S' H', Ok S' H' A → Fr S H1 [] S' H' [] → Q (.bl r) H') → RR x y H1 Q)
    (t : tD G U (rZ G) (cEqO c m d e) σ H Q) : tOp RR (tD G U (rW G) (cFz d)) (tD G U (rW G) (cFz e)) σ H Q := by
  obtain ⟨env, S, A, en, ok, o⟩ := t
  refine ⟨env, S, A, en, ok, ?_⟩
  have o1 : Out G U σ S H A (rZ G) ((cFz d env).bind fun a env => (cFz e env).bind fun b env => match eqO c m a b with | some r => R.ok (.w (.bl r)) env | none => .bad) Q := by
    have e : ((cFz d env).bind fun a env => (cFz e env).bind fun b env => match eqO c m a b with | some r => R.ok (Z.w (.bl r)) env | none => .bad) = cEqO c m d e env := by
      unfold cFz cEqO
      cases d env with
      | ok z e1 =>
        dsimp only [R.bind]
        cases e e1 <;> rfl
      | _ => rfl
    rw [e]; exact o
  refine (Out.bind (rel := rW G) (fun h => h.2) o1).mono fun x H1 ⟨a, env1, S1, A1, _, en1, ok1, ⟨r1, _⟩, f1, o2⟩ => ⟨env1, S1, A1, en1, ok1, ?_⟩
  refine (Out.bind (rel := rW G) (fun h => h.2) o2).mono fun y H2 ⟨b, env2, S2, A2, _, en2, ok2, ⟨r2, _⟩, f2, o3⟩ => ?_
  cases q : eqO c m a b with
  | none => rw [q] at o3; exact o3.elim
  | some r =>
    rw [q] at o3
    exact h x y H2 Q ⟨S2, A2, a, b, r, r1.mono (f2.kp ok1) f2.up, r2, ok2, q, fun S' H' ok' f' => o3 (.bl r) H' S' A2 [] (en2.mono (f'.kp ok2.nil) f'.up (f'.offK (A := []) (B := A2) ok2)) ⟨rp_bl _ _ _, rfl⟩ ok' ⟨fun a o e _ nt => f'.keep a o e (by simp) nt, f'.up, fun a h => (f'.back a h).imp id fun h => h.elim (fun h => absurd h (by simp)) .inr, fun a h => .inl h, f'.dom⟩⟩
theorem sx_eqO {c : Str} {m : Mean} {a b : Expr} {pos : Pos} {d e : Den Z} (hG : G.K = X.K) (ow : OwnI X.K G.cm X.mg c) (mt : MtS G X c "__eq__" 2 m) (ha : PE X a (tD G U (rZ G) d)) (hb : PE X b (tD G U (rZ G) e)) (hm : behindInMarks .Eq b = false) :
    PE X (.Compare a [.Eq] [b] pos) (tD G U (rZ G) (cEqO c m d e)) := (pe_cmpR (op_eqO hG ow mt) (pe_fz ha) (pe_fz hb) hm).imp fun σ H Q h => fz2 (fun x y H1 Q hh => hh) h
theorem st_eqO {c : Str} {m : Mean} {a b : Expr} {pos : Pos} {d e : Den Z} (hG : G.K = X.K) (ow : OwnI X.K G.cm X.mg c) (mt : MtS G X c "__eq__" 2 m) (ha : PE X a (tD G U (rZ G) d)) (hb : PE X b (tD G U (rZ G) e)) (hm : behindInMarks .Eq b = false) :
    PT X (.Compare a [.Eq] [b] pos) (tD G U rB (cT (cEqO c m d e))) := st_test (pt_cmpR (op_eqO hG ow mt) (pe_fz ha) (pe_fz hb) hm) fun σ H Q h => fz2 (fun x y H1 Q hh => hh) h
end
/-- a method of an own class, laid out -/
structure CalM [Tb] (P : Program) (w : World) (K' : PySem.W.Frag) (mg : Str → Option Value) (base : Heap) (cm : Str → Option Addr) (k : Nat) (c nm : Str) (n : Nat) (m : Mean) : Prop where
  ex : ∃ (C f : Addr) (fd : FuncData) (ps : List Str), cm c = some C ∧ PySem.W.findIn K' (.ref C) nm = some (some (.ref f)) ∧ PySem.W.isFn K' (.ref f) = true ∧ L2.Binds K' fd ps [] ∧ FnOk P w K' mg base (L2.CX P w) k f fd ps (spM ⟨K', cm⟩ n m)
theorem CalM.s [Tb] {P : Program} {w : World} {K' : PySem.W.Frag} {mg : Str → Option Value} {base : Heap} {X : Cx} {cm : Str → Option Addr} {k j : Nat} {c nm : Str} {n : Nat} {m : Mean} (h : CalM P w K' mg base cm k c nm n m) (hr : Room j X.A) (hk : k ≤ j)
    (e : X.prog = P ∧ X.w = w ∧ X.K = K' ∧ X.mg = mg ∧ X.base = base := by exact ⟨rfl, rfl, rfl, rfl, rfl⟩) : MtS ⟨K', cm⟩ X c nm n m := by
  obtain ⟨rfl, rfl, rfl, rfl, rfl⟩ := e
  obtain ⟨C, f, fd, ps, h1, h2, h3, h4, h5⟩ := h.ex
  exact ⟨C, f, fd, ps, k, h1, h2, h3, h4, h5, hr.mono hk⟩
end Cb

end
section
set_option maxRecDepth 100000
set_option maxHeartbeats 4000000
/-! comprehensions of two clauses -/
namespace Cb
open PySem PySem.Spec PyProof.Rows L2
def lc2Pre (tg : Tg) (t : Den Bool) (k1 : Itk) (di1 : Den (List W)) (w : W) (env : Env) : R (Option (List W)) := match setTg tg w env with
  | none => .bad
  | some env => (t env).bind fun b env => if b then (cIt k1 di1 env).bind fun ws env => .ok (some ws) env else .ok none env
def lc2Loop (vs vs1 : List Nat) (pre : W → Env → R (Option (List W))) (turn : W → Env → R (Option W)) : List W → Env → List W → R (List W)
  | [], env, acc => .ok acc env
  | w :: ws, env, acc => (pre w env).bind fun o env => match o with
    | none => lc2Loop vs vs1 pre turn ws (wipeE env vs) acc
    | some items => (lcLoop turn items (wipeE env vs1) acc).bind fun acc env => lc2Loop vs vs1 pre turn ws (wipeE env vs) acc
def cLc2 (vs vs1 : List Nat) (tg : Tg) (k : Itk) (di : Den (List W)) (t : Den Bool) (tg1 : Tg) (k1 : Itk) (di1 : Den (List W)) (t1 : Den Bool) (d : Den Z) : Den Z := fun env => (cIt k di env).bind fun items env1 =>
  (noX (lc2Loop vs vs1 (lc2Pre tg t k1 di1) (lcTurn vs1 tg1 t1 d) items (wipeE env1 vs) [])).bind fun ys env2 => .ok (.L ys) (restE env1 env2 vs)
section
variable [Tb] {G : Gc} {U : L2.WX} {X : Cx}
/-- how far a loop of one clause is -/
def LcW (G : Gc) (vs : List Nat) (t : Tg) (dt : Den Bool) (d : Den Z) (items : List W) (σ : L2.St) (S1 : AS) (H1 : Hp) (A1 : List Addr) (D : Addr) (ys : List W) (env2 : Env) (i m : Nat) (H : Hp) : Prop :=
  m = items.length - i ∧ i ≤ items.length ∧ ∃ env S A acc vacc, EnvR G S H env (wipe σ vs) A ∧ Ok S H (A ++ [D]) ∧ Fr S1 H1 A1 S H (A ++ [D]) ∧ H D = some (.lst vacc) ∧ Rps G S H acc vacc ∧ lcLoop (lcTurn vs t dt d) (items.drop i) env acc = .ok ys env2
def LcE (G : Gc) (vs : List Nat) (σ : L2.St) (S1 : AS) (H1 : Hp) (A1 : List Addr) (D : Addr) (ys : List W) (env2 : Env) (H : Hp) : Prop :=
  ∃ S A vacc, EnvR G S H env2 (wipe σ vs) A ∧ Ok S H (A ++ [D]) ∧ Fr S1 H1 A1 S H (A ++ [D]) ∧ H D = some (.lst vacc) ∧ Rps G S H ys vacc
theorem lc_turns {t : Tg} {vs : List Nat} {dt : Den Bool} {d : Den Z} {items : List W} {σ : L2.St} {S1 : AS} {H1 : Hp} {A1 : List Addr} {J : It} {D : Addr} {ys : List W} {env2 : Env} (hv : ∀ i ∈ slotsOf t, i ∈ vs) (ok1 : Ok S1 H1 A1) (itk : ItOk G S1 H1 J items) :
    ∀ i m H, LcW G vs t dt d items σ S1 H1 A1 D ys env2 i m H →
      (J.stop i H ∧ LcE G vs σ S1 H1 A1 D ys env2 H) ∨ (J.go i H ∧ ∃ Nx : Hp → Prop, (∀ H', Nx H' → ∃ m', m' < m ∧ LcW G vs t dt d items σ S1 H1 A1 D ys env2 (i + 1) m' H') ∧ ∀ x H', J.yld i H x H' → gTg G.K t x (wipe σ vs) H' fun σ2 H2 => wipe σ2 vs = wipe σ vs ∧ (tD G UF rB dt) σ2 H2 fun b H3 =>
        if b = true then (tD G UF (rW G) (cFz d)) σ2 H3 fun y H4 => ∃ acc, H4 D = some (.lst acc) ∧ acc.length < sizeLine ∧ Nx (upd H4 D (.lst (acc ++ [y]))) else Nx H3) := by
  rintro i m H ⟨rfl, hil, env, S, A, acc, vacc, en, ok, f, hDl, racc, eL⟩
  obtain ⟨j1, j2⟩ := itk i S H (f.kp ok1) f.up
  by_cases hlt : i < items.length
  · have hw : items[i]? = some items[i] := by simp [hlt]
    obtain ⟨g1, g2⟩ := j1 _ hw
    refine .inr ⟨g1, fun H' => ∃ env S A acc vacc, EnvR G S H' env (wipe σ vs) A ∧ Ok S H' (A ++ [D]) ∧ Fr S1 H1 A1 S H' (A ++ [D]) ∧ H' D = some (.lst vacc) ∧ Rps G S H' acc vacc ∧ lcLoop (lcTurn vs t dt d) (items.drop (i + 1)) env acc = .ok ys env2,
      fun H' q => ⟨items.length - (i + 1), by omega, rfl, hlt, q⟩, fun x H2 y => ?_⟩
    obtain ⟨k, rx⟩ := g2 x H2 y
    rw [List.drop_eq_getElem_cons hlt] at eL
    unfold lcLoop lcTurn at eL
    cases e : setTg t items[i] env with
    | none => rw [e] at eL; cases eL
    | some e2 =>
      rw [e] at eL
      dsimp only at eL
      refine tg_out (ext_en k en) (ext_ok k ok.left) rx e fun xs A2 en2 ok2 s2 => ?_
      have hwp : wipe (foldσ (slotsOf t) xs (wipe σ vs)) vs = wipe σ vs := (wipe_fold hv).trans (wipe_wipe fun i h => h)
      refine ⟨hwp, ?_⟩
      generalize hσ2 : foldσ (slotsOf t) xs (wipe σ vs) = σ2 at en2 hwp ⊢
      have okD2 : Ok S H2 (A2 ++ [D]) := by
        have q := ext_ok k ok
        refine ⟨List.nodup_append.mpr ⟨ok2.nd, by simp, fun a ha b hb e => ?_⟩, fun a ha => ?_, q.dom, q.tab⟩
        · exact (List.nodup_append.mp ok.nd).2.2 a (s2 a ha) b hb e
        · rcases List.mem_append.mp ha with h | h
          · exact q.own a (List.mem_append_left _ (s2 a h))
          · exact q.own a (List.mem_append_right _ h)
      have f2 : Fr S1 H1 A1 S H2 (A2 ++ [D]) := (f.trans (ext_fr k)).less fun a ha => by
        rcases List.mem_append.mp ha with h | h
        · exact List.mem_append_left _ (s2 a h)
        · exact List.mem_append_right _ h
      have hD2 : H2 D = some (.lst vacc) := k D _ hDl
      have ra2 : Rps G S H2 acc vacc := racc.mono (ext_kp k) fun _ h => h
      refine ⟨e2, S, A2, en2, ok2, ?_⟩
      cases e3 : dt e2 with
      | bad => rw [e3] at eL; cases eL
      | ex x2 e4 => rw [e3] at eL; cases eL
      | ok b e4 =>
        rw [e3] at eL
        dsimp only [R.bind] at eL
        intro b' H3 S3 A3 B3 en3 r3 ok3 f3
        obtain ⟨rfl, rfl⟩ := r3
        have ok3' : Ok S3 H3 A3 := ok3
        have okD3 : Ok S3 H3 (A3 ++ [D]) := f3.off okD2 ok3
        have hD3 : H3 D = some (.lst vacc) := f3.offK okD2 D (by simp) _ hD2
        have ra3 : Rps G S3 H3 acc vacc := ra2.mono (f3.kp ok2) f3.up
        have f13 : Fr S1 H1 A1 S3 H3 (A3 ++ [D]) := by
          refine (f2.trans (f3.wide (B := A2 ++ [D]) fun a h => List.mem_append_left _ h)) |> fun q => ⟨q.keep, q.up, q.back, fun a ha => ?_, q.dom⟩
          rcases List.mem_append.mp ha with h | h
          · exact q.own a h
          · exact f2.own a (List.mem_append_right _ h)
        cases b with
        | false =>
          rw [if_neg Bool.false_ne_true] at eL ⊢
          obtain ⟨R4, k4, l4⟩ := en3.wiped vs
          rw [hwp] at k4
          exact ⟨wipeE e4 vs, S3, R4, acc, vacc, k4, okD3.sub (List.Sublist.append_right l4 _), f13.less fun a ha => by
            rcases List.mem_append.mp ha with h | h
            · exact List.mem_append_left _ (l4.subset h)
            · exact List.mem_append_right _ h, hD3, ra3, eL⟩
        | true =>
          rw [if_pos rfl] at eL ⊢
          refine ⟨e4, S3, A3, en3, ok3', ?_⟩
          unfold cFz
          cases e5 : d e4 with
          | bad => rw [e5] at eL; cases eL
          | ex x2 e6 => rw [e5] at eL; cases eL
          | ok z e6 =>
            rw [e5] at eL
            dsimp only [R.bind] at eL ⊢
            intro yv H4 S4 A4 B4 en4 r4 ok4 f4
            obtain ⟨r4, rfl⟩ := r4
            by_cases hz : acc.length < 16777216
            · rw [if_pos hz] at eL
              have ok4' : Ok S4 H4 A4 := ok4
              have okD4 : Ok S4 H4 (A4 ++ [D]) := f4.off okD3 ok4
              have hD4 : H4 D = some (.lst vacc) := f4.offK okD3 D (by simp) _ hD3
              have ra4 : Rps G S4 H4 acc vacc := ra3.mono (f4.kp ok3') f4.up
              refine ⟨vacc, hD4, by rw [ra4.length, sizeLine_eq]; exact hz, ?_⟩
              obtain ⟨R5, k5, l5⟩ := en4.wiped vs
              rw [hwp] at k5
              have okD5 : Ok S4 H4 (R5 ++ [D]) := okD4.sub (List.Sublist.append_right l5 _)
              have hp : D ∈ R5 ++ [D] := by simp
              have fm : Fr S4 H4 (R5 ++ [D]) S4 (upd H4 D (.lst (vacc ++ [yv]))) (R5 ++ [D]) := Fr.mutate (u := .lst (vacc ++ [yv])) hp okD5
              have f14 : Fr S1 H1 A1 S4 H4 (A4 ++ [D]) := by
                refine (f13.trans (f4.wide (B := A3 ++ [D]) fun a h => List.mem_append_left _ h)) |> fun q => ⟨q.keep, q.up, q.back, fun a ha => ?_, q.dom⟩
                rcases List.mem_append.mp ha with h | h
                · exact q.own a h
                · exact f13.own a (List.mem_append_right _ h)
              refine ⟨wipeE e6 vs, S4, R5, acc ++ [frz z], vacc ++ [yv], k5.mono (fm.kp okD5) fm.up (fun a ha o ea => ?_), Ok.mutate hp okD5 trivial, (f14.less fun a ha => ?_).trans fm, upd_same, ((ra4.append (.one r4)).mono (fm.kp okD5) fm.up), eL⟩
              · have ne : a ≠ D := fun z => okD5.dis ha (by simp [z])
                rw [upd_ne ne]; exact ea
              · rcases List.mem_append.mp ha with h | h
                · exact List.mem_append_left _ (l5.subset h)
                · exact List.mem_append_right _ h
            · rw [if_neg hz] at eL; cases eL
  · have e : i = items.length := by omega
    subst e
    rw [List.drop_length] at eL
    cases eL
    exact .inl ⟨j2 (by simp), S, A, vacc, en, ok, f, hDl, racc⟩
theorem lc2_out {t t1 : Tg} {vs vs1 : List Nat} {dt dt1 : Den Bool} {k1 : Itk} {di1 : Den (List W)} {d : Den Z} {items : List W} {σ : L2.St} {S1 : AS} {H1 : Hp} {A1 : List Addr} {env1 : Env} {J : It} {Q : VK} (hv : ∀ i ∈ slotsOf t, i ∈ vs) (hv1 : ∀ i ∈ slotsOf t1, i ∈ vs1) (hvv : ∀ i ∈ vs1, i ∈ vs) (en1 : EnvR G S1 H1 env1 σ A1) (ok1 : Ok S1 H1 A1) (itk : ItOk G S1 H1 J items)
    (o : Out G U σ S1 H1 A1 (rZ G) ((noX (lc2Loop vs vs1 (lc2Pre t dt k1 di1) (lcTurn vs1 t1 dt1 d) items (wipeE env1 vs) [])).bind fun ys env2 => .ok (.L ys) (restE env1 env2 vs)) Q) :
    ∀ D, H1 D = none → ∃ W : Nat → Nat → Hp → Prop, (∃ m, W 0 m (upd H1 D (.lst []))) ∧ ∀ i m H, W i m H →
      (J.stop i H ∧ Q (.ref D) H) ∨ (J.go i H ∧ ∃ Nx : Hp → Prop, (∀ H', Nx H' → ∃ m', m' < m ∧ W (i + 1) m' H') ∧ ∀ x H', J.yld i H x H' → gTg G.K t x (wipe σ vs) H' fun σ2 H2 => wipe σ2 vs = wipe σ vs ∧ (tD G UF rB dt) σ2 H2 fun b H3 =>
        if b = true then (tD G UF (rIt G) (cIt k1 di1)) σ2 H3 fun J1 H4 => ∃ W1 : Nat → Nat → Hp → Prop, (∃ m, W1 0 m H4) ∧ ∀ j k H, W1 j k H →
          (J1.stop j H ∧ Nx H) ∨ (J1.go j H ∧ ∃ Nx1 : Hp → Prop, (∀ H', Nx1 H' → ∃ k', k' < k ∧ W1 (j + 1) k' H') ∧ ∀ x H', J1.yld j H x H' → gTg G.K t1 x (wipe σ2 vs1) H' fun σ3 H5 => wipe σ3 vs1 = wipe σ2 vs1 ∧ (tD G UF rB dt1) σ3 H5 fun b H6 =>
            if b = true then (tD G UF (rW G) (cFz d)) σ3 H6 fun y H7 => ∃ acc, H7 D = some (.lst acc) ∧ acc.length < sizeLine ∧ Nx1 (upd H7 D (.lst (acc ++ [y]))) else Nx1 H6)
        else Nx H3) := by
  intro D hD
  cases e0 : noX (lc2Loop vs vs1 (lc2Pre t dt k1 di1) (lcTurn vs1 t1 dt1 d) items (wipeE env1 vs) []) with
  | bad => rw [e0] at o; exact o.elim
  | ex x e => exact absurd e0 (by cases lc2Loop vs vs1 (lc2Pre t dt k1 di1) (lcTurn vs1 t1 dt1 d) items (wipeE env1 vs) [] <;> simp [noX])
  | ok ys env2 =>
    rw [e0] at o
    have e0' := noX_ok e0
    have kN := keep_new (u := .lst []) hD
    obtain ⟨R1, w1, w2⟩ := en1.wiped vs
    have okN : Ok S1 (upd H1 D (.lst [])) (R1 ++ [D]) := Ok.newO (ok1.sub w2) hD trivial
    have frN : Fr S1 H1 A1 S1 (upd H1 D (.lst [])) (R1 ++ [D]) := ⟨fun a u e _ _ => kN a u e, fun _ h => h, fun _ h => .inl h, fun a h => (List.mem_append.mp h).imp (fun h => w2.subset h) fun z => by rw [List.mem_singleton.mp z]; exact hD, fun a u e => ⟨u, kN a u e⟩⟩
    refine ⟨fun i m H => m = items.length - i ∧ i ≤ items.length ∧ ∃ env S A acc vacc, EnvR G S H env (wipe σ vs) A ∧ Ok S H (A ++ [D]) ∧ Fr S1 H1 A1 S H (A ++ [D]) ∧ H D = some (.lst vacc) ∧ Rps G S H acc vacc ∧ lc2Loop vs vs1 (lc2Pre t dt k1 di1) (lcTurn vs1 t1 dt1 d) (items.drop i) env acc = .ok ys env2,
      ⟨items.length, by simp, Nat.zero_le _, wipeE env1 vs, S1, R1, [], [], ext_en kN w1, okN, frN, upd_same, .nil, by simpa using e0'⟩, ?_⟩
    rintro i m H ⟨rfl, hil, env, S, A, acc, vacc, en, ok, f, hDl, racc, eL⟩
    obtain ⟨j1, j2⟩ := itk i S H (f.kp ok1) f.up
    by_cases hlt : i < items.length
    · have hw : items[i]? = some items[i] := by simp [hlt]
      obtain ⟨g1, g2⟩ := j1 _ hw
      refine .inr ⟨g1, fun H' => ∃ env S A acc vacc, EnvR G S H' env (wipe σ vs) A ∧ Ok S H' (A ++ [D]) ∧ Fr S1 H1 A1 S H' (A ++ [D]) ∧ H' D = some (.lst vacc) ∧ Rps G S H' acc vacc ∧ lc2Loop vs vs1 (lc2Pre t dt k1 di1) (lcTurn vs1 t1 dt1 d) (items.drop (i + 1)) env acc = .ok ys env2,
        fun H' q => ⟨items.length - (i + 1), by omega, rfl, hlt, q⟩, fun x H2 y => ?_⟩
      obtain ⟨k, rx⟩ := g2 x H2 y
      rw [List.drop_eq_getElem_cons hlt] at eL
      unfold lc2Loop lc2Pre at eL
      cases e : setTg t items[i] env with
      | none => rw [e] at eL; cases eL
      | some e2 =>
        rw [e] at eL
        dsimp only at eL
        refine tg_out (ext_en k en) (ext_ok k ok.left) rx e fun xs A2 en2 ok2 s2 => ?_
        have hwp : wipe (foldσ (slotsOf t) xs (wipe σ vs)) vs = wipe σ vs := (wipe_fold hv).trans (wipe_wipe fun i h => h)
        refine ⟨hwp, ?_⟩
        generalize hσ2 : foldσ (slotsOf t) xs (wipe σ vs) = σ2 at en2 hwp ⊢
        have okD2 : Ok S H2 (A2 ++ [D]) := by
          have q := ext_ok k ok
          refine ⟨List.nodup_append.mpr ⟨ok2.nd, by simp, fun a ha b hb e => ?_⟩, fun a ha => ?_, q.dom, q.tab⟩
          · exact (List.nodup_append.mp ok.nd).2.2 a (s2 a ha) b hb e
          · rcases List.mem_append.mp ha with h | h
            · exact q.own a (List.mem_append_left _ (s2 a h))
            · exact q.own a (List.mem_append_right _ h)
        have f2 : Fr S1 H1 A1 S H2 (A2 ++ [D]) := (f.trans (ext_fr k)).less fun a ha => by
          rcases List.mem_append.mp ha with h | h
          · exact List.mem_append_left _ (s2 a h)
          · exact List.mem_append_right _ h
        have hD2 : H2 D = some (.lst vacc) := k D _ hDl
        have ra2 : Rps G S H2 acc vacc := racc.mono (ext_kp k) fun _ h => h
        refine ⟨e2, S, A2, en2, ok2, ?_⟩
        cases e3 : dt e2 with
        | bad => rw [e3] at eL; cases eL
        | ex x2 e4 => rw [e3] at eL; cases eL
        | ok b e4 =>
          rw [e3] at eL
          dsimp only [R.bind] at eL
          intro b' H3 S3 A3 B3 en3 r3 ok3 f3
          obtain ⟨rfl, rfl⟩ := r3
          have ok3' : Ok S3 H3 A3 := ok3
          have okD3 : Ok S3 H3 (A3 ++ [D]) := f3.off okD2 ok3
          have hD3 : H3 D = some (.lst vacc) := f3.offK okD2 D (by simp) _ hD2
          have ra3 : Rps G S3 H3 acc vacc := ra2.mono (f3.kp ok2) f3.up
          have f13 : Fr S1 H1 A1 S3 H3 (A3 ++ [D]) := by
            refine (f2.trans (f3.wide (B := A2 ++ [D]) fun a h => List.mem_append_left _ h)) |> fun q => ⟨q.keep, q.up, q.back, fun a ha => ?_, q.dom⟩
            rcases List.mem_append.mp ha with h | h
            · exact q.own a h
            · exact f2.own a (List.mem_append_right _ h)
          cases b with
          | false =>
            rw [if_neg Bool.false_ne_true] at eL ⊢
            obtain ⟨R4, k4, l4⟩ := en3.wiped vs
            rw [hwp] at k4
            exact ⟨wipeE e4 vs, S3, R4, acc, vacc, k4, okD3.sub (List.Sublist.append_right l4 _), f13.less fun a ha => by
              rcases List.mem_append.mp ha with h | h
              · exact List.mem_append_left _ (l4.subset h)
              · exact List.mem_append_right _ h, hD3, ra3, eL⟩
          | true =>
            rw [if_pos rfl] at eL ⊢
            refine ⟨e4, S3, A3, en3, ok3', ?_⟩
            cases e5 : cIt k1 di1 e4 with
            | bad => rw [e5] at eL; cases eL
            | ex x2 e6 => rw [e5] at eL; cases eL
            | ok its e6 =>
              rw [e5] at eL
              dsimp only [R.bind] at eL
              intro J1 H4 S4 A4 B4 en4 r4 ok4 f4
              obtain ⟨itk1, rfl⟩ := r4
              have ok4' : Ok S4 H4 A4 := ok4
              have okD4 : Ok S4 H4 (A4 ++ [D]) := f4.off okD3 ok4
              have hD4 : H4 D = some (.lst vacc) := f4.offK okD3 D (by simp) _ hD3
              have ra4 : Rps G S4 H4 acc vacc := ra3.mono (f4.kp ok3') f4.up
              have f14 : Fr S1 H1 A1 S4 H4 (A4 ++ [D]) := by
                refine (f13.trans (f4.wide (B := A3 ++ [D]) fun a h => List.mem_append_left _ h)) |> fun q => ⟨q.keep, q.up, q.back, fun a ha => ?_, q.dom⟩
                rcases List.mem_append.mp ha with h | h
                · exact q.own a h
                · exact f13.own a (List.mem_append_right _ h)
              obtain ⟨R5, k5, l5⟩ := en4.wiped vs1
              have okD5 : Ok S4 H4 (R5 ++ [D]) := okD4.sub (List.Sublist.append_right l5 _)
              have f5 : Fr S4 H4 (A4 ++ [D]) S4 H4 (R5 ++ [D]) := (Fr.refl okD4).less fun a ha => (List.Sublist.append_right l5 [D]).subset ha
              cases e7 : lcLoop (lcTurn vs1 t1 dt1 d) its (wipeE e6 vs1) acc with
              | bad => rw [e7] at eL; cases eL
              | ex x2 e8 => rw [e7] at eL; cases eL
              | ok acc' e8 =>
                rw [e7] at eL
                dsimp only [R.bind] at eL
                refine ⟨LcW G vs1 t1 dt1 d its σ2 S4 H4 (A4 ++ [D]) D acc' e8, ⟨its.length, by simp, Nat.zero_le _, wipeE e6 vs1, S4, R5, acc, vacc, k5, okD5, f5, hD4, ra4, by simpa using e7⟩, fun j k H q => ?_⟩
                rcases lc_turns hv1 okD4 itk1 j k H q with ⟨st, S6, A6, va6, k6, ok6, f6, hD6, ra6⟩ | q
                · refine .inl ⟨st, ?_⟩
                  obtain ⟨R7, k7, l7⟩ := k6.wiped vs
                  have hw2 : wipe (wipe σ2 vs1) vs = wipe σ vs := (wipe_wipe hvv).trans hwp
                  rw [hw2] at k7
                  exact ⟨wipeE e8 vs, S6, R7, acc', va6, k7, ok6.sub (List.Sublist.append_right l7 _), (f14.trans f6).less fun a ha => (List.Sublist.append_right l7 [D]).subset ha, hD6, ra6, eL⟩
                · exact .inr q
    · have e : i = items.length := by omega
      subst e
      rw [List.drop_length] at eL
      cases eL
      refine .inl ⟨j2 (by simp), ?_⟩
      obtain ⟨R', k1, k2, k3⟩ := en1.rest (f.kp ok1) f.up en.unwipe ok.left.nd vs
      refine o (.ref D) H S R' [D] k1 ⟨D, vacc, rfl, hDl, racc, rfl⟩ ?_ (f.less fun a ha => ?_)
      · refine ⟨List.nodup_append.mpr ⟨by simp, k2, fun a ha b hb e => ?_⟩, fun a ha => ?_, ok.dom, ok.tab⟩
        · rw [List.mem_singleton] at ha
          exact (List.nodup_append.mp ok.nd).2.2 b (k3 b hb) a (by simp [ha]) e.symm
        · rcases List.mem_append.mp ha with h | h
          · exact ok.own a (List.mem_append_right _ h)
          · exact ok.own a (List.mem_append_left _ (k3 a h))
      · rcases List.mem_append.mp ha with h | h
        · exact List.mem_append_right _ h
        · exact List.mem_append_left _ (k3 a h)
theorem sx_lc2 {elt tg iter tg1 iter1 : Expr} {ifs ifs1 : List Expr} {scope : Scope} {own : List (Str × Nat)} {vs1 : List Nat} {pos : Pos} {t t1 : Tg} {k k1 : Itk} {di di1 : Den (List W)} {dt dt1 : Den Bool} {d : Den Z} (hc : X.calm = true) (hN : X.N.Nodup) (hv : ∀ i ∈ slotsOf t, i ∈ own.map (·.2)) (hv1 : ∀ i ∈ slotsOf t1, i ∈ vs1) (hvv : ∀ i ∈ vs1, i ∈ own.map (·.2))
    (hi : PI X tg iter (tD G U (rIt G) (cIt k di))) (ok : BlkOk X.N X.env.scope scope own)
    (hg : ∀ (s : Shared) (H : Hp) (C : Addr) (cl : List (Str × Addr)) (fp : List Addr), PG (X.blk s H scope (compEnvC scope cl C X.env) fp) tg (gTg G.K t)) (ht : ∀ (s : Shared) (H : Hp) (C : Addr) (cl : List (Str × Addr)) (fp : List Addr), PTs (X.blk s H scope (compEnvC scope cl C X.env) fp) ifs (tD G UF rB dt))
    (hi1 : ∀ (s : Shared) (H : Hp) (C : Addr) (cl : List (Str × Addr)) (fp : List Addr), PI (X.blk s H scope (compEnvC scope cl C X.env) fp) tg1 iter1 (tD G UF (rIt G) (cIt k1 di1)))
    (hg1 : ∀ (s : Shared) (H : Hp) (C : Addr) (cl : List (Str × Addr)) (fp : List Addr), PG (X.blk s H scope (compEnvC scope cl C X.env) fp) tg1 (gTg G.K t1)) (ht1 : ∀ (s : Shared) (H : Hp) (C : Addr) (cl : List (Str × Addr)) (fp : List Addr), PTs (X.blk s H scope (compEnvC scope cl C X.env) fp) ifs1 (tD G UF rB dt1))
    (he : ∀ (s : Shared) (H : Hp) (C : Addr) (cl : List (Str × Addr)) (fp : List Addr), PE (X.blk s H scope (compEnvC scope cl C X.env) fp) elt (tD G UF (rZ G) d)) (hs : ∀ x, foldedSetIterable iter X.env x = pure x) (hs1 : ∀ env x, foldedSetIterable iter1 env x = pure x) :
    PE X (.ListComp elt [⟨tg, iter, ifs, 0⟩, ⟨tg1, iter1, ifs1, 0⟩] scope pos) (tD G U (rZ G) (cLc2 (own.map (·.2)) vs1 t k di dt t1 k1 di1 dt1 d)) :=
  (pe_lc2 hc hN hi ok hvv hg ht hi1 hg1 ht1 (fun s H C cl fp => pe_fz (he s H C cl fp)) hs hs1).imp fun σ H Q ⟨env, S, A, en, okk, o⟩ => ⟨env, S, A, en, okk, (Out.bind (rel := rIt G) (fun h => h.2) o).mono fun J H1 ⟨ws, env1, S1, A1, _, en1, ok1, ⟨itk, _⟩, f1, o1⟩ => lc2_out hv hv1 hvv en1 ok1 itk o1⟩
end
end Cb

end
section
set_option maxRecDepth 100000
set_option maxHeartbeats 1000000
/-! ranges as values -/
namespace Cb
open PySem PySem.Spec PyProof.Rows L2
def cRv1 (d : Den Z) : Den Z := fun env => (d env).bind fun z env => match frz z with
  | .int b => .ok (.w (.rng 0 b)) env
  | _ => .bad
section
variable [Tb] {G : Gc} {U : L2.WX} {X : Cx}
theorem cr_rangeA : CallR X (.type "range") (fun vs H Q => ∃ j, vs = [V.int j] ∧ ∀ p, H p = none → Q (.ref p) (upd H p (.rng 0 j))) := by
  intro pins s σ H vs us Q I r h
  obtain ⟨j, rfl, q⟩ := h
  obtain ⟨u1, rfl, ri⟩ := vals1 r
  obtain ⟨t, rfl⟩ := ri
  exact call_range_1 ⟨.ref s.heap.objs.size, upd H s.heap.objs.size (.rng 0 j), I.laid (t' := _) (fun b o e => Heap.get?_push_of_some _ e) (Nat.le_refl _) ⟨_, _, _, Heap.get?_push_size _ rfl⟩, rfl, q _ (I.hok.fresh (Nat.le_refl _))⟩
theorem sx_rv1 {a : Expr} {d : Den Z} {p pos : Pos} (hg : Gl X "range") (hm : X.mg "range" = none) (ns : Nst a) (ha : PE X a (tD G U (rZ G) d)) : PE X (.Call (.Name "range" p) [a] [] pos) (tD G U (rZ G) (cRv1 d)) :=
  (pe_callTy cr_rangeA hg hm rfl (pa_cons (pe_fz ha) pa_nil (ns _ _)) (he := ns _ _) (hpl := by rfl)).imp fun σ H Q ⟨env, S, A, en, ok, o⟩ => by
    refine ⟨env, S, A, en, ok, ?_⟩
    have e0 : cRv1 d env = (cFz d env).bind fun w env => match w with | .int b => .ok (.w (.rng 0 b)) env | _ => .bad := by
      unfold cRv1 cFz
      cases d env <;> rfl
    rw [e0] at o
    refine (Out.bind (rel := rW G) (fun h => h.2) o).mono fun x H1 ⟨a, env1, S1, A1, _, en1, ok1, ⟨r1, _⟩, f1, o2⟩ => ?_
    cases a with
    | int b =>
      unfold Rp at r1
      subst r1
      refine ⟨b, rfl, fun p hp => (Res.out en1 ok1 o2) (.ref p) (upd H1 p (.rng 0 b)) [] (keep_new hp) ⟨by unfold Rp; exact ⟨p, rfl, upd_same⟩, rfl⟩ List.nodup_nil fun a ha => absurd ha (by simp)⟩
    | _ => exact o2.elim
/-- a name that holds a range, walked -/
def iRgv (tl : TE) : TI := fun σ H R => tl σ H fun x H1 => ∃ a lo hi, x = .ref a ∧ H1 a = some (.rng lo hi) ∧ -(2 ^ 62) ≤ lo ∧ lo < 2 ^ 62 ∧ -(2 ^ 62) ≤ hi ∧ hi < 2 ^ 62 ∧ R (Itr lo (hi - lo).toNat) H1
theorem pi_rgv0 {tg l : Expr} {tl : TE} (hl : PE X l tl) : PI X tg l (iRgv tl) := by
  refine ⟨fun pins s σ H R I h => ?_⟩
  refine thn (hl.run pins s σ H _ I h) fun v s1 ⟨x, H1, I1, r1, a, lo, hi, e, ha, h1, h2, h3, h4, q⟩ => ?_
  subst e
  cases r1
  obtain ⟨t, u, v, hget⟩ := (show ObjOk X.prog X.w H1 s1.heap a (.rng lo hi) from I1.hok a _ ha)
  refine wpAny_pyIter_range (a := lo) (b := hi) (c := 1) (t := t) (u := u) (v := v) hget (small_one h1 h2 h3 h4) ?_
  refine ⟨s1.heap.objs.size, [s1.heap.objs.size], _, _, H1, rfl, I1.kept (t' := s1.toks) fun b o e => Heap.get?_push_of_some _ e, turn_range _ lo (hi - lo).toNat, ?_, fun b hb => ?_, q⟩
  · have e1 : lo + ((0 : Nat) : Int) * 1 = lo := by simp
    have e2 : (((hi - lo).toNat : Nat) : Int) - ((0 : Nat) : Int) = Builtin.Range.rangeSize lo hi 1 := by rw [rangeSize_one]; split <;> omega
    show IsRangeIter _ _ (lo + ((0 : Nat) : Int) * 1) ((((hi - lo).toNat : Nat) : Int) - ((0 : Nat) : Int)) 1
    rw [e1, e2]
    exact Heap.get?_push_size _ rfl
  · have e : b = s1.heap.objs.size := by simpa using hb
    subst e
    exact I1.fpOk (Nat.le_refl _) (I1.hok.fresh (Nat.le_refl _))
theorem itW_rgv {ws items : List W} (h : itW .rgv ws = some items) : ∃ m n, ws = [.rng m n] ∧ bnd m = true ∧ bnd n = true ∧ items = (List.range (n - m).toNat).map fun (k : Nat) => .int (m + (k : Int)) := by
  unfold itW at h
  split at h <;> first | cases h | skip
  all_goals simp_all
  all_goals exact ⟨_, _, ⟨rfl, rfl⟩, h.1.1, h.1.2, h.2.symm⟩
theorem pi_rgv {tg l : Expr} {d : Den Z} (hl : PE X l (tD G U (rZ G) d)) : PI X tg l (tD G U (rIt G) (cIt .rgv (cCons d cNil))) := (pi_rgv0 (pe_fz hl)).imp fun σ H Q ⟨env, S, A, en, ok, o⟩ => by
  refine ⟨env, S, A, en, ok, ?_⟩
  have o1 : Out G U σ S H A (rIt G) ((cFz d env).bind fun w env => match itW .rgv [w] with | some ws => .ok ws env | none => .bad) Q := by
    have e : ((cFz d env).bind fun w env => match itW .rgv [w] with | some ws => R.ok ws env | none => .bad) = cIt .rgv (cCons d cNil) env := by
      unfold cIt cFz cCons cNil
      cases d env <;> rfl
    rw [e]; exact o
  refine (Out.bind (rel := rW G) (fun h => h.2) o1).mono fun x H1 ⟨w, env1, S1, A1, _, en1, ok1, ⟨r1, _⟩, f1, o2⟩ => ?_
  cases e : itW .rgv [w] with
  | none => rw [e] at o2; exact o2.elim
  | some ws =>
    rw [e] at o2
    obtain ⟨m, n, q, hb, hb2, rfl⟩ := itW_rgv e
    obtain rfl : w = .rng m n := by simpa using q
    unfold Rp at r1
    obtain ⟨a, rfl, h1⟩ := r1
    obtain ⟨b1, b2⟩ := bnd_iff hb
    obtain ⟨b3, b4⟩ := bnd_iff hb2
    exact ⟨a, m, n, rfl, h1, b1, b2, b3, b4, o2 _ H1 S1 A1 [] en1 ⟨it_rng m (n - m).toNat, rfl⟩ ok1 (Fr.refl ok1)⟩
end
end Cb

end
section
set_option maxRecDepth 100000
set_option maxHeartbeats 4000000
/-! comprehensions over a list that its name keeps -/
namespace Cb
open PySem PySem.Spec PyProof.Rows L2
/-- [.. for tg in x ..], x in slot i a list that stays its own -/
def cLcK (vs : List Nat) (tg : Tg) (i : Nat) (t : Den Bool) (d : Den Z) : Den Z := fun env => match gets env i with
  | some (.L ws) => (noX (lcLoop (lcTurn vs tg t d) ws (wipeE (env.set i none) vs) [])).bind fun ys env2 => .ok (.L ys) ((restE (env.set i none) env2 vs).set i (some (.L ws)))
  | _ => .bad
def cFr (d : Den Z) : Den Z := fun env => (d env).bind fun z env => .ok (.w (frz z)) env
section
variable [Tb] {G : Gc} {U : L2.WX} {X : Cx}
/-- as ItOk, where nothing outside A is changed -/
def ItOkF (G : Gc) (S0 : AS) (H0 : Hp) (A0 : List Addr) (J : It) (ws : List W) : Prop := ∀ i S H A, Fr S0 H0 A0 S H A →
  (∀ w, ws[i]? = some w → J.go i H ∧ ∀ x H2, J.yld i H x H2 → (∀ a o, H a = some o → H2 a = some o) ∧ Rp G S H2 w x) ∧ (ws[i]? = none → J.stop i H)
theorem lk_turns {t : Tg} {vs : List Nat} {dt : Den Bool} {d : Den Z} {items : List W} {σ : L2.St} {S1 : AS} {H1 : Hp} {A1 : List Addr} {J : It} {D : Addr} {ys : List W} {env2 : Env} (hv : ∀ i ∈ slotsOf t, i ∈ vs) (ok1 : Ok S1 H1 A1) (itk : ItOkF G S1 H1 A1 J items) :
    ∀ i m H, LcW G vs t dt d items σ S1 H1 A1 D ys env2 i m H →
      (J.stop i H ∧ LcE G vs σ S1 H1 A1 D ys env2 H) ∨ (J.go i H ∧ ∃ Nx : Hp → Prop, (∀ H', Nx H' → ∃ m', m' < m ∧ LcW G vs t dt d items σ S1 H1 A1 D ys env2 (i + 1) m' H') ∧ ∀ x H', J.yld i H x H' → gTg G.K t x (wipe σ vs) H' fun σ2 H2 => wipe σ2 vs = wipe σ vs ∧ (tD G UF rB dt) σ2 H2 fun b H3 =>
        if b = true then (tD G UF (rW G) (cFz d)) σ2 H3 fun y H4 => ∃ acc, H4 D = some (.lst acc) ∧ acc.length < sizeLine ∧ Nx (upd H4 D (.lst (acc ++ [y]))) else Nx H3) := by
  rintro i m H ⟨rfl, hil, env, S, A, acc, vacc, en, ok, f, hDl, racc, eL⟩
  obtain ⟨j1, j2⟩ := itk i S H _ f
  by_cases hlt : i < items.length
  · have hw : items[i]? = some items[i] := by simp [hlt]
    obtain ⟨g1, g2⟩ := j1 _ hw
    refine .inr ⟨g1, fun H' => ∃ env S A acc vacc, EnvR G S H' env (wipe σ vs) A ∧ Ok S H' (A ++ [D]) ∧ Fr S1 H1 A1 S H' (A ++ [D]) ∧ H' D = some (.lst vacc) ∧ Rps G S H' acc vacc ∧ lcLoop (lcTurn vs t dt d) (items.drop (i + 1)) env acc = .ok ys env2,
      fun H' q => ⟨items.length - (i + 1), by omega, rfl, hlt, q⟩, fun x H2 y => ?_⟩
    obtain ⟨k, rx⟩ := g2 x H2 y
    rw [List.drop_eq_getElem_cons hlt] at eL
    unfold lcLoop lcTurn at eL
    cases e : setTg t items[i] env with
    | none => rw [e] at eL; cases eL
    | some e2 =>
      rw [e] at eL
      dsimp only at eL
      refine tg_out (ext_en k en) (ext_ok k ok.left) rx e fun xs A2 en2 ok2 s2 => ?_
      have hwp : wipe (foldσ (slotsOf t) xs (wipe σ vs)) vs = wipe σ vs := (wipe_fold hv).trans (wipe_wipe fun i h => h)
      refine ⟨hwp, ?_⟩
      generalize hσ2 : foldσ (slotsOf t) xs (wipe σ vs) = σ2 at en2 hwp ⊢
      have okD2 : Ok S H2 (A2 ++ [D]) := by
        have q := ext_ok k ok
        refine ⟨List.nodup_append.mpr ⟨ok2.nd, by simp, fun a ha b hb e => ?_⟩, fun a ha => ?_, q.dom, q.tab⟩
        · exact (List.nodup_append.mp ok.nd).2.2 a (s2 a ha) b hb e
        · rcases List.mem_append.mp ha with h | h
          · exact q.own a (List.mem_append_left _ (s2 a h))
          · exact q.own a (List.mem_append_right _ h)
      have f2 : Fr S1 H1 A1 S H2 (A2 ++ [D]) := (f.trans (ext_fr k)).less fun a ha => by
        rcases List.mem_append.mp ha with h | h
        · exact List.mem_append_left _ (s2 a h)
        · exact List.mem_append_right _ h
      have hD2 : H2 D = some (.lst vacc) := k D _ hDl
      have ra2 : Rps G S H2 acc vacc := racc.mono (ext_kp k) fun _ h => h
      refine ⟨e2, S, A2, en2, ok2, ?_⟩
      cases e3 : dt e2 with
      | bad => rw [e3] at eL; cases eL
      | ex x2 e4 => rw [e3] at eL; cases eL
      | ok b e4 =>
        rw [e3] at eL
        dsimp only [R.bind] at eL
        intro b' H3 S3 A3 B3 en3 r3 ok3 f3
        obtain ⟨rfl, rfl⟩ := r3
        have ok3' : Ok S3 H3 A3 := ok3
        have okD3 : Ok S3 H3 (A3 ++ [D]) := f3.off okD2 ok3
        have hD3 : H3 D = some (.lst vacc) := f3.offK okD2 D (by simp) _ hD2
        have ra3 : Rps G S3 H3 acc vacc := ra2.mono (f3.kp ok2) f3.up
        have f13 : Fr S1 H1 A1 S3 H3 (A3 ++ [D]) := by
          refine (f2.trans (f3.wide (B := A2 ++ [D]) fun a h => List.mem_append_left _ h)) |> fun q => ⟨q.keep, q.up, q.back, fun a ha => ?_, q.dom⟩
          rcases List.mem_append.mp ha with h | h
          · exact q.own a h
          · exact f2.own a (List.mem_append_right _ h)
        cases b with
        | false =>
          rw [if_neg Bool.false_ne_true] at eL ⊢
          obtain ⟨R4, k4, l4⟩ := en3.wiped vs
          rw [hwp] at k4
          exact ⟨wipeE e4 vs, S3, R4, acc, vacc, k4, okD3.sub (List.Sublist.append_right l4 _), f13.less fun a ha => by
            rcases List.mem_append.mp ha with h | h
            · exact List.mem_append_left _ (l4.subset h)
            · exact List.mem_append_right _ h, hD3, ra3, eL⟩
        | true =>
          rw [if_pos rfl] at eL ⊢
          refine ⟨e4, S3, A3, en3, ok3', ?_⟩
          unfold cFz
          cases e5 : d e4 with
          | bad => rw [e5] at eL; cases eL
          | ex x2 e6 => rw [e5] at eL; cases eL
          | ok z e6 =>
            rw [e5] at eL
            dsimp only [R.bind] at eL ⊢
            intro yv H4 S4 A4 B4 en4 r4 ok4 f4
            obtain ⟨r4, rfl⟩ := r4
            by_cases hz : acc.length < 16777216
            · rw [if_pos hz] at eL
              have ok4' : Ok S4 H4 A4 := ok4
              have okD4 : Ok S4 H4 (A4 ++ [D]) := f4.off okD3 ok4
              have hD4 : H4 D = some (.lst vacc) := f4.offK okD3 D (by simp) _ hD3
              have ra4 : Rps G S4 H4 acc vacc := ra3.mono (f4.kp ok3') f4.up
              refine ⟨vacc, hD4, by rw [ra4.length, sizeLine_eq]; exact hz, ?_⟩
              obtain ⟨R5, k5, l5⟩ := en4.wiped vs
              rw [hwp] at k5
              have okD5 : Ok S4 H4 (R5 ++ [D]) := okD4.sub (List.Sublist.append_right l5 _)
              have hp : D ∈ R5 ++ [D] := by simp
              have fm : Fr S4 H4 (R5 ++ [D]) S4 (upd H4 D (.lst (vacc ++ [yv]))) (R5 ++ [D]) := Fr.mutate (u := .lst (vacc ++ [yv])) hp okD5
              have f14 : Fr S1 H1 A1 S4 H4 (A4 ++ [D]) := by
                refine (f13.trans (f4.wide (B := A3 ++ [D]) fun a h => List.mem_append_left _ h)) |> fun q => ⟨q.keep, q.up, q.back, fun a ha => ?_, q.dom⟩
                rcases List.mem_append.mp ha with h | h
                · exact q.own a h
                · exact f13.own a (List.mem_append_right _ h)
              refine ⟨wipeE e6 vs, S4, R5, acc ++ [frz z], vacc ++ [yv], k5.mono (fm.kp okD5) fm.up (fun a ha o ea => ?_), Ok.mutate hp okD5 trivial, (f14.less fun a ha => ?_).trans fm, upd_same, ((ra4.append (.one r4)).mono (fm.kp okD5) fm.up), eL⟩
              · have ne : a ≠ D := fun z => okD5.dis ha (by simp [z])
                rw [upd_ne ne]; exact ea
              · rcases List.mem_append.mp ha with h | h
                · exact List.mem_append_left _ (l5.subset h)
                · exact List.mem_append_right _ h
            · rw [if_neg hz] at eL; cases eL
  · have e : i = items.length := by omega
    subst e
    rw [List.drop_length] at eL
    cases eL
    exact .inl ⟨j2 (by simp), S, A, vacc, en, ok, f, hDl, racc⟩
theorem itF_list {S : AS} {H : Hp} {A : List Addr} {a : Addr} {ws : List W} {vs : List V} (ha : H a = some (.lst vs)) (hn : a ∉ A) (ok : Ok S H A) (r : Rps G S H ws vs) : ItOkF G S H A (Itl G.K a) ws := fun i S' H' A' f => by
  have h2 : H' a = some (.lst vs) := f.keep a _ ha hn fun _ z => nomatch z
  have hq : SqL G.K H' a vs := SqL.of h2
  have r' := r.mono (f.kp ok) f.up
  refine ⟨fun w e => ?_, fun e => ⟨vs, hq, rps_none r' e⟩⟩
  obtain ⟨x, hx, rx⟩ := r'.get e
  refine ⟨⟨vs, x, hq, hx⟩, fun x' H2 ⟨e2, y⟩ => ?_⟩
  subst e2
  exact ⟨fun _ _ e => e, rps_at r' e (y vs hq)⟩
theorem sx_lcK {elt tg : Expr} {x : Str} {px : Pos} {i : Nat} {ifs : List Expr} {scope : Scope} {own : List (Str × Nat)} {pos : Pos} {t : Tg} {dt : Den Bool} {d : Den Z} (hG : G.K = X.K) (hc : X.calm = true) (hN : X.N.Nodup) (hv : ∀ i ∈ slotsOf t, i ∈ own.map (·.2)) (hx : PE X (.Name x px) (tVar i)) (ok : BlkOk X.N X.env.scope scope own)
    (hg : ∀ (s : Shared) (H : Hp) (C : Addr) (cl : List (Str × Addr)) (fp : List Addr), PG (X.blk s H scope (compEnvC scope cl C X.env) fp) tg (gTg G.K t)) (ht : ∀ (s : Shared) (H : Hp) (C : Addr) (cl : List (Str × Addr)) (fp : List Addr), PTs (X.blk s H scope (compEnvC scope cl C X.env) fp) ifs (tD G UF rB dt))
    (he : ∀ (s : Shared) (H : Hp) (C : Addr) (cl : List (Str × Addr)) (fp : List Addr), PE (X.blk s H scope (compEnvC scope cl C X.env) fp) elt (tD G UF (rZ G) d)) (hs : ∀ x', foldedSetIterable (.Name x px) X.env x' = pure x') :
    PE X (.ListComp elt [⟨tg, .Name x px, ifs, 0⟩] scope pos) (tD G U (rZ G) (cLcK (own.map (·.2)) t i dt d)) :=
  (pe_lc hc hN (pi_seq hx) ok hg ht (fun s H C cl fp => pe_fz (he s H C cl fp)) hs).imp fun σ H Q ⟨env, S, A, en, okk, o⟩ => by
    unfold cLcK at o
    cases e : gets env i with
    | none => rw [e] at o; exact o.elim
    | some z =>
      rw [e] at o
      cases z with
      | L ws =>
        dsimp only at o
        obtain ⟨v, B, R, hσ, rz, pm, er⟩ := en.gets e
        obtain ⟨a, vs, rfl, ha, hr, rfl⟩ := rz
        have okB : Ok S H (R ++ [a]) := okk.perm (List.perm_append_comm.trans pm.symm)
        have okR : Ok S H R := okB.left
        have hna : a ∉ R := fun h => okB.dis h (by simp)
        have itk : ItOkF G S H R (Itl X.K a) ws := hG ▸ itF_list ha hna okR hr
        refine ⟨.ref a, hσ, a, rfl, .inl ⟨⟨vs, SqL.of ha⟩, ?_⟩⟩
        intro D hD
        cases e0 : noX (lcLoop (lcTurn (own.map (·.2)) t dt d) ws (wipeE (env.set i none) (own.map (·.2))) []) with
        | bad => rw [e0] at o; exact o.elim
        | ex x e => exact absurd e0 (by cases lcLoop (lcTurn (own.map (·.2)) t dt d) ws (wipeE (env.set i none) (own.map (·.2))) [] <;> simp [noX])
        | ok ys env2 =>
          rw [e0] at o
          have e0' := noX_ok e0
          have kN := keep_new (u := .lst []) hD
          obtain ⟨R1, w1, w2⟩ := er.wiped (own.map (·.2))
          have okN : Ok S (upd H D (.lst [])) (R1 ++ [D]) := Ok.newO (okR.sub w2) hD trivial
          have frN : Fr S H R S (upd H D (.lst [])) (R1 ++ [D]) := ⟨fun a u e _ _ => kN a u e, fun _ h => h, fun _ h => .inl h, fun a h => (List.mem_append.mp h).imp (fun h => w2.subset h) fun z => by rw [List.mem_singleton.mp z]; exact hD, fun a u e => ⟨u, kN a u e⟩⟩
          refine ⟨LcW G (own.map (·.2)) t dt d ws σ S H R D ys env2, ⟨ws.length, by simp, Nat.zero_le _, wipeE (env.set i none) (own.map (·.2)), S, R1, [], [], ext_en kN w1, okN, frN, upd_same, .nil, by simpa using e0'⟩, fun j m H' q => ?_⟩
          rcases lk_turns hv okR itk j m H' q with ⟨st, S2, A2, vacc, k1, k2, k3, k4, k5⟩ | q
          · refine .inl ⟨st, ?_⟩
            obtain ⟨R', r1, r2, r3⟩ := er.rest (k3.kp okR) k3.up k1.unwipe k2.left.nd (own.map (·.2))
            obtain ⟨R'', r4, r5⟩ := r1.drop i
            have hlen : i < (restE (env.set i none) env2 (own.map (·.2))).length := by
              have h1 : σ.length = env.length := en.length
              have h2 : σ.length = _ := r1.length
              have h3 := gets_lt e
              omega
            have okO := k3.off okB k2
            have hHa : H' a = some (.lst vs) := k3.keep a _ ha hna fun _ z => nomatch z
            obtain ⟨A3, p1, p2⟩ := r4.put' (z := .L ws) (B := [a]) hlen hσ ⟨a, vs, rfl, hHa, hr.mono (k3.kp okR) k3.up, rfl⟩
            have sub3 : ∀ b ∈ R'', b ∈ A2 := fun b hb => r3 b (r5.subset hb)
            have perm3 : ([D] ++ A3).Perm ([D] ++ ([a] ++ R'')) := List.Perm.append_left [D] p2
            refine o (.ref D) H' S2 A3 [D] p1 ⟨D, vacc, rfl, k4, k5, rfl⟩ ?_ ?_
            · refine Ok.perm ⟨?_, fun b hb => ?_, okO.dom, okO.tab⟩ perm3
              · have nd := okO.nd
                refine List.nodup_cons.mpr ⟨fun h => ?_, List.nodup_cons.mpr ⟨fun h => ?_, r2.sublist r5⟩⟩
                · rcases List.mem_cons.mp h with h | h
                  · exact okO.dis (A := A2 ++ [D]) (B := [a]) (a := D) (by simp) (by simp [h])
                  · exact k2.dis (sub3 D h) (by simp)
                · exact okO.dis (A := A2 ++ [D]) (B := [a]) (List.mem_append_left _ (sub3 a h)) (by simp)
              · refine okO.own b ?_
                rcases List.mem_cons.mp hb with rfl | hb
                · simp
                · rcases List.mem_cons.mp hb with rfl | hb
                  · simp
                  · exact List.mem_append_left _ (List.mem_append_left _ (sub3 b hb))
            · have hA : ∀ b ∈ R, b ∈ A := fun b hb => pm.mem_iff.mpr (List.mem_append_right _ hb)
              refine ⟨fun b u e hb nt => k3.keep b u e (fun h => hb (hA b h)) nt, k3.up, fun b h => (k3.back b h).imp id (Or.imp (hA b) id), fun b hb => ?_, k3.dom⟩
              rcases List.mem_cons.mp (perm3.mem_iff.mp hb) with rfl | hb
              · exact .inr hD
              · rcases List.mem_cons.mp hb with rfl | hb
                · exact .inl (pm.mem_iff.mpr (by simp))
                · exact (k3.own b (List.mem_append_left _ (sub3 b hb))).imp (hA b) id
          · exact .inr q
      | _ => exact o.elim
/-- what is made is handed on at once -/
theorem sx_fr {e : Expr} {d : Den Z} (h : PE X e (tD G U (rZ G) d)) : PE X e (tD G U (rZ G) (cFr d)) := (pe_fz h).imp fun σ H Q ⟨env, S, A, en, ok, o⟩ => by
  refine ⟨env, S, A, en, ok, ?_⟩
  unfold cFr at o
  unfold cFz
  generalize d env = r at o ⊢
  cases r <;> exact o
end
end Cb

end
section
set_option maxRecDepth 100000
set_option maxHeartbeats 0
namespace Hd
open PySem PySem.Spec PyProof.Rows L2
def top (i : Nat) : Stmt := PySem.Challenge.pw_calmblanks_k49_whole_all_webs.main.body.getD i (.Pass ⟨0, 0, 0, 0⟩)
def d_is_integer : He.DefD := ⟨("is_integer", none), "is_integer", "is_integer", defArgs (top 1), defBody (top 1), defScope (top 1), [], []⟩
def d_is_within : He.DefD := ⟨("is_within", none), "is_within", "is_within", defArgs (top 2), defBody (top 2), defScope (top 2), [], []⟩
def d_is_pair : He.DefD := ⟨("is_pair", none), "is_pair", "is_pair", defArgs (top 3), defBody (top 3), defScope (top 3), [], []⟩
def d_all_lots : He.DefD := ⟨("all_lots", none), "all_lots", "all_lots", defArgs (top 4), defBody (top 4), defScope (top 4), [], []⟩
def d_is_arrow : He.DefD := ⟨("is_arrow", none), "is_arrow", "is_arrow", defArgs (top 11), defBody (top 11), defScope (top 11), [], []⟩
def d_order_by : He.DefD := ⟨("order_by", none), "order_by", "order_by", defArgs (top 12), defBody (top 12), defScope (top 12), [], []⟩
def d_Web_init : He.DefD := ⟨("Web", some "__init__"), "__init__", "Web.__init__", defArgs (inClass (top 13) 0), defBody (inClass (top 13) 0), defScope (inClass (top 13) 0), [], []⟩
def d_Web_eq : He.DefD := ⟨("Web", some "__eq__"), "__eq__", "Web.__eq__", defArgs (inClass (top 13) 1), defBody (inClass (top 13) 1), defScope (inClass (top 13) 1), [], []⟩
def d_raw_web : He.DefD := ⟨("raw_web", none), "raw_web", "raw_web", defArgs (top 14), defBody (top 14), defScope (top 14), [], []⟩
def d_webs_of : He.DefD := ⟨("webs_of", none), "webs_of", "webs_of", defArgs (top 17), defBody (top 17), defScope (top 17), [], []⟩
def d_all_webs : He.DefD := ⟨("all_webs", none), "all_webs", "all_webs", defArgs (top 18), defBody (top 18), defScope (top 18), [], []⟩
def d__law_hand : He.DefD := ⟨("_law_hand", none), "_law_hand", "_law_hand", defArgs (top 20), defBody (top 20), defScope (top 20), [], []⟩
def d__law_draw : He.DefD := ⟨("_law_draw", none), "_law_draw", "_law_draw", defArgs (top 21), defBody (top 21), defScope (top 21), [], []⟩
def d__law_some : He.DefD := ⟨("_law_some", none), "_law_some", "_law_some", defArgs (top 22), defBody (top 22), defScope (top 22), [], []⟩
def d__law_shuffled : He.DefD := ⟨("_law_shuffled", none), "_law_shuffled", "_law_shuffled", defArgs (top 23), defBody (top 23), defScope (top 23), [], []⟩
def d__law_is : He.DefD := ⟨("_law_is", none), "_law_is", "_law_is", defArgs (top 24), defBody (top 24), defScope (top 24), [], []⟩
def d__law_lots : He.DefD := ⟨("_law_lots", none), "_law_lots", "_law_lots", defArgs (top 25), defBody (top 25), defScope (top 25), [], []⟩
def d__law_arrows : He.DefD := ⟨("_law_arrows", none), "_law_arrows", "_law_arrows", defArgs (top 26), defBody (top 26), defScope (top 26), [], []⟩
def d__law_parents : He.DefD := ⟨("_law_parents", none), "_law_parents", "_law_parents", defArgs (top 27), defBody (top 27), defScope (top 27), [], []⟩
def d__law_has_ring : He.DefD := ⟨("_law_has_ring", none), "_law_has_ring", "_law_has_ring", defArgs (top 28), defBody (top 28), defScope (top 28), [], []⟩
def d__law_every : He.DefD := ⟨("_law_every", none), "_law_every", "_law_every", defArgs (top 29), defBody (top 29), defScope (top 29), [], []⟩
def d_law : He.DefD := ⟨("law", none), "law", "law", defArgs (top 30), defBody (top 30), defScope (top 30), [], []⟩
def fn : List He.DefD := [d_is_integer, d_is_within, d_is_pair, d_all_lots, d_is_arrow, d_order_by, d_Web_init, d_Web_eq, d_raw_web, d_webs_of, d_all_webs, d__law_hand, d__law_draw, d__law_some, d__law_shuffled, d__law_is, d__law_lots, d__law_arrows, d__law_parents, d__law_has_ring, d__law_every, d_law]
def fa : List He.Fa := [.glo "is_integer", .glo "is_within", .glo "is_pair", .glo "all_lots", .glo "is_arrow", .glo "order_by", .glo "raw_web", .glo "webs_of", .glo "all_webs", .glo "_law_hand", .glo "_law_draw", .glo "_law_some", .glo "_law_shuffled", .glo "_law_is", .glo "_law_lots", .glo "_law_arrows", .glo "_law_parents", .glo "_law_has_ring", .glo "_law_every", .glo "law", .free "len", .free "isinstance", .free "range", .free "sorted", .free "list", .free "tuple", .free "dict", .free "all", .free "any", .free "abs", .free "int", .free "enumerate", .free "bool", .free "ValueError", .int "MOST_COLUMNS_webs" 4, .int "MOST_COLUMNS_couldbe" 2, .glo "Web", .cls "Web", .mkr "Web", .meth "Web" "__eq__", .noat "Web" "arrows", .noat "Web" "columns"]
abbrev R : PySem.W.OpenRow := PySem.W.OpenLaw.row PySem.Challenge.rw_calmblanks_k49_whole_all_webs
def tf : List He.Defn := [("all_lots", none)]
def ex (K : PySem.W.Frag) : Bool := Cb.ownB K (He.ga K "Web")
abbrev hk : PySem.W.Hook := He.hookX 6 fa fn [] tf ex
def ob (s : PySem.W.SharedT) : He.AlX := He.obsX 6 fa fn [] tf ex (HandSHeadRun.getT s)
theorem ob_eq (s : PySem.W.SharedT) : ob s = hk.obs s.abs := He.obsX_eq (HandSHeadRun.getT_eq s)
def loose : List PySem.Str := ["__name__", "is_integer", "is_within", "is_pair", "all_lots", "BlankError", "BadWeb", "NoNumber", "MOST_COLUMNS_webs", "is_arrow", "order_by", "Web", "raw_web", "MOST_COLUMNS_couldbe", "webs_of", "all_webs", "_law_hand", "_law_draw", "_law_some", "_law_shuffled", "_law_is", "_law_lots", "_law_arrows", "_law_parents", "_law_has_ring", "_law_every"]
theorem run (w : World) : HandSHeadRun.RunEq R (PySem.W.view R.prog [30]) hk ob 4000 loose w := by
  intro os
  kernel_rfl
end Hd


end
section
set_option maxRecDepth 100000
set_option maxHeartbeats 0
namespace Wk
open PySem PySem.Spec PyProof.Rows L2 Cb

def N_is_integer : List PySem.Str := ["thing"]
def b_is_integer : DenS := kSeq (kRet (cB (cAnd (cT (cPr (.isinst [.int]) (cConsO (cOs 0) cNil))) (cAnd (cT (cB (cNot (cT (cPr (.isinst [.bool]) (cConsO (cOs 0) cNil)))))) cTrue)))) (kNx)
def f_is_integer : Df := ⟨1, 1, [0], b_is_integer⟩
def m_is_integer : Mean := evD f_is_integer
def N_is_within : List PySem.Str := ["thing", "least", "most"]
def b_is_within : DenS := kSeq (kRet (cB (cAnd (cT (cCall m_is_integer (cConsO (cOs 0) (cNil)))) (cAnd (cT (cCh (cVar 1) (cVar 0) (cVar 2))) cTrue)))) (kNx)
def f_is_within : Df := ⟨3, 3, [0, 1, 2], b_is_within⟩
def m_is_within : Mean := evD f_is_within
def N_is_pair : List PySem.Str := ["thing"]
def b_is_pair : DenS := kSeq (kRet (cB (cAnd (cT (cPr (.isinst [.tuple]) (cConsO (cOs 0) cNil))) (cAnd (cT (cPr .eq (cConsO (cOd (cPr .len (cConsO (cOs 0) cNil))) (cConsO (cOd (cC (.int 2))) cNil)))) cTrue)))) (kNx)
def f_is_pair : Df := ⟨1, 1, [0], b_is_pair⟩
def m_is_pair : Mean := evD f_is_pair
def N_all_lots : List PySem.Str := ["many", "found", "number", "lot"]
def x_all_lots_1 : Den Z := cLc (([("lot", 3)] : List (PySem.Str × Nat)).map (·.2)) (.nm 3) .val (cCons (cVar 1) cNil) (cTrue) (cPr .add (cConsO (cOs 3) (cConsO (cOd (cTup (cCons (cVar 2) (cNil)))) cNil)))
def z_all_lots_1 : DenS := kSeq (kSet 1 (cPr .add (cConsO (cOs 1) (cConsO (cOd (x_all_lots_1)) cNil)))) (kNx)
def y_all_lots_1 : DenS := kFor (.nm 2) .rng1 (cCons (cVar 0) (cNil)) z_all_lots_1
def b_all_lots : DenS := kSeq (kSet 1 (cLst (cCons (cTup (cNil)) (cNil)))) (kSeq (y_all_lots_1) (kSeq (kRet (cPr .sortLT (cConsO (cOs 1) cNil))) (kNx)))
def f_all_lots : Df := ⟨1, 4, [0], b_all_lots⟩
def m_all_lots : Mean := evD f_all_lots
def N_is_arrow : List PySem.Str := ["columns", "thing", "end"]
def x_is_arrow_1 : Den Z := cLc (([("end", 2)] : List (PySem.Str × Nat)).map (·.2)) (.nm 2) .val (cCons (cVar 1) cNil) (cTrue) (cCall m_is_within (cConsO (cOs 2) (cConsO (cOd (cC (.int 0))) (cConsO (cOd (cPr .sub (cConsO (cOd (cPr .mul (cConsO (cOd (cC (.int 2))) (cConsO (cOs 0) cNil)))) (cConsO (cOd (cC (.int 1))) cNil)))) (cNil)))))
def b_is_arrow : DenS := kSeq (kIte (cOr (cNot (cT (cCall m_is_pair (cConsO (cOs 1) (cNil))))) (cOr (cNot (cT (cPr .all (cConsO (cOd (x_is_arrow_1)) cNil)))) cFalse)) (kSeq (kRet (cC (.bl false))) (kNx)) (kNx)) (kSeq (kRet (cB (cAnd (cT (cPr .ne (cConsO (cOd (cPr .ix (cConsO (cOs 1) (cConsO (cOd (cC (.int 0))) cNil)))) (cConsO (cOd (cPr .ix (cConsO (cOs 1) (cConsO (cOd (cC (.int 1))) cNil)))) cNil)))) (cAnd (cT (cB (cNot (cT (cB (cAnd (cT (cPr .ge (cConsO (cOd (cPr .ix (cConsO (cOs 1) (cConsO (cOd (cC (.int 0))) cNil)))) (cConsO (cOs 0) cNil)))) (cAnd (cT (cPr .lt (cConsO (cOd (cPr .ix (cConsO (cOs 1) (cConsO (cOd (cC (.int 1))) cNil)))) (cConsO (cOs 0) cNil)))) cTrue))))))) cTrue)))) (kNx))
def f_is_arrow : Df := ⟨2, 3, [0, 1], b_is_arrow⟩
def m_is_arrow : Mean := evD f_is_arrow
def N_order_by : List PySem.Str := ["columns", "arrows", "found", "is_longer", "good", "thing", "one", "other"]
def x_order_by_1 : Den Z := cLc (([("one", 6), ("other", 7)] : List (PySem.Str × Nat)).map (·.2)) (.tup [6, 7]) .val (cCons (cVar 1) cNil) (cT (cPr .eq (cConsO (cOs 7) (cConsO (cOs 5) cNil)))) (cPr .inn (cConsO (cOs 6) (cConsO (cOs 2) cNil)))
def x_order_by_2 : Den Z := cLc (([("thing", 5)] : List (PySem.Str × Nat)).map (·.2)) (.nm 5) .val (cCons (cVar 4) cNil) (cT (cPr .all (cConsO (cOd (x_order_by_1)) cNil))) (cVar 5)
def x_order_by_3 : Den Z := cLc (([("thing", 5)] : List (PySem.Str × Nat)).map (·.2)) (.nm 5) .rng1 (cCons (cPr .mul (cConsO (cOd (cC (.int 2))) (cConsO (cOs 0) cNil))) (cNil)) (cT (cPr .nin (cConsO (cOs 5) (cConsO (cOs 2) cNil)))) (cVar 5)
def z_order_by_1 : DenS := kSeq (kSet 4 (x_order_by_3)) (kSeq (kSet 4 (x_order_by_2)) (kSeq (kEx (cMut .extend 2 (cCons (cSl (cOs 4) (cNoP) (cP (cC (.int 1)))) cNil))) (kSeq (kSet 3 (cPr .gt (cConsO (cOd (cPr .len (cConsO (cOs 4) cNil))) (cConsO (cOd (cC (.int 0))) cNil)))) (kNx))))
def y_order_by_1 : DenS := kWhile (fun _ => 1000) (cT (cVar 3)) z_order_by_1
def b_order_by : DenS := kSeq (kSet 2 (cLst (cNil))) (kSeq (kSet 3 (cC (.bl true))) (kSeq (y_order_by_1) (kSeq (kRetv 2) (kNx))))
def f_order_by : Df := ⟨2, 8, [0, 1], b_order_by⟩
def m_order_by : Mean := evD f_order_by
def N_Web_init : List PySem.Str := ["self", "columns", "arrows", "at", "arrow"]
def z_Web_init_1 : DenS := kSeq (kIte (cOr (cNot (cT (cCall m_is_arrow (cConsO (cOs 1) (cConsO (cOs 4) (cNil)))))) (cOr (cAnd (cT (cPr .gt (cConsO (cOs 3) (cConsO (cOd (cC (.int 0))) cNil)))) (cAnd (cNot (cT (cPr .lt (cConsO (cOd (cPr .ix (cConsO (cOs 2) (cConsO (cOd (cPr .sub (cConsO (cOs 3) (cConsO (cOd (cC (.int 1))) cNil)))) cNil)))) (cConsO (cOs 4) cNil))))) cTrue)) cFalse)) (kSeq (kBad) (kNx)) (kNx)) (kNx)
def y_Web_init_1 : DenS := kFor (.tup [3, 4]) .enT (cCons (cVar 2) (cNil)) z_Web_init_1
def b_Web_init : DenS := kSeq (kIte (cNot (cT (cCall m_is_within (cConsO (cOs 1) (cConsO (cOd (cC (.int 1))) (cConsO (cOd (cC (.int 4))) (cNil))))))) (kSeq (kBad) (kNx)) (kNx)) (kSeq (kIte (cNot (cT (cPr (.isinst [.tuple]) (cConsO (cOs 2) cNil)))) (kSeq (kBad) (kNx)) (kNx)) (kSeq (y_Web_init_1) (kSeq (kIte (cT (cPr .lt (cConsO (cOd (cPr .len (cConsO (cOd (cCall m_order_by (cConsO (cOs 1) (cConsO (cOs 2) (cNil))))) cNil))) (cConsO (cOd (cPr .mul (cConsO (cOd (cC (.int 2))) (cConsO (cOs 1) cNil)))) cNil)))) (kSeq (kBad) (kNx)) (kNx)) (kSeq (kSetFld ["Web"] 0 "columns" (cVar 1)) (kSeq (kSetFld ["Web"] 0 "arrows" (cVar 2)) (kNx))))))
def f_Web_init : Df := ⟨3, 5, [0, 1, 2], b_Web_init⟩
def m_Web_init : Mean := evD f_Web_init
def N_Web_eq : List PySem.Str := ["self", "other"]
def b_Web_eq : DenS := kSeq (kRet (cB (cAnd (cT (cIsO "Web" (cOs 1))) (cAnd (cT (cPr .eq (cConsO (cOd (cTup (cCons (cPr (.fld ["Web"] "columns") (cConsO (cOs 0) cNil)) (cCons (cPr (.fld ["Web"] "arrows") (cConsO (cOs 0) cNil)) (cNil))))) (cConsO (cOd (cTup (cCons (cPr (.fld ["Web"] "columns") (cConsO (cOs 1) cNil)) (cCons (cPr (.fld ["Web"] "arrows") (cConsO (cOs 1) cNil)) (cNil))))) cNil)))) cTrue)))) (kNx)
def f_Web_eq : Df := ⟨2, 2, [0, 1], b_Web_eq⟩
def m_Web_eq : Mean := evD f_Web_eq
def N_raw_web : List PySem.Str := ["columns", "arrows"]
def b_raw_web : DenS := kSeq (kRet (cMk "Web" m_Web_init (cConsO (cOs 0) (cConsO (cOd (cPr .tuple (cConsO (cOd (cPr .sorted (cConsO (cOs 1) cNil))) cNil))) (cNil))))) (kNx)
def f_raw_web : Df := ⟨2, 2, [0, 1], b_raw_web⟩
def m_raw_web : Mean := evD f_raw_web
def N_webs_of : List PySem.Str := ["columns", "ends", "arrows", "found", "lot", "some", "one", "other", "at"]
def x_webs_of_1 : Den Z := cLc (([("at", 8)] : List (PySem.Str × Nat)).map (·.2)) (.nm 8) .val (cCons (cVar 4) cNil) (cTrue) (cPr .ix (cConsO (cOs 2) (cConsO (cOs 8) cNil)))
def z_webs_of_1 : DenS := kSeq (kSet 5 (x_webs_of_1)) (kSeq (kIte (cT (cPr .eq (cConsO (cOd (cPr .len (cConsO (cOd (cCall m_order_by (cConsO (cOs 0) (cConsO (cOd (cVar 5)) (cNil))))) cNil))) (cConsO (cOd (cPr .mul (cConsO (cOd (cC (.int 2))) (cConsO (cOs 0) cNil)))) cNil)))) (kSeq (kEx (cMut .append 3 (cCons (cCall m_raw_web (cConsO (cOs 0) (cConsO (cOd (cVar 5)) (cNil)))) cNil))) (kNx)) (kNx)) (kNx))
def y_webs_of_1 : DenS := kFor (.nm 4) .val (cCons (cCall m_all_lots (cConsO (cOd (cPr .len (cConsO (cOs 2) cNil))) (cNil))) cNil) z_webs_of_1
def x_webs_of_2 : Den Z := cLc2 ((([("one", 6), ("other", 7)] : List (PySem.Str × Nat))).map (·.2)) [7] (.nm 6) .rgv (cCons (cVar 1) cNil) (cTrue) (.nm 7) .rgv (cCons (cVar 1) cNil) (cT (cCall m_is_arrow (cConsO (cOs 0) (cConsO (cOd (cTup (cCons (cVar 6) (cCons (cVar 7) (cNil))))) (cNil))))) (cTup (cCons (cVar 6) (cCons (cVar 7) (cNil))))
def b_webs_of : DenS := kSeq (kSet 1 (cRv1 (cPr .mul (cConsO (cOd (cC (.int 2))) (cConsO (cOs 0) cNil))))) (kSeq (kSet 2 (x_webs_of_2)) (kSeq (kSet 3 (cLst (cNil))) (kSeq (y_webs_of_1) (kSeq (kRetv 3) (kNx)))))
def f_webs_of : Df := ⟨1, 9, [0], b_webs_of⟩
def m_webs_of : Mean := evD f_webs_of
def N_all_webs : List PySem.Str := ["columns"]
def b_all_webs : DenS := kSeq (kIte (cNot (cT (cCall m_is_within (cConsO (cOs 0) (cConsO (cOd (cC (.int 1))) (cConsO (cOd (cC (.int 2))) (cNil))))))) (kSeq (kBad) (kNx)) (kNx)) (kSeq (kRet (cCall m_webs_of (cConsO (cOs 0) (cNil)))) (kNx))
def f_all_webs : Df := ⟨1, 1, [0], b_all_webs⟩
def m_all_webs : Mean := evD f_all_webs
def N__law_hand : List PySem.Str := ["_law_script", "_law_cells", "_law_cell"]
def x__law_hand_1 : Den Z := cLc (([("_law_cell", 2)] : List (PySem.Str × Nat)).map (·.2)) (.nm 2) .val (cCons (cSl (cOs 0) (cNoP) (cP (cC (.int 63)))) cNil) (cTrue) (cPr .abs (cConsO (cOd (cPr .int (cConsO (cOs 2) cNil))) cNil))
def b__law_hand : DenS := kSeq (kSet 1 (x__law_hand_1)) (kSeq (kRet (cLst (cCons (cVar 1) (cCons (cC (.int 0)) (cCons (cC (.int 0)) (cCons (cPr .add (cConsO (cOd (cC (.int 1))) (cConsO (cOd (cPr .len (cConsO (cOs 1) cNil))) cNil))) (cCons (cC (.int 0)) (cNil)))))))) (kNx))
def f__law_hand : Df := ⟨1, 3, [0], b__law_hand⟩
def m__law_hand : Mean := evD f__law_hand
def N__law_draw : List PySem.Str := ["_law_hand_here", "_law_many", "_law_cell", "_law_digit", "_law_number"]
def b__law_draw : DenS := kSeq (kIte (cAnd (cT (cPr .eq (cConsO (cOd (cPr .ix (cConsO (cOs 0) (cConsO (cOd (cC (.int 2))) cNil)))) (cConsO (cOd (cC (.int 0))) cNil)))) (cAnd (cT (cPr .lt (cConsO (cOd (cPr .ix (cConsO (cOs 0) (cConsO (cOd (cC (.int 1))) cNil)))) (cConsO (cOd (cPr .len (cConsO (cOd (cPr .ix (cConsO (cOs 0) (cConsO (cOd (cC (.int 0))) cNil)))) cNil))) cNil)))) cTrue)) (kSeq (kSet 2 (cPr .ix (cConsO (cOd (cPr .ix (cConsO (cOs 0) (cConsO (cOd (cC (.int 0))) cNil)))) (cConsO (cOd (cPr .ix (cConsO (cOs 0) (cConsO (cOd (cC (.int 1))) cNil)))) cNil)))) (kSeq (kSetSub 0 (cC (.int 1)) (cPr .add (cConsO (cOd (cPr .ix (cConsO (cOs 0) (cConsO (cOd (cC (.int 1))) cNil)))) (cConsO (cOd (cC (.int 1))) cNil)))) (kSeq (kSetSub 0 (cC (.int 3)) (cPr .mod (cConsO (cOd (cPr .int (cConsO (cOd (cPr .add (cConsO (cOd (cPr .add (cConsO (cOd (cPr .mul (cConsO (cOd (cPr .ix (cConsO (cOs 0) (cConsO (cOd (cC (.int 3))) cNil)))) (cConsO (cOd (cC (.int 69621))) cNil)))) (cConsO (cOs 2) cNil)))) (cConsO (cOd (cC (.int 11))) cNil)))) cNil))) (cConsO (cOd (cC (.int 2147483629))) cNil)))) (kSeq (kIte (cT (cPr .ge (cConsO (cOs 2) (cConsO (cOd (cPr .pow (cConsO (cOd (cC (.int 10))) (cConsO (cOd (cC (.int 18))) cNil)))) cNil)))) (kSeq (kSetSub 0 (cC (.int 2)) (cVar 2)) (kNx)) (kNx)) (kNx))))) (kNx)) (kSeq (kIte (cT (cPr .gt (cConsO (cOd (cPr .ix (cConsO (cOs 0) (cConsO (cOd (cC (.int 2))) cNil)))) (cConsO (cOd (cC (.int 0))) cNil)))) (kSeq (kSet 3 (cPr .mod (cConsO (cOd (cPr .int (cConsO (cOd (cPr .ix (cConsO (cOs 0) (cConsO (cOd (cC (.int 2))) cNil)))) cNil))) (cConsO (cOs 1) cNil)))) (kSeq (kSetSub 0 (cC (.int 2)) (cPr .fdiv (cConsO (cOd (cPr .ix (cConsO (cOs 0) (cConsO (cOd (cC (.int 2))) cNil)))) (cConsO (cOs 1) cNil)))) (kSeq (kRetv 3) (kNx)))) (kNx)) (kSeq (kSetSub 0 (cC (.int 4)) (cPr .add (cConsO (cOd (cPr .ix (cConsO (cOs 0) (cConsO (cOd (cC (.int 4))) cNil)))) (cConsO (cOd (cC (.int 1))) cNil)))) (kSeq (kSet 4 (cPr .mod (cConsO (cOd (cPr .int (cConsO (cOd (cPr .mul (cConsO (cOd (cPr .int (cConsO (cOd (cPr .add (cConsO (cOd (cPr .ix (cConsO (cOs 0) (cConsO (cOd (cC (.int 3))) cNil)))) (cConsO (cOd (cPr .mul (cConsO (cOd (cC (.int 7919))) (cConsO (cOd (cPr .ix (cConsO (cOs 0) (cConsO (cOd (cC (.int 4))) cNil)))) cNil)))) cNil)))) cNil))) (cConsO (cOd (cC (.int 48271))) cNil)))) cNil))) (cConsO (cOd (cC (.int 2147483647))) cNil)))) (kSeq (kSet 4 (cPr .mod (cConsO (cOd (cPr .int (cConsO (cOd (cPr .mul (cConsO (cOs 4) (cConsO (cOd (cPr .add (cConsO (cOd (cPr .fdiv (cConsO (cOs 4) (cConsO (cOd (cC (.int 1009))) cNil)))) (cConsO (cOd (cC (.int 69621))) cNil)))) cNil)))) cNil))) (cConsO (cOd (cC (.int 2147483647))) cNil)))) (kSeq (kSet 4 (cPr .mod (cConsO (cOd (cPr .int (cConsO (cOd (cPr .mul (cConsO (cOs 4) (cConsO (cOd (cPr .add (cConsO (cOd (cPr .fdiv (cConsO (cOs 4) (cConsO (cOd (cC (.int 2003))) cNil)))) (cConsO (cOd (cC (.int 40692))) cNil)))) cNil)))) cNil))) (cConsO (cOd (cC (.int 2147483399))) cNil)))) (kSeq (kRet (cPr .mod (cConsO (cOd (cPr .int (cConsO (cOd (cPr .fdiv (cConsO (cOs 4) (cConsO (cOd (cC (.int 16))) cNil)))) cNil))) (cConsO (cOs 1) cNil)))) (kNx)))))))
def f__law_draw : Df := ⟨2, 5, [0, 1], b__law_draw⟩
def m__law_draw : Mean := evD f__law_draw
def N__law_some : List PySem.Str := ["_law_hand_here", "_law_things"]
def b__law_some : DenS := kSeq (kRet (cPr .ix (cConsO (cOs 1) (cConsO (cOd (cCall m__law_draw (cConsO (cOs 0) (cConsO (cOd (cPr .len (cConsO (cOs 1) cNil))) (cNil))))) cNil)))) (kNx)
def f__law_some : Df := ⟨2, 2, [0, 1], b__law_some⟩
def m__law_some : Mean := evD f__law_some
def N__law_shuffled : List PySem.Str := ["_law_hand_here", "_law_things", "_law_pool", "_law_found"]
def z__law_shuffled_1 : DenS := kSeq (kEx (cMut .append 3 (cCons (cMut .pop1 2 (cCons (cCall m__law_draw (cConsO (cOs 0) (cConsO (cOd (cPr .len (cConsO (cOs 2) cNil))) (cNil)))) cNil)) cNil))) (kNx)
def y__law_shuffled_1 : DenS := kWhile (fun _ => 1000) (cT (cPr .gt (cConsO (cOd (cPr .len (cConsO (cOs 2) cNil))) (cConsO (cOd (cC (.int 0))) cNil)))) z__law_shuffled_1
def b__law_shuffled : DenS := kSeq (kSet 2 (cPr .list (cConsO (cOs 1) cNil))) (kSeq (kSet 3 (cLst (cNil))) (kSeq (y__law_shuffled_1) (kSeq (kRetv 3) (kNx))))
def f__law_shuffled : Df := ⟨2, 4, [0, 1], b__law_shuffled⟩
def m__law_shuffled : Mean := evD f__law_shuffled
def N__law_is_r0 : List PySem.Str := ["_law_told", "_law_due", "_law_k", "_law_key"]
def b__law_is_r0 : DenS := kBad
def f__law_is_r0 : Df := ⟨2, 4, [0, 1], b__law_is_r0⟩
def m__law_is_r0 : Mean := evD f__law_is_r0
def N__law_is_r1 : List PySem.Str := ["_law_told", "_law_due", "_law_k", "_law_key"]
def x__law_is_r1_1 : Den Z := cLc (([("_law_key", 3)] : List (PySem.Str × Nat)).map (·.2)) (.nm 3) .val (cCons (cVar 1) cNil) (cTrue) (cCall m__law_is_r0 (cConsO (cOd (cPr .ix (cConsO (cOs 0) (cConsO (cOs 3) cNil)))) (cConsO (cOd (cPr .ix (cConsO (cOs 1) (cConsO (cOs 3) cNil)))) (cNil))))
def x__law_is_r1_2 : Den Z := cLc (([("_law_k", 2)] : List (PySem.Str × Nat)).map (·.2)) (.nm 2) .rng1 (cCons (cPr .len (cConsO (cOs 1) cNil)) (cNil)) (cTrue) (cCall m__law_is_r0 (cConsO (cOd (cPr .ix (cConsO (cOs 0) (cConsO (cOs 2) cNil)))) (cConsO (cOd (cPr .ix (cConsO (cOs 1) (cConsO (cOs 2) cNil)))) (cNil))))
def b__law_is_r1 : DenS := kSeq (kIte (cT (cPr (.isinst [.tuple, .list]) (cConsO (cOs 1) cNil))) (kSeq (kIte (cOr (cT (cPr .ne (cConsO (cOd (cPr (.isinst [.tuple]) (cConsO (cOs 0) cNil))) (cConsO (cOd (cPr (.isinst [.tuple]) (cConsO (cOs 1) cNil))) cNil)))) (cOr (cT (cPr .ne (cConsO (cOd (cPr (.isinst [.list]) (cConsO (cOs 0) cNil))) (cConsO (cOd (cPr (.isinst [.list]) (cConsO (cOs 1) cNil))) cNil)))) cFalse)) (kSeq (kRet (cC (.bl false))) (kNx)) (kNx)) (kSeq (kRet (cB (cAnd (cT (cPr .eq (cConsO (cOd (cPr .len (cConsO (cOs 0) cNil))) (cConsO (cOd (cPr .len (cConsO (cOs 1) cNil))) cNil)))) (cAnd (cT (cPr .all (cConsO (cOd (x__law_is_r1_2)) cNil))) cTrue)))) (kNx))) (kNx)) (kSeq (kIte (cT (cPr (.isinst [.dict]) (cConsO (cOs 1) cNil))) (kSeq (kRet (cB (cAnd (cT (cPr (.isinst [.dict]) (cConsO (cOs 0) cNil))) (cAnd (cT (cPr .eq (cConsO (cOs 0) (cConsO (cOs 1) cNil)))) (cAnd (cT (cPr .all (cConsO (cOd (x__law_is_r1_1)) cNil))) cTrue))))) (kNx)) (kNx)) (kSeq (kRet (cB (cAnd (cT (cPr .eq (cConsO (cOd (cPr (.isinst [.bool]) (cConsO (cOs 0) cNil))) (cConsO (cOd (cPr (.isinst [.bool]) (cConsO (cOs 1) cNil))) cNil)))) (cAnd (cT (cPr .eq (cConsO (cOs 0) (cConsO (cOs 1) cNil)))) cTrue)))) (kNx)))
def f__law_is_r1 : Df := ⟨2, 4, [0, 1], b__law_is_r1⟩
def m__law_is_r1 : Mean := evD f__law_is_r1
def N__law_is_r2 : List PySem.Str := ["_law_told", "_law_due", "_law_k", "_law_key"]
def x__law_is_r2_1 : Den Z := cLc (([("_law_key", 3)] : List (PySem.Str × Nat)).map (·.2)) (.nm 3) .val (cCons (cVar 1) cNil) (cTrue) (cCall m__law_is_r1 (cConsO (cOd (cPr .ix (cConsO (cOs 0) (cConsO (cOs 3) cNil)))) (cConsO (cOd (cPr .ix (cConsO (cOs 1) (cConsO (cOs 3) cNil)))) (cNil))))
def x__law_is_r2_2 : Den Z := cLc (([("_law_k", 2)] : List (PySem.Str × Nat)).map (·.2)) (.nm 2) .rng1 (cCons (cPr .len (cConsO (cOs 1) cNil)) (cNil)) (cTrue) (cCall m__law_is_r1 (cConsO (cOd (cPr .ix (cConsO (cOs 0) (cConsO (cOs 2) cNil)))) (cConsO (cOd (cPr .ix (cConsO (cOs 1) (cConsO (cOs 2) cNil)))) (cNil))))
def b__law_is_r2 : DenS := kSeq (kIte (cT (cPr (.isinst [.tuple, .list]) (cConsO (cOs 1) cNil))) (kSeq (kIte (cOr (cT (cPr .ne (cConsO (cOd (cPr (.isinst [.tuple]) (cConsO (cOs 0) cNil))) (cConsO (cOd (cPr (.isinst [.tuple]) (cConsO (cOs 1) cNil))) cNil)))) (cOr (cT (cPr .ne (cConsO (cOd (cPr (.isinst [.list]) (cConsO (cOs 0) cNil))) (cConsO (cOd (cPr (.isinst [.list]) (cConsO (cOs 1) cNil))) cNil)))) cFalse)) (kSeq (kRet (cC (.bl false))) (kNx)) (kNx)) (kSeq (kRet (cB (cAnd (cT (cPr .eq (cConsO (cOd (cPr .len (cConsO (cOs 0) cNil))) (cConsO (cOd (cPr .len (cConsO (cOs 1) cNil))) cNil)))) (cAnd (cT (cPr .all (cConsO (cOd (x__law_is_r2_2)) cNil))) cTrue)))) (kNx))) (kNx)) (kSeq (kIte (cT (cPr (.isinst [.dict]) (cConsO (cOs 1) cNil))) (kSeq (kRet (cB (cAnd (cT (cPr (.isinst [.dict]) (cConsO (cOs 0) cNil))) (cAnd (cT (cPr .eq (cConsO (cOs 0) (cConsO (cOs 1) cNil)))) (cAnd (cT (cPr .all (cConsO (cOd (x__law_is_r2_1)) cNil))) cTrue))))) (kNx)) (kNx)) (kSeq (kRet (cB (cAnd (cT (cPr .eq (cConsO (cOd (cPr (.isinst [.bool]) (cConsO (cOs 0) cNil))) (cConsO (cOd (cPr (.isinst [.bool]) (cConsO (cOs 1) cNil))) cNil)))) (cAnd (cT (cPr .eq (cConsO (cOs 0) (cConsO (cOs 1) cNil)))) cTrue)))) (kNx)))
def f__law_is_r2 : Df := ⟨2, 4, [0, 1], b__law_is_r2⟩
def m__law_is_r2 : Mean := evD f__law_is_r2
def N__law_is_r3 : List PySem.Str := ["_law_told", "_law_due", "_law_k", "_law_key"]
def x__law_is_r3_1 : Den Z := cLc (([("_law_key", 3)] : List (PySem.Str × Nat)).map (·.2)) (.nm 3) .val (cCons (cVar 1) cNil) (cTrue) (cCall m__law_is_r2 (cConsO (cOd (cPr .ix (cConsO (cOs 0) (cConsO (cOs 3) cNil)))) (cConsO (cOd (cPr .ix (cConsO (cOs 1) (cConsO (cOs 3) cNil)))) (cNil))))
def x__law_is_r3_2 : Den Z := cLc (([("_law_k", 2)] : List (PySem.Str × Nat)).map (·.2)) (.nm 2) .rng1 (cCons (cPr .len (cConsO (cOs 1) cNil)) (cNil)) (cTrue) (cCall m__law_is_r2 (cConsO (cOd (cPr .ix (cConsO (cOs 0) (cConsO (cOs 2) cNil)))) (cConsO (cOd (cPr .ix (cConsO (cOs 1) (cConsO (cOs 2) cNil)))) (cNil))))
def b__law_is_r3 : DenS := kSeq (kIte (cT (cPr (.isinst [.tuple, .list]) (cConsO (cOs 1) cNil))) (kSeq (kIte (cOr (cT (cPr .ne (cConsO (cOd (cPr (.isinst [.tuple]) (cConsO (cOs 0) cNil))) (cConsO (cOd (cPr (.isinst [.tuple]) (cConsO (cOs 1) cNil))) cNil)))) (cOr (cT (cPr .ne (cConsO (cOd (cPr (.isinst [.list]) (cConsO (cOs 0) cNil))) (cConsO (cOd (cPr (.isinst [.list]) (cConsO (cOs 1) cNil))) cNil)))) cFalse)) (kSeq (kRet (cC (.bl false))) (kNx)) (kNx)) (kSeq (kRet (cB (cAnd (cT (cPr .eq (cConsO (cOd (cPr .len (cConsO (cOs 0) cNil))) (cConsO (cOd (cPr .len (cConsO (cOs 1) cNil))) cNil)))) (cAnd (cT (cPr .all (cConsO (cOd (x__law_is_r3_2)) cNil))) cTrue)))) (kNx))) (kNx)) (kSeq (kIte (cT (cPr (.isinst [.dict]) (cConsO (cOs 1) cNil))) (kSeq (kRet (cB (cAnd (cT (cPr (.isinst [.dict]) (cConsO (cOs 0) cNil))) (cAnd (cT (cPr .eq (cConsO (cOs 0) (cConsO (cOs 1) cNil)))) (cAnd (cT (cPr .all (cConsO (cOd (x__law_is_r3_1)) cNil))) cTrue))))) (kNx)) (kNx)) (kSeq (kRet (cB (cAnd (cT (cPr .eq (cConsO (cOd (cPr (.isinst [.bool]) (cConsO (cOs 0) cNil))) (cConsO (cOd (cPr (.isinst [.bool]) (cConsO (cOs 1) cNil))) cNil)))) (cAnd (cT (cPr .eq (cConsO (cOs 0) (cConsO (cOs 1) cNil)))) cTrue)))) (kNx)))
def f__law_is_r3 : Df := ⟨2, 4, [0, 1], b__law_is_r3⟩
def m__law_is_r3 : Mean := evD f__law_is_r3
def N__law_is_r4 : List PySem.Str := ["_law_told", "_law_due", "_law_k", "_law_key"]
def x__law_is_r4_1 : Den Z := cLc (([("_law_key", 3)] : List (PySem.Str × Nat)).map (·.2)) (.nm 3) .val (cCons (cVar 1) cNil) (cTrue) (cCall m__law_is_r3 (cConsO (cOd (cPr .ix (cConsO (cOs 0) (cConsO (cOs 3) cNil)))) (cConsO (cOd (cPr .ix (cConsO (cOs 1) (cConsO (cOs 3) cNil)))) (cNil))))
def x__law_is_r4_2 : Den Z := cLc (([("_law_k", 2)] : List (PySem.Str × Nat)).map (·.2)) (.nm 2) .rng1 (cCons (cPr .len (cConsO (cOs 1) cNil)) (cNil)) (cTrue) (cCall m__law_is_r3 (cConsO (cOd (cPr .ix (cConsO (cOs 0) (cConsO (cOs 2) cNil)))) (cConsO (cOd (cPr .ix (cConsO (cOs 1) (cConsO (cOs 2) cNil)))) (cNil))))
def b__law_is_r4 : DenS := kSeq (kIte (cT (cPr (.isinst [.tuple, .list]) (cConsO (cOs 1) cNil))) (kSeq (kIte (cOr (cT (cPr .ne (cConsO (cOd (cPr (.isinst [.tuple]) (cConsO (cOs 0) cNil))) (cConsO (cOd (cPr (.isinst [.tuple]) (cConsO (cOs 1) cNil))) cNil)))) (cOr (cT (cPr .ne (cConsO (cOd (cPr (.isinst [.list]) (cConsO (cOs 0) cNil))) (cConsO (cOd (cPr (.isinst [.list]) (cConsO (cOs 1) cNil))) cNil)))) cFalse)) (kSeq (kRet (cC (.bl false))) (kNx)) (kNx)) (kSeq (kRet (cB (cAnd (cT (cPr .eq (cConsO (cOd (cPr .len (cConsO (cOs 0) cNil))) (cConsO (cOd (cPr .len (cConsO (cOs 1) cNil))) cNil)))) (cAnd (cT (cPr .all (cConsO (cOd (x__law_is_r4_2)) cNil))) cTrue)))) (kNx))) (kNx)) (kSeq (kIte (cT (cPr (.isinst [.dict]) (cConsO (cOs 1) cNil))) (kSeq (kRet (cB (cAnd (cT (cPr (.isinst [.dict]) (cConsO (cOs 0) cNil))) (cAnd (cT (cPr .eq (cConsO (cOs 0) (cConsO (cOs 1) cNil)))) (cAnd (cT (cPr .all (cConsO (cOd (x__law_is_r4_1)) cNil))) cTrue))))) (kNx)) (kNx)) (kSeq (kRet (cB (cAnd (cT (cPr .eq (cConsO (cOd (cPr (.isinst [.bool]) (cConsO (cOs 0) cNil))) (cConsO (cOd (cPr (.isinst [.bool]) (cConsO (cOs 1) cNil))) cNil)))) (cAnd (cT (cPr .eq (cConsO (cOs 0) (cConsO (cOs 1) cNil)))) cTrue)))) (kNx)))
def f__law_is_r4 : Df := ⟨2, 4, [0, 1], b__law_is_r4⟩
def m__law_is_r4 : Mean := evD f__law_is_r4
def N__law_lots : List PySem.Str := ["_law_things", "_law_found", "_law_thing", "_law_lot"]
def x__law_lots_1 : Den Z := cLc (([("_law_lot", 3)] : List (PySem.Str × Nat)).map (·.2)) (.nm 3) .val (cCons (cVar 1) cNil) (cTrue) (cPr .add (cConsO (cOs 3) (cConsO (cOd (cTup (cCons (cVar 2) (cNil)))) cNil)))
def z__law_lots_1 : DenS := kSeq (kSet 1 (cPr .add (cConsO (cOs 1) (cConsO (cOd (x__law_lots_1)) cNil)))) (kNx)
def y__law_lots_1 : DenS := kFor (.nm 2) .val (cCons (cVar 0) cNil) z__law_lots_1
def b__law_lots : DenS := kSeq (kSet 1 (cLst (cCons (cTup (cNil)) (cNil)))) (kSeq (y__law_lots_1) (kSeq (kRet (cPr .sorted (cConsO (cOs 1) cNil))) (kNx)))
def f__law_lots : Df := ⟨1, 4, [0], b__law_lots⟩
def m__law_lots : Mean := evD f__law_lots
def N__law_arrows : List PySem.Str := ["_law_hand_here", "_law_columns", "_law_rare", "_law_firsts", "_law_found", "_law_seconds", "_law_things", "_law_at", "_law_one", "_law_other", "_law_column"]
def z__law_arrows_1 : DenS := kSeq (kIte (cT (cPr .eq (cConsO (cOd (cCall m__law_draw (cConsO (cOs 0) (cConsO (cOs 2) (cNil))))) (cConsO (cOd (cC (.int 0))) cNil)))) (kSeq (kEx (cMut .append 4 (cCons (cTup (cCons (cVar 8) (cCons (cVar 9) (cNil)))) cNil))) (kNx)) (kNx)) (kNx)
def y__law_arrows_1 : DenS := kFor (.nm 9) .val (cCons (cSl (cOs 6) (cP (cPr .add (cConsO (cOs 7) (cConsO (cOd (cC (.int 1))) cNil)))) (cNoP)) cNil) z__law_arrows_1
def z__law_arrows_2 : DenS := kSeq (y__law_arrows_1) (kNx)
def y__law_arrows_2 : DenS := kFor (.tup [7, 8]) .enum (cCons (cVar 6) (cNil)) z__law_arrows_2
def x__law_arrows_1 : Den Z := cLc (([("_law_column", 10)] : List (PySem.Str × Nat)).map (·.2)) (.nm 10) .val (cCons (cCall m__law_shuffled (cConsO (cOs 0) (cConsO (cOd (cRg1 (cVar 1))) (cNil)))) cNil) (cTrue) (cPr .add (cConsO (cOs 1) (cConsO (cOs 10) cNil)))
def b__law_arrows : DenS := kSeq (kParZ 3 4 (cCall m__law_shuffled (cConsO (cOs 0) (cConsO (cOd (cRg1 (cVar 1))) (cNil)))) (cLst (cNil))) (kSeq (kSet 5 (x__law_arrows_1)) (kSeq (kSet 6 (cPr .add (cConsO (cOs 3) (cConsO (cOs 5) cNil)))) (kSeq (y__law_arrows_2) (kSeq (kRet (cPr .tuple (cConsO (cOd (cPr .sorted (cConsO (cOs 4) cNil))) cNil))) (kNx)))))
def f__law_arrows : Df := ⟨3, 11, [0, 1, 2], b__law_arrows⟩
def m__law_arrows : Mean := evD f__law_arrows
def N__law_parents : List PySem.Str := ["_law_arrows_here", "_law_thing", "_law_one", "_law_other"]
def x__law_parents_1 : Den Z := cLc (([("_law_one", 2), ("_law_other", 3)] : List (PySem.Str × Nat)).map (·.2)) (.tup [2, 3]) .val (cCons (cVar 0) cNil) (cT (cPr .eq (cConsO (cOs 3) (cConsO (cOs 1) cNil)))) (cVar 2)
def b__law_parents : DenS := kSeq (kRet (x__law_parents_1)) (kNx)
def f__law_parents : Df := ⟨2, 4, [0, 1], b__law_parents⟩
def m__law_parents : Mean := evD f__law_parents
def N__law_has_ring : List PySem.Str := ["_law_columns", "_law_arrows_here", "_law_left", "_law_turn", "_law_thing", "_law_one"]
def x__law_has_ring_1 : Den Z := cLc (([("_law_one", 5)] : List (PySem.Str × Nat)).map (·.2)) (.nm 5) .val (cCons (cCall m__law_parents (cConsO (cOs 1) (cConsO (cOs 4) (cNil)))) cNil) (cTrue) (cPr .inn (cConsO (cOs 5) (cConsO (cOs 2) cNil)))
def x__law_has_ring_2 : Den Z := cLc (([("_law_thing", 4)] : List (PySem.Str × Nat)).map (·.2)) (.nm 4) .val (cCons (cVar 2) cNil) (cT (cPr .any (cConsO (cOd (x__law_has_ring_1)) cNil))) (cVar 4)
def z__law_has_ring_1 : DenS := kSeq (kSet 2 (x__law_has_ring_2)) (kNx)
def y__law_has_ring_1 : DenS := kFor (.nm 3) .rng1 (cCons (cPr .mul (cConsO (cOd (cC (.int 2))) (cConsO (cOs 0) cNil))) (cNil)) z__law_has_ring_1
def b__law_has_ring : DenS := kSeq (kSet 2 (cRg1 (cPr .mul (cConsO (cOd (cC (.int 2))) (cConsO (cOs 0) cNil))))) (kSeq (y__law_has_ring_1) (kSeq (kRet (cPr .gt (cConsO (cOd (cPr .len (cConsO (cOs 2) cNil))) (cConsO (cOd (cC (.int 0))) cNil)))) (kNx)))
def f__law_has_ring : Df := ⟨2, 6, [0, 1], b__law_has_ring⟩
def m__law_has_ring : Mean := evD f__law_has_ring
def N__law_every : List PySem.Str := ["_law_columns", "_law_ends", "_law_arrows_here", "_law_one", "_law_found", "_law_other", "_law_lot", "_law_size"]
def x__law_every_1 : Den Z := cLc (([("_law_size", 7), ("_law_lot", 6)] : List (PySem.Str × Nat)).map (·.2)) (.tup [7, 6]) .val (cCons (cPr .sorted (cConsO (cOs 4) cNil)) cNil) (cNot (cT (cCall m__law_has_ring (cConsO (cOs 0) (cConsO (cOs 6) (cNil)))))) (cVar 6)
def x__law_every_2 : Den Z := cLc (([("_law_lot", 6)] : List (PySem.Str × Nat)).map (·.2)) (.nm 6) .val (cCons (cCall m__law_lots (cConsO (cOs 2) (cNil))) cNil) (cTrue) (cTup (cCons (cPr .len (cConsO (cOs 6) cNil)) (cCons (cVar 6) (cNil))))
def x__law_every_3 : Den Z := cLc (([("_law_other", 5)] : List (PySem.Str × Nat)).map (·.2)) (.nm 5) .val (cCons (cVar 1) cNil) (cAnd (cT (cPr .ne (cConsO (cOs 3) (cConsO (cOs 5) cNil)))) (cAnd (cOr (cT (cPr .lt (cConsO (cOs 3) (cConsO (cOs 0) cNil)))) (cOr (cT (cPr .ge (cConsO (cOs 5) (cConsO (cOs 0) cNil)))) cFalse)) cTrue)) (cTup (cCons (cVar 3) (cCons (cVar 5) (cNil))))
def z__law_every_1 : DenS := kSeq (kEx (cMut .extend 2 (cCons (x__law_every_3) cNil))) (kNx)
def y__law_every_1 : DenS := kFor (.nm 3) .val (cCons (cVar 1) cNil) z__law_every_1
def b__law_every : DenS := kSeq (kParZ 1 2 (cRg1 (cPr .mul (cConsO (cOd (cC (.int 2))) (cConsO (cOs 0) cNil)))) (cLst (cNil))) (kSeq (y__law_every_1) (kSeq (kSet 4 (x__law_every_2)) (kSeq (kRet (x__law_every_1)) (kNx))))
def f__law_every : Df := ⟨1, 8, [0], b__law_every⟩
def m__law_every : Mean := evD f__law_every
def N_law : List PySem.Str := ["_law_script", "_law_hand_here", "_law_columns", "_law_told", "_law_due", "_law_turn", "_law_web", "_law_at", "_law_one"]
def x_law_1 : Den Z := cLc (([("_law_web", 6)] : List (PySem.Str × Nat)).map (·.2)) (.nm 6) .val (cCons (cCall m_all_webs (cConsO (cOs 2) (cNil))) cNil) (cTrue) (cPr (.fld ["Web"] "arrows") (cConsO (cOs 6) cNil))
def x_law_2 : Den Z := cLcK ((([("_law_one", 8)] : List (PySem.Str × Nat))).map (·.2)) (.nm 8) 3 (cT (cEqO "Web" m_Web_eq (cVar 8) (cVar 6))) (cVar 8)
def z_law_1 : DenS := kSeq (kSet 6 (cFr (cMk "Web" m_Web_init (cConsO (cOs 2) (cConsO (cOd (cCall m__law_arrows (cConsO (cOs 1) (cConsO (cOs 2) (cConsO (cOd (cCall m__law_some (cConsO (cOs 1) (cConsO (cOd (cLst (cCons (cC (.int 1)) (cCons (cC (.int 2)) (cCons (cC (.int 3)) (cNil)))))) (cNil))))) (cNil)))))) (cNil)))))) (kSeq (kIte (cT (cPr .ne (cConsO (cOd (cPr .len (cConsO (cOd (x_law_2)) cNil))) (cConsO (cOd (cC (.int 1))) cNil)))) (kSeq (kRet (cC (.bl false))) (kNx)) (kNx)) (kNx))
def y_law_1 : DenS := kFor (.nm 5) .rng1 (cCons (cC (.int 3)) (cNil)) z_law_1
def x_law_3 : Den Z := cLcK ((([("_law_web", 6)] : List (PySem.Str × Nat))).map (·.2)) (.nm 6) 3 (cTrue) (cPr (.fld ["Web"] "arrows") (cConsO (cOs 6) cNil))
def x_law_4 : Den Z := cLcK ((([("_law_web", 6)] : List (PySem.Str × Nat))).map (·.2)) (.nm 6) 3 (cTrue) (cB (cAnd (cT (cIsO "Web" (cOs 6))) (cAnd (cT (cPr .eq (cConsO (cOd (cPr (.fld ["Web"] "columns") (cConsO (cOs 6) cNil))) (cConsO (cOs 2) cNil)))) cTrue)))
def z_law_2 : DenS := kSeq (kParZ 3 4 (cCall m_all_webs (cConsO (cOs 2) (cNil))) (cCall m__law_every (cConsO (cOs 2) (cNil)))) (kSeq (kIte (cOr (cNot (cT (cPr (.isinst [.list]) (cConsO (cOs 3) cNil)))) (cOr (cNot (cT (cPr .all (cConsO (cOd (x_law_4)) cNil)))) cFalse)) (kSeq (kRet (cC (.bl false))) (kNx)) (kNx)) (kSeq (kIte (cNot (cT (cCall m__law_is_r4 (cConsO (cOd (x_law_3)) (cConsO (cOs 4) (cNil)))))) (kSeq (kRet (cC (.bl false))) (kNx)) (kNx)) (kSeq (y_law_1) (kSeq (kSet 7 (cCall m__law_draw (cConsO (cOs 1) (cConsO (cOd (cPr .len (cConsO (cOs 3) cNil))) (cNil))))) (kSeq (kSetSub 3 (cVar 7) (cC .non)) (kSeq (kEx (cMut .append 3 (cCons (cC .non) cNil))) (kSeq (kIte (cT (cPr .ne (cConsO (cOd (x_law_1)) (cConsO (cOs 4) cNil)))) (kSeq (kRet (cC (.bl false))) (kNx)) (kNx)) (kNx))))))))
def y_law_2 : DenS := kFor (.nm 2) .val (cCons (cCall m__law_shuffled (cConsO (cOs 1) (cConsO (cOd (cLst (cCons (cC (.int 1)) (cCons (cC (.int 2)) (cNil))))) (cNil)))) cNil) z_law_2
def b_law : DenS := kSeq (kSet 1 (cCall m__law_hand (cConsO (cOs 0) (cNil)))) (kSeq (y_law_2) (kSeq (kRet (cC (.bl true))) (kNx)))
def f_law : Df := ⟨1, 9, [0], b_law⟩
def m_law : Mean := evD f_law
section
variable [Tb] {P : Program} {w : World} {K : PySem.W.Frag} {mg : PySem.Str → Option Value} {base : Heap} {cm : PySem.Str → Option Addr}
theorem w_is_integer {f : Addr} (n_bool : mg "bool" = none) (n_int : mg "int" = none) (n_isinstance : mg "isinstance" = none) (cdv : Value) (hcv : CodeIs K f cdv) (A : Around) (outer : List PySem.Env) (s : Shared) (H : Hp) (E : XK) (hr : Room 0 (A.deeper (envOfC Hd.d_is_integer.qual Hd.d_is_integer.scope s.heap.objs.size f cdv))) :
    PSs (cxOf (L2.CX P w) P w K mg base N_is_integer Hd.d_is_integer.qual Hd.d_is_integer.scope f cdv A outer s H E) Hd.d_is_integer.body (tS ⟨K, cm⟩ (fun cls d _ H => E cls d H) f_is_integer.keeps f_is_integer.body) := by
  have hN : N_is_integer.Nodup := by decide
  have hu65 : (A.deeper (envOfC Hd.d_is_integer.qual Hd.d_is_integer.scope s.heap.objs.size f cdv)).units + 65 < cLine := by have := hr.un; omega
  have hu64 : (A.deeper (envOfC Hd.d_is_integer.qual Hd.d_is_integer.scope s.heap.objs.size f cdv)).units + 64 < cLine := by omega
  have hu1 : (A.deeper (envOfC Hd.d_is_integer.qual Hd.d_is_integer.scope s.heap.objs.size f cdv)).units + 1 < cLine := by omega
  exact (ss_cons (sk_ret (sx_and (sx_isi (t := .int) (q := ⟨0, 0, 0, 0⟩) rfl rfl (fun _ _ => rfl) (sx_slot (pe_var rfl (by (first | exact .inl rfl | exact .inr (.inl rfl) | exact .inr (.inr rfl))))) (by rfl) n_isinstance (by rfl) n_int) (sx_and1 (sx_not (sx_isi (t := .bool) (q := ⟨0, 0, 0, 0⟩) rfl rfl (fun _ _ => rfl) (sx_slot (pe_var rfl (by (first | exact .inl rfl | exact .inr (.inl rfl) | exact .inr (.inr rfl))))) (by rfl) n_isinstance (by rfl) n_bool))))) q_nil)
theorem w_is_within {f : Addr} (c_is_integer : Cal P w K mg base cm 1 "is_integer" 1 m_is_integer) (cdv : Value) (hcv : CodeIs K f cdv) (A : Around) (outer : List PySem.Env) (s : Shared) (H : Hp) (E : XK) (hr : Room 1 (A.deeper (envOfC Hd.d_is_within.qual Hd.d_is_within.scope s.heap.objs.size f cdv))) :
    PSs (cxOf (L2.CX P w) P w K mg base N_is_within Hd.d_is_within.qual Hd.d_is_within.scope f cdv A outer s H E) Hd.d_is_within.body (tS ⟨K, cm⟩ (fun cls d _ H => E cls d H) f_is_within.keeps f_is_within.body) := by
  have hN : N_is_within.Nodup := by decide
  have hu65 : (A.deeper (envOfC Hd.d_is_within.qual Hd.d_is_within.scope s.heap.objs.size f cdv)).units + 65 < cLine := by have := hr.un; omega
  have hu64 : (A.deeper (envOfC Hd.d_is_within.qual Hd.d_is_within.scope s.heap.objs.size f cdv)).units + 64 < cLine := by omega
  have hu1 : (A.deeper (envOfC Hd.d_is_within.qual Hd.d_is_within.scope s.heap.objs.size f cdv)).units + 1 < cLine := by omega
  have lv_is_integer : 1 ≤ 1 := by decide
  exact (ss_cons (sk_ret (sx_and (sx_call (c_is_integer.s hr lv_is_integer) (ln_cons ln0) takes_c (by rfl) (fun _ _ => rfl) (pa_csO (fun _ _ => rfl) (sx_slot (pe_var rfl (by (first | exact .inl rfl | exact .inr (.inl rfl) | exact .inr (.inr rfl))))) pa_nlO) (by rfl) (by decide)) (sx_and1 (sx_ch (sx_var (pe_var rfl (by (first | exact .inl rfl | exact .inr (.inl rfl) | exact .inr (.inr rfl))))) (sx_var (pe_var rfl (by (first | exact .inl rfl | exact .inr (.inl rfl) | exact .inr (.inr rfl))))) (sx_var (pe_var rfl (by (first | exact .inl rfl | exact .inr (.inl rfl) | exact .inr (.inr rfl))))) (by with_unfolding_all rfl))))) q_nil)
theorem w_is_pair {f : Addr} (n_isinstance : mg "isinstance" = none) (n_len : mg "len" = none) (n_tuple : mg "tuple" = none) (cdv : Value) (hcv : CodeIs K f cdv) (A : Around) (outer : List PySem.Env) (s : Shared) (H : Hp) (E : XK) (hr : Room 0 (A.deeper (envOfC Hd.d_is_pair.qual Hd.d_is_pair.scope s.heap.objs.size f cdv))) :
    PSs (cxOf (L2.CX P w) P w K mg base N_is_pair Hd.d_is_pair.qual Hd.d_is_pair.scope f cdv A outer s H E) Hd.d_is_pair.body (tS ⟨K, cm⟩ (fun cls d _ H => E cls d H) f_is_pair.keeps f_is_pair.body) := by
  have hN : N_is_pair.Nodup := by decide
  have hu65 : (A.deeper (envOfC Hd.d_is_pair.qual Hd.d_is_pair.scope s.heap.objs.size f cdv)).units + 65 < cLine := by have := hr.un; omega
  have hu64 : (A.deeper (envOfC Hd.d_is_pair.qual Hd.d_is_pair.scope s.heap.objs.size f cdv)).units + 64 < cLine := by omega
  have hu1 : (A.deeper (envOfC Hd.d_is_pair.qual Hd.d_is_pair.scope s.heap.objs.size f cdv)).units + 1 < cLine := by omega
  exact (ss_cons (sk_ret (sx_and (sx_isi (t := .tuple) (q := ⟨0, 0, 0, 0⟩) rfl rfl (fun _ _ => rfl) (sx_slot (pe_var rfl (by (first | exact .inl rfl | exact .inr (.inl rfl) | exact .inr (.inr rfl))))) (by rfl) n_isinstance (by rfl) n_tuple) (sx_and1 (sx_cmp (pk_eq rfl) (op_eqD hu64) (pe_od (q_len rfl (by rfl) n_len (fun _ _ => rfl) (sx_slot (pe_var rfl (by (first | exact .inl rfl | exact .inr (.inl rfl) | exact .inr (.inr rfl))))))) (pe_od q_int) (nomark _))))) q_nil)
theorem w_all_lots {f : Addr} (n_len : mg "len" = none) (n_range : mg "range" = none) (n_sorted : mg "sorted" = none) (lam : LamH K mg base f "all_lots.<locals>.<lambda>") (cdv : Value) (hcv : CodeIs K f cdv) (A : Around) (outer : List PySem.Env) (s : Shared) (H : Hp) (E : XK) (hr : Room 0 (A.deeper (envOfC Hd.d_all_lots.qual Hd.d_all_lots.scope s.heap.objs.size f cdv))) :
    PSs (cxOf (L2.CX P w) P w K mg base N_all_lots Hd.d_all_lots.qual Hd.d_all_lots.scope f cdv A outer s H E) Hd.d_all_lots.body (tS ⟨K, cm⟩ (fun cls d _ H => E cls d H) f_all_lots.keeps f_all_lots.body) := by
  have hN : N_all_lots.Nodup := by decide
  have hu65 : (A.deeper (envOfC Hd.d_all_lots.qual Hd.d_all_lots.scope s.heap.objs.size f cdv)).units + 65 < cLine := by have := hr.un; omega
  have hu64 : (A.deeper (envOfC Hd.d_all_lots.qual Hd.d_all_lots.scope s.heap.objs.size f cdv)).units + 64 < cLine := by omega
  have hu1 : (A.deeper (envOfC Hd.d_all_lots.qual Hd.d_all_lots.scope s.heap.objs.size f cdv)).units + 1 < cLine := by omega
  exact (ss_cons (sk_set hN rfl (by first | exact .inl rfl | exact .inr rfl) rfl (sx_lst (pa_cs (fun _ _ => rfl) (sx_tup pa_nl) pa_nl)) (by rfl) (by decide)) (ss_cons (sk_for passes_c rfl (pi_rng1 (by rfl) n_range (fun _ _ => rfl) (pa_cs (fun _ _ => rfl) (sx_var (pe_var rfl (by (first | exact .inl rfl | exact .inr (.inl rfl) | exact .inr (.inr rfl))))) pa_nl)) (nm_pg hN (by (first | exact ⟨rfl, .inl rfl, .inl rfl⟩ | exact ⟨rfl, .inl rfl, .inr rfl⟩ | exact ⟨rfl, .inr rfl, .inl rfl⟩))) (ss_cons (sk_set hN rfl (by first | exact .inl rfl | exact .inr rfl) rfl (sx_op (pk_add rfl) op_add3 (sx_slot (pe_var rfl (by (first | exact .inl rfl | exact .inr (.inl rfl) | exact .inr (.inr rfl))))) (pe_od (sx_lc rfl hN (by simp [slotsOf]) (pi_val rfl (sx_var (pe_var rfl (by (first | exact .inl rfl | exact .inr (.inl rfl) | exact .inr (.inr rfl)))))) (blkOk_by (by first | rfl | decide +kernel)) (fun _ _ _ _ _ => (nm_pg hN (by (first | exact ⟨rfl, .inl rfl, .inl rfl⟩ | exact ⟨rfl, .inl rfl, .inr rfl⟩ | exact ⟨rfl, .inr rfl, .inl rfl⟩)))) (fun _ _ _ _ _ => q_pts0) (fun _ _ _ _ _ => (sx_op (pk_add rfl) op_add3 (sx_slot (pe_var rfl (by (first | exact .inl rfl | exact .inr (.inl rfl) | exact .inr (.inr rfl))))) (pe_od (sx_tup (pa_cs (fun _ _ => rfl) (sx_var (pe_var rfl (by (first | exact .inl rfl | exact .inr (.inl rfl) | exact .inr (.inr rfl))))) pa_nl))))) (fun _ => rfl)))) (by rfl) (by decide)) q_nil) (fun _ => rfl) (by decide)) (ss_cons (sk_ret (sx_sortLT (x := "lot") rfl rfl hr.depth hu65 (fun _ _ => rfl) (sx_slot (pe_var rfl (by (first | exact .inl rfl | exact .inr (.inl rfl) | exact .inr (.inr rfl))))) (by rfl) n_sorted (lamAt (qn := "all_lots.<locals>.<lambda>") lam hcv rfl (by rfl) (fun _ _ _ _ => rfl) (fun _ _ _ => rfl) (by rfl) (by decide) (C8.fnScope_by (N := ["lot"]) (P := ["lot"]) (by decide +kernel)) (.inl rfl) ⟨rfl, rfl, rfl⟩ (by decide) (by decide)) n_len (by rfl) (by rfl) (by rfl) (by rfl) (by rfl))) q_nil)))
theorem w_is_arrow {f : Addr} (n_all : mg "all" = none) (c_is_pair : Cal P w K mg base cm 1 "is_pair" 1 m_is_pair) (c_is_within : Cal P w K mg base cm 2 "is_within" 3 m_is_within) (cdv : Value) (hcv : CodeIs K f cdv) (A : Around) (outer : List PySem.Env) (s : Shared) (H : Hp) (E : XK) (hr : Room 2 (A.deeper (envOfC Hd.d_is_arrow.qual Hd.d_is_arrow.scope s.heap.objs.size f cdv))) :
    PSs (cxOf (L2.CX P w) P w K mg base N_is_arrow Hd.d_is_arrow.qual Hd.d_is_arrow.scope f cdv A outer s H E) Hd.d_is_arrow.body (tS ⟨K, cm⟩ (fun cls d _ H => E cls d H) f_is_arrow.keeps f_is_arrow.body) := by
  have hN : N_is_arrow.Nodup := by decide
  have hu65 : (A.deeper (envOfC Hd.d_is_arrow.qual Hd.d_is_arrow.scope s.heap.objs.size f cdv)).units + 65 < cLine := by have := hr.un; omega
  have hu64 : (A.deeper (envOfC Hd.d_is_arrow.qual Hd.d_is_arrow.scope s.heap.objs.size f cdv)).units + 64 < cLine := by omega
  have hu1 : (A.deeper (envOfC Hd.d_is_arrow.qual Hd.d_is_arrow.scope s.heap.objs.size f cdv)).units + 1 < cLine := by omega
  have lv_is_within : 2 ≤ 2 := by decide
  have lv_is_pair : 1 ≤ 2 := by decide
  exact (ss_cons (sk_if (PW.pt (sw_or (st_not (st_val (sx_call (c_is_pair.s hr lv_is_pair) (ln_cons ln0) takes_c (by rfl) (fun _ _ => rfl) (pa_csO (fun _ _ => rfl) (sx_slot (pe_var rfl (by (first | exact .inl rfl | exact .inr (.inl rfl) | exact .inr (.inr rfl))))) pa_nlO) (by rfl) (by decide)) (fun _ => rfl))) (sw_or1 (st_not (st_val (q_all rfl rfl (by rfl) n_all (fun _ _ => rfl) (pe_od (sx_lc rfl hN (by simp [slotsOf]) (pi_val rfl (sx_var (pe_var rfl (by (first | exact .inl rfl | exact .inr (.inl rfl) | exact .inr (.inr rfl)))))) (blkOk_by (by first | rfl | decide +kernel)) (fun _ _ _ _ _ => (nm_pg hN (by (first | exact ⟨rfl, .inl rfl, .inl rfl⟩ | exact ⟨rfl, .inl rfl, .inr rfl⟩ | exact ⟨rfl, .inr rfl, .inl rfl⟩)))) (fun _ _ _ _ _ => q_pts0) (fun _ _ _ _ _ => (sx_call (c_is_within.s hr lv_is_within) (ln_cons (ln_cons (ln_cons ln0))) takes_b (by rfl) (fun _ _ => rfl) (pa_csO (fun _ _ => rfl) (sx_slot (pe_var rfl (by (first | exact .inl rfl | exact .inr (.inl rfl) | exact .inr (.inr rfl))))) (pa_csO (fun _ _ => rfl) (pe_od q_int) (pa_csO (fun _ _ => rfl) (pe_od (sx_op pk_sub op_sub (pe_od (sx_op pk_mul op_mul2 (pe_od q_int) (sx_slot (pe_var rfl (by (first | exact .inl rfl | exact .inr (.inl rfl) | exact .inr (.inr rfl))))))) (pe_od q_int))) pa_nlO))) (by rfl) (by decide))) (fun _ => rfl)))) (fun _ => rfl)))))) (ss_cons (sk_ret q_bl) q_nil) q_nil) (ss_cons (sk_ret (sx_and (sx_cmp (pk_ne rfl) (op_neD hu64) (pe_od (sx_ix rfl hu1 (sx_slot (pe_var rfl (by (first | exact .inl rfl | exact .inr (.inl rfl) | exact .inr (.inr rfl))))) (pe_od q_int) (fun _ _ => rfl))) (pe_od (sx_ix rfl hu1 (sx_slot (pe_var rfl (by (first | exact .inl rfl | exact .inr (.inl rfl) | exact .inr (.inr rfl))))) (pe_od q_int) (fun _ _ => rfl))) (nomark _)) (sx_and1 (sx_not (sx_and (sx_cmp pk_ge op_ge (pe_od (sx_ix rfl hu1 (sx_slot (pe_var rfl (by (first | exact .inl rfl | exact .inr (.inl rfl) | exact .inr (.inr rfl))))) (pe_od q_int) (fun _ _ => rfl))) (sx_slot (pe_var rfl (by (first | exact .inl rfl | exact .inr (.inl rfl) | exact .inr (.inr rfl))))) (nomark _)) (sx_and1 (sx_cmp pk_lt (op_lt2 rfl hu64) (pe_od (sx_ix rfl hu1 (sx_slot (pe_var rfl (by (first | exact .inl rfl | exact .inr (.inl rfl) | exact .inr (.inr rfl))))) (pe_od q_int) (fun _ _ => rfl))) (sx_slot (pe_var rfl (by (first | exact .inl rfl | exact .inr (.inl rfl) | exact .inr (.inr rfl))))) (nomark _)))))))) q_nil))
theorem w_order_by {f : Addr} (n_all : mg "all" = none) (n_len : mg "len" = none) (n_range : mg "range" = none) (cdv : Value) (hcv : CodeIs K f cdv) (A : Around) (outer : List PySem.Env) (s : Shared) (H : Hp) (E : XK) (hr : Room 0 (A.deeper (envOfC Hd.d_order_by.qual Hd.d_order_by.scope s.heap.objs.size f cdv))) :
    PSs (cxOf (L2.CX P w) P w K mg base N_order_by Hd.d_order_by.qual Hd.d_order_by.scope f cdv A outer s H E) Hd.d_order_by.body (tS ⟨K, cm⟩ (fun cls d _ H => E cls d H) f_order_by.keeps f_order_by.body) := by
  have hN : N_order_by.Nodup := by decide
  have hu65 : (A.deeper (envOfC Hd.d_order_by.qual Hd.d_order_by.scope s.heap.objs.size f cdv)).units + 65 < cLine := by have := hr.un; omega
  have hu64 : (A.deeper (envOfC Hd.d_order_by.qual Hd.d_order_by.scope s.heap.objs.size f cdv)).units + 64 < cLine := by omega
  have hu1 : (A.deeper (envOfC Hd.d_order_by.qual Hd.d_order_by.scope s.heap.objs.size f cdv)).units + 1 < cLine := by omega
  exact (ss_cons (sk_set hN rfl (by first | exact .inl rfl | exact .inr rfl) rfl (sx_lst pa_nl) (by rfl) (by decide)) (ss_cons (sk_set hN rfl (by first | exact .inl rfl | exact .inr rfl) rfl q_bl (by rfl) (by decide)) (ss_cons (sk_while passes_c (st_val (sx_var (pe_var rfl (by (first | exact .inl rfl | exact .inr (.inl rfl) | exact .inr (.inr rfl))))) (fun _ => rfl)) (ss_cons (sk_setLc rfl hN rfl rfl (by first | rfl | with_unfolding_all rfl | kernel_rfl) (by decide) (by simp [slotsOf]) (pi_rng1 (by rfl) n_range (fun _ _ => rfl) (pa_cs (fun _ _ => rfl) (sx_op pk_mul op_mul2 (pe_od q_int) (sx_slot (pe_var rfl (by (first | exact .inl rfl | exact .inr (.inl rfl) | exact .inr (.inr rfl)))))) pa_nl)) (blkOk_by (by first | rfl | decide +kernel)) (fun _ _ _ _ _ => (nm_pg hN (by (first | exact ⟨rfl, .inl rfl, .inl rfl⟩ | exact ⟨rfl, .inl rfl, .inr rfl⟩ | exact ⟨rfl, .inr rfl, .inl rfl⟩)))) (fun _ _ _ _ _ => (pts_one (st_cmp (pk_nin rfl) (op_nin3 hu65) (sx_slot (pe_var rfl (by (first | exact .inl rfl | exact .inr (.inl rfl) | exact .inr (.inr rfl))))) (sx_slot (pe_var rfl (by (first | exact .inl rfl | exact .inr (.inl rfl) | exact .inr (.inr rfl))))) (by with_unfolding_all rfl)))) (fun _ _ _ _ _ => (sx_var (pe_var rfl (by (first | exact .inl rfl | exact .inr (.inl rfl) | exact .inr (.inr rfl)))))) (fun _ => rfl)) (ss_cons (sk_setLc rfl hN rfl rfl (by first | rfl | with_unfolding_all rfl | kernel_rfl) (by decide) (by simp [slotsOf]) (pi_val rfl (sx_var (pe_var rfl (by (first | exact .inl rfl | exact .inr (.inl rfl) | exact .inr (.inr rfl)))))) (blkOk_by (by first | rfl | decide +kernel)) (fun _ _ _ _ _ => (nm_pg hN (by (first | exact ⟨rfl, .inl rfl, .inl rfl⟩ | exact ⟨rfl, .inl rfl, .inr rfl⟩ | exact ⟨rfl, .inr rfl, .inl rfl⟩)))) (fun _ _ _ _ _ => (pts_one (st_val (q_all rfl rfl (by rfl) n_all (fun _ _ => rfl) (pe_od (sx_lc rfl hN (by simp [slotsOf]) (pi_val rfl (sx_var (pe_var rfl (by (first | exact .inl rfl | exact .inr (.inl rfl) | exact .inr (.inr rfl)))))) (blkOk_by (by first | rfl | decide +kernel)) (fun _ _ _ _ _ => (pg_tup rfl (nms_pgs hN (is := [6, 7]) ⟨(by (first | exact ⟨rfl, .inl rfl, .inl rfl⟩ | exact ⟨rfl, .inl rfl, .inr rfl⟩ | exact ⟨rfl, .inr rfl, .inl rfl⟩)), (by (first | exact ⟨rfl, .inl rfl, .inl rfl⟩ | exact ⟨rfl, .inl rfl, .inr rfl⟩ | exact ⟨rfl, .inr rfl, .inl rfl⟩)), trivial⟩) rfl rfl)) (fun _ _ _ _ _ => (pts_one (st_cmp (pk_eq rfl) (op_eqD hu64) (sx_slot (pe_var rfl (by (first | exact .inl rfl | exact .inr (.inl rfl) | exact .inr (.inr rfl))))) (sx_slot (pe_var rfl (by (first | exact .inl rfl | exact .inr (.inl rfl) | exact .inr (.inr rfl))))) (nomark _)))) (fun _ _ _ _ _ => (sx_cmp (pk_inn rfl) (op_in3 hu65) (sx_slot (pe_var rfl (by (first | exact .inl rfl | exact .inr (.inl rfl) | exact .inr (.inr rfl))))) (sx_slot (pe_var rfl (by (first | exact .inl rfl | exact .inr (.inl rfl) | exact .inr (.inr rfl))))) (by with_unfolding_all rfl))) (fun _ => rfl)))) (fun _ => rfl)))) (fun _ _ _ _ _ => (sx_var (pe_var rfl (by (first | exact .inl rfl | exact .inr (.inl rfl) | exact .inr (.inr rfl)))))) (fun _ => rfl)) (ss_cons (sk_ex (sx_extend (fun _ _ => rfl) (pe_var rfl (by (first | exact .inl rfl | exact .inr (.inl rfl) | exact .inr (.inr rfl)))) (sx_sl rfl (sx_slot (pe_var rfl (by (first | exact .inl rfl | exact .inr (.inl rfl) | exact .inr (.inr rfl))))) po_no (po_so q_int)) (by rfl) (by rfl) (by rfl)) (by rfl)) (ss_cons (sk_set hN rfl (by first | exact .inl rfl | exact .inr rfl) rfl (sx_cmp pk_gt op_gt (pe_od (q_len rfl (by rfl) n_len (fun _ _ => rfl) (sx_slot (pe_var rfl (by (first | exact .inl rfl | exact .inr (.inl rfl) | exact .inr (.inr rfl))))))) (pe_od q_int) (nomark _)) (by rfl) (by decide)) q_nil))))) (ss_cons (sk_retv (pe_var rfl (by (first | exact .inl rfl | exact .inr (.inl rfl) | exact .inr (.inr rfl))))) q_nil))))
theorem w_Web_init {f : Addr} (n_enumerate : mg "enumerate" = none) (n_isinstance : mg "isinstance" = none) (n_len : mg "len" = none) (n_tuple : mg "tuple" = none) {u_MOST_COLUMNS_webs : Value} (g_MOST_COLUMNS_webs : mg "MOST_COLUMNS_webs" = some u_MOST_COLUMNS_webs) (r_MOST_COLUMNS_webs : RelV (.int 4) u_MOST_COLUMNS_webs) (c_is_arrow : Cal P w K mg base cm 3 "is_arrow" 2 m_is_arrow) (c_is_within : Cal P w K mg base cm 2 "is_within" 3 m_is_within) (c_order_by : Cal P w K mg base cm 1 "order_by" 2 m_order_by) (s_arrows : FldOk ⟨K, cm⟩ K ["Web"] "arrows") (s_columns : FldOk ⟨K, cm⟩ K ["Web"] "columns") (cdv : Value) (hcv : CodeIs K f cdv) (A : Around) (outer : List PySem.Env) (s : Shared) (H : Hp) (E : XK) (hr : Room 3 (A.deeper (envOfC Hd.d_Web_init.qual Hd.d_Web_init.scope s.heap.objs.size f cdv))) :
    PSs (cxOf (L2.CX P w) P w K mg base N_Web_init Hd.d_Web_init.qual Hd.d_Web_init.scope f cdv A outer s H E) Hd.d_Web_init.body (tS ⟨K, cm⟩ (fun cls d _ H => E cls d H) f_Web_init.keeps f_Web_init.body) := by
  have hN : N_Web_init.Nodup := by decide
  have hu65 : (A.deeper (envOfC Hd.d_Web_init.qual Hd.d_Web_init.scope s.heap.objs.size f cdv)).units + 65 < cLine := by have := hr.un; omega
  have hu64 : (A.deeper (envOfC Hd.d_Web_init.qual Hd.d_Web_init.scope s.heap.objs.size f cdv)).units + 64 < cLine := by omega
  have hu1 : (A.deeper (envOfC Hd.d_Web_init.qual Hd.d_Web_init.scope s.heap.objs.size f cdv)).units + 1 < cLine := by omega
  have lv_is_within : 2 ≤ 3 := by decide
  have lv_order_by : 1 ≤ 3 := by decide
  have lv_is_arrow : 3 ≤ 3 := by decide
  exact (ss_cons (sk_if (st_not (st_val (sx_call (c_is_within.s hr lv_is_within) (ln_cons (ln_cons (ln_cons ln0))) takes_c (by rfl) (fun _ _ => rfl) (pa_csO (fun _ _ => rfl) (sx_slot (pe_var rfl (by (first | exact .inl rfl | exact .inr (.inl rfl) | exact .inr (.inr rfl))))) (pa_csO (fun _ _ => rfl) (pe_od q_int) (pa_csO (fun _ _ => rfl) (pe_od (q_gint (by rfl) g_MOST_COLUMNS_webs r_MOST_COLUMNS_webs (by decide))) pa_nlO))) (by rfl) (by decide)) (fun _ => rfl))) (ss_cons q_bad q_nil) q_nil) (ss_cons (sk_if (st_not (st_val (sx_isi (t := .tuple) (q := ⟨0, 0, 0, 0⟩) rfl rfl (fun _ _ => rfl) (sx_slot (pe_var rfl (by (first | exact .inl rfl | exact .inr (.inl rfl) | exact .inr (.inr rfl))))) (by rfl) n_isinstance (by rfl) n_tuple) (fun _ => rfl))) (ss_cons q_bad q_nil) q_nil) (ss_cons (sk_for passes_c rfl (pi_enT rfl (by rfl) n_enumerate (fun _ _ => rfl) (pa_cs (fun _ _ => rfl) (sx_var (pe_var rfl (by (first | exact .inl rfl | exact .inr (.inl rfl) | exact .inr (.inr rfl))))) pa_nl)) (pg_tup rfl (nms_pgs hN (is := [3, 4]) ⟨(by (first | exact ⟨rfl, .inl rfl, .inl rfl⟩ | exact ⟨rfl, .inl rfl, .inr rfl⟩ | exact ⟨rfl, .inr rfl, .inl rfl⟩)), (by (first | exact ⟨rfl, .inl rfl, .inl rfl⟩ | exact ⟨rfl, .inl rfl, .inr rfl⟩ | exact ⟨rfl, .inr rfl, .inl rfl⟩)), trivial⟩) rfl rfl) (ss_cons (sk_if (PW.pt (sw_or (st_not (st_val (sx_call (c_is_arrow.s hr lv_is_arrow) (ln_cons (ln_cons ln0)) takes_c (by rfl) (fun _ _ => rfl) (pa_csO (fun _ _ => rfl) (sx_slot (pe_var rfl (by (first | exact .inl rfl | exact .inr (.inl rfl) | exact .inr (.inr rfl))))) (pa_csO (fun _ _ => rfl) (sx_slot (pe_var rfl (by (first | exact .inl rfl | exact .inr (.inl rfl) | exact .inr (.inr rfl))))) pa_nlO)) (by rfl) (by decide)) (fun _ => rfl))) (sw_or1 (PW.pt (sw_and (st_cmp pk_gt op_gt (sx_slot (pe_var rfl (by (first | exact .inl rfl | exact .inr (.inl rfl) | exact .inr (.inr rfl))))) (pe_od q_int) (nomark _)) (sw_and1 (st_not (st_cmp pk_lt (op_lt2 rfl hu64) (pe_od (sx_ix rfl hu1 (sx_slot (pe_var rfl (by (first | exact .inl rfl | exact .inr (.inl rfl) | exact .inr (.inr rfl))))) (pe_od (sx_op pk_sub op_sub (sx_slot (pe_var rfl (by (first | exact .inl rfl | exact .inr (.inl rfl) | exact .inr (.inr rfl))))) (pe_od q_int))) (fun _ _ => rfl))) (sx_slot (pe_var rfl (by (first | exact .inl rfl | exact .inr (.inl rfl) | exact .inr (.inr rfl))))) (nomark _))))))))) (ss_cons q_bad q_nil) q_nil) q_nil) (fun _ => rfl) (by decide)) (ss_cons (sk_if (st_cmp pk_lt (op_lt2 rfl hu64) (pe_od (q_len rfl (by rfl) n_len (fun _ _ => rfl) (pe_od (sx_call (c_order_by.s hr lv_order_by) (ln_cons (ln_cons ln0)) takes_c (by rfl) (fun _ _ => rfl) (pa_csO (fun _ _ => rfl) (sx_slot (pe_var rfl (by (first | exact .inl rfl | exact .inr (.inl rfl) | exact .inr (.inr rfl))))) (pa_csO (fun _ _ => rfl) (sx_slot (pe_var rfl (by (first | exact .inl rfl | exact .inr (.inl rfl) | exact .inr (.inr rfl))))) pa_nlO)) (by rfl) (by decide))))) (pe_od (sx_op pk_mul op_mul2 (pe_od q_int) (sx_slot (pe_var rfl (by (first | exact .inl rfl | exact .inr (.inl rfl) | exact .inr (.inr rfl))))))) (nomark _)) (ss_cons q_bad q_nil) q_nil) (ss_cons (sk_setFld s_columns (pe_var rfl (by (first | exact .inl rfl | exact .inr (.inl rfl) | exact .inr (.inr rfl)))) (sx_var (pe_var rfl (by (first | exact .inl rfl | exact .inr (.inl rfl) | exact .inr (.inr rfl))))) (by rfl)) (ss_cons (sk_setFld s_arrows (pe_var rfl (by (first | exact .inl rfl | exact .inr (.inl rfl) | exact .inr (.inr rfl)))) (sx_var (pe_var rfl (by (first | exact .inl rfl | exact .inr (.inl rfl) | exact .inr (.inr rfl))))) (by rfl)) q_nil))))))
theorem w_Web_eq {f : Addr} (n_isinstance : mg "isinstance" = none) (ow_Web : OwnI K cm mg "Web") (f_arrows : FldOk ⟨K, cm⟩ K ["Web"] "arrows") (f_columns : FldOk ⟨K, cm⟩ K ["Web"] "columns") (cdv : Value) (hcv : CodeIs K f cdv) (A : Around) (outer : List PySem.Env) (s : Shared) (H : Hp) (E : XK) (hr : Room 0 (A.deeper (envOfC Hd.d_Web_eq.qual Hd.d_Web_eq.scope s.heap.objs.size f cdv))) :
    PSs (cxOf (L2.CX P w) P w K mg base N_Web_eq Hd.d_Web_eq.qual Hd.d_Web_eq.scope f cdv A outer s H E) Hd.d_Web_eq.body (tS ⟨K, cm⟩ (fun cls d _ H => E cls d H) f_Web_eq.keeps f_Web_eq.body) := by
  have hN : N_Web_eq.Nodup := by decide
  have hu65 : (A.deeper (envOfC Hd.d_Web_eq.qual Hd.d_Web_eq.scope s.heap.objs.size f cdv)).units + 65 < cLine := by have := hr.un; omega
  have hu64 : (A.deeper (envOfC Hd.d_Web_eq.qual Hd.d_Web_eq.scope s.heap.objs.size f cdv)).units + 64 < cLine := by omega
  have hu1 : (A.deeper (envOfC Hd.d_Web_eq.qual Hd.d_Web_eq.scope s.heap.objs.size f cdv)).units + 1 < cLine := by omega
  exact (ss_cons (sk_ret (sx_and (sx_isO rfl ow_Web (fun _ _ => rfl) (sx_slot (pe_var rfl (by (first | exact .inl rfl | exact .inr (.inl rfl) | exact .inr (.inr rfl))))) (by rfl) n_isinstance (by rfl) (by decide)) (sx_and1 (sx_cmp (pk_eq rfl) (op_eqD hu64) (pe_od (sx_tup (pa_cs (fun _ _ => rfl) (sx_fld f_columns (sx_slot (pe_var rfl (by (first | exact .inl rfl | exact .inr (.inl rfl) | exact .inr (.inr rfl))))) (by rfl)) (pa_cs (fun _ _ => rfl) (sx_fld f_arrows (sx_slot (pe_var rfl (by (first | exact .inl rfl | exact .inr (.inl rfl) | exact .inr (.inr rfl))))) (by rfl)) pa_nl)))) (pe_od (sx_tup (pa_cs (fun _ _ => rfl) (sx_fld f_columns (sx_slot (pe_var rfl (by (first | exact .inl rfl | exact .inr (.inl rfl) | exact .inr (.inr rfl))))) (by rfl)) (pa_cs (fun _ _ => rfl) (sx_fld f_arrows (sx_slot (pe_var rfl (by (first | exact .inl rfl | exact .inr (.inl rfl) | exact .inr (.inr rfl))))) (by rfl)) pa_nl)))) (nomark _))))) q_nil)
theorem w_raw_web {f : Addr} (n_sorted : mg "sorted" = none) (n_tuple : mg "tuple" = none) (c_Web : CalC P w K mg base cm 4 "Web" 2 m_Web_init) (cdv : Value) (hcv : CodeIs K f cdv) (A : Around) (outer : List PySem.Env) (s : Shared) (H : Hp) (E : XK) (hr : Room 5 (A.deeper (envOfC Hd.d_raw_web.qual Hd.d_raw_web.scope s.heap.objs.size f cdv))) :
    PSs (cxOf (L2.CX P w) P w K mg base N_raw_web Hd.d_raw_web.qual Hd.d_raw_web.scope f cdv A outer s H E) Hd.d_raw_web.body (tS ⟨K, cm⟩ (fun cls d _ H => E cls d H) f_raw_web.keeps f_raw_web.body) := by
  have hN : N_raw_web.Nodup := by decide
  have hu65 : (A.deeper (envOfC Hd.d_raw_web.qual Hd.d_raw_web.scope s.heap.objs.size f cdv)).units + 65 < cLine := by have := hr.un; omega
  have hu64 : (A.deeper (envOfC Hd.d_raw_web.qual Hd.d_raw_web.scope s.heap.objs.size f cdv)).units + 64 < cLine := by omega
  have hu1 : (A.deeper (envOfC Hd.d_raw_web.qual Hd.d_raw_web.scope s.heap.objs.size f cdv)).units + 1 < cLine := by omega
  have lv_Web : 4 + 1 ≤ 5 := by decide
  exact (ss_cons (sk_ret (sx_make (c_Web.s hr lv_Web) (ln_cons (ln_cons ln0)) takes_c (by rfl) (fun _ _ => rfl) (pa_csO (fun _ _ => rfl) (sx_slot (pe_var rfl (by (first | exact .inl rfl | exact .inr (.inl rfl) | exact .inr (.inr rfl))))) (pa_csO (fun _ _ => rfl) (pe_od (q_tuple rfl (by rfl) n_tuple (fun _ _ => rfl) (pe_od (q_sorted rfl hu65 (by rfl) n_sorted (fun _ _ => rfl) (sx_slot (pe_var rfl (by (first | exact .inl rfl | exact .inr (.inl rfl) | exact .inr (.inr rfl))))))))) pa_nlO)) (by rfl) (by decide))) q_nil)
theorem w_webs_of {f : Addr} (n_len : mg "len" = none) (n_range : mg "range" = none) (c_all_lots : Cal P w K mg base cm 1 "all_lots" 1 m_all_lots) (c_is_arrow : Cal P w K mg base cm 3 "is_arrow" 2 m_is_arrow) (c_order_by : Cal P w K mg base cm 1 "order_by" 2 m_order_by) (c_raw_web : Cal P w K mg base cm 6 "raw_web" 2 m_raw_web) (cdv : Value) (hcv : CodeIs K f cdv) (A : Around) (outer : List PySem.Env) (s : Shared) (H : Hp) (E : XK) (hr : Room 6 (A.deeper (envOfC Hd.d_webs_of.qual Hd.d_webs_of.scope s.heap.objs.size f cdv))) :
    PSs (cxOf (L2.CX P w) P w K mg base N_webs_of Hd.d_webs_of.qual Hd.d_webs_of.scope f cdv A outer s H E) Hd.d_webs_of.body (tS ⟨K, cm⟩ (fun cls d _ H => E cls d H) f_webs_of.keeps f_webs_of.body) := by
  have hN : N_webs_of.Nodup := by decide
  have hu65 : (A.deeper (envOfC Hd.d_webs_of.qual Hd.d_webs_of.scope s.heap.objs.size f cdv)).units + 65 < cLine := by have := hr.un; omega
  have hu64 : (A.deeper (envOfC Hd.d_webs_of.qual Hd.d_webs_of.scope s.heap.objs.size f cdv)).units + 64 < cLine := by omega
  have hu1 : (A.deeper (envOfC Hd.d_webs_of.qual Hd.d_webs_of.scope s.heap.objs.size f cdv)).units + 1 < cLine := by omega
  have lv_order_by : 1 ≤ 6 := by decide
  have lv_is_arrow : 3 ≤ 6 := by decide
  have lv_all_lots : 1 ≤ 6 := by decide
  have lv_raw_web : 6 ≤ 6 := by decide
  exact (ss_cons (sk_set hN rfl (by first | exact .inl rfl | exact .inr rfl) rfl (sx_rv1 (by rfl) n_range (fun _ _ => rfl) (sx_op pk_mul op_mul2 (pe_od q_int) (sx_slot (pe_var rfl (by (first | exact .inl rfl | exact .inr (.inl rfl) | exact .inr (.inr rfl))))))) (by rfl) (by decide)) (ss_cons (sk_set hN rfl (by first | exact .inl rfl | exact .inr rfl) rfl (sx_lc2 rfl hN (by simp [slotsOf]) (by simp [slotsOf]) (by simp) (pi_rgv (sx_var (pe_var rfl (by (first | exact .inl rfl | exact .inr (.inl rfl) | exact .inr (.inr rfl)))))) (blkOk_by (by first | rfl | decide +kernel)) (fun _ _ _ _ _ => (nm_pg hN (by (first | exact ⟨rfl, .inl rfl, .inl rfl⟩ | exact ⟨rfl, .inl rfl, .inr rfl⟩ | exact ⟨rfl, .inr rfl, .inl rfl⟩)))) (fun _ _ _ _ _ => q_pts0) (fun _ _ _ _ _ => (pi_rgv (sx_var (pe_var rfl (by (first | exact .inl rfl | exact .inr (.inl rfl) | exact .inr (.inr rfl))))))) (fun _ _ _ _ _ => (nm_pg hN (by (first | exact ⟨rfl, .inl rfl, .inl rfl⟩ | exact ⟨rfl, .inl rfl, .inr rfl⟩ | exact ⟨rfl, .inr rfl, .inl rfl⟩)))) (fun _ _ _ _ _ => (pts_one (st_val (sx_call (c_is_arrow.s hr lv_is_arrow) (ln_cons (ln_cons ln0)) takes_b (by rfl) (fun _ _ => rfl) (pa_csO (fun _ _ => rfl) (sx_slot (pe_var rfl (by (first | exact .inl rfl | exact .inr (.inl rfl) | exact .inr (.inr rfl))))) (pa_csO (fun _ _ => rfl) (pe_od (sx_tup (pa_cs (fun _ _ => rfl) (sx_var (pe_var rfl (by (first | exact .inl rfl | exact .inr (.inl rfl) | exact .inr (.inr rfl))))) (pa_cs (fun _ _ => rfl) (sx_var (pe_var rfl (by (first | exact .inl rfl | exact .inr (.inl rfl) | exact .inr (.inr rfl))))) pa_nl)))) pa_nlO)) (by rfl) (by decide)) (fun _ => rfl)))) (fun _ _ _ _ _ => (sx_tup (pa_cs (fun _ _ => rfl) (sx_var (pe_var rfl (by (first | exact .inl rfl | exact .inr (.inl rfl) | exact .inr (.inr rfl))))) (pa_cs (fun _ _ => rfl) (sx_var (pe_var rfl (by (first | exact .inl rfl | exact .inr (.inl rfl) | exact .inr (.inr rfl))))) pa_nl)))) (fun _ => rfl) (fun _ _ => rfl)) (by rfl) (by decide)) (ss_cons (sk_set hN rfl (by first | exact .inl rfl | exact .inr rfl) rfl (sx_lst pa_nl) (by rfl) (by decide)) (ss_cons (sk_for passes_c rfl (pi_val rfl (sx_call (c_all_lots.s hr lv_all_lots) (ln_cons ln0) takes_c (by rfl) (fun _ _ => rfl) (pa_csO (fun _ _ => rfl) (pe_od (q_len rfl (by rfl) n_len (fun _ _ => rfl) (sx_slot (pe_var rfl (by (first | exact .inl rfl | exact .inr (.inl rfl) | exact .inr (.inr rfl))))))) pa_nlO) (by rfl) (by decide))) (nm_pg hN (by (first | exact ⟨rfl, .inl rfl, .inl rfl⟩ | exact ⟨rfl, .inl rfl, .inr rfl⟩ | exact ⟨rfl, .inr rfl, .inl rfl⟩))) (ss_cons (sk_setLc rfl hN rfl rfl (by first | rfl | with_unfolding_all rfl | kernel_rfl) (by decide) (by simp [slotsOf]) (pi_val rfl (sx_var (pe_var rfl (by (first | exact .inl rfl | exact .inr (.inl rfl) | exact .inr (.inr rfl)))))) (blkOk_by (by first | rfl | decide +kernel)) (fun _ _ _ _ _ => (nm_pg hN (by (first | exact ⟨rfl, .inl rfl, .inl rfl⟩ | exact ⟨rfl, .inl rfl, .inr rfl⟩ | exact ⟨rfl, .inr rfl, .inl rfl⟩)))) (fun _ _ _ _ _ => q_pts0) (fun _ _ _ _ _ => (sx_ix rfl hu1 (sx_slot (pe_var rfl (by (first | exact .inl rfl | exact .inr (.inl rfl) | exact .inr (.inr rfl))))) (sx_slot (pe_var rfl (by (first | exact .inl rfl | exact .inr (.inl rfl) | exact .inr (.inr rfl))))) (fun _ _ => rfl))) (fun _ => rfl)) (ss_cons (sk_if (st_cmp (pk_eq rfl) (op_eqD hu64) (pe_od (q_len rfl (by rfl) n_len (fun _ _ => rfl) (pe_od (sx_call (c_order_by.s hr lv_order_by) (ln_cons (ln_cons ln0)) takes_c (by rfl) (fun _ _ => rfl) (pa_csO (fun _ _ => rfl) (sx_slot (pe_var rfl (by (first | exact .inl rfl | exact .inr (.inl rfl) | exact .inr (.inr rfl))))) (pa_csO (fun _ _ => rfl) (pe_od (sx_var (pe_var rfl (by (first | exact .inl rfl | exact .inr (.inl rfl) | exact .inr (.inr rfl)))))) pa_nlO)) (by rfl) (by decide))))) (pe_od (sx_op pk_mul op_mul2 (pe_od q_int) (sx_slot (pe_var rfl (by (first | exact .inl rfl | exact .inr (.inl rfl) | exact .inr (.inr rfl))))))) (nomark _)) (ss_cons (sk_ex (sx_append (fun _ _ => rfl) (pe_var rfl (by (first | exact .inl rfl | exact .inr (.inl rfl) | exact .inr (.inr rfl)))) (sx_call (c_raw_web.s hr lv_raw_web) (ln_cons (ln_cons ln0)) takes_c (by rfl) (fun _ _ => rfl) (pa_csO (fun _ _ => rfl) (sx_slot (pe_var rfl (by (first | exact .inl rfl | exact .inr (.inl rfl) | exact .inr (.inr rfl))))) (pa_csO (fun _ _ => rfl) (pe_od (sx_var (pe_var rfl (by (first | exact .inl rfl | exact .inr (.inl rfl) | exact .inr (.inr rfl)))))) pa_nlO)) (by rfl) (by decide)) (by rfl) (by rfl) (by rfl)) (by rfl)) q_nil) q_nil) q_nil)) (fun _ => rfl) (by decide)) (ss_cons (sk_retv (pe_var rfl (by (first | exact .inl rfl | exact .inr (.inl rfl) | exact .inr (.inr rfl))))) q_nil)))))
theorem w_all_webs {f : Addr} {u_MOST_COLUMNS_couldbe : Value} (g_MOST_COLUMNS_couldbe : mg "MOST_COLUMNS_couldbe" = some u_MOST_COLUMNS_couldbe) (r_MOST_COLUMNS_couldbe : RelV (.int 2) u_MOST_COLUMNS_couldbe) (c_is_within : Cal P w K mg base cm 2 "is_within" 3 m_is_within) (c_webs_of : Cal P w K mg base cm 7 "webs_of" 1 m_webs_of) (cdv : Value) (hcv : CodeIs K f cdv) (A : Around) (outer : List PySem.Env) (s : Shared) (H : Hp) (E : XK) (hr : Room 7 (A.deeper (envOfC Hd.d_all_webs.qual Hd.d_all_webs.scope s.heap.objs.size f cdv))) :
    PSs (cxOf (L2.CX P w) P w K mg base N_all_webs Hd.d_all_webs.qual Hd.d_all_webs.scope f cdv A outer s H E) Hd.d_all_webs.body (tS ⟨K, cm⟩ (fun cls d _ H => E cls d H) f_all_webs.keeps f_all_webs.body) := by
  have hN : N_all_webs.Nodup := by decide
  have hu65 : (A.deeper (envOfC Hd.d_all_webs.qual Hd.d_all_webs.scope s.heap.objs.size f cdv)).units + 65 < cLine := by have := hr.un; omega
  have hu64 : (A.deeper (envOfC Hd.d_all_webs.qual Hd.d_all_webs.scope s.heap.objs.size f cdv)).units + 64 < cLine := by omega
  have hu1 : (A.deeper (envOfC Hd.d_all_webs.qual Hd.d_all_webs.scope s.heap.objs.size f cdv)).units + 1 < cLine := by omega
  have lv_is_within : 2 ≤ 7 := by decide
  have lv_webs_of : 7 ≤ 7 := by decide
  exact (ss_cons (sk_if (st_not (st_val (sx_call (c_is_within.s hr lv_is_within) (ln_cons (ln_cons (ln_cons ln0))) takes_c (by rfl) (fun _ _ => rfl) (pa_csO (fun _ _ => rfl) (sx_slot (pe_var rfl (by (first | exact .inl rfl | exact .inr (.inl rfl) | exact .inr (.inr rfl))))) (pa_csO (fun _ _ => rfl) (pe_od q_int) (pa_csO (fun _ _ => rfl) (pe_od (q_gint (by rfl) g_MOST_COLUMNS_couldbe r_MOST_COLUMNS_couldbe (by decide))) pa_nlO))) (by rfl) (by decide)) (fun _ => rfl))) (ss_cons q_bad q_nil) q_nil) (ss_cons (sk_ret (sx_call (c_webs_of.s hr lv_webs_of) (ln_cons ln0) takes_c (by rfl) (fun _ _ => rfl) (pa_csO (fun _ _ => rfl) (sx_slot (pe_var rfl (by (first | exact .inl rfl | exact .inr (.inl rfl) | exact .inr (.inr rfl))))) pa_nlO) (by rfl) (by decide))) q_nil))
theorem w__law_hand {f : Addr} (n_abs : mg "abs" = none) (n_int : mg "int" = none) (n_len : mg "len" = none) (cdv : Value) (hcv : CodeIs K f cdv) (A : Around) (outer : List PySem.Env) (s : Shared) (H : Hp) (E : XK) (hr : Room 0 (A.deeper (envOfC Hd.d__law_hand.qual Hd.d__law_hand.scope s.heap.objs.size f cdv))) :
    PSs (cxOf (L2.CX P w) P w K mg base N__law_hand Hd.d__law_hand.qual Hd.d__law_hand.scope f cdv A outer s H E) Hd.d__law_hand.body (tS ⟨K, cm⟩ (fun cls d _ H => E cls d H) f__law_hand.keeps f__law_hand.body) := by
  have hN : N__law_hand.Nodup := by decide
  have hu65 : (A.deeper (envOfC Hd.d__law_hand.qual Hd.d__law_hand.scope s.heap.objs.size f cdv)).units + 65 < cLine := by have := hr.un; omega
  have hu64 : (A.deeper (envOfC Hd.d__law_hand.qual Hd.d__law_hand.scope s.heap.objs.size f cdv)).units + 64 < cLine := by omega
  have hu1 : (A.deeper (envOfC Hd.d__law_hand.qual Hd.d__law_hand.scope s.heap.objs.size f cdv)).units + 1 < cLine := by omega
  exact (ss_cons (sk_setLc rfl hN rfl rfl (by first | rfl | with_unfolding_all rfl | kernel_rfl) (by decide) (by simp [slotsOf]) (pi_val rfl (sx_sl rfl (sx_slot (pe_var rfl (by (first | exact .inl rfl | exact .inr (.inl rfl) | exact .inr (.inr rfl))))) po_no (po_so q_int))) (blkOk_by (by first | rfl | decide +kernel)) (fun _ _ _ _ _ => (nm_pg hN (by (first | exact ⟨rfl, .inl rfl, .inl rfl⟩ | exact ⟨rfl, .inl rfl, .inr rfl⟩ | exact ⟨rfl, .inr rfl, .inl rfl⟩)))) (fun _ _ _ _ _ => q_pts0) (fun _ _ _ _ _ => (q_abs  (by rfl) n_abs (fun _ _ => rfl) (pe_od (q_intC  (by rfl) n_int (fun _ _ => rfl) (sx_slot (pe_var rfl (by (first | exact .inl rfl | exact .inr (.inl rfl) | exact .inr (.inr rfl))))))))) (fun _ => rfl)) (ss_cons (sk_ret (sx_lst (pa_cs (fun _ _ => rfl) (sx_var (pe_var rfl (by (first | exact .inl rfl | exact .inr (.inl rfl) | exact .inr (.inr rfl))))) (pa_cs (fun _ _ => rfl) q_int (pa_cs (fun _ _ => rfl) q_int (pa_cs (fun _ _ => rfl) (sx_op (pk_add rfl) op_add3 (pe_od q_int) (pe_od (q_len rfl (by rfl) n_len (fun _ _ => rfl) (sx_slot (pe_var rfl (by (first | exact .inl rfl | exact .inr (.inl rfl) | exact .inr (.inr rfl)))))))) (pa_cs (fun _ _ => rfl) q_int pa_nl))))))) q_nil))
theorem w__law_draw {f : Addr} (n_int : mg "int" = none) (n_len : mg "len" = none) (cdv : Value) (hcv : CodeIs K f cdv) (A : Around) (outer : List PySem.Env) (s : Shared) (H : Hp) (E : XK) (hr : Room 0 (A.deeper (envOfC Hd.d__law_draw.qual Hd.d__law_draw.scope s.heap.objs.size f cdv))) :
    PSs (cxOf (L2.CX P w) P w K mg base N__law_draw Hd.d__law_draw.qual Hd.d__law_draw.scope f cdv A outer s H E) Hd.d__law_draw.body (tS ⟨K, cm⟩ (fun cls d _ H => E cls d H) f__law_draw.keeps f__law_draw.body) := by
  have hN : N__law_draw.Nodup := by decide
  have hu65 : (A.deeper (envOfC Hd.d__law_draw.qual Hd.d__law_draw.scope s.heap.objs.size f cdv)).units + 65 < cLine := by have := hr.un; omega
  have hu64 : (A.deeper (envOfC Hd.d__law_draw.qual Hd.d__law_draw.scope s.heap.objs.size f cdv)).units + 64 < cLine := by omega
  have hu1 : (A.deeper (envOfC Hd.d__law_draw.qual Hd.d__law_draw.scope s.heap.objs.size f cdv)).units + 1 < cLine := by omega
  exact (ss_cons (sk_if (PW.pt (sw_and (st_cmp (pk_eq rfl) (op_eqD hu64) (pe_od (sx_ix rfl hu1 (sx_slot (pe_var rfl (by (first | exact .inl rfl | exact .inr (.inl rfl) | exact .inr (.inr rfl))))) (pe_od q_int) (fun _ _ => rfl))) (pe_od q_int) (nomark _)) (sw_and1 (st_cmp pk_lt (op_lt2 rfl hu64) (pe_od (sx_ix rfl hu1 (sx_slot (pe_var rfl (by (first | exact .inl rfl | exact .inr (.inl rfl) | exact .inr (.inr rfl))))) (pe_od q_int) (fun _ _ => rfl))) (pe_od (q_len rfl (by rfl) n_len (fun _ _ => rfl) (pe_od (sx_ix rfl hu1 (sx_slot (pe_var rfl (by (first | exact .inl rfl | exact .inr (.inl rfl) | exact .inr (.inr rfl))))) (pe_od q_int) (fun _ _ => rfl))))) (nomark _))))) (ss_cons (sk_set hN rfl (by first | exact .inl rfl | exact .inr rfl) rfl (sx_ix rfl hu1 (pe_od (sx_ix rfl hu1 (sx_slot (pe_var rfl (by (first | exact .inl rfl | exact .inr (.inl rfl) | exact .inr (.inr rfl))))) (pe_od q_int) (fun _ _ => rfl))) (pe_od (sx_ix rfl hu1 (sx_slot (pe_var rfl (by (first | exact .inl rfl | exact .inr (.inl rfl) | exact .inr (.inr rfl))))) (pe_od q_int) (fun _ _ => rfl))) (fun _ _ => rfl)) (by rfl) (by decide)) (ss_cons (sk_setSub hu1 (pe_var rfl (by (first | exact .inl rfl | exact .inr (.inl rfl) | exact .inr (.inr rfl)))) q_int (sx_op (pk_add rfl) op_add3 (pe_od (sx_ix rfl hu1 (sx_slot (pe_var rfl (by (first | exact .inl rfl | exact .inr (.inl rfl) | exact .inr (.inr rfl))))) (pe_od q_int) (fun _ _ => rfl))) (pe_od q_int)) (by rfl) (fun _ => rfl)) (ss_cons (sk_setSub hu1 (pe_var rfl (by (first | exact .inl rfl | exact .inr (.inl rfl) | exact .inr (.inr rfl)))) q_int (sx_op pk_mod op_mod (pe_od (q_intC  (by rfl) n_int (fun _ _ => rfl) (pe_od (sx_op (pk_add rfl) op_add3 (pe_od (sx_op (pk_add rfl) op_add3 (pe_od (sx_op pk_mul op_mul2 (pe_od (sx_ix rfl hu1 (sx_slot (pe_var rfl (by (first | exact .inl rfl | exact .inr (.inl rfl) | exact .inr (.inr rfl))))) (pe_od q_int) (fun _ _ => rfl))) (pe_od q_int))) (sx_slot (pe_var rfl (by (first | exact .inl rfl | exact .inr (.inl rfl) | exact .inr (.inr rfl))))))) (pe_od q_int))))) (pe_od q_int)) (by rfl) (fun _ => rfl)) (ss_cons (sk_if (st_cmp pk_ge op_ge (sx_slot (pe_var rfl (by (first | exact .inl rfl | exact .inr (.inl rfl) | exact .inr (.inr rfl))))) (pe_od (sx_op pk_pow op_pow (pe_od q_int) (pe_od q_int))) (nomark _)) (ss_cons (sk_setSub hu1 (pe_var rfl (by (first | exact .inl rfl | exact .inr (.inl rfl) | exact .inr (.inr rfl)))) q_int (sx_var (pe_var rfl (by (first | exact .inl rfl | exact .inr (.inl rfl) | exact .inr (.inr rfl))))) (by rfl) (fun _ => rfl)) q_nil) q_nil) q_nil)))) q_nil) (ss_cons (sk_if (st_cmp pk_gt op_gt (pe_od (sx_ix rfl hu1 (sx_slot (pe_var rfl (by (first | exact .inl rfl | exact .inr (.inl rfl) | exact .inr (.inr rfl))))) (pe_od q_int) (fun _ _ => rfl))) (pe_od q_int) (nomark _)) (ss_cons (sk_set hN rfl (by first | exact .inl rfl | exact .inr rfl) rfl (sx_op pk_mod op_mod (pe_od (q_intC  (by rfl) n_int (fun _ _ => rfl) (pe_od (sx_ix rfl hu1 (sx_slot (pe_var rfl (by (first | exact .inl rfl | exact .inr (.inl rfl) | exact .inr (.inr rfl))))) (pe_od q_int) (fun _ _ => rfl))))) (sx_slot (pe_var rfl (by (first | exact .inl rfl | exact .inr (.inl rfl) | exact .inr (.inr rfl)))))) (by rfl) (by decide)) (ss_cons (sk_setSub hu1 (pe_var rfl (by (first | exact .inl rfl | exact .inr (.inl rfl) | exact .inr (.inr rfl)))) q_int (sx_op pk_fdiv op_fdivW (pe_od (sx_ix rfl hu1 (sx_slot (pe_var rfl (by (first | exact .inl rfl | exact .inr (.inl rfl) | exact .inr (.inr rfl))))) (pe_od q_int) (fun _ _ => rfl))) (sx_slot (pe_var rfl (by (first | exact .inl rfl | exact .inr (.inl rfl) | exact .inr (.inr rfl)))))) (by rfl) (fun _ => rfl)) (ss_cons (sk_retv (pe_var rfl (by (first | exact .inl rfl | exact .inr (.inl rfl) | exact .inr (.inr rfl))))) q_nil))) q_nil) (ss_cons (sk_setSub hu1 (pe_var rfl (by (first | exact .inl rfl | exact .inr (.inl rfl) | exact .inr (.inr rfl)))) q_int (sx_op (pk_add rfl) op_add3 (pe_od (sx_ix rfl hu1 (sx_slot (pe_var rfl (by (first | exact .inl rfl | exact .inr (.inl rfl) | exact .inr (.inr rfl))))) (pe_od q_int) (fun _ _ => rfl))) (pe_od q_int)) (by rfl) (fun _ => rfl)) (ss_cons (sk_set hN rfl (by first | exact .inl rfl | exact .inr rfl) rfl (sx_op pk_mod op_mod (pe_od (q_intC  (by rfl) n_int (fun _ _ => rfl) (pe_od (sx_op pk_mul op_mul2 (pe_od (q_intC  (by rfl) n_int (fun _ _ => rfl) (pe_od (sx_op (pk_add rfl) op_add3 (pe_od (sx_ix rfl hu1 (sx_slot (pe_var rfl (by (first | exact .inl rfl | exact .inr (.inl rfl) | exact .inr (.inr rfl))))) (pe_od q_int) (fun _ _ => rfl))) (pe_od (sx_op pk_mul op_mul2 (pe_od q_int) (pe_od (sx_ix rfl hu1 (sx_slot (pe_var rfl (by (first | exact .inl rfl | exact .inr (.inl rfl) | exact .inr (.inr rfl))))) (pe_od q_int) (fun _ _ => rfl))))))))) (pe_od q_int))))) (pe_od q_int)) (by rfl) (by decide)) (ss_cons (sk_set hN rfl (by first | exact .inl rfl | exact .inr rfl) rfl (sx_op pk_mod op_mod (pe_od (q_intC  (by rfl) n_int (fun _ _ => rfl) (pe_od (sx_op pk_mul op_mul2 (sx_slot (pe_var rfl (by (first | exact .inl rfl | exact .inr (.inl rfl) | exact .inr (.inr rfl))))) (pe_od (sx_op (pk_add rfl) op_add3 (pe_od (sx_op pk_fdiv op_fdivW (sx_slot (pe_var rfl (by (first | exact .inl rfl | exact .inr (.inl rfl) | exact .inr (.inr rfl))))) (pe_od q_int))) (pe_od q_int))))))) (pe_od q_int)) (by rfl) (by decide)) (ss_cons (sk_set hN rfl (by first | exact .inl rfl | exact .inr rfl) rfl (sx_op pk_mod op_mod (pe_od (q_intC  (by rfl) n_int (fun _ _ => rfl) (pe_od (sx_op pk_mul op_mul2 (sx_slot (pe_var rfl (by (first | exact .inl rfl | exact .inr (.inl rfl) | exact .inr (.inr rfl))))) (pe_od (sx_op (pk_add rfl) op_add3 (pe_od (sx_op pk_fdiv op_fdivW (sx_slot (pe_var rfl (by (first | exact .inl rfl | exact .inr (.inl rfl) | exact .inr (.inr rfl))))) (pe_od q_int))) (pe_od q_int))))))) (pe_od q_int)) (by rfl) (by decide)) (ss_cons (sk_ret (sx_op pk_mod op_mod (pe_od (q_intC  (by rfl) n_int (fun _ _ => rfl) (pe_od (sx_op pk_fdiv op_fdivW (sx_slot (pe_var rfl (by (first | exact .inl rfl | exact .inr (.inl rfl) | exact .inr (.inr rfl))))) (pe_od q_int))))) (sx_slot (pe_var rfl (by (first | exact .inl rfl | exact .inr (.inl rfl) | exact .inr (.inr rfl))))))) q_nil)))))))
theorem w__law_some {f : Addr} (n_len : mg "len" = none) (c__law_draw : Cal P w K mg base cm 1 "_law_draw" 2 m__law_draw) (cdv : Value) (hcv : CodeIs K f cdv) (A : Around) (outer : List PySem.Env) (s : Shared) (H : Hp) (E : XK) (hr : Room 1 (A.deeper (envOfC Hd.d__law_some.qual Hd.d__law_some.scope s.heap.objs.size f cdv))) :
    PSs (cxOf (L2.CX P w) P w K mg base N__law_some Hd.d__law_some.qual Hd.d__law_some.scope f cdv A outer s H E) Hd.d__law_some.body (tS ⟨K, cm⟩ (fun cls d _ H => E cls d H) f__law_some.keeps f__law_some.body) := by
  have hN : N__law_some.Nodup := by decide
  have hu65 : (A.deeper (envOfC Hd.d__law_some.qual Hd.d__law_some.scope s.heap.objs.size f cdv)).units + 65 < cLine := by have := hr.un; omega
  have hu64 : (A.deeper (envOfC Hd.d__law_some.qual Hd.d__law_some.scope s.heap.objs.size f cdv)).units + 64 < cLine := by omega
  have hu1 : (A.deeper (envOfC Hd.d__law_some.qual Hd.d__law_some.scope s.heap.objs.size f cdv)).units + 1 < cLine := by omega
  have lv__law_draw : 1 ≤ 1 := by decide
  exact (ss_cons (sk_ret (sx_ix rfl hu1 (sx_slot (pe_var rfl (by (first | exact .inl rfl | exact .inr (.inl rfl) | exact .inr (.inr rfl))))) (pe_od (sx_call (c__law_draw.s hr lv__law_draw) (ln_cons (ln_cons ln0)) takes_c (by rfl) (fun _ _ => rfl) (pa_csO (fun _ _ => rfl) (sx_slot (pe_var rfl (by (first | exact .inl rfl | exact .inr (.inl rfl) | exact .inr (.inr rfl))))) (pa_csO (fun _ _ => rfl) (pe_od (q_len rfl (by rfl) n_len (fun _ _ => rfl) (sx_slot (pe_var rfl (by (first | exact .inl rfl | exact .inr (.inl rfl) | exact .inr (.inr rfl))))))) pa_nlO)) (by rfl) (by decide))) (fun _ _ => rfl))) q_nil)
theorem w__law_shuffled {f : Addr} (n_len : mg "len" = none) (n_list : mg "list" = none) (c__law_draw : Cal P w K mg base cm 1 "_law_draw" 2 m__law_draw) (cdv : Value) (hcv : CodeIs K f cdv) (A : Around) (outer : List PySem.Env) (s : Shared) (H : Hp) (E : XK) (hr : Room 1 (A.deeper (envOfC Hd.d__law_shuffled.qual Hd.d__law_shuffled.scope s.heap.objs.size f cdv))) :
    PSs (cxOf (L2.CX P w) P w K mg base N__law_shuffled Hd.d__law_shuffled.qual Hd.d__law_shuffled.scope f cdv A outer s H E) Hd.d__law_shuffled.body (tS ⟨K, cm⟩ (fun cls d _ H => E cls d H) f__law_shuffled.keeps f__law_shuffled.body) := by
  have hN : N__law_shuffled.Nodup := by decide
  have hu65 : (A.deeper (envOfC Hd.d__law_shuffled.qual Hd.d__law_shuffled.scope s.heap.objs.size f cdv)).units + 65 < cLine := by have := hr.un; omega
  have hu64 : (A.deeper (envOfC Hd.d__law_shuffled.qual Hd.d__law_shuffled.scope s.heap.objs.size f cdv)).units + 64 < cLine := by omega
  have hu1 : (A.deeper (envOfC Hd.d__law_shuffled.qual Hd.d__law_shuffled.scope s.heap.objs.size f cdv)).units + 1 < cLine := by omega
  have lv__law_draw : 1 ≤ 1 := by decide
  exact (ss_cons (sk_set hN rfl (by first | exact .inl rfl | exact .inr rfl) rfl (q_list rfl (by rfl) n_list (fun _ _ => rfl) (sx_slot (pe_var rfl (by (first | exact .inl rfl | exact .inr (.inl rfl) | exact .inr (.inr rfl)))))) (by rfl) (by decide)) (ss_cons (sk_set hN rfl (by first | exact .inl rfl | exact .inr rfl) rfl (sx_lst pa_nl) (by rfl) (by decide)) (ss_cons (sk_while passes_c (st_cmp pk_gt op_gt (pe_od (q_len rfl (by rfl) n_len (fun _ _ => rfl) (sx_slot (pe_var rfl (by (first | exact .inl rfl | exact .inr (.inl rfl) | exact .inr (.inr rfl))))))) (pe_od q_int) (nomark _)) (ss_cons (sk_ex (sx_append (fun _ _ => rfl) (pe_var rfl (by (first | exact .inl rfl | exact .inr (.inl rfl) | exact .inr (.inr rfl)))) (sx_pop1 (fun _ _ => rfl) (pe_var rfl (by (first | exact .inl rfl | exact .inr (.inl rfl) | exact .inr (.inr rfl)))) (sx_call (c__law_draw.s hr lv__law_draw) (ln_cons (ln_cons ln0)) takes_c (by rfl) (fun _ _ => rfl) (pa_csO (fun _ _ => rfl) (sx_slot (pe_var rfl (by (first | exact .inl rfl | exact .inr (.inl rfl) | exact .inr (.inr rfl))))) (pa_csO (fun _ _ => rfl) (pe_od (q_len rfl (by rfl) n_len (fun _ _ => rfl) (sx_slot (pe_var rfl (by (first | exact .inl rfl | exact .inr (.inl rfl) | exact .inr (.inr rfl))))))) pa_nlO)) (by rfl) (by decide)) (by rfl) (by rfl) (by rfl)) (by rfl) (by rfl) (by rfl)) (by rfl)) q_nil)) (ss_cons (sk_retv (pe_var rfl (by (first | exact .inl rfl | exact .inr (.inl rfl) | exact .inr (.inr rfl))))) q_nil))))
theorem w__law_is_r0 {f : Addr}  (cdv : Value) (hcv : CodeIs K f cdv) (A : Around) (outer : List PySem.Env) (s : Shared) (H : Hp) (E : XK) (hr : Room 0 (A.deeper (envOfC Hd.d__law_is.qual Hd.d__law_is.scope s.heap.objs.size f cdv))) :
    PSs (cxOf (L2.CX P w) P w K mg base N__law_is_r0 Hd.d__law_is.qual Hd.d__law_is.scope f cdv A outer s H E) Hd.d__law_is.body (tS ⟨K, cm⟩ (fun cls d _ H => E cls d H) f__law_is_r0.keeps f__law_is_r0.body) := by
  have hN : N__law_is_r0.Nodup := by decide
  have hu65 : (A.deeper (envOfC Hd.d__law_is.qual Hd.d__law_is.scope s.heap.objs.size f cdv)).units + 65 < cLine := by have := hr.un; omega
  have hu64 : (A.deeper (envOfC Hd.d__law_is.qual Hd.d__law_is.scope s.heap.objs.size f cdv)).units + 64 < cLine := by omega
  have hu1 : (A.deeper (envOfC Hd.d__law_is.qual Hd.d__law_is.scope s.heap.objs.size f cdv)).units + 1 < cLine := by omega
  exact pss_bad
theorem w__law_is_r1 {f : Addr} (n_all : mg "all" = none) (n_bool : mg "bool" = none) (n_dict : mg "dict" = none) (n_isinstance : mg "isinstance" = none) (n_len : mg "len" = none) (n_list : mg "list" = none) (n_range : mg "range" = none) (n_tuple : mg "tuple" = none) (c__law_is_r0 : Cal P w K mg base cm 1 "_law_is" 2 m__law_is_r0) (cdv : Value) (hcv : CodeIs K f cdv) (A : Around) (outer : List PySem.Env) (s : Shared) (H : Hp) (E : XK) (hr : Room 1 (A.deeper (envOfC Hd.d__law_is.qual Hd.d__law_is.scope s.heap.objs.size f cdv))) :
    PSs (cxOf (L2.CX P w) P w K mg base N__law_is_r1 Hd.d__law_is.qual Hd.d__law_is.scope f cdv A outer s H E) Hd.d__law_is.body (tS ⟨K, cm⟩ (fun cls d _ H => E cls d H) f__law_is_r1.keeps f__law_is_r1.body) := by
  have hN : N__law_is_r1.Nodup := by decide
  have hu65 : (A.deeper (envOfC Hd.d__law_is.qual Hd.d__law_is.scope s.heap.objs.size f cdv)).units + 65 < cLine := by have := hr.un; omega
  have hu64 : (A.deeper (envOfC Hd.d__law_is.qual Hd.d__law_is.scope s.heap.objs.size f cdv)).units + 64 < cLine := by omega
  have hu1 : (A.deeper (envOfC Hd.d__law_is.qual Hd.d__law_is.scope s.heap.objs.size f cdv)).units + 1 < cLine := by omega
  have lv__law_is_r0 : 1 ≤ 1 := by decide
  exact (ss_cons (sk_if (st_val (sx_isiT (ts := [.tuple, .list]) rfl (by decide) (fun _ _ => rfl) (sx_slot (pe_var rfl (by (first | exact .inl rfl | exact .inr (.inl rfl) | exact .inr (.inr rfl))))) (by rfl) n_isinstance (.cons (t := .tuple) rfl (by rfl) n_tuple (.cons (t := .list) rfl (by rfl) n_list .nil))) (fun _ => rfl)) (ss_cons (sk_if (PW.pt (sw_or (st_cmp (pk_ne rfl) (op_neD hu64) (pe_od (sx_isi (t := .tuple) (q := ⟨0, 0, 0, 0⟩) rfl rfl (fun _ _ => rfl) (sx_slot (pe_var rfl (by (first | exact .inl rfl | exact .inr (.inl rfl) | exact .inr (.inr rfl))))) (by rfl) n_isinstance (by rfl) n_tuple)) (pe_od (sx_isi (t := .tuple) (q := ⟨0, 0, 0, 0⟩) rfl rfl (fun _ _ => rfl) (sx_slot (pe_var rfl (by (first | exact .inl rfl | exact .inr (.inl rfl) | exact .inr (.inr rfl))))) (by rfl) n_isinstance (by rfl) n_tuple)) (nomark _)) (sw_or1 (st_cmp (pk_ne rfl) (op_neD hu64) (pe_od (sx_isi (t := .list) (q := ⟨0, 0, 0, 0⟩) rfl rfl (fun _ _ => rfl) (sx_slot (pe_var rfl (by (first | exact .inl rfl | exact .inr (.inl rfl) | exact .inr (.inr rfl))))) (by rfl) n_isinstance (by rfl) n_list)) (pe_od (sx_isi (t := .list) (q := ⟨0, 0, 0, 0⟩) rfl rfl (fun _ _ => rfl) (sx_slot (pe_var rfl (by (first | exact .inl rfl | exact .inr (.inl rfl) | exact .inr (.inr rfl))))) (by rfl) n_isinstance (by rfl) n_list)) (nomark _))))) (ss_cons (sk_ret q_bl) q_nil) q_nil) (ss_cons (sk_ret (sx_and (sx_cmp (pk_eq rfl) (op_eqD hu64) (pe_od (q_len rfl (by rfl) n_len (fun _ _ => rfl) (sx_slot (pe_var rfl (by (first | exact .inl rfl | exact .inr (.inl rfl) | exact .inr (.inr rfl))))))) (pe_od (q_len rfl (by rfl) n_len (fun _ _ => rfl) (sx_slot (pe_var rfl (by (first | exact .inl rfl | exact .inr (.inl rfl) | exact .inr (.inr rfl))))))) (nomark _)) (sx_and1 (q_all rfl rfl (by rfl) n_all (fun _ _ => rfl) (pe_od (sx_lc rfl hN (by simp [slotsOf]) (pi_rng1 (by rfl) n_range (fun _ _ => rfl) (pa_cs (fun _ _ => rfl) (q_len rfl (by rfl) n_len (fun _ _ => rfl) (sx_slot (pe_var rfl (by (first | exact .inl rfl | exact .inr (.inl rfl) | exact .inr (.inr rfl)))))) pa_nl)) (blkOk_by (by first | rfl | decide +kernel)) (fun _ _ _ _ _ => (nm_pg hN (by (first | exact ⟨rfl, .inl rfl, .inl rfl⟩ | exact ⟨rfl, .inl rfl, .inr rfl⟩ | exact ⟨rfl, .inr rfl, .inl rfl⟩)))) (fun _ _ _ _ _ => q_pts0) (fun _ _ _ _ _ => (sx_call (c__law_is_r0.s hr lv__law_is_r0) (ln_cons (ln_cons ln0)) takes_b (by rfl) (fun _ _ => rfl) (pa_csO (fun _ _ => rfl) (pe_od (sx_ix rfl hu1 (sx_slot (pe_var rfl (by (first | exact .inl rfl | exact .inr (.inl rfl) | exact .inr (.inr rfl))))) (sx_slot (pe_var rfl (by (first | exact .inl rfl | exact .inr (.inl rfl) | exact .inr (.inr rfl))))) (fun _ _ => rfl))) (pa_csO (fun _ _ => rfl) (pe_od (sx_ix rfl hu1 (sx_slot (pe_var rfl (by (first | exact .inl rfl | exact .inr (.inl rfl) | exact .inr (.inr rfl))))) (sx_slot (pe_var rfl (by (first | exact .inl rfl | exact .inr (.inl rfl) | exact .inr (.inr rfl))))) (fun _ _ => rfl))) pa_nlO)) (by rfl) (by decide))) (fun _ => rfl))))))) q_nil)) q_nil) (ss_cons (sk_if (st_val (sx_isi (t := .dict) (q := ⟨0, 0, 0, 0⟩) rfl rfl (fun _ _ => rfl) (sx_slot (pe_var rfl (by (first | exact .inl rfl | exact .inr (.inl rfl) | exact .inr (.inr rfl))))) (by rfl) n_isinstance (by rfl) n_dict) (fun _ => rfl)) (ss_cons (sk_ret (sx_and (sx_isi (t := .dict) (q := ⟨0, 0, 0, 0⟩) rfl rfl (fun _ _ => rfl) (sx_slot (pe_var rfl (by (first | exact .inl rfl | exact .inr (.inl rfl) | exact .inr (.inr rfl))))) (by rfl) n_isinstance (by rfl) n_dict) (sx_and (sx_cmp (pk_eq rfl) (op_eqD hu64) (sx_slot (pe_var rfl (by (first | exact .inl rfl | exact .inr (.inl rfl) | exact .inr (.inr rfl))))) (sx_slot (pe_var rfl (by (first | exact .inl rfl | exact .inr (.inl rfl) | exact .inr (.inr rfl))))) (nomark _)) (sx_and1 (q_all rfl rfl (by rfl) n_all (fun _ _ => rfl) (pe_od (sx_lc rfl hN (by simp [slotsOf]) (pi_val rfl (sx_var (pe_var rfl (by (first | exact .inl rfl | exact .inr (.inl rfl) | exact .inr (.inr rfl)))))) (blkOk_by (by first | rfl | decide +kernel)) (fun _ _ _ _ _ => (nm_pg hN (by (first | exact ⟨rfl, .inl rfl, .inl rfl⟩ | exact ⟨rfl, .inl rfl, .inr rfl⟩ | exact ⟨rfl, .inr rfl, .inl rfl⟩)))) (fun _ _ _ _ _ => q_pts0) (fun _ _ _ _ _ => (sx_call (c__law_is_r0.s hr lv__law_is_r0) (ln_cons (ln_cons ln0)) takes_b (by rfl) (fun _ _ => rfl) (pa_csO (fun _ _ => rfl) (pe_od (sx_ix rfl hu1 (sx_slot (pe_var rfl (by (first | exact .inl rfl | exact .inr (.inl rfl) | exact .inr (.inr rfl))))) (sx_slot (pe_var rfl (by (first | exact .inl rfl | exact .inr (.inl rfl) | exact .inr (.inr rfl))))) (fun _ _ => rfl))) (pa_csO (fun _ _ => rfl) (pe_od (sx_ix rfl hu1 (sx_slot (pe_var rfl (by (first | exact .inl rfl | exact .inr (.inl rfl) | exact .inr (.inr rfl))))) (sx_slot (pe_var rfl (by (first | exact .inl rfl | exact .inr (.inl rfl) | exact .inr (.inr rfl))))) (fun _ _ => rfl))) pa_nlO)) (by rfl) (by decide))) (fun _ => rfl)))))))) q_nil) q_nil) (ss_cons (sk_ret (sx_and (sx_cmp (pk_eq rfl) (op_eqD hu64) (pe_od (sx_isi (t := .bool) (q := ⟨0, 0, 0, 0⟩) rfl rfl (fun _ _ => rfl) (sx_slot (pe_var rfl (by (first | exact .inl rfl | exact .inr (.inl rfl) | exact .inr (.inr rfl))))) (by rfl) n_isinstance (by rfl) n_bool)) (pe_od (sx_isi (t := .bool) (q := ⟨0, 0, 0, 0⟩) rfl rfl (fun _ _ => rfl) (sx_slot (pe_var rfl (by (first | exact .inl rfl | exact .inr (.inl rfl) | exact .inr (.inr rfl))))) (by rfl) n_isinstance (by rfl) n_bool)) (nomark _)) (sx_and1 (sx_cmp (pk_eq rfl) (op_eqD hu64) (sx_slot (pe_var rfl (by (first | exact .inl rfl | exact .inr (.inl rfl) | exact .inr (.inr rfl))))) (sx_slot (pe_var rfl (by (first | exact .inl rfl | exact .inr (.inl rfl) | exact .inr (.inr rfl))))) (nomark _))))) q_nil)))
theorem w__law_is_r2 {f : Addr} (n_all : mg "all" = none) (n_bool : mg "bool" = none) (n_dict : mg "dict" = none) (n_isinstance : mg "isinstance" = none) (n_len : mg "len" = none) (n_list : mg "list" = none) (n_range : mg "range" = none) (n_tuple : mg "tuple" = none) (c__law_is_r1 : Cal P w K mg base cm 2 "_law_is" 2 m__law_is_r1) (cdv : Value) (hcv : CodeIs K f cdv) (A : Around) (outer : List PySem.Env) (s : Shared) (H : Hp) (E : XK) (hr : Room 2 (A.deeper (envOfC Hd.d__law_is.qual Hd.d__law_is.scope s.heap.objs.size f cdv))) :
    PSs (cxOf (L2.CX P w) P w K mg base N__law_is_r2 Hd.d__law_is.qual Hd.d__law_is.scope f cdv A outer s H E) Hd.d__law_is.body (tS ⟨K, cm⟩ (fun cls d _ H => E cls d H) f__law_is_r2.keeps f__law_is_r2.body) := by
  have hN : N__law_is_r2.Nodup := by decide
  have hu65 : (A.deeper (envOfC Hd.d__law_is.qual Hd.d__law_is.scope s.heap.objs.size f cdv)).units + 65 < cLine := by have := hr.un; omega
  have hu64 : (A.deeper (envOfC Hd.d__law_is.qual Hd.d__law_is.scope s.heap.objs.size f cdv)).units + 64 < cLine := by omega
  have hu1 : (A.deeper (envOfC Hd.d__law_is.qual Hd.d__law_is.scope s.heap.objs.size f cdv)).units + 1 < cLine := by omega
  have lv__law_is_r1 : 2 ≤ 2 := by decide
  exact (ss_cons (sk_if (st_val (sx_isiT (ts := [.tuple, .list]) rfl (by decide) (fun _ _ => rfl) (sx_slot (pe_var rfl (by (first | exact .inl rfl | exact .inr (.inl rfl) | exact .inr (.inr rfl))))) (by rfl) n_isinstance (.cons (t := .tuple) rfl (by rfl) n_tuple (.cons (t := .list) rfl (by rfl) n_list .nil))) (fun _ => rfl)) (ss_cons (sk_if (PW.pt (sw_or (st_cmp (pk_ne rfl) (op_neD hu64) (pe_od (sx_isi (t := .tuple) (q := ⟨0, 0, 0, 0⟩) rfl rfl (fun _ _ => rfl) (sx_slot (pe_var rfl (by (first | exact .inl rfl | exact .inr (.inl rfl) | exact .inr (.inr rfl))))) (by rfl) n_isinstance (by rfl) n_tuple)) (pe_od (sx_isi (t := .tuple) (q := ⟨0, 0, 0, 0⟩) rfl rfl (fun _ _ => rfl) (sx_slot (pe_var rfl (by (first | exact .inl rfl | exact .inr (.inl rfl) | exact .inr (.inr rfl))))) (by rfl) n_isinstance (by rfl) n_tuple)) (nomark _)) (sw_or1 (st_cmp (pk_ne rfl) (op_neD hu64) (pe_od (sx_isi (t := .list) (q := ⟨0, 0, 0, 0⟩) rfl rfl (fun _ _ => rfl) (sx_slot (pe_var rfl (by (first | exact .inl rfl | exact .inr (.inl rfl) | exact .inr (.inr rfl))))) (by rfl) n_isinstance (by rfl) n_list)) (pe_od (sx_isi (t := .list) (q := ⟨0, 0, 0, 0⟩) rfl rfl (fun _ _ => rfl) (sx_slot (pe_var rfl (by (first | exact .inl rfl | exact .inr (.inl rfl) | exact .inr (.inr rfl))))) (by rfl) n_isinstance (by rfl) n_list)) (nomark _))))) (ss_cons (sk_ret q_bl) q_nil) q_nil) (ss_cons (sk_ret (sx_and (sx_cmp (pk_eq rfl) (op_eqD hu64) (pe_od (q_len rfl (by rfl) n_len (fun _ _ => rfl) (sx_slot (pe_var rfl (by (first | exact .inl rfl | exact .inr (.inl rfl) | exact .inr (.inr rfl))))))) (pe_od (q_len rfl (by rfl) n_len (fun _ _ => rfl) (sx_slot (pe_var rfl (by (first | exact .inl rfl | exact .inr (.inl rfl) | exact .inr (.inr rfl))))))) (nomark _)) (sx_and1 (q_all rfl rfl (by rfl) n_all (fun _ _ => rfl) (pe_od (sx_lc rfl hN (by simp [slotsOf]) (pi_rng1 (by rfl) n_range (fun _ _ => rfl) (pa_cs (fun _ _ => rfl) (q_len rfl (by rfl) n_len (fun _ _ => rfl) (sx_slot (pe_var rfl (by (first | exact .inl rfl | exact .inr (.inl rfl) | exact .inr (.inr rfl)))))) pa_nl)) (blkOk_by (by first | rfl | decide +kernel)) (fun _ _ _ _ _ => (nm_pg hN (by (first | exact ⟨rfl, .inl rfl, .inl rfl⟩ | exact ⟨rfl, .inl rfl, .inr rfl⟩ | exact ⟨rfl, .inr rfl, .inl rfl⟩)))) (fun _ _ _ _ _ => q_pts0) (fun _ _ _ _ _ => (sx_call (c__law_is_r1.s hr lv__law_is_r1) (ln_cons (ln_cons ln0)) takes_b (by rfl) (fun _ _ => rfl) (pa_csO (fun _ _ => rfl) (pe_od (sx_ix rfl hu1 (sx_slot (pe_var rfl (by (first | exact .inl rfl | exact .inr (.inl rfl) | exact .inr (.inr rfl))))) (sx_slot (pe_var rfl (by (first | exact .inl rfl | exact .inr (.inl rfl) | exact .inr (.inr rfl))))) (fun _ _ => rfl))) (pa_csO (fun _ _ => rfl) (pe_od (sx_ix rfl hu1 (sx_slot (pe_var rfl (by (first | exact .inl rfl | exact .inr (.inl rfl) | exact .inr (.inr rfl))))) (sx_slot (pe_var rfl (by (first | exact .inl rfl | exact .inr (.inl rfl) | exact .inr (.inr rfl))))) (fun _ _ => rfl))) pa_nlO)) (by rfl) (by decide))) (fun _ => rfl))))))) q_nil)) q_nil) (ss_cons (sk_if (st_val (sx_isi (t := .dict) (q := ⟨0, 0, 0, 0⟩) rfl rfl (fun _ _ => rfl) (sx_slot (pe_var rfl (by (first | exact .inl rfl | exact .inr (.inl rfl) | exact .inr (.inr rfl))))) (by rfl) n_isinstance (by rfl) n_dict) (fun _ => rfl)) (ss_cons (sk_ret (sx_and (sx_isi (t := .dict) (q := ⟨0, 0, 0, 0⟩) rfl rfl (fun _ _ => rfl) (sx_slot (pe_var rfl (by (first | exact .inl rfl | exact .inr (.inl rfl) | exact .inr (.inr rfl))))) (by rfl) n_isinstance (by rfl) n_dict) (sx_and (sx_cmp (pk_eq rfl) (op_eqD hu64) (sx_slot (pe_var rfl (by (first | exact .inl rfl | exact .inr (.inl rfl) | exact .inr (.inr rfl))))) (sx_slot (pe_var rfl (by (first | exact .inl rfl | exact .inr (.inl rfl) | exact .inr (.inr rfl))))) (nomark _)) (sx_and1 (q_all rfl rfl (by rfl) n_all (fun _ _ => rfl) (pe_od (sx_lc rfl hN (by simp [slotsOf]) (pi_val rfl (sx_var (pe_var rfl (by (first | exact .inl rfl | exact .inr (.inl rfl) | exact .inr (.inr rfl)))))) (blkOk_by (by first | rfl | decide +kernel)) (fun _ _ _ _ _ => (nm_pg hN (by (first | exact ⟨rfl, .inl rfl, .inl rfl⟩ | exact ⟨rfl, .inl rfl, .inr rfl⟩ | exact ⟨rfl, .inr rfl, .inl rfl⟩)))) (fun _ _ _ _ _ => q_pts0) (fun _ _ _ _ _ => (sx_call (c__law_is_r1.s hr lv__law_is_r1) (ln_cons (ln_cons ln0)) takes_b (by rfl) (fun _ _ => rfl) (pa_csO (fun _ _ => rfl) (pe_od (sx_ix rfl hu1 (sx_slot (pe_var rfl (by (first | exact .inl rfl | exact .inr (.inl rfl) | exact .inr (.inr rfl))))) (sx_slot (pe_var rfl (by (first | exact .inl rfl | exact .inr (.inl rfl) | exact .inr (.inr rfl))))) (fun _ _ => rfl))) (pa_csO (fun _ _ => rfl) (pe_od (sx_ix rfl hu1 (sx_slot (pe_var rfl (by (first | exact .inl rfl | exact .inr (.inl rfl) | exact .inr (.inr rfl))))) (sx_slot (pe_var rfl (by (first | exact .inl rfl | exact .inr (.inl rfl) | exact .inr (.inr rfl))))) (fun _ _ => rfl))) pa_nlO)) (by rfl) (by decide))) (fun _ => rfl)))))))) q_nil) q_nil) (ss_cons (sk_ret (sx_and (sx_cmp (pk_eq rfl) (op_eqD hu64) (pe_od (sx_isi (t := .bool) (q := ⟨0, 0, 0, 0⟩) rfl rfl (fun _ _ => rfl) (sx_slot (pe_var rfl (by (first | exact .inl rfl | exact .inr (.inl rfl) | exact .inr (.inr rfl))))) (by rfl) n_isinstance (by rfl) n_bool)) (pe_od (sx_isi (t := .bool) (q := ⟨0, 0, 0, 0⟩) rfl rfl (fun _ _ => rfl) (sx_slot (pe_var rfl (by (first | exact .inl rfl | exact .inr (.inl rfl) | exact .inr (.inr rfl))))) (by rfl) n_isinstance (by rfl) n_bool)) (nomark _)) (sx_and1 (sx_cmp (pk_eq rfl) (op_eqD hu64) (sx_slot (pe_var rfl (by (first | exact .inl rfl | exact .inr (.inl rfl) | exact .inr (.inr rfl))))) (sx_slot (pe_var rfl (by (first | exact .inl rfl | exact .inr (.inl rfl) | exact .inr (.inr rfl))))) (nomark _))))) q_nil)))
theorem w__law_is_r3 {f : Addr} (n_all : mg "all" = none) (n_bool : mg "bool" = none) (n_dict : mg "dict" = none) (n_isinstance : mg "isinstance" = none) (n_len : mg "len" = none) (n_list : mg "list" = none) (n_range : mg "range" = none) (n_tuple : mg "tuple" = none) (c__law_is_r2 : Cal P w K mg base cm 3 "_law_is" 2 m__law_is_r2) (cdv : Value) (hcv : CodeIs K f cdv) (A : Around) (outer : List PySem.Env) (s : Shared) (H : Hp) (E : XK) (hr : Room 3 (A.deeper (envOfC Hd.d__law_is.qual Hd.d__law_is.scope s.heap.objs.size f cdv))) :
    PSs (cxOf (L2.CX P w) P w K mg base N__law_is_r3 Hd.d__law_is.qual Hd.d__law_is.scope f cdv A outer s H E) Hd.d__law_is.body (tS ⟨K, cm⟩ (fun cls d _ H => E cls d H) f__law_is_r3.keeps f__law_is_r3.body) := by
  have hN : N__law_is_r3.Nodup := by decide
  have hu65 : (A.deeper (envOfC Hd.d__law_is.qual Hd.d__law_is.scope s.heap.objs.size f cdv)).units + 65 < cLine := by have := hr.un; omega
  have hu64 : (A.deeper (envOfC Hd.d__law_is.qual Hd.d__law_is.scope s.heap.objs.size f cdv)).units + 64 < cLine := by omega
  have hu1 : (A.deeper (envOfC Hd.d__law_is.qual Hd.d__law_is.scope s.heap.objs.size f cdv)).units + 1 < cLine := by omega
  have lv__law_is_r2 : 3 ≤ 3 := by decide
  exact (ss_cons (sk_if (st_val (sx_isiT (ts := [.tuple, .list]) rfl (by decide) (fun _ _ => rfl) (sx_slot (pe_var rfl (by (first | exact .inl rfl | exact .inr (.inl rfl) | exact .inr (.inr rfl))))) (by rfl) n_isinstance (.cons (t := .tuple) rfl (by rfl) n_tuple (.cons (t := .list) rfl (by rfl) n_list .nil))) (fun _ => rfl)) (ss_cons (sk_if (PW.pt (sw_or (st_cmp (pk_ne rfl) (op_neD hu64) (pe_od (sx_isi (t := .tuple) (q := ⟨0, 0, 0, 0⟩) rfl rfl (fun _ _ => rfl) (sx_slot (pe_var rfl (by (first | exact .inl rfl | exact .inr (.inl rfl) | exact .inr (.inr rfl))))) (by rfl) n_isinstance (by rfl) n_tuple)) (pe_od (sx_isi (t := .tuple) (q := ⟨0, 0, 0, 0⟩) rfl rfl (fun _ _ => rfl) (sx_slot (pe_var rfl (by (first | exact .inl rfl | exact .inr (.inl rfl) | exact .inr (.inr rfl))))) (by rfl) n_isinstance (by rfl) n_tuple)) (nomark _)) (sw_or1 (st_cmp (pk_ne rfl) (op_neD hu64) (pe_od (sx_isi (t := .list) (q := ⟨0, 0, 0, 0⟩) rfl rfl (fun _ _ => rfl) (sx_slot (pe_var rfl (by (first | exact .inl rfl | exact .inr (.inl rfl) | exact .inr (.inr rfl))))) (by rfl) n_isinstance (by rfl) n_list)) (pe_od (sx_isi (t := .list) (q := ⟨0, 0, 0, 0⟩) rfl rfl (fun _ _ => rfl) (sx_slot (pe_var rfl (by (first | exact .inl rfl | exact .inr (.inl rfl) | exact .inr (.inr rfl))))) (by rfl) n_isinstance (by rfl) n_list)) (nomark _))))) (ss_cons (sk_ret q_bl) q_nil) q_nil) (ss_cons (sk_ret (sx_and (sx_cmp (pk_eq rfl) (op_eqD hu64) (pe_od (q_len rfl (by rfl) n_len (fun _ _ => rfl) (sx_slot (pe_var rfl (by (first | exact .inl rfl | exact .inr (.inl rfl) | exact .inr (.inr rfl))))))) (pe_od (q_len rfl (by rfl) n_len (fun _ _ => rfl) (sx_slot (pe_var rfl (by (first | exact .inl rfl | exact .inr (.inl rfl) | exact .inr (.inr rfl))))))) (nomark _)) (sx_and1 (q_all rfl rfl (by rfl) n_all (fun _ _ => rfl) (pe_od (sx_lc rfl hN (by simp [slotsOf]) (pi_rng1 (by rfl) n_range (fun _ _ => rfl) (pa_cs (fun _ _ => rfl) (q_len rfl (by rfl) n_len (fun _ _ => rfl) (sx_slot (pe_var rfl (by (first | exact .inl rfl | exact .inr (.inl rfl) | exact .inr (.inr rfl)))))) pa_nl)) (blkOk_by (by first | rfl | decide +kernel)) (fun _ _ _ _ _ => (nm_pg hN (by (first | exact ⟨rfl, .inl rfl, .inl rfl⟩ | exact ⟨rfl, .inl rfl, .inr rfl⟩ | exact ⟨rfl, .inr rfl, .inl rfl⟩)))) (fun _ _ _ _ _ => q_pts0) (fun _ _ _ _ _ => (sx_call (c__law_is_r2.s hr lv__law_is_r2) (ln_cons (ln_cons ln0)) takes_b (by rfl) (fun _ _ => rfl) (pa_csO (fun _ _ => rfl) (pe_od (sx_ix rfl hu1 (sx_slot (pe_var rfl (by (first | exact .inl rfl | exact .inr (.inl rfl) | exact .inr (.inr rfl))))) (sx_slot (pe_var rfl (by (first | exact .inl rfl | exact .inr (.inl rfl) | exact .inr (.inr rfl))))) (fun _ _ => rfl))) (pa_csO (fun _ _ => rfl) (pe_od (sx_ix rfl hu1 (sx_slot (pe_var rfl (by (first | exact .inl rfl | exact .inr (.inl rfl) | exact .inr (.inr rfl))))) (sx_slot (pe_var rfl (by (first | exact .inl rfl | exact .inr (.inl rfl) | exact .inr (.inr rfl))))) (fun _ _ => rfl))) pa_nlO)) (by rfl) (by decide))) (fun _ => rfl))))))) q_nil)) q_nil) (ss_cons (sk_if (st_val (sx_isi (t := .dict) (q := ⟨0, 0, 0, 0⟩) rfl rfl (fun _ _ => rfl) (sx_slot (pe_var rfl (by (first | exact .inl rfl | exact .inr (.inl rfl) | exact .inr (.inr rfl))))) (by rfl) n_isinstance (by rfl) n_dict) (fun _ => rfl)) (ss_cons (sk_ret (sx_and (sx_isi (t := .dict) (q := ⟨0, 0, 0, 0⟩) rfl rfl (fun _ _ => rfl) (sx_slot (pe_var rfl (by (first | exact .inl rfl | exact .inr (.inl rfl) | exact .inr (.inr rfl))))) (by rfl) n_isinstance (by rfl) n_dict) (sx_and (sx_cmp (pk_eq rfl) (op_eqD hu64) (sx_slot (pe_var rfl (by (first | exact .inl rfl | exact .inr (.inl rfl) | exact .inr (.inr rfl))))) (sx_slot (pe_var rfl (by (first | exact .inl rfl | exact .inr (.inl rfl) | exact .inr (.inr rfl))))) (nomark _)) (sx_and1 (q_all rfl rfl (by rfl) n_all (fun _ _ => rfl) (pe_od (sx_lc rfl hN (by simp [slotsOf]) (pi_val rfl (sx_var (pe_var rfl (by (first | exact .inl rfl | exact .inr (.inl rfl) | exact .inr (.inr rfl)))))) (blkOk_by (by first | rfl | decide +kernel)) (fun _ _ _ _ _ => (nm_pg hN (by (first | exact ⟨rfl, .inl rfl, .inl rfl⟩ | exact ⟨rfl, .inl rfl, .inr rfl⟩ | exact ⟨rfl, .inr rfl, .inl rfl⟩)))) (fun _ _ _ _ _ => q_pts0) (fun _ _ _ _ _ => (sx_call (c__law_is_r2.s hr lv__law_is_r2) (ln_cons (ln_cons ln0)) takes_b (by rfl) (fun _ _ => rfl) (pa_csO (fun _ _ => rfl) (pe_od (sx_ix rfl hu1 (sx_slot (pe_var rfl (by (first | exact .inl rfl | exact .inr (.inl rfl) | exact .inr (.inr rfl))))) (sx_slot (pe_var rfl (by (first | exact .inl rfl | exact .inr (.inl rfl) | exact .inr (.inr rfl))))) (fun _ _ => rfl))) (pa_csO (fun _ _ => rfl) (pe_od (sx_ix rfl hu1 (sx_slot (pe_var rfl (by (first | exact .inl rfl | exact .inr (.inl rfl) | exact .inr (.inr rfl))))) (sx_slot (pe_var rfl (by (first | exact .inl rfl | exact .inr (.inl rfl) | exact .inr (.inr rfl))))) (fun _ _ => rfl))) pa_nlO)) (by rfl) (by decide))) (fun _ => rfl)))))))) q_nil) q_nil) (ss_cons (sk_ret (sx_and (sx_cmp (pk_eq rfl) (op_eqD hu64) (pe_od (sx_isi (t := .bool) (q := ⟨0, 0, 0, 0⟩) rfl rfl (fun _ _ => rfl) (sx_slot (pe_var rfl (by (first | exact .inl rfl | exact .inr (.inl rfl) | exact .inr (.inr rfl))))) (by rfl) n_isinstance (by rfl) n_bool)) (pe_od (sx_isi (t := .bool) (q := ⟨0, 0, 0, 0⟩) rfl rfl (fun _ _ => rfl) (sx_slot (pe_var rfl (by (first | exact .inl rfl | exact .inr (.inl rfl) | exact .inr (.inr rfl))))) (by rfl) n_isinstance (by rfl) n_bool)) (nomark _)) (sx_and1 (sx_cmp (pk_eq rfl) (op_eqD hu64) (sx_slot (pe_var rfl (by (first | exact .inl rfl | exact .inr (.inl rfl) | exact .inr (.inr rfl))))) (sx_slot (pe_var rfl (by (first | exact .inl rfl | exact .inr (.inl rfl) | exact .inr (.inr rfl))))) (nomark _))))) q_nil)))
theorem w__law_is_r4 {f : Addr} (n_all : mg "all" = none) (n_bool : mg "bool" = none) (n_dict : mg "dict" = none) (n_isinstance : mg "isinstance" = none) (n_len : mg "len" = none) (n_list : mg "list" = none) (n_range : mg "range" = none) (n_tuple : mg "tuple" = none) (c__law_is_r3 : Cal P w K mg base cm 4 "_law_is" 2 m__law_is_r3) (cdv : Value) (hcv : CodeIs K f cdv) (A : Around) (outer : List PySem.Env) (s : Shared) (H : Hp) (E : XK) (hr : Room 4 (A.deeper (envOfC Hd.d__law_is.qual Hd.d__law_is.scope s.heap.objs.size f cdv))) :
    PSs (cxOf (L2.CX P w) P w K mg base N__law_is_r4 Hd.d__law_is.qual Hd.d__law_is.scope f cdv A outer s H E) Hd.d__law_is.body (tS ⟨K, cm⟩ (fun cls d _ H => E cls d H) f__law_is_r4.keeps f__law_is_r4.body) := by
  have hN : N__law_is_r4.Nodup := by decide
  have hu65 : (A.deeper (envOfC Hd.d__law_is.qual Hd.d__law_is.scope s.heap.objs.size f cdv)).units + 65 < cLine := by have := hr.un; omega
  have hu64 : (A.deeper (envOfC Hd.d__law_is.qual Hd.d__law_is.scope s.heap.objs.size f cdv)).units + 64 < cLine := by omega
  have hu1 : (A.deeper (envOfC Hd.d__law_is.qual Hd.d__law_is.scope s.heap.objs.size f cdv)).units + 1 < cLine := by omega
  have lv__law_is_r3 : 4 ≤ 4 := by decide
  exact (ss_cons (sk_if (st_val (sx_isiT (ts := [.tuple, .list]) rfl (by decide) (fun _ _ => rfl) (sx_slot (pe_var rfl (by (first | exact .inl rfl | exact .inr (.inl rfl) | exact .inr (.inr rfl))))) (by rfl) n_isinstance (.cons (t := .tuple) rfl (by rfl) n_tuple (.cons (t := .list) rfl (by rfl) n_list .nil))) (fun _ => rfl)) (ss_cons (sk_if (PW.pt (sw_or (st_cmp (pk_ne rfl) (op_neD hu64) (pe_od (sx_isi (t := .tuple) (q := ⟨0, 0, 0, 0⟩) rfl rfl (fun _ _ => rfl) (sx_slot (pe_var rfl (by (first | exact .inl rfl | exact .inr (.inl rfl) | exact .inr (.inr rfl))))) (by rfl) n_isinstance (by rfl) n_tuple)) (pe_od (sx_isi (t := .tuple) (q := ⟨0, 0, 0, 0⟩) rfl rfl (fun _ _ => rfl) (sx_slot (pe_var rfl (by (first | exact .inl rfl | exact .inr (.inl rfl) | exact .inr (.inr rfl))))) (by rfl) n_isinstance (by rfl) n_tuple)) (nomark _)) (sw_or1 (st_cmp (pk_ne rfl) (op_neD hu64) (pe_od (sx_isi (t := .list) (q := ⟨0, 0, 0, 0⟩) rfl rfl (fun _ _ => rfl) (sx_slot (pe_var rfl (by (first | exact .inl rfl | exact .inr (.inl rfl) | exact .inr (.inr rfl))))) (by rfl) n_isinstance (by rfl) n_list)) (pe_od (sx_isi (t := .list) (q := ⟨0, 0, 0, 0⟩) rfl rfl (fun _ _ => rfl) (sx_slot (pe_var rfl (by (first | exact .inl rfl | exact .inr (.inl rfl) | exact .inr (.inr rfl))))) (by rfl) n_isinstance (by rfl) n_list)) (nomark _))))) (ss_cons (sk_ret q_bl) q_nil) q_nil) (ss_cons (sk_ret (sx_and (sx_cmp (pk_eq rfl) (op_eqD hu64) (pe_od (q_len rfl (by rfl) n_len (fun _ _ => rfl) (sx_slot (pe_var rfl (by (first | exact .inl rfl | exact .inr (.inl rfl) | exact .inr (.inr rfl))))))) (pe_od (q_len rfl (by rfl) n_len (fun _ _ => rfl) (sx_slot (pe_var rfl (by (first | exact .inl rfl | exact .inr (.inl rfl) | exact .inr (.inr rfl))))))) (nomark _)) (sx_and1 (q_all rfl rfl (by rfl) n_all (fun _ _ => rfl) (pe_od (sx_lc rfl hN (by simp [slotsOf]) (pi_rng1 (by rfl) n_range (fun _ _ => rfl) (pa_cs (fun _ _ => rfl) (q_len rfl (by rfl) n_len (fun _ _ => rfl) (sx_slot (pe_var rfl (by (first | exact .inl rfl | exact .inr (.inl rfl) | exact .inr (.inr rfl)))))) pa_nl)) (blkOk_by (by first | rfl | decide +kernel)) (fun _ _ _ _ _ => (nm_pg hN (by (first | exact ⟨rfl, .inl rfl, .inl rfl⟩ | exact ⟨rfl, .inl rfl, .inr rfl⟩ | exact ⟨rfl, .inr rfl, .inl rfl⟩)))) (fun _ _ _ _ _ => q_pts0) (fun _ _ _ _ _ => (sx_call (c__law_is_r3.s hr lv__law_is_r3) (ln_cons (ln_cons ln0)) takes_b (by rfl) (fun _ _ => rfl) (pa_csO (fun _ _ => rfl) (pe_od (sx_ix rfl hu1 (sx_slot (pe_var rfl (by (first | exact .inl rfl | exact .inr (.inl rfl) | exact .inr (.inr rfl))))) (sx_slot (pe_var rfl (by (first | exact .inl rfl | exact .inr (.inl rfl) | exact .inr (.inr rfl))))) (fun _ _ => rfl))) (pa_csO (fun _ _ => rfl) (pe_od (sx_ix rfl hu1 (sx_slot (pe_var rfl (by (first | exact .inl rfl | exact .inr (.inl rfl) | exact .inr (.inr rfl))))) (sx_slot (pe_var rfl (by (first | exact .inl rfl | exact .inr (.inl rfl) | exact .inr (.inr rfl))))) (fun _ _ => rfl))) pa_nlO)) (by rfl) (by decide))) (fun _ => rfl))))))) q_nil)) q_nil) (ss_cons (sk_if (st_val (sx_isi (t := .dict) (q := ⟨0, 0, 0, 0⟩) rfl rfl (fun _ _ => rfl) (sx_slot (pe_var rfl (by (first | exact .inl rfl | exact .inr (.inl rfl) | exact .inr (.inr rfl))))) (by rfl) n_isinstance (by rfl) n_dict) (fun _ => rfl)) (ss_cons (sk_ret (sx_and (sx_isi (t := .dict) (q := ⟨0, 0, 0, 0⟩) rfl rfl (fun _ _ => rfl) (sx_slot (pe_var rfl (by (first | exact .inl rfl | exact .inr (.inl rfl) | exact .inr (.inr rfl))))) (by rfl) n_isinstance (by rfl) n_dict) (sx_and (sx_cmp (pk_eq rfl) (op_eqD hu64) (sx_slot (pe_var rfl (by (first | exact .inl rfl | exact .inr (.inl rfl) | exact .inr (.inr rfl))))) (sx_slot (pe_var rfl (by (first | exact .inl rfl | exact .inr (.inl rfl) | exact .inr (.inr rfl))))) (nomark _)) (sx_and1 (q_all rfl rfl (by rfl) n_all (fun _ _ => rfl) (pe_od (sx_lc rfl hN (by simp [slotsOf]) (pi_val rfl (sx_var (pe_var rfl (by (first | exact .inl rfl | exact .inr (.inl rfl) | exact .inr (.inr rfl)))))) (blkOk_by (by first | rfl | decide +kernel)) (fun _ _ _ _ _ => (nm_pg hN (by (first | exact ⟨rfl, .inl rfl, .inl rfl⟩ | exact ⟨rfl, .inl rfl, .inr rfl⟩ | exact ⟨rfl, .inr rfl, .inl rfl⟩)))) (fun _ _ _ _ _ => q_pts0) (fun _ _ _ _ _ => (sx_call (c__law_is_r3.s hr lv__law_is_r3) (ln_cons (ln_cons ln0)) takes_b (by rfl) (fun _ _ => rfl) (pa_csO (fun _ _ => rfl) (pe_od (sx_ix rfl hu1 (sx_slot (pe_var rfl (by (first | exact .inl rfl | exact .inr (.inl rfl) | exact .inr (.inr rfl))))) (sx_slot (pe_var rfl (by (first | exact .inl rfl | exact .inr (.inl rfl) | exact .inr (.inr rfl))))) (fun _ _ => rfl))) (pa_csO (fun _ _ => rfl) (pe_od (sx_ix rfl hu1 (sx_slot (pe_var rfl (by (first | exact .inl rfl | exact .inr (.inl rfl) | exact .inr (.inr rfl))))) (sx_slot (pe_var rfl (by (first | exact .inl rfl | exact .inr (.inl rfl) | exact .inr (.inr rfl))))) (fun _ _ => rfl))) pa_nlO)) (by rfl) (by decide))) (fun _ => rfl)))))))) q_nil) q_nil) (ss_cons (sk_ret (sx_and (sx_cmp (pk_eq rfl) (op_eqD hu64) (pe_od (sx_isi (t := .bool) (q := ⟨0, 0, 0, 0⟩) rfl rfl (fun _ _ => rfl) (sx_slot (pe_var rfl (by (first | exact .inl rfl | exact .inr (.inl rfl) | exact .inr (.inr rfl))))) (by rfl) n_isinstance (by rfl) n_bool)) (pe_od (sx_isi (t := .bool) (q := ⟨0, 0, 0, 0⟩) rfl rfl (fun _ _ => rfl) (sx_slot (pe_var rfl (by (first | exact .inl rfl | exact .inr (.inl rfl) | exact .inr (.inr rfl))))) (by rfl) n_isinstance (by rfl) n_bool)) (nomark _)) (sx_and1 (sx_cmp (pk_eq rfl) (op_eqD hu64) (sx_slot (pe_var rfl (by (first | exact .inl rfl | exact .inr (.inl rfl) | exact .inr (.inr rfl))))) (sx_slot (pe_var rfl (by (first | exact .inl rfl | exact .inr (.inl rfl) | exact .inr (.inr rfl))))) (nomark _))))) q_nil)))
theorem w__law_lots {f : Addr} (n_sorted : mg "sorted" = none) (cdv : Value) (hcv : CodeIs K f cdv) (A : Around) (outer : List PySem.Env) (s : Shared) (H : Hp) (E : XK) (hr : Room 0 (A.deeper (envOfC Hd.d__law_lots.qual Hd.d__law_lots.scope s.heap.objs.size f cdv))) :
    PSs (cxOf (L2.CX P w) P w K mg base N__law_lots Hd.d__law_lots.qual Hd.d__law_lots.scope f cdv A outer s H E) Hd.d__law_lots.body (tS ⟨K, cm⟩ (fun cls d _ H => E cls d H) f__law_lots.keeps f__law_lots.body) := by
  have hN : N__law_lots.Nodup := by decide
  have hu65 : (A.deeper (envOfC Hd.d__law_lots.qual Hd.d__law_lots.scope s.heap.objs.size f cdv)).units + 65 < cLine := by have := hr.un; omega
  have hu64 : (A.deeper (envOfC Hd.d__law_lots.qual Hd.d__law_lots.scope s.heap.objs.size f cdv)).units + 64 < cLine := by omega
  have hu1 : (A.deeper (envOfC Hd.d__law_lots.qual Hd.d__law_lots.scope s.heap.objs.size f cdv)).units + 1 < cLine := by omega
  exact (ss_cons (sk_set hN rfl (by first | exact .inl rfl | exact .inr rfl) rfl (sx_lst (pa_cs (fun _ _ => rfl) (sx_tup pa_nl) pa_nl)) (by rfl) (by decide)) (ss_cons (sk_for passes_c rfl (pi_val rfl (sx_var (pe_var rfl (by (first | exact .inl rfl | exact .inr (.inl rfl) | exact .inr (.inr rfl)))))) (nm_pg hN (by (first | exact ⟨rfl, .inl rfl, .inl rfl⟩ | exact ⟨rfl, .inl rfl, .inr rfl⟩ | exact ⟨rfl, .inr rfl, .inl rfl⟩))) (ss_cons (sk_set hN rfl (by first | exact .inl rfl | exact .inr rfl) rfl (sx_op (pk_add rfl) op_add3 (sx_slot (pe_var rfl (by (first | exact .inl rfl | exact .inr (.inl rfl) | exact .inr (.inr rfl))))) (pe_od (sx_lc rfl hN (by simp [slotsOf]) (pi_val rfl (sx_var (pe_var rfl (by (first | exact .inl rfl | exact .inr (.inl rfl) | exact .inr (.inr rfl)))))) (blkOk_by (by first | rfl | decide +kernel)) (fun _ _ _ _ _ => (nm_pg hN (by (first | exact ⟨rfl, .inl rfl, .inl rfl⟩ | exact ⟨rfl, .inl rfl, .inr rfl⟩ | exact ⟨rfl, .inr rfl, .inl rfl⟩)))) (fun _ _ _ _ _ => q_pts0) (fun _ _ _ _ _ => (sx_op (pk_add rfl) op_add3 (sx_slot (pe_var rfl (by (first | exact .inl rfl | exact .inr (.inl rfl) | exact .inr (.inr rfl))))) (pe_od (sx_tup (pa_cs (fun _ _ => rfl) (sx_var (pe_var rfl (by (first | exact .inl rfl | exact .inr (.inl rfl) | exact .inr (.inr rfl))))) pa_nl))))) (fun _ => rfl)))) (by rfl) (by decide)) q_nil) (fun _ => rfl) (by decide)) (ss_cons (sk_ret (q_sorted rfl hu65 (by rfl) n_sorted (fun _ _ => rfl) (sx_slot (pe_var rfl (by (first | exact .inl rfl | exact .inr (.inl rfl) | exact .inr (.inr rfl))))))) q_nil)))
theorem w__law_arrows {f : Addr} (n_enumerate : mg "enumerate" = none) (n_list : mg "list" = none) (n_range : mg "range" = none) (n_sorted : mg "sorted" = none) (n_tuple : mg "tuple" = none) (c__law_draw : Cal P w K mg base cm 1 "_law_draw" 2 m__law_draw) (c__law_shuffled : Cal P w K mg base cm 2 "_law_shuffled" 2 m__law_shuffled) (cdv : Value) (hcv : CodeIs K f cdv) (A : Around) (outer : List PySem.Env) (s : Shared) (H : Hp) (E : XK) (hr : Room 2 (A.deeper (envOfC Hd.d__law_arrows.qual Hd.d__law_arrows.scope s.heap.objs.size f cdv))) :
    PSs (cxOf (L2.CX P w) P w K mg base N__law_arrows Hd.d__law_arrows.qual Hd.d__law_arrows.scope f cdv A outer s H E) Hd.d__law_arrows.body (tS ⟨K, cm⟩ (fun cls d _ H => E cls d H) f__law_arrows.keeps f__law_arrows.body) := by
  have hN : N__law_arrows.Nodup := by decide
  have hu65 : (A.deeper (envOfC Hd.d__law_arrows.qual Hd.d__law_arrows.scope s.heap.objs.size f cdv)).units + 65 < cLine := by have := hr.un; omega
  have hu64 : (A.deeper (envOfC Hd.d__law_arrows.qual Hd.d__law_arrows.scope s.heap.objs.size f cdv)).units + 64 < cLine := by omega
  have hu1 : (A.deeper (envOfC Hd.d__law_arrows.qual Hd.d__law_arrows.scope s.heap.objs.size f cdv)).units + 1 < cLine := by omega
  have lv__law_draw : 1 ≤ 2 := by decide
  have lv__law_shuffled : 2 ≤ 2 := by decide
  exact (ss_cons (sk_parZ rfl hN rfl rfl (by decide) rfl rfl (fun _ _ => rfl) (fun _ _ => rfl) (sx_call (c__law_shuffled.s hr lv__law_shuffled) (ln_cons (ln_cons ln0)) takes_c (by rfl) (fun _ _ => rfl) (pa_csO (fun _ _ => rfl) (sx_slot (pe_var rfl (by (first | exact .inl rfl | exact .inr (.inl rfl) | exact .inr (.inr rfl))))) (pa_csO (fun _ _ => rfl) (pe_od (q_lrg1 rfl (by rfl) n_list (by rfl) n_range (fun _ _ => rfl) (sx_var (pe_var rfl (by (first | exact .inl rfl | exact .inr (.inl rfl) | exact .inr (.inr rfl))))))) pa_nlO)) (by rfl) (by decide)) (sx_lst pa_nl) (by rfl) (by decide)) (ss_cons (sk_setLc rfl hN rfl rfl (by first | rfl | with_unfolding_all rfl | kernel_rfl) (by decide) (by simp [slotsOf]) (pi_val rfl (sx_call (c__law_shuffled.s hr lv__law_shuffled) (ln_cons (ln_cons ln0)) takes_c (by rfl) (fun _ _ => rfl) (pa_csO (fun _ _ => rfl) (sx_slot (pe_var rfl (by (first | exact .inl rfl | exact .inr (.inl rfl) | exact .inr (.inr rfl))))) (pa_csO (fun _ _ => rfl) (pe_od (q_lrg1 rfl (by rfl) n_list (by rfl) n_range (fun _ _ => rfl) (sx_var (pe_var rfl (by (first | exact .inl rfl | exact .inr (.inl rfl) | exact .inr (.inr rfl))))))) pa_nlO)) (by rfl) (by decide))) (blkOk_by (by first | rfl | decide +kernel)) (fun _ _ _ _ _ => (nm_pg hN (by (first | exact ⟨rfl, .inl rfl, .inl rfl⟩ | exact ⟨rfl, .inl rfl, .inr rfl⟩ | exact ⟨rfl, .inr rfl, .inl rfl⟩)))) (fun _ _ _ _ _ => q_pts0) (fun _ _ _ _ _ => (sx_op (pk_add rfl) op_add3 (sx_slot (pe_var rfl (by (first | exact .inl rfl | exact .inr (.inl rfl) | exact .inr (.inr rfl))))) (sx_slot (pe_var rfl (by (first | exact .inl rfl | exact .inr (.inl rfl) | exact .inr (.inr rfl))))))) (fun _ => rfl)) (ss_cons (sk_set hN rfl (by first | exact .inl rfl | exact .inr rfl) rfl (sx_op (pk_add rfl) op_add3 (sx_slot (pe_var rfl (by (first | exact .inl rfl | exact .inr (.inl rfl) | exact .inr (.inr rfl))))) (sx_slot (pe_var rfl (by (first | exact .inl rfl | exact .inr (.inl rfl) | exact .inr (.inr rfl)))))) (by rfl) (by decide)) (ss_cons (sk_for passes_c rfl (pi_en rfl (by rfl) n_enumerate (fun _ _ => rfl) (pa_cs (fun _ _ => rfl) (sx_var (pe_var rfl (by (first | exact .inl rfl | exact .inr (.inl rfl) | exact .inr (.inr rfl))))) pa_nl)) (pg_tup rfl (nms_pgs hN (is := [7, 8]) ⟨(by (first | exact ⟨rfl, .inl rfl, .inl rfl⟩ | exact ⟨rfl, .inl rfl, .inr rfl⟩ | exact ⟨rfl, .inr rfl, .inl rfl⟩)), (by (first | exact ⟨rfl, .inl rfl, .inl rfl⟩ | exact ⟨rfl, .inl rfl, .inr rfl⟩ | exact ⟨rfl, .inr rfl, .inl rfl⟩)), trivial⟩) rfl rfl) (ss_cons (sk_for passes_c rfl (pi_val rfl (sx_sl rfl (sx_slot (pe_var rfl (by (first | exact .inl rfl | exact .inr (.inl rfl) | exact .inr (.inr rfl))))) (po_so (sx_op (pk_add rfl) op_add3 (sx_slot (pe_var rfl (by (first | exact .inl rfl | exact .inr (.inl rfl) | exact .inr (.inr rfl))))) (pe_od q_int))) po_no)) (nm_pg hN (by (first | exact ⟨rfl, .inl rfl, .inl rfl⟩ | exact ⟨rfl, .inl rfl, .inr rfl⟩ | exact ⟨rfl, .inr rfl, .inl rfl⟩))) (ss_cons (sk_if (st_cmp (pk_eq rfl) (op_eqD hu64) (pe_od (sx_call (c__law_draw.s hr lv__law_draw) (ln_cons (ln_cons ln0)) takes_c (by rfl) (fun _ _ => rfl) (pa_csO (fun _ _ => rfl) (sx_slot (pe_var rfl (by (first | exact .inl rfl | exact .inr (.inl rfl) | exact .inr (.inr rfl))))) (pa_csO (fun _ _ => rfl) (sx_slot (pe_var rfl (by (first | exact .inl rfl | exact .inr (.inl rfl) | exact .inr (.inr rfl))))) pa_nlO)) (by rfl) (by decide))) (pe_od q_int) (nomark _)) (ss_cons (sk_ex (sx_append (fun _ _ => rfl) (pe_var rfl (by (first | exact .inl rfl | exact .inr (.inl rfl) | exact .inr (.inr rfl)))) (sx_tup (pa_cs (fun _ _ => rfl) (sx_var (pe_var rfl (by (first | exact .inl rfl | exact .inr (.inl rfl) | exact .inr (.inr rfl))))) (pa_cs (fun _ _ => rfl) (sx_var (pe_var rfl (by (first | exact .inl rfl | exact .inr (.inl rfl) | exact .inr (.inr rfl))))) pa_nl))) (by rfl) (by rfl) (by rfl)) (by rfl)) q_nil) q_nil) q_nil) (fun _ => rfl) (by decide)) q_nil) (fun _ => rfl) (by decide)) (ss_cons (sk_ret (q_tuple rfl (by rfl) n_tuple (fun _ _ => rfl) (pe_od (q_sorted rfl hu65 (by rfl) n_sorted (fun _ _ => rfl) (sx_slot (pe_var rfl (by (first | exact .inl rfl | exact .inr (.inl rfl) | exact .inr (.inr rfl))))))))) q_nil)))))
theorem w__law_parents {f : Addr}  (cdv : Value) (hcv : CodeIs K f cdv) (A : Around) (outer : List PySem.Env) (s : Shared) (H : Hp) (E : XK) (hr : Room 0 (A.deeper (envOfC Hd.d__law_parents.qual Hd.d__law_parents.scope s.heap.objs.size f cdv))) :
    PSs (cxOf (L2.CX P w) P w K mg base N__law_parents Hd.d__law_parents.qual Hd.d__law_parents.scope f cdv A outer s H E) Hd.d__law_parents.body (tS ⟨K, cm⟩ (fun cls d _ H => E cls d H) f__law_parents.keeps f__law_parents.body) := by
  have hN : N__law_parents.Nodup := by decide
  have hu65 : (A.deeper (envOfC Hd.d__law_parents.qual Hd.d__law_parents.scope s.heap.objs.size f cdv)).units + 65 < cLine := by have := hr.un; omega
  have hu64 : (A.deeper (envOfC Hd.d__law_parents.qual Hd.d__law_parents.scope s.heap.objs.size f cdv)).units + 64 < cLine := by omega
  have hu1 : (A.deeper (envOfC Hd.d__law_parents.qual Hd.d__law_parents.scope s.heap.objs.size f cdv)).units + 1 < cLine := by omega
  exact (ss_cons (sk_ret (sx_lc rfl hN (by simp [slotsOf]) (pi_val rfl (sx_var (pe_var rfl (by (first | exact .inl rfl | exact .inr (.inl rfl) | exact .inr (.inr rfl)))))) (blkOk_by (by first | rfl | decide +kernel)) (fun _ _ _ _ _ => (pg_tup rfl (nms_pgs hN (is := [2, 3]) ⟨(by (first | exact ⟨rfl, .inl rfl, .inl rfl⟩ | exact ⟨rfl, .inl rfl, .inr rfl⟩ | exact ⟨rfl, .inr rfl, .inl rfl⟩)), (by (first | exact ⟨rfl, .inl rfl, .inl rfl⟩ | exact ⟨rfl, .inl rfl, .inr rfl⟩ | exact ⟨rfl, .inr rfl, .inl rfl⟩)), trivial⟩) rfl rfl)) (fun _ _ _ _ _ => (pts_one (st_cmp (pk_eq rfl) (op_eqD hu64) (sx_slot (pe_var rfl (by (first | exact .inl rfl | exact .inr (.inl rfl) | exact .inr (.inr rfl))))) (sx_slot (pe_var rfl (by (first | exact .inl rfl | exact .inr (.inl rfl) | exact .inr (.inr rfl))))) (nomark _)))) (fun _ _ _ _ _ => (sx_var (pe_var rfl (by (first | exact .inl rfl | exact .inr (.inl rfl) | exact .inr (.inr rfl)))))) (fun _ => rfl))) q_nil)
theorem w__law_has_ring {f : Addr} (n_any : mg "any" = none) (n_len : mg "len" = none) (n_list : mg "list" = none) (n_range : mg "range" = none) (c__law_parents : Cal P w K mg base cm 1 "_law_parents" 2 m__law_parents) (cdv : Value) (hcv : CodeIs K f cdv) (A : Around) (outer : List PySem.Env) (s : Shared) (H : Hp) (E : XK) (hr : Room 1 (A.deeper (envOfC Hd.d__law_has_ring.qual Hd.d__law_has_ring.scope s.heap.objs.size f cdv))) :
    PSs (cxOf (L2.CX P w) P w K mg base N__law_has_ring Hd.d__law_has_ring.qual Hd.d__law_has_ring.scope f cdv A outer s H E) Hd.d__law_has_ring.body (tS ⟨K, cm⟩ (fun cls d _ H => E cls d H) f__law_has_ring.keeps f__law_has_ring.body) := by
  have hN : N__law_has_ring.Nodup := by decide
  have hu65 : (A.deeper (envOfC Hd.d__law_has_ring.qual Hd.d__law_has_ring.scope s.heap.objs.size f cdv)).units + 65 < cLine := by have := hr.un; omega
  have hu64 : (A.deeper (envOfC Hd.d__law_has_ring.qual Hd.d__law_has_ring.scope s.heap.objs.size f cdv)).units + 64 < cLine := by omega
  have hu1 : (A.deeper (envOfC Hd.d__law_has_ring.qual Hd.d__law_has_ring.scope s.heap.objs.size f cdv)).units + 1 < cLine := by omega
  have lv__law_parents : 1 ≤ 1 := by decide
  exact (ss_cons (sk_set hN rfl (by first | exact .inl rfl | exact .inr rfl) rfl (q_lrg1 rfl (by rfl) n_list (by rfl) n_range (fun _ _ => rfl) (sx_op pk_mul op_mul2 (pe_od q_int) (sx_slot (pe_var rfl (by (first | exact .inl rfl | exact .inr (.inl rfl) | exact .inr (.inr rfl))))))) (by rfl) (by decide)) (ss_cons (sk_for passes_c rfl (pi_rng1 (by rfl) n_range (fun _ _ => rfl) (pa_cs (fun _ _ => rfl) (sx_op pk_mul op_mul2 (pe_od q_int) (sx_slot (pe_var rfl (by (first | exact .inl rfl | exact .inr (.inl rfl) | exact .inr (.inr rfl)))))) pa_nl)) (nm_pg hN (by (first | exact ⟨rfl, .inl rfl, .inl rfl⟩ | exact ⟨rfl, .inl rfl, .inr rfl⟩ | exact ⟨rfl, .inr rfl, .inl rfl⟩))) (ss_cons (sk_set hN rfl (by first | exact .inl rfl | exact .inr rfl) rfl (sx_lc rfl hN (by simp [slotsOf]) (pi_val rfl (sx_var (pe_var rfl (by (first | exact .inl rfl | exact .inr (.inl rfl) | exact .inr (.inr rfl)))))) (blkOk_by (by first | rfl | decide +kernel)) (fun _ _ _ _ _ => (nm_pg hN (by (first | exact ⟨rfl, .inl rfl, .inl rfl⟩ | exact ⟨rfl, .inl rfl, .inr rfl⟩ | exact ⟨rfl, .inr rfl, .inl rfl⟩)))) (fun _ _ _ _ _ => (pts_one (st_val (q_any rfl rfl (by rfl) n_any (fun _ _ => rfl) (pe_od (sx_lc rfl hN (by simp [slotsOf]) (pi_val rfl (sx_call (c__law_parents.s hr lv__law_parents) (ln_cons (ln_cons ln0)) takes_b (by rfl) (fun _ _ => rfl) (pa_csO (fun _ _ => rfl) (sx_slot (pe_var rfl (by (first | exact .inl rfl | exact .inr (.inl rfl) | exact .inr (.inr rfl))))) (pa_csO (fun _ _ => rfl) (sx_slot (pe_var rfl (by (first | exact .inl rfl | exact .inr (.inl rfl) | exact .inr (.inr rfl))))) pa_nlO)) (by rfl) (by decide))) (blkOk_by (by first | rfl | decide +kernel)) (fun _ _ _ _ _ => (nm_pg hN (by (first | exact ⟨rfl, .inl rfl, .inl rfl⟩ | exact ⟨rfl, .inl rfl, .inr rfl⟩ | exact ⟨rfl, .inr rfl, .inl rfl⟩)))) (fun _ _ _ _ _ => q_pts0) (fun _ _ _ _ _ => (sx_cmp (pk_inn rfl) (op_in3 hu65) (sx_slot (pe_var rfl (by (first | exact .inl rfl | exact .inr (.inl rfl) | exact .inr (.inr rfl))))) (sx_slot (pe_var rfl (by (first | exact .inl rfl | exact .inr (.inl rfl) | exact .inr (.inr rfl))))) (by with_unfolding_all rfl))) (fun _ => rfl)))) (fun _ => rfl)))) (fun _ _ _ _ _ => (sx_var (pe_var rfl (by (first | exact .inl rfl | exact .inr (.inl rfl) | exact .inr (.inr rfl)))))) (fun _ => rfl)) (by rfl) (by decide)) q_nil) (fun _ => rfl) (by decide)) (ss_cons (sk_ret (sx_cmp pk_gt op_gt (pe_od (q_len rfl (by rfl) n_len (fun _ _ => rfl) (sx_slot (pe_var rfl (by (first | exact .inl rfl | exact .inr (.inl rfl) | exact .inr (.inr rfl))))))) (pe_od q_int) (nomark _))) q_nil)))
theorem w__law_every {f : Addr} (n_len : mg "len" = none) (n_list : mg "list" = none) (n_range : mg "range" = none) (n_sorted : mg "sorted" = none) (c__law_has_ring : Cal P w K mg base cm 2 "_law_has_ring" 2 m__law_has_ring) (c__law_lots : Cal P w K mg base cm 1 "_law_lots" 1 m__law_lots) (cdv : Value) (hcv : CodeIs K f cdv) (A : Around) (outer : List PySem.Env) (s : Shared) (H : Hp) (E : XK) (hr : Room 2 (A.deeper (envOfC Hd.d__law_every.qual Hd.d__law_every.scope s.heap.objs.size f cdv))) :
    PSs (cxOf (L2.CX P w) P w K mg base N__law_every Hd.d__law_every.qual Hd.d__law_every.scope f cdv A outer s H E) Hd.d__law_every.body (tS ⟨K, cm⟩ (fun cls d _ H => E cls d H) f__law_every.keeps f__law_every.body) := by
  have hN : N__law_every.Nodup := by decide
  have hu65 : (A.deeper (envOfC Hd.d__law_every.qual Hd.d__law_every.scope s.heap.objs.size f cdv)).units + 65 < cLine := by have := hr.un; omega
  have hu64 : (A.deeper (envOfC Hd.d__law_every.qual Hd.d__law_every.scope s.heap.objs.size f cdv)).units + 64 < cLine := by omega
  have hu1 : (A.deeper (envOfC Hd.d__law_every.qual Hd.d__law_every.scope s.heap.objs.size f cdv)).units + 1 < cLine := by omega
  have lv__law_lots : 1 ≤ 2 := by decide
  have lv__law_has_ring : 2 ≤ 2 := by decide
  exact (ss_cons (sk_parZ rfl hN rfl rfl (by decide) rfl rfl (fun _ _ => rfl) (fun _ _ => rfl) (q_lrg1 rfl (by rfl) n_list (by rfl) n_range (fun _ _ => rfl) (sx_op pk_mul op_mul2 (pe_od q_int) (sx_slot (pe_var rfl (by (first | exact .inl rfl | exact .inr (.inl rfl) | exact .inr (.inr rfl))))))) (sx_lst pa_nl) (by rfl) (by decide)) (ss_cons (sk_for passes_c rfl (pi_val rfl (sx_var (pe_var rfl (by (first | exact .inl rfl | exact .inr (.inl rfl) | exact .inr (.inr rfl)))))) (nm_pg hN (by (first | exact ⟨rfl, .inl rfl, .inl rfl⟩ | exact ⟨rfl, .inl rfl, .inr rfl⟩ | exact ⟨rfl, .inr rfl, .inl rfl⟩))) (ss_cons (sk_ex (sx_extend (fun _ _ => rfl) (pe_var rfl (by (first | exact .inl rfl | exact .inr (.inl rfl) | exact .inr (.inr rfl)))) (sx_lc rfl hN (by simp [slotsOf]) (pi_val rfl (sx_var (pe_var rfl (by (first | exact .inl rfl | exact .inr (.inl rfl) | exact .inr (.inr rfl)))))) (blkOk_by (by first | rfl | decide +kernel)) (fun _ _ _ _ _ => (nm_pg hN (by (first | exact ⟨rfl, .inl rfl, .inl rfl⟩ | exact ⟨rfl, .inl rfl, .inr rfl⟩ | exact ⟨rfl, .inr rfl, .inl rfl⟩)))) (fun _ _ _ _ _ => (pts_one (PW.pt (sw_and (st_cmp (pk_ne rfl) (op_neD hu64) (sx_slot (pe_var rfl (by (first | exact .inl rfl | exact .inr (.inl rfl) | exact .inr (.inr rfl))))) (sx_slot (pe_var rfl (by (first | exact .inl rfl | exact .inr (.inl rfl) | exact .inr (.inr rfl))))) (nomark _)) (sw_and1 (PW.pt (sw_or (st_cmp pk_lt (op_lt2 rfl hu64) (sx_slot (pe_var rfl (by (first | exact .inl rfl | exact .inr (.inl rfl) | exact .inr (.inr rfl))))) (sx_slot (pe_var rfl (by (first | exact .inl rfl | exact .inr (.inl rfl) | exact .inr (.inr rfl))))) (nomark _)) (sw_or1 (st_cmp pk_ge op_ge (sx_slot (pe_var rfl (by (first | exact .inl rfl | exact .inr (.inl rfl) | exact .inr (.inr rfl))))) (sx_slot (pe_var rfl (by (first | exact .inl rfl | exact .inr (.inl rfl) | exact .inr (.inr rfl))))) (nomark _)))))))))) (fun _ _ _ _ _ => (sx_tup (pa_cs (fun _ _ => rfl) (sx_var (pe_var rfl (by (first | exact .inl rfl | exact .inr (.inl rfl) | exact .inr (.inr rfl))))) (pa_cs (fun _ _ => rfl) (sx_var (pe_var rfl (by (first | exact .inl rfl | exact .inr (.inl rfl) | exact .inr (.inr rfl))))) pa_nl)))) (fun _ => rfl)) (by rfl) (by rfl) (by rfl)) (by rfl)) q_nil) (fun _ => rfl) (by decide)) (ss_cons (sk_setLc rfl hN rfl rfl (by first | rfl | with_unfolding_all rfl | kernel_rfl) (by decide) (by simp [slotsOf]) (pi_val rfl (sx_call (c__law_lots.s hr lv__law_lots) (ln_cons ln0) takes_c (by rfl) (fun _ _ => rfl) (pa_csO (fun _ _ => rfl) (sx_slot (pe_var rfl (by (first | exact .inl rfl | exact .inr (.inl rfl) | exact .inr (.inr rfl))))) pa_nlO) (by rfl) (by decide))) (blkOk_by (by first | rfl | decide +kernel)) (fun _ _ _ _ _ => (nm_pg hN (by (first | exact ⟨rfl, .inl rfl, .inl rfl⟩ | exact ⟨rfl, .inl rfl, .inr rfl⟩ | exact ⟨rfl, .inr rfl, .inl rfl⟩)))) (fun _ _ _ _ _ => q_pts0) (fun _ _ _ _ _ => (sx_tup (pa_cs (fun _ _ => rfl) (q_len rfl (by rfl) n_len (fun _ _ => rfl) (sx_slot (pe_var rfl (by (first | exact .inl rfl | exact .inr (.inl rfl) | exact .inr (.inr rfl)))))) (pa_cs (fun _ _ => rfl) (sx_var (pe_var rfl (by (first | exact .inl rfl | exact .inr (.inl rfl) | exact .inr (.inr rfl))))) pa_nl)))) (fun _ => rfl)) (ss_cons (sk_ret (sx_lc rfl hN (by simp [slotsOf]) (pi_val rfl (q_sorted rfl hu65 (by rfl) n_sorted (fun _ _ => rfl) (sx_slot (pe_var rfl (by (first | exact .inl rfl | exact .inr (.inl rfl) | exact .inr (.inr rfl))))))) (blkOk_by (by first | rfl | decide +kernel)) (fun _ _ _ _ _ => (pg_tup rfl (nms_pgs hN (is := [7, 6]) ⟨(by (first | exact ⟨rfl, .inl rfl, .inl rfl⟩ | exact ⟨rfl, .inl rfl, .inr rfl⟩ | exact ⟨rfl, .inr rfl, .inl rfl⟩)), (by (first | exact ⟨rfl, .inl rfl, .inl rfl⟩ | exact ⟨rfl, .inl rfl, .inr rfl⟩ | exact ⟨rfl, .inr rfl, .inl rfl⟩)), trivial⟩) rfl rfl)) (fun _ _ _ _ _ => (pts_one (st_not (st_val (sx_call (c__law_has_ring.s hr lv__law_has_ring) (ln_cons (ln_cons ln0)) takes_b (by rfl) (fun _ _ => rfl) (pa_csO (fun _ _ => rfl) (sx_slot (pe_var rfl (by (first | exact .inl rfl | exact .inr (.inl rfl) | exact .inr (.inr rfl))))) (pa_csO (fun _ _ => rfl) (sx_slot (pe_var rfl (by (first | exact .inl rfl | exact .inr (.inl rfl) | exact .inr (.inr rfl))))) pa_nlO)) (by rfl) (by decide)) (fun _ => rfl))))) (fun _ _ _ _ _ => (sx_var (pe_var rfl (by (first | exact .inl rfl | exact .inr (.inl rfl) | exact .inr (.inr rfl)))))) (fun _ => rfl))) q_nil))))
theorem w_law {f : Addr} (n_all : mg "all" = none) (n_isinstance : mg "isinstance" = none) (n_len : mg "len" = none) (n_list : mg "list" = none) (n_range : mg "range" = none) (ow_Web : OwnI K cm mg "Web") (c_Web_eq : CalM P w K mg base cm 1 "Web" "__eq__" 2 m_Web_eq) (c__law_arrows : Cal P w K mg base cm 3 "_law_arrows" 3 m__law_arrows) (c__law_draw : Cal P w K mg base cm 1 "_law_draw" 2 m__law_draw) (c__law_every : Cal P w K mg base cm 3 "_law_every" 1 m__law_every) (c__law_hand : Cal P w K mg base cm 1 "_law_hand" 1 m__law_hand) (c__law_is_r4 : Cal P w K mg base cm 5 "_law_is" 2 m__law_is_r4) (c__law_shuffled : Cal P w K mg base cm 2 "_law_shuffled" 2 m__law_shuffled) (c__law_some : Cal P w K mg base cm 2 "_law_some" 2 m__law_some) (c_all_webs : Cal P w K mg base cm 8 "all_webs" 1 m_all_webs) (c_Web : CalC P w K mg base cm 4 "Web" 2 m_Web_init) (f_arrows : FldOk ⟨K, cm⟩ K ["Web"] "arrows") (f_columns : FldOk ⟨K, cm⟩ K ["Web"] "columns") (cdv : Value) (hcv : CodeIs K f cdv) (A : Around) (outer : List PySem.Env) (s : Shared) (H : Hp) (E : XK) (hr : Room 8 (A.deeper (envOfC Hd.d_law.qual Hd.d_law.scope s.heap.objs.size f cdv))) :
    PSs (cxOf (L2.CX P w) P w K mg base N_law Hd.d_law.qual Hd.d_law.scope f cdv A outer s H E) Hd.d_law.body (tS ⟨K, cm⟩ (fun cls d _ H => E cls d H) f_law.keeps f_law.body) := by
  have hN : N_law.Nodup := by decide
  have hu65 : (A.deeper (envOfC Hd.d_law.qual Hd.d_law.scope s.heap.objs.size f cdv)).units + 65 < cLine := by have := hr.un; omega
  have hu64 : (A.deeper (envOfC Hd.d_law.qual Hd.d_law.scope s.heap.objs.size f cdv)).units + 64 < cLine := by omega
  have hu1 : (A.deeper (envOfC Hd.d_law.qual Hd.d_law.scope s.heap.objs.size f cdv)).units + 1 < cLine := by omega
  have lv_all_webs : 8 ≤ 8 := by decide
  have lv__law_some : 2 ≤ 8 := by decide
  have lv__law_arrows : 3 ≤ 8 := by decide
  have lv__law_is_r4 : 5 ≤ 8 := by decide
  have lv__law_every : 3 ≤ 8 := by decide
  have lv_Web_eq : 1 ≤ 8 := by decide
  have lv__law_draw : 1 ≤ 8 := by decide
  have lv__law_shuffled : 2 ≤ 8 := by decide
  have lv__law_hand : 1 ≤ 8 := by decide
  have lv_Web : 4 + 1 ≤ 8 := by decide
  exact (ss_cons (sk_set hN rfl (by first | exact .inl rfl | exact .inr rfl) rfl (sx_call (c__law_hand.s hr lv__law_hand) (ln_cons ln0) takes_c (by rfl) (fun _ _ => rfl) (pa_csO (fun _ _ => rfl) (sx_slot (pe_var rfl (by (first | exact .inl rfl | exact .inr (.inl rfl) | exact .inr (.inr rfl))))) pa_nlO) (by rfl) (by decide)) (by rfl) (by decide)) (ss_cons (sk_for passes_c rfl (pi_val rfl (sx_call (c__law_shuffled.s hr lv__law_shuffled) (ln_cons (ln_cons ln0)) takes_c (by rfl) (fun _ _ => rfl) (pa_csO (fun _ _ => rfl) (sx_slot (pe_var rfl (by (first | exact .inl rfl | exact .inr (.inl rfl) | exact .inr (.inr rfl))))) (pa_csO (fun _ _ => rfl) (pe_od (sx_lst (pa_cs (fun _ _ => rfl) q_int (pa_cs (fun _ _ => rfl) q_int pa_nl)))) pa_nlO)) (by rfl) (by decide))) (nm_pg hN (by (first | exact ⟨rfl, .inl rfl, .inl rfl⟩ | exact ⟨rfl, .inl rfl, .inr rfl⟩ | exact ⟨rfl, .inr rfl, .inl rfl⟩))) (ss_cons (sk_parZ rfl hN rfl rfl (by decide) rfl rfl (fun _ _ => rfl) (fun _ _ => rfl) (sx_call (c_all_webs.s hr lv_all_webs) (ln_cons ln0) takes_c (by rfl) (fun _ _ => rfl) (pa_csO (fun _ _ => rfl) (sx_slot (pe_var rfl (by (first | exact .inl rfl | exact .inr (.inl rfl) | exact .inr (.inr rfl))))) pa_nlO) (by rfl) (by decide)) (sx_call (c__law_every.s hr lv__law_every) (ln_cons ln0) takes_c (by rfl) (fun _ _ => rfl) (pa_csO (fun _ _ => rfl) (sx_slot (pe_var rfl (by (first | exact .inl rfl | exact .inr (.inl rfl) | exact .inr (.inr rfl))))) pa_nlO) (by rfl) (by decide)) (by rfl) (by decide)) (ss_cons (sk_if (PW.pt (sw_or (st_not (st_val (sx_isi (t := .list) (q := ⟨0, 0, 0, 0⟩) rfl rfl (fun _ _ => rfl) (sx_slot (pe_var rfl (by (first | exact .inl rfl | exact .inr (.inl rfl) | exact .inr (.inr rfl))))) (by rfl) n_isinstance (by rfl) n_list) (fun _ => rfl))) (sw_or1 (st_not (st_val (q_all rfl rfl (by rfl) n_all (fun _ _ => rfl) (pe_od (sx_lcK rfl rfl hN (by simp [slotsOf]) (pe_var rfl (by (first | exact .inl rfl | exact .inr (.inl rfl) | exact .inr (.inr rfl)))) (blkOk_by (by first | rfl | decide +kernel)) (fun _ _ _ _ _ => (nm_pg hN (by (first | exact ⟨rfl, .inl rfl, .inl rfl⟩ | exact ⟨rfl, .inl rfl, .inr rfl⟩ | exact ⟨rfl, .inr rfl, .inl rfl⟩)))) (fun _ _ _ _ _ => q_pts0) (fun _ _ _ _ _ => (sx_and (sx_isO rfl ow_Web (fun _ _ => rfl) (sx_slot (pe_var rfl (by (first | exact .inl rfl | exact .inr (.inl rfl) | exact .inr (.inr rfl))))) (by rfl) n_isinstance (by rfl) (by decide)) (sx_and1 (sx_cmp (pk_eq rfl) (op_eqD hu64) (pe_od (sx_fld f_columns (sx_slot (pe_var rfl (by (first | exact .inl rfl | exact .inr (.inl rfl) | exact .inr (.inr rfl))))) (by rfl))) (sx_slot (pe_var rfl (by (first | exact .inl rfl | exact .inr (.inl rfl) | exact .inr (.inr rfl))))) (nomark _))))) (fun _ => rfl)))) (fun _ => rfl)))))) (ss_cons (sk_ret q_bl) q_nil) q_nil) (ss_cons (sk_if (st_not (st_val (sx_call (c__law_is_r4.s hr lv__law_is_r4) (ln_cons (ln_cons ln0)) takes_c (by rfl) (fun _ _ => rfl) (pa_csO (fun _ _ => rfl) (pe_od (sx_lcK rfl rfl hN (by simp [slotsOf]) (pe_var rfl (by (first | exact .inl rfl | exact .inr (.inl rfl) | exact .inr (.inr rfl)))) (blkOk_by (by first | rfl | decide +kernel)) (fun _ _ _ _ _ => (nm_pg hN (by (first | exact ⟨rfl, .inl rfl, .inl rfl⟩ | exact ⟨rfl, .inl rfl, .inr rfl⟩ | exact ⟨rfl, .inr rfl, .inl rfl⟩)))) (fun _ _ _ _ _ => q_pts0) (fun _ _ _ _ _ => (sx_fld f_arrows (sx_slot (pe_var rfl (by (first | exact .inl rfl | exact .inr (.inl rfl) | exact .inr (.inr rfl))))) (by rfl))) (fun _ => rfl))) (pa_csO (fun _ _ => rfl) (sx_slot (pe_var rfl (by (first | exact .inl rfl | exact .inr (.inl rfl) | exact .inr (.inr rfl))))) pa_nlO)) (by rfl) (by decide)) (fun _ => rfl))) (ss_cons (sk_ret q_bl) q_nil) q_nil) (ss_cons (sk_for passes_c rfl (pi_rng1 (by rfl) n_range (fun _ _ => rfl) (pa_cs (fun _ _ => rfl) q_int pa_nl)) (nm_pg hN (by (first | exact ⟨rfl, .inl rfl, .inl rfl⟩ | exact ⟨rfl, .inl rfl, .inr rfl⟩ | exact ⟨rfl, .inr rfl, .inl rfl⟩))) (ss_cons (sk_set hN rfl (by first | exact .inl rfl | exact .inr rfl) rfl (sx_fr (sx_make (c_Web.s hr lv_Web) (ln_cons (ln_cons ln0)) takes_c (by rfl) (fun _ _ => rfl) (pa_csO (fun _ _ => rfl) (sx_slot (pe_var rfl (by (first | exact .inl rfl | exact .inr (.inl rfl) | exact .inr (.inr rfl))))) (pa_csO (fun _ _ => rfl) (pe_od (sx_call (c__law_arrows.s hr lv__law_arrows) (ln_cons (ln_cons (ln_cons ln0))) takes_c (by rfl) (fun _ _ => rfl) (pa_csO (fun _ _ => rfl) (sx_slot (pe_var rfl (by (first | exact .inl rfl | exact .inr (.inl rfl) | exact .inr (.inr rfl))))) (pa_csO (fun _ _ => rfl) (sx_slot (pe_var rfl (by (first | exact .inl rfl | exact .inr (.inl rfl) | exact .inr (.inr rfl))))) (pa_csO (fun _ _ => rfl) (pe_od (sx_call (c__law_some.s hr lv__law_some) (ln_cons (ln_cons ln0)) takes_c (by rfl) (fun _ _ => rfl) (pa_csO (fun _ _ => rfl) (sx_slot (pe_var rfl (by (first | exact .inl rfl | exact .inr (.inl rfl) | exact .inr (.inr rfl))))) (pa_csO (fun _ _ => rfl) (pe_od (sx_lst (pa_cs (fun _ _ => rfl) q_int (pa_cs (fun _ _ => rfl) q_int (pa_cs (fun _ _ => rfl) q_int pa_nl))))) pa_nlO)) (by rfl) (by decide))) pa_nlO))) (by rfl) (by decide))) pa_nlO)) (by rfl) (by decide))) (by rfl) (by decide)) (ss_cons (sk_if (st_cmp (pk_ne rfl) (op_neD hu64) (pe_od (q_len rfl (by rfl) n_len (fun _ _ => rfl) (pe_od (sx_lcK rfl rfl hN (by simp [slotsOf]) (pe_var rfl (by (first | exact .inl rfl | exact .inr (.inl rfl) | exact .inr (.inr rfl)))) (blkOk_by (by first | rfl | decide +kernel)) (fun _ _ _ _ _ => (nm_pg hN (by (first | exact ⟨rfl, .inl rfl, .inl rfl⟩ | exact ⟨rfl, .inl rfl, .inr rfl⟩ | exact ⟨rfl, .inr rfl, .inl rfl⟩)))) (fun _ _ _ _ _ => (pts_one (st_eqO rfl ow_Web (c_Web_eq.s hr lv_Web_eq) (sx_var (pe_var rfl (by (first | exact .inl rfl | exact .inr (.inl rfl) | exact .inr (.inr rfl))))) (sx_var (pe_var rfl (by (first | exact .inl rfl | exact .inr (.inl rfl) | exact .inr (.inr rfl))))) (nomark _)))) (fun _ _ _ _ _ => (sx_var (pe_var rfl (by (first | exact .inl rfl | exact .inr (.inl rfl) | exact .inr (.inr rfl)))))) (fun _ => rfl))))) (pe_od q_int) (nomark _)) (ss_cons (sk_ret q_bl) q_nil) q_nil) q_nil)) (fun _ => rfl) (by decide)) (ss_cons (sk_set hN rfl (by first | exact .inl rfl | exact .inr rfl) rfl (sx_call (c__law_draw.s hr lv__law_draw) (ln_cons (ln_cons ln0)) takes_c (by rfl) (fun _ _ => rfl) (pa_csO (fun _ _ => rfl) (sx_slot (pe_var rfl (by (first | exact .inl rfl | exact .inr (.inl rfl) | exact .inr (.inr rfl))))) (pa_csO (fun _ _ => rfl) (pe_od (q_len rfl (by rfl) n_len (fun _ _ => rfl) (sx_slot (pe_var rfl (by (first | exact .inl rfl | exact .inr (.inl rfl) | exact .inr (.inr rfl))))))) pa_nlO)) (by rfl) (by decide)) (by rfl) (by decide)) (ss_cons (sk_setSub hu1 (pe_var rfl (by (first | exact .inl rfl | exact .inr (.inl rfl) | exact .inr (.inr rfl)))) (sx_var (pe_var rfl (by (first | exact .inl rfl | exact .inr (.inl rfl) | exact .inr (.inr rfl))))) q_non (by rfl) (fun _ => rfl)) (ss_cons (sk_ex (sx_append (fun _ _ => rfl) (pe_var rfl (by (first | exact .inl rfl | exact .inr (.inl rfl) | exact .inr (.inr rfl)))) q_non (by rfl) (by rfl) (by rfl)) (by rfl)) (ss_cons (sk_if (st_cmp (pk_ne rfl) (op_neD hu64) (pe_od (sx_lc rfl hN (by simp [slotsOf]) (pi_val rfl (sx_call (c_all_webs.s hr lv_all_webs) (ln_cons ln0) takes_c (by rfl) (fun _ _ => rfl) (pa_csO (fun _ _ => rfl) (sx_slot (pe_var rfl (by (first | exact .inl rfl | exact .inr (.inl rfl) | exact .inr (.inr rfl))))) pa_nlO) (by rfl) (by decide))) (blkOk_by (by first | rfl | decide +kernel)) (fun _ _ _ _ _ => (nm_pg hN (by (first | exact ⟨rfl, .inl rfl, .inl rfl⟩ | exact ⟨rfl, .inl rfl, .inr rfl⟩ | exact ⟨rfl, .inr rfl, .inl rfl⟩)))) (fun _ _ _ _ _ => q_pts0) (fun _ _ _ _ _ => (sx_fld f_arrows (sx_slot (pe_var rfl (by (first | exact .inl rfl | exact .inr (.inl rfl) | exact .inr (.inr rfl))))) (by rfl))) (fun _ => rfl))) (sx_slot (pe_var rfl (by (first | exact .inl rfl | exact .inr (.inl rfl) | exact .inr (.inr rfl))))) (nomark _)) (ss_cons (sk_ret q_bl) q_nil) q_nil) q_nil)))))))) (fun _ => rfl) (by decide)) (ss_cons (sk_ret q_bl) q_nil)))
end
end Wk

end
section
set_option maxRecDepth 100000
set_option maxHeartbeats 0
namespace Jn
open PySem PySem.Spec PyProof.Rows L2 Cb
def cm (K : PySem.W.Frag) (x : PySem.Str) : Option Addr := if x = "Web" then some (He.ga K "Web") else none
theorem facts {P : Program} {w : World} {K : PySem.W.Frag} {h : Heap} {mg : PySem.Str → Option Value} {f : Addr} (X : K.In h) (G : h.Ns mainGlobals mg) (hfa : mg ("law" : PySem.Str) = some (.ref f)) (c : He.SaysD Hd.fa Hd.fn K) (me : Hd.ex K = true) :
    ∃ fd : FuncData, (∀ (s : Shared) (v : Value), BindsTo s fd ⟨[v], []⟩ [("_law_script", v)]) ∧ ∀ base : Heap, K.In base → base.Ns mainGlobals mg → (∀ p ∈ Hd.tf.map (He.cT K), LamX.TabB base mg p.1 p.2) → FnOk P w K mg base (L2.CX P w) 9 f fd ["_law_script"] (@spM (tbs K [(("all_lots", none), "all_lots.<locals>.<lambda>")]) ⟨K, cm K⟩ 1 Wk.m_law) := by
  letI : Tb := (tbs K [(("all_lots", none), "all_lots.<locals>.<lambda>")])
  have n_abs : mg ("abs" : PySem.Str) = none := He.free_ok X G (c.fact 29 (f := .free "abs") rfl)
  have n_all : mg ("all" : PySem.Str) = none := He.free_ok X G (c.fact 27 (f := .free "all") rfl)
  have n_any : mg ("any" : PySem.Str) = none := He.free_ok X G (c.fact 28 (f := .free "any") rfl)
  have n_bool : mg ("bool" : PySem.Str) = none := He.free_ok X G (c.fact 32 (f := .free "bool") rfl)
  have n_dict : mg ("dict" : PySem.Str) = none := He.free_ok X G (c.fact 26 (f := .free "dict") rfl)
  have n_enumerate : mg ("enumerate" : PySem.Str) = none := He.free_ok X G (c.fact 31 (f := .free "enumerate") rfl)
  have n_int : mg ("int" : PySem.Str) = none := He.free_ok X G (c.fact 30 (f := .free "int") rfl)
  have n_isinstance : mg ("isinstance" : PySem.Str) = none := He.free_ok X G (c.fact 21 (f := .free "isinstance") rfl)
  have n_len : mg ("len" : PySem.Str) = none := He.free_ok X G (c.fact 20 (f := .free "len") rfl)
  have n_list : mg ("list" : PySem.Str) = none := He.free_ok X G (c.fact 24 (f := .free "list") rfl)
  have n_range : mg ("range" : PySem.Str) = none := He.free_ok X G (c.fact 22 (f := .free "range") rfl)
  have n_sorted : mg ("sorted" : PySem.Str) = none := He.free_ok X G (c.fact 23 (f := .free "sorted") rfl)
  have n_tuple : mg ("tuple" : PySem.Str) = none := He.free_ok X G (c.fact 25 (f := .free "tuple") rfl)
  obtain ⟨t_MOST_COLUMNS_couldbe, g_MOST_COLUMNS_couldbe⟩ := He.int_ok X G (c.fact 35 (f := .int "MOST_COLUMNS_couldbe" 2) rfl)
  have r_MOST_COLUMNS_couldbe : L2.RelV (.int 2) (Value.int 2 t_MOST_COLUMNS_couldbe) := ⟨_, rfl⟩
  obtain ⟨t_MOST_COLUMNS_webs, g_MOST_COLUMNS_webs⟩ := He.int_ok X G (c.fact 34 (f := .int "MOST_COLUMNS_webs" 4) rfl)
  have r_MOST_COLUMNS_webs : L2.RelV (.int 4) (Value.int 4 t_MOST_COLUMNS_webs) := ⟨_, rfl⟩
  have cl_Web := He.cls_ok (c.fact 37 (f := .cls "Web") rfl)
  have ow_Web : OwnI K (cm K) mg "Web" := ⟨He.ga K "Web", rfl, He.glo_ok X G (c.fact 36 (f := .glo "Web") rfl), ownB_ok me cl_Web⟩
  have f_arrows : FldOk ⟨K, cm K⟩ K ["Web"] "arrows" := by
    intro c0 C hc e
    have hc : c0 ∈ (["Web"] : List PySem.Str) := by simpa using hc
    have e : cm K c0 = some C := e
    rcases List.mem_cons.mp hc with rfl | hc
    · have e2 : cm K "Web" = some (He.ga K "Web") := rfl
      rw [e2] at e; cases e; exact ⟨cl_Web, He.noat_ok (c.fact 40 (f := .noat "Web" "arrows") rfl)⟩
    cases hc
  have f_columns : FldOk ⟨K, cm K⟩ K ["Web"] "columns" := by
    intro c0 C hc e
    have hc : c0 ∈ (["Web"] : List PySem.Str) := by simpa using hc
    have e : cm K c0 = some C := e
    rcases List.mem_cons.mp hc with rfl | hc
    · have e2 : cm K "Web" = some (He.ga K "Web") := rfl
      rw [e2] at e; cases e; exact ⟨cl_Web, He.noat_ok (c.fact 41 (f := .noat "Web" "columns") rfl)⟩
    cases hc
  have s_arrows : FldOk ⟨K, cm K⟩ K ["Web"] "arrows" := by
    intro c0 C hc e
    have hc : c0 ∈ (["Web"] : List PySem.Str) := by simpa using hc
    have e : cm K c0 = some C := e
    rcases List.mem_cons.mp hc with rfl | hc
    · have e2 : cm K "Web" = some (He.ga K "Web") := rfl
      rw [e2] at e; cases e; exact ⟨cl_Web, He.noat_ok (c.fact 40 (f := .noat "Web" "arrows") rfl)⟩
    cases hc
  have s_columns : FldOk ⟨K, cm K⟩ K ["Web"] "columns" := by
    intro c0 C hc e
    have hc : c0 ∈ (["Web"] : List PySem.Str) := by simpa using hc
    have e : cm K c0 = some C := e
    rcases List.mem_cons.mp hc with rfl | hc
    · have e2 : cm K "Web" = some (He.ga K "Web") := rfl
      rw [e2] at e; cases e; exact ⟨cl_Web, He.noat_ok (c.fact 41 (f := .noat "Web" "columns") rfl)⟩
    cases hc
  obtain ⟨fd_is_integer, F_is_integer⟩ := c.def_ 0 (d := Hd.d_is_integer) rfl
  have B_is_integer : L2.Binds K fd_is_integer ["thing"] [] := FunD.bindsN F_is_integer fun _ _ _ _ _ _ us hl => match us, hl with | [_], _ => rfl
  obtain ⟨fd_is_within, F_is_within⟩ := c.def_ 1 (d := Hd.d_is_within) rfl
  have B_is_within : L2.Binds K fd_is_within ["thing", "least", "most"] [] := FunD.bindsN F_is_within fun _ _ _ _ _ _ us hl => match us, hl with | [_, _, _], _ => rfl
  obtain ⟨fd_is_pair, F_is_pair⟩ := c.def_ 2 (d := Hd.d_is_pair) rfl
  have B_is_pair : L2.Binds K fd_is_pair ["thing"] [] := FunD.bindsN F_is_pair fun _ _ _ _ _ _ us hl => match us, hl with | [_], _ => rfl
  obtain ⟨fd_all_lots, F_all_lots⟩ := c.def_ 3 (d := Hd.d_all_lots) rfl
  have B_all_lots : L2.Binds K fd_all_lots ["many"] [] := FunD.bindsN F_all_lots fun _ _ _ _ _ _ us hl => match us, hl with | [_], _ => rfl
  obtain ⟨fd_is_arrow, F_is_arrow⟩ := c.def_ 4 (d := Hd.d_is_arrow) rfl
  have B_is_arrow : L2.Binds K fd_is_arrow ["columns", "thing"] [] := FunD.bindsN F_is_arrow fun _ _ _ _ _ _ us hl => match us, hl with | [_, _], _ => rfl
  obtain ⟨fd_order_by, F_order_by⟩ := c.def_ 5 (d := Hd.d_order_by) rfl
  have B_order_by : L2.Binds K fd_order_by ["columns", "arrows"] [] := FunD.bindsN F_order_by fun _ _ _ _ _ _ us hl => match us, hl with | [_, _], _ => rfl
  obtain ⟨fd_Web_init, F_Web_init⟩ := c.def_ 6 (d := Hd.d_Web_init) rfl
  have B_Web_init : L2.Binds K fd_Web_init ["self", "columns", "arrows"] [] := FunD.bindsN F_Web_init fun _ _ _ _ _ _ us hl => match us, hl with | [_, _, _], _ => rfl
  obtain ⟨fd_Web_eq, F_Web_eq⟩ := c.def_ 7 (d := Hd.d_Web_eq) rfl
  have B_Web_eq : L2.Binds K fd_Web_eq ["self", "other"] [] := FunD.bindsN F_Web_eq fun _ _ _ _ _ _ us hl => match us, hl with | [_, _], _ => rfl
  obtain ⟨fd_raw_web, F_raw_web⟩ := c.def_ 8 (d := Hd.d_raw_web) rfl
  have B_raw_web : L2.Binds K fd_raw_web ["columns", "arrows"] [] := FunD.bindsN F_raw_web fun _ _ _ _ _ _ us hl => match us, hl with | [_, _], _ => rfl
  obtain ⟨fd_webs_of, F_webs_of⟩ := c.def_ 9 (d := Hd.d_webs_of) rfl
  have B_webs_of : L2.Binds K fd_webs_of ["columns"] [] := FunD.bindsN F_webs_of fun _ _ _ _ _ _ us hl => match us, hl with | [_], _ => rfl
  obtain ⟨fd_all_webs, F_all_webs⟩ := c.def_ 10 (d := Hd.d_all_webs) rfl
  have B_all_webs : L2.Binds K fd_all_webs ["columns"] [] := FunD.bindsN F_all_webs fun _ _ _ _ _ _ us hl => match us, hl with | [_], _ => rfl
  obtain ⟨fd__law_hand, F__law_hand⟩ := c.def_ 11 (d := Hd.d__law_hand) rfl
  have B__law_hand : L2.Binds K fd__law_hand ["_law_script"] [] := FunD.bindsN F__law_hand fun _ _ _ _ _ _ us hl => match us, hl with | [_], _ => rfl
  obtain ⟨fd__law_draw, F__law_draw⟩ := c.def_ 12 (d := Hd.d__law_draw) rfl
  have B__law_draw : L2.Binds K fd__law_draw ["_law_hand_here", "_law_many"] [] := FunD.bindsN F__law_draw fun _ _ _ _ _ _ us hl => match us, hl with | [_, _], _ => rfl
  obtain ⟨fd__law_some, F__law_some⟩ := c.def_ 13 (d := Hd.d__law_some) rfl
  have B__law_some : L2.Binds K fd__law_some ["_law_hand_here", "_law_things"] [] := FunD.bindsN F__law_some fun _ _ _ _ _ _ us hl => match us, hl with | [_, _], _ => rfl
  obtain ⟨fd__law_shuffled, F__law_shuffled⟩ := c.def_ 14 (d := Hd.d__law_shuffled) rfl
  have B__law_shuffled : L2.Binds K fd__law_shuffled ["_law_hand_here", "_law_things"] [] := FunD.bindsN F__law_shuffled fun _ _ _ _ _ _ us hl => match us, hl with | [_, _], _ => rfl
  obtain ⟨fd__law_is, F__law_is⟩ := c.def_ 15 (d := Hd.d__law_is) rfl
  have B__law_is : L2.Binds K fd__law_is ["_law_told", "_law_due"] [] := FunD.bindsN F__law_is fun _ _ _ _ _ _ us hl => match us, hl with | [_, _], _ => rfl
  obtain ⟨fd__law_lots, F__law_lots⟩ := c.def_ 16 (d := Hd.d__law_lots) rfl
  have B__law_lots : L2.Binds K fd__law_lots ["_law_things"] [] := FunD.bindsN F__law_lots fun _ _ _ _ _ _ us hl => match us, hl with | [_], _ => rfl
  obtain ⟨fd__law_arrows, F__law_arrows⟩ := c.def_ 17 (d := Hd.d__law_arrows) rfl
  have B__law_arrows : L2.Binds K fd__law_arrows ["_law_hand_here", "_law_columns", "_law_rare"] [] := FunD.bindsN F__law_arrows fun _ _ _ _ _ _ us hl => match us, hl with | [_, _, _], _ => rfl
  obtain ⟨fd__law_parents, F__law_parents⟩ := c.def_ 18 (d := Hd.d__law_parents) rfl
  have B__law_parents : L2.Binds K fd__law_parents ["_law_arrows_here", "_law_thing"] [] := FunD.bindsN F__law_parents fun _ _ _ _ _ _ us hl => match us, hl with | [_, _], _ => rfl
  obtain ⟨fd__law_has_ring, F__law_has_ring⟩ := c.def_ 19 (d := Hd.d__law_has_ring) rfl
  have B__law_has_ring : L2.Binds K fd__law_has_ring ["_law_columns", "_law_arrows_here"] [] := FunD.bindsN F__law_has_ring fun _ _ _ _ _ _ us hl => match us, hl with | [_, _], _ => rfl
  obtain ⟨fd__law_every, F__law_every⟩ := c.def_ 20 (d := Hd.d__law_every) rfl
  have B__law_every : L2.Binds K fd__law_every ["_law_columns"] [] := FunD.bindsN F__law_every fun _ _ _ _ _ _ us hl => match us, hl with | [_], _ => rfl
  obtain ⟨fd_law, F_law⟩ := c.def_ 21 (d := Hd.d_law) rfl
  have B_law : L2.Binds K fd_law ["_law_script"] [] := FunD.bindsN F_law fun _ _ _ _ _ _ us hl => match us, hl with | [_], _ => rfl
  have e := hfa.symm.trans (He.glo_ok X G (c.fact 19 (f := .glo "law") rfl))
  cases e
  have b := FunD.bindsA (ps := ["_law_script"]) F_law fun _ _ _ _ _ _ us hl => match us, hl with | [_], _ => rfl
  refine ⟨fd_law, fun s v => b s [v] rfl, fun base _ _ TB => ?_⟩
  have lam_ : LamH K mg base (He.fAd K ("all_lots", none)) "all_lots.<locals>.<lambda>" := lamH_one TB
  have c_is_integer : Cal P w K mg base (cm K) 1 "is_integer" 1 Wk.m_is_integer := Cal.of (d := Wk.f_is_integer) (He.glo_ok X G (c.fact 0 (f := .glo "is_integer") rfl)) F_is_integer B_is_integer (C8.fnScope_by (N := Wk.N_is_integer) (P := ["thing"]) (by decide +kernel)) rfl rfl (by decide) (fun cdv hcv A outer s H E hr => Wk.w_is_integer n_bool n_int n_isinstance cdv hcv A outer s H E hr)
  have c_is_within : Cal P w K mg base (cm K) 2 "is_within" 3 Wk.m_is_within := Cal.of (d := Wk.f_is_within) (He.glo_ok X G (c.fact 1 (f := .glo "is_within") rfl)) F_is_within B_is_within (C8.fnScope_by (N := Wk.N_is_within) (P := ["thing", "least", "most"]) (by decide +kernel)) rfl rfl (by decide) (fun cdv hcv A outer s H E hr => Wk.w_is_within c_is_integer cdv hcv A outer s H E hr)
  have c_is_pair : Cal P w K mg base (cm K) 1 "is_pair" 1 Wk.m_is_pair := Cal.of (d := Wk.f_is_pair) (He.glo_ok X G (c.fact 2 (f := .glo "is_pair") rfl)) F_is_pair B_is_pair (C8.fnScope_by (N := Wk.N_is_pair) (P := ["thing"]) (by decide +kernel)) rfl rfl (by decide) (fun cdv hcv A outer s H E hr => Wk.w_is_pair n_isinstance n_len n_tuple cdv hcv A outer s H E hr)
  have c_all_lots : Cal P w K mg base (cm K) 1 "all_lots" 1 Wk.m_all_lots := Cal.of (d := Wk.f_all_lots) (He.glo_ok X G (c.fact 3 (f := .glo "all_lots") rfl)) F_all_lots B_all_lots (C8.fnScope_by (N := Wk.N_all_lots) (P := ["many"]) (by decide +kernel)) rfl rfl (by decide) (fun cdv hcv A outer s H E hr => Wk.w_all_lots n_len n_range n_sorted lam_ cdv hcv A outer s H E hr)
  have c_is_arrow : Cal P w K mg base (cm K) 3 "is_arrow" 2 Wk.m_is_arrow := Cal.of (d := Wk.f_is_arrow) (He.glo_ok X G (c.fact 4 (f := .glo "is_arrow") rfl)) F_is_arrow B_is_arrow (C8.fnScope_by (N := Wk.N_is_arrow) (P := ["columns", "thing"]) (by decide +kernel)) rfl rfl (by decide) (fun cdv hcv A outer s H E hr => Wk.w_is_arrow n_all c_is_pair c_is_within cdv hcv A outer s H E hr)
  have c_order_by : Cal P w K mg base (cm K) 1 "order_by" 2 Wk.m_order_by := Cal.of (d := Wk.f_order_by) (He.glo_ok X G (c.fact 5 (f := .glo "order_by") rfl)) F_order_by B_order_by (C8.fnScope_by (N := Wk.N_order_by) (P := ["columns", "arrows"]) (by decide +kernel)) rfl rfl (by decide) (fun cdv hcv A outer s H E hr => Wk.w_order_by n_all n_len n_range cdv hcv A outer s H E hr)
  have c_Web : CalC P w K mg base (cm K) 4 "Web" 2 Wk.m_Web_init := ⟨He.ga K "Web", _, fd_Web_init, ["self", "columns", "arrows"], rfl, He.glo_ok X G (c.fact 36 (f := .glo "Web") rfl), He.mkr_ok (c.fact 38 (f := .mkr "Web") rfl), B_Web_init, def_ok Wk.f_Web_init F_Web_init (C8.fnScope_by (N := Wk.N_Web_init) (P := ["self", "columns", "arrows"]) (by decide +kernel)) rfl rfl (by decide) (fun cdv hcv A outer s H E hr => Wk.w_Web_init n_enumerate n_isinstance n_len n_tuple g_MOST_COLUMNS_webs r_MOST_COLUMNS_webs c_is_arrow c_is_within c_order_by s_arrows s_columns cdv hcv A outer s H E hr)⟩
  have c_Web_eq : CalM P w K mg base (cm K) 1 "Web" "__eq__" 2 Wk.m_Web_eq := ⟨He.ga K "Web", _, fd_Web_eq, ["self", "other"], rfl, (He.meth_ok (c.fact 39 (f := .meth "Web" "__eq__") rfl)).1, (He.meth_ok (c.fact 39 (f := .meth "Web" "__eq__") rfl)).2, B_Web_eq, def_ok Wk.f_Web_eq F_Web_eq (C8.fnScope_by (N := Wk.N_Web_eq) (P := ["self", "other"]) (by decide +kernel)) rfl rfl (by decide) (fun cdv hcv A outer s H E hr => Wk.w_Web_eq n_isinstance ow_Web f_arrows f_columns cdv hcv A outer s H E hr)⟩
  have c_raw_web : Cal P w K mg base (cm K) 6 "raw_web" 2 Wk.m_raw_web := Cal.of (d := Wk.f_raw_web) (He.glo_ok X G (c.fact 6 (f := .glo "raw_web") rfl)) F_raw_web B_raw_web (C8.fnScope_by (N := Wk.N_raw_web) (P := ["columns", "arrows"]) (by decide +kernel)) rfl rfl (by decide) (fun cdv hcv A outer s H E hr => Wk.w_raw_web n_sorted n_tuple c_Web cdv hcv A outer s H E hr)
  have c_webs_of : Cal P w K mg base (cm K) 7 "webs_of" 1 Wk.m_webs_of := Cal.of (d := Wk.f_webs_of) (He.glo_ok X G (c.fact 7 (f := .glo "webs_of") rfl)) F_webs_of B_webs_of (C8.fnScope_by (N := Wk.N_webs_of) (P := ["columns"]) (by decide +kernel)) rfl rfl (by decide) (fun cdv hcv A outer s H E hr => Wk.w_webs_of n_len n_range c_all_lots c_is_arrow c_order_by c_raw_web cdv hcv A outer s H E hr)
  have c_all_webs : Cal P w K mg base (cm K) 8 "all_webs" 1 Wk.m_all_webs := Cal.of (d := Wk.f_all_webs) (He.glo_ok X G (c.fact 8 (f := .glo "all_webs") rfl)) F_all_webs B_all_webs (C8.fnScope_by (N := Wk.N_all_webs) (P := ["columns"]) (by decide +kernel)) rfl rfl (by decide) (fun cdv hcv A outer s H E hr => Wk.w_all_webs g_MOST_COLUMNS_couldbe r_MOST_COLUMNS_couldbe c_is_within c_webs_of cdv hcv A outer s H E hr)
  have c__law_hand : Cal P w K mg base (cm K) 1 "_law_hand" 1 Wk.m__law_hand := Cal.of (d := Wk.f__law_hand) (He.glo_ok X G (c.fact 9 (f := .glo "_law_hand") rfl)) F__law_hand B__law_hand (C8.fnScope_by (N := Wk.N__law_hand) (P := ["_law_script"]) (by decide +kernel)) rfl rfl (by decide) (fun cdv hcv A outer s H E hr => Wk.w__law_hand n_abs n_int n_len cdv hcv A outer s H E hr)
  have c__law_draw : Cal P w K mg base (cm K) 1 "_law_draw" 2 Wk.m__law_draw := Cal.of (d := Wk.f__law_draw) (He.glo_ok X G (c.fact 10 (f := .glo "_law_draw") rfl)) F__law_draw B__law_draw (C8.fnScope_by (N := Wk.N__law_draw) (P := ["_law_hand_here", "_law_many"]) (by decide +kernel)) rfl rfl (by decide) (fun cdv hcv A outer s H E hr => Wk.w__law_draw n_int n_len cdv hcv A outer s H E hr)
  have c__law_some : Cal P w K mg base (cm K) 2 "_law_some" 2 Wk.m__law_some := Cal.of (d := Wk.f__law_some) (He.glo_ok X G (c.fact 11 (f := .glo "_law_some") rfl)) F__law_some B__law_some (C8.fnScope_by (N := Wk.N__law_some) (P := ["_law_hand_here", "_law_things"]) (by decide +kernel)) rfl rfl (by decide) (fun cdv hcv A outer s H E hr => Wk.w__law_some n_len c__law_draw cdv hcv A outer s H E hr)
  have c__law_shuffled : Cal P w K mg base (cm K) 2 "_law_shuffled" 2 Wk.m__law_shuffled := Cal.of (d := Wk.f__law_shuffled) (He.glo_ok X G (c.fact 12 (f := .glo "_law_shuffled") rfl)) F__law_shuffled B__law_shuffled (C8.fnScope_by (N := Wk.N__law_shuffled) (P := ["_law_hand_here", "_law_things"]) (by decide +kernel)) rfl rfl (by decide) (fun cdv hcv A outer s H E hr => Wk.w__law_shuffled n_len n_list c__law_draw cdv hcv A outer s H E hr)
  have c__law_is_r0 : Cal P w K mg base (cm K) 1 "_law_is" 2 Wk.m__law_is_r0 := Cal.of (d := Wk.f__law_is_r0) (He.glo_ok X G (c.fact 13 (f := .glo "_law_is") rfl)) F__law_is B__law_is (C8.fnScope_by (N := Wk.N__law_is_r0) (P := ["_law_told", "_law_due"]) (by decide +kernel)) rfl rfl (by decide) (fun cdv hcv A outer s H E hr => Wk.w__law_is_r0  cdv hcv A outer s H E hr)
  have c__law_is_r1 : Cal P w K mg base (cm K) 2 "_law_is" 2 Wk.m__law_is_r1 := Cal.of (d := Wk.f__law_is_r1) (He.glo_ok X G (c.fact 13 (f := .glo "_law_is") rfl)) F__law_is B__law_is (C8.fnScope_by (N := Wk.N__law_is_r1) (P := ["_law_told", "_law_due"]) (by decide +kernel)) rfl rfl (by decide) (fun cdv hcv A outer s H E hr => Wk.w__law_is_r1 n_all n_bool n_dict n_isinstance n_len n_list n_range n_tuple c__law_is_r0 cdv hcv A outer s H E hr)
  have c__law_is_r2 : Cal P w K mg base (cm K) 3 "_law_is" 2 Wk.m__law_is_r2 := Cal.of (d := Wk.f__law_is_r2) (He.glo_ok X G (c.fact 13 (f := .glo "_law_is") rfl)) F__law_is B__law_is (C8.fnScope_by (N := Wk.N__law_is_r2) (P := ["_law_told", "_law_due"]) (by decide +kernel)) rfl rfl (by decide) (fun cdv hcv A outer s H E hr => Wk.w__law_is_r2 n_all n_bool n_dict n_isinstance n_len n_list n_range n_tuple c__law_is_r1 cdv hcv A outer s H E hr)
  have c__law_is_r3 : Cal P w K mg base (cm K) 4 "_law_is" 2 Wk.m__law_is_r3 := Cal.of (d := Wk.f__law_is_r3) (He.glo_ok X G (c.fact 13 (f := .glo "_law_is") rfl)) F__law_is B__law_is (C8.fnScope_by (N := Wk.N__law_is_r3) (P := ["_law_told", "_law_due"]) (by decide +kernel)) rfl rfl (by decide) (fun cdv hcv A outer s H E hr => Wk.w__law_is_r3 n_all n_bool n_dict n_isinstance n_len n_list n_range n_tuple c__law_is_r2 cdv hcv A outer s H E hr)
  have c__law_is_r4 : Cal P w K mg base (cm K) 5 "_law_is" 2 Wk.m__law_is_r4 := Cal.of (d := Wk.f__law_is_r4) (He.glo_ok X G (c.fact 13 (f := .glo "_law_is") rfl)) F__law_is B__law_is (C8.fnScope_by (N := Wk.N__law_is_r4) (P := ["_law_told", "_law_due"]) (by decide +kernel)) rfl rfl (by decide) (fun cdv hcv A outer s H E hr => Wk.w__law_is_r4 n_all n_bool n_dict n_isinstance n_len n_list n_range n_tuple c__law_is_r3 cdv hcv A outer s H E hr)
  have c__law_lots : Cal P w K mg base (cm K) 1 "_law_lots" 1 Wk.m__law_lots := Cal.of (d := Wk.f__law_lots) (He.glo_ok X G (c.fact 14 (f := .glo "_law_lots") rfl)) F__law_lots B__law_lots (C8.fnScope_by (N := Wk.N__law_lots) (P := ["_law_things"]) (by decide +kernel)) rfl rfl (by decide) (fun cdv hcv A outer s H E hr => Wk.w__law_lots n_sorted cdv hcv A outer s H E hr)
  have c__law_arrows : Cal P w K mg base (cm K) 3 "_law_arrows" 3 Wk.m__law_arrows := Cal.of (d := Wk.f__law_arrows) (He.glo_ok X G (c.fact 15 (f := .glo "_law_arrows") rfl)) F__law_arrows B__law_arrows (C8.fnScope_by (N := Wk.N__law_arrows) (P := ["_law_hand_here", "_law_columns", "_law_rare"]) (by decide +kernel)) rfl rfl (by decide) (fun cdv hcv A outer s H E hr => Wk.w__law_arrows n_enumerate n_list n_range n_sorted n_tuple c__law_draw c__law_shuffled cdv hcv A outer s H E hr)
  have c__law_parents : Cal P w K mg base (cm K) 1 "_law_parents" 2 Wk.m__law_parents := Cal.of (d := Wk.f__law_parents) (He.glo_ok X G (c.fact 16 (f := .glo "_law_parents") rfl)) F__law_parents B__law_parents (C8.fnScope_by (N := Wk.N__law_parents) (P := ["_law_arrows_here", "_law_thing"]) (by decide +kernel)) rfl rfl (by decide) (fun cdv hcv A outer s H E hr => Wk.w__law_parents  cdv hcv A outer s H E hr)
  have c__law_has_ring : Cal P w K mg base (cm K) 2 "_law_has_ring" 2 Wk.m__law_has_ring := Cal.of (d := Wk.f__law_has_ring) (He.glo_ok X G (c.fact 17 (f := .glo "_law_has_ring") rfl)) F__law_has_ring B__law_has_ring (C8.fnScope_by (N := Wk.N__law_has_ring) (P := ["_law_columns", "_law_arrows_here"]) (by decide +kernel)) rfl rfl (by decide) (fun cdv hcv A outer s H E hr => Wk.w__law_has_ring n_any n_len n_list n_range c__law_parents cdv hcv A outer s H E hr)
  have c__law_every : Cal P w K mg base (cm K) 3 "_law_every" 1 Wk.m__law_every := Cal.of (d := Wk.f__law_every) (He.glo_ok X G (c.fact 18 (f := .glo "_law_every") rfl)) F__law_every B__law_every (C8.fnScope_by (N := Wk.N__law_every) (P := ["_law_columns"]) (by decide +kernel)) rfl rfl (by decide) (fun cdv hcv A outer s H E hr => Wk.w__law_every n_len n_list n_range n_sorted c__law_has_ring c__law_lots cdv hcv A outer s H E hr)
  exact def_ok Wk.f_law F_law (C8.fnScope_by (N := Wk.N_law) (P := ["_law_script"]) (by decide +kernel)) rfl rfl (by decide) (fun cdv hcv A outer s H E hr => Wk.w_law n_all n_isinstance n_len n_list n_range ow_Web c_Web_eq c__law_arrows c__law_draw c__law_every c__law_hand c__law_is_r4 c__law_shuffled c__law_some c_all_webs c_Web f_arrows f_columns cdv hcv A outer s H E hr)
end Jn
open PySem PySem.W PySem.Calls PyProof.Rows
theorem joined (hm : ∀ ns : List Int, ns.length ≤ 63 → ∃ back, Wk.m_law [.w (.scr ns)] = .ok (.w (.bl true)) back) : PySem.Challenge.rw_calmblanks_k49_whole_all_webs.Holds := by
  w_on; o_law
  refine HandSHeadRun.head_any (r := OpenLaw.row PySem.Challenge.rw_calmblanks_k49_whole_all_webs) (q := view (OpenLaw.row PySem.Challenge.rw_calmblanks_k49_whole_all_webs).prog [30]) (H := Hd.hk) (ob := Hd.ob) (M := 4000) (loose := Hd.loose) (d := HandSHeadRun.topDef (OpenLaw.row PySem.Challenge.rw_calmblanks_k49_whole_all_webs).prog 30) (kwd := []) Hd.ob_eq
    (by kernel_rfl) (fun s => by kernel_rfl) Hd.run (by kernel_rfl) (by kernel_rfl) (by kernel_rfl) (by rfl) (by first | assumption | decide +kernel) (by decide +kernel) ⟨rfl, rfl, rfl, rfl, rfl, by decide +kernel⟩ ?hw ?hc
  case hw => w_witness2

  case hc =>
    refine Cb.end_tabs (l := PySem.Challenge.rw_calmblanks_k49_whole_all_webs) (n := 63) (k := 9) (x := "_law_script") rfl (by decide) (by kernel_rfl) ⟨rfl, by decide, by decide⟩ ?F
    intro w mg fa h K KX Y G hmg0
    have hmg : mg ("law" : PySem.Str) = some (.ref fa) := by
      have e : (HandSHeadRun.topDef (OpenLaw.row PySem.Challenge.rw_calmblanks_k49_whole_all_webs).prog 30).name = ("law" : PySem.Str) := by kernel_rfl
      rw [← e]
      exact hmg0
    obtain ⟨fd, hb, hF⟩ := Jn.facts (P := (PySem.Challenge.rw_calmblanks_k49_whole_all_webs).prog) (w := w) KX G hmg Y.t.d Y.more
    exact ⟨fd, _, hb, fun H a ns hl hH hS => @Cb.end_w (Cb.tbs K [(("all_lots", none), "all_lots.<locals>.<lambda>")]) K (Jn.cm K) Wk.m_law hm H a ns hl (Cb.tbs_start hH) hS, hF⟩

end
section
set_option maxRecDepth 100000
set_option maxHeartbeats 4000000
/-! tools for plain laws: what the combinators do, one equation each; a part is worked out before what stands behind it -/
namespace Pl
open PySem L2 Cb
variable {α β : Type} {env : Cb.Env}
theorem bind_cong {r r' : R α} {k : α → Cb.Env → R β} (h : r = r') : r.bind k = r'.bind k := by rw [h]
@[simp] theorem bind_ok {a : α} {e : Cb.Env} {k : α → Cb.Env → R β} : (R.ok a e).bind k = k a e := rfl
@[simp] theorem bind_ite {c : Prop} [Decidable c] {a b : R α} {k : α → Cb.Env → R β} : (if c then a else b).bind k = if c then a.bind k else b.bind k := by split <;> rfl
@[simp] theorem of_ok {s : SR} {e : Cb.Env} : SR.of (R.ok s e) = s := rfl
@[simp] theorem of_ite {c : Prop} [Decidable c] {a b : R SR} : SR.of (if c then a else b) = if c then SR.of a else SR.of b := by split <;> rfl
@[simp] theorem gets_0 {o : Option Z} {r : Cb.Env} : gets (o :: r) 0 = okZ o := rfl
@[simp] theorem okZ_n : okZ none = none := rfl
@[simp] theorem okZ_w {x : W} : okZ (some (.w x)) = some (.w x) := rfl
@[simp] theorem okZ_L {x : List W} : okZ (some (.L x)) = some (.L x) := rfl
@[simp] theorem okZ_dK {x : List (Key × W)} : okZ (some (.dK x)) = some (.dK x) := rfl
@[simp] theorem okZ_dT {x : List (List Key × W)} : okZ (some (.dT x)) = some (.dT x) := rfl
@[simp] theorem okZ_o {c : Str} {x : List (Str × W)} : okZ (some (.obj c x)) = some (.obj c x) := rfl
theorem okZ_of {z : Z} {l : List W} (h : frz z = .lst l) : okZ (some z) = some z := by cases z <;> first | rfl | (cases h)
@[simp] theorem okZ_e : okZ (some .err) = none := rfl
@[simp] theorem gets_s {o : Option Z} {r : Cb.Env} {i : Nat} : gets (o :: r) (i + 1) = gets r i := rfl
@[simp] theorem frz_w {x : W} : frz (.w x) = x := rfl
@[simp] theorem frz_L {x : List W} : frz (.L x) = .lst x := rfl
@[simp] theorem frz_o {c : Str} {x : List (Str × W)} : frz (.obj c x) = .obj c x := rfl
@[simp] theorem asB_bl {b : Bool} : asB (.w (.bl b)) = some b := rfl
@[simp] theorem asI_int {b : Int} : asI (.w (.int b)) = some b := rfl
/-- a slot's value, frozen -/
def vF (i : Nat) (env : Cb.Env) : Option Z → R Z
  | some z => .ok (.w (frz z)) (env.set i (some (.w (frz z))))
  | none => .bad
@[simp] theorem vF_s {i : Nat} {z : Z} : vF i env (some z) = .ok (.w (frz z)) (env.set i (some (.w (frz z)))) := rfl
theorem cVar_e {i : Nat} : cVar i env = vF i env (gets env i) := by unfold cVar vF; rfl
def oF (i : Nat) (env : Cb.Env) : Option Z → R Od
  | some _ => .ok (.s i) env
  | none => .bad
@[simp] theorem oF_s {i : Nat} {z : Z} : oF i env (some z) = .ok (.s i) env := rfl
theorem cOs_e {i : Nat} : cOs i env = oF i env (gets env i) := by unfold cOs oF; rfl
theorem cC_e {w : W} : cC w env = .ok (.w w) env := rfl
theorem cNil_e : (cNil : Den (List α)) env = .ok [] env := rfl
theorem cCons_e {d : Den Z} {ds : Den (List W)} : cCons d ds env = (d env).bind fun z env => (ds env).bind fun ws env => .ok (frz z :: ws) env := rfl
theorem cConsO_e {d : Den Od} {ds : Den (List Od)} : cConsO d ds env = (d env).bind fun z env => (ds env).bind fun ws env => .ok (z :: ws) env := rfl
theorem cOd_e {d : Den Z} : cOd d env = (d env).bind fun z env => .ok (.w (frz z)) env := rfl
theorem cTup_e {d : Den (List W)} : cTup d env = (d env).bind fun ws env => if Cb.sizeOk ws.length then .ok (.w (.tup ws)) env else .bad := rfl
theorem cLst_e {d : Den (List W)} : cLst d env = (d env).bind fun ws env => if Cb.sizeOk ws.length then .ok (.L ws) env else .bad := rfl
theorem cPr_e {p : Pr} {d : Den (List Od)} : cPr p d env = (d env).bind fun os env => primM p os env := rfl
theorem cB_e {d : Den Bool} : cB d env = (d env).bind fun b env => .ok (.w (.bl b)) env := rfl
def tF (env : Cb.Env) : Option Bool → R Bool
  | some b => .ok b env
  | none => .bad
@[simp] theorem tF_s {b : Bool} : tF env (some b) = .ok b env := rfl
theorem cT_e {d : Den Z} : cT d env = (d env).bind fun z env => tF env (asB z) := by unfold cT tF; rfl
theorem cNot_e {d : Den Bool} : cNot d env = (d env).bind fun b env => .ok (!b) env := rfl
theorem cIte_e {t : Den Bool} {a b : Den α} : cIte t a b env = (t env).bind fun t env => if t then a env else b env := rfl
theorem cAnd_e {d e : Den Bool} : cAnd d e env = (d env).bind fun b env => if b then e env else .ok false env := rfl
theorem cOr_e {d e : Den Bool} : cOr d e env = (d env).bind fun b env => if b then .ok true env else e env := rfl
theorem cTrue_e : cTrue env = .ok true env := rfl
theorem cFalse_e : cFalse env = .ok false env := rfl
def leF (env : Cb.Env) (i : Int) : Option Int → R Z
  | some j => .ok (.w (.bl (decide (i ≤ j)))) env
  | none => .bad
@[simp] theorem leF_s {i j : Int} : leF env i (some j) = .ok (.w (.bl (decide (i ≤ j)))) env := rfl
theorem cLe_e {i : Int} {d : Den Z} : cLe i d env = (d env).bind fun z env => leF env i (asI z) := by unfold cLe leF; rfl
def chF (env : Cb.Env) (dc : Den Z) : Option Int → Option Int → R Z
  | some i, some j => if i ≤ j then cLe j dc env else .ok (.w (.bl false)) env
  | _, _ => .bad
@[simp] theorem chF_s {i j : Int} {dc : Den Z} : chF env dc (some i) (some j) = if i ≤ j then cLe j dc env else .ok (.w (.bl false)) env := rfl
theorem cCh_e {a b c : Den Z} : cCh a b c env = (a env).bind fun x env => (b env).bind fun y env => chF env c (asI x) (asI y) := by
  have h : ∀ (x y : Z) (e2 : Cb.Env), (match asI x, asI y with | some i, some j => if i ≤ j then cLe j c e2 else .ok (.w (.bl false)) e2 | _, _ => .bad) = chF e2 c (asI x) (asI y) := fun x y e2 => by
    cases asI x <;> cases asI y <;> rfl
  show ((a env).bind fun x env => (b env).bind fun y env => match asI x, asI y with | some i, some j => if i ≤ j then cLe j c env else .ok (.w (.bl false)) env | _, _ => .bad) = _
  simp only [h]
theorem cCall_e {m : Mean} {d : Den (List Od)} : cCall m d env = (d env).bind fun os env => callM m os env := rfl
theorem cMk_e {c : Str} {m : Mean} {d : Den (List Od)} : cMk c m d env = (d env).bind fun os env => makeM c m os env := rfl
/-! calls -/
@[simp] theorem res_w {x : W} {os : List Od} : resAll env (.w x :: os) = (resAll env os).map (Z.w x :: ·) := by
  show (match some (Z.w x), resAll env os with | some z, some zs => some (z :: zs) | _, _ => none) = _
  cases resAll env os <;> rfl
def rsF (os : Option (List Z)) : Option Z → Option (List Z)
  | some z => os.map (z :: ·)
  | none => none
@[simp] theorem rsF_s {os : Option (List Z)} {z : Z} : rsF os (some z) = os.map (z :: ·) := rfl
@[simp] theorem res_s {i : Nat} {os : List Od} : resAll env (.s i :: os) = rsF (resAll env os) (gets env i) := by
  show (match gets env i, resAll env os with | some z, some zs => some (z :: zs) | _, _ => none) = _
  cases gets env i <;> cases resAll env os <;> rfl
@[simp] theorem res_n : resAll env [] = some [] := rfl
def prF (p : Pr) (env : Cb.Env) : Option (List Z) → R Z
  | none => .bad
  | some zs => match prW p (zs.map frz) with
    | some z => .ok z env
    | none => .bad
def pzF (env : Cb.Env) : Option Z → R Z
  | some z => .ok z env
  | none => .bad
@[simp] theorem pzF_s {z : Z} : pzF env (some z) = .ok z env := rfl
@[simp] theorem prF_s {p : Pr} {zs : List Z} : prF p env (some zs) = pzF env (prW p (zs.map frz)) := rfl
theorem primM_e {p : Pr} {os : List Od} : primM p os env = prF p env (resAll env os) := by unfold primM prF; rfl
/-- what comes of a call -/
def clF (os : List Od) (env : Cb.Env) (zs : List Z) : MR → R Z
  | .ok z back => if back.length = zs.length then .ok z (putBack os zs back env) else .bad
  | .ex x back => if back.length = zs.length then .ex x (putBack os zs back env) else .bad
  | .bad => .bad
@[simp] theorem clF_s {os : List Od} {zs : List Z} {z : Z} {back : List Z} : clF os env zs (.ok z back) = if back.length = zs.length then .ok z (putBack os zs back env) else .bad := rfl
def caF (m : Mean) (os : List Od) (env : Cb.Env) : Option (List Z) → R Z
  | none => .bad
  | some zs => if nodupB (lent os zs) then clF os env zs (m zs) else .bad
@[simp] theorem caF_s {m : Mean} {os : List Od} {zs : List Z} : caF m os env (some zs) = if nodupB (lent os zs) then clF os env zs (m zs) else .bad := rfl
theorem callM_e {m : Mean} {os : List Od} : callM m os env = caF m os env (resAll env os) := by
  unfold callM caF
  cases resAll env os with
  | none => rfl
  | some zs =>
    dsimp only
    split
    · cases m zs <;> rfl
    · rfl
@[simp] theorem lent_n {zs : List Z} : lent [] zs = [] := by cases zs <;> rfl
@[simp] theorem lent_sw {i : Nat} {os : List Od} {x : W} {zs : List Z} : lent (.s i :: os) (.w x :: zs) = lent os zs := rfl
@[simp] theorem lent_sL {i : Nat} {os : List Od} {x : List W} {zs : List Z} : lent (.s i :: os) (.L x :: zs) = i :: lent os zs := rfl
@[simp] theorem lent_so {i : Nat} {os : List Od} {c : Str} {x : List (Str × W)} {zs : List Z} : lent (.s i :: os) (.obj c x :: zs) = i :: lent os zs := rfl
@[simp] theorem lent_w {x : W} {os : List Od} {z : Z} {zs : List Z} : lent (.w x :: os) (z :: zs) = lent os zs := rfl
@[simp] theorem pb_n {zs bs : List Z} : putBack [] zs bs env = env := by cases zs <;> rfl
@[simp] theorem pb_sw {i : Nat} {os : List Od} {x : W} {zs : List Z} {b : Z} {bs : List Z} : putBack (.s i :: os) (.w x :: zs) (b :: bs) env = putBack os zs bs env := rfl
@[simp] theorem pb_sL {i : Nat} {os : List Od} {x : List W} {zs : List Z} {b : Z} {bs : List Z} : putBack (.s i :: os) (.L x :: zs) (b :: bs) env = putBack os zs bs (env.set i (some b)) := rfl
@[simp] theorem pb_so {i : Nat} {os : List Od} {c : Str} {x : List (Str × W)} {zs : List Z} {b : Z} {bs : List Z} : putBack (.s i :: os) (.obj c x :: zs) (b :: bs) env = putBack os zs bs (env.set i (some b)) := rfl
@[simp] theorem pb_w {x : W} {os : List Od} {z : Z} {zs : List Z} {b : Z} {bs : List Z} : putBack (.w x :: os) (z :: zs) (b :: bs) env = putBack os zs bs env := rfl
@[simp] theorem nd_n : nodupB [] = true := rfl
@[simp] theorem nd_1 {i : Nat} : nodupB [i] = true := rfl
def mkR (env : Cb.Env) : MR → R Z
  | .ok (.w .non) (z :: _) => .ok z env
  | .ex x _ => .ex x env
  | _ => .bad
@[simp] theorem mkR_s {z : Z} {bs : List Z} : mkR env (.ok (.w .non) (z :: bs)) = .ok z env := rfl
def mkF (c : Str) (m : Mean) (os : List Od) (env : Cb.Env) : Option (List Z) → R Z
  | none => .bad
  | some zs => if (lent os zs).isEmpty then mkR env (m (.obj c [] :: zs)) else .bad
@[simp] theorem mkF_s {c : Str} {m : Mean} {os : List Od} {zs : List Z} : mkF c m os env (some zs) = if (lent os zs).isEmpty then mkR env (m (.obj c [] :: zs)) else .bad := rfl
theorem makeM_e {c : Str} {m : Mean} {os : List Od} : makeM c m os env = mkF c m os env (resAll env os) := by
  unfold makeM mkF
  cases resAll env os with
  | none => rfl
  | some zs =>
    dsimp only
    split
    · unfold mkR; rfl
    · rfl
/-! statements -/
def sqF (b : DenS) : SR → SR
  | .nx env => b env
  | r => r
theorem sqF_cong {b : DenS} {r r' : SR} (h : r = r') : sqF b r = sqF b r' := by rw [h]
@[simp] theorem sqF_nx {b : DenS} : sqF b (.nx env) = b env := rfl
@[simp] theorem sqF_rt {b : DenS} {z : Z} : sqF b (.rt z env) = .rt z env := rfl
@[simp] theorem sqF_bk {b : DenS} : sqF b (.bk env) = .bk env := rfl
@[simp] theorem sqF_ct {b : DenS} : sqF b (.ct env) = .ct env := rfl
@[simp] theorem sqF_ite {b : DenS} {c : Prop} [Decidable c] {x y : SR} : sqF b (if c then x else y) = if c then sqF b x else sqF b y := by split <;> rfl
theorem kSeq_e {a b : DenS} : kSeq a b env = sqF b (a env) := by unfold kSeq sqF; rfl
theorem kNx_e : kNx env = .nx env := rfl
theorem kRet_e {d : Den Z} : kRet d env = SR.of ((d env).bind fun z env => .ok (.rt z env) env) := rfl
def rvF (i : Nat) (env : Cb.Env) : Option Z → SR
  | some z => .rt z (env.set i none)
  | none => .bad
@[simp] theorem rvF_s {i : Nat} {z : Z} : rvF i env (some z) = .rt z (env.set i none) := rfl
theorem kRetv_e {i : Nat} : kRetv i env = rvF i env (gets env i) := by unfold kRetv rvF; rfl
theorem kSet_e {i : Nat} {d : Den Z} : kSet i d env = SR.of ((d env).bind fun z env => .ok (setSl i z env) env) := rfl
theorem kIte_e {t : Den Bool} {a b : DenS} : kIte t a b env = SR.of ((t env).bind fun t env => .ok (if t then a env else b env) env) := rfl
theorem kEx_e {d : Den Z} : kEx d env = SR.of ((d env).bind fun _ env => .ok (.nx env) env) := rfl
theorem kParZ_e {i j : Nat} {d e : Den Z} : kParZ i j d e env = SR.of ((d env).bind fun z env => (e env).bind fun y env => .ok (if i < env.length ∧ j < env.length then .nx ((env.set i (some z)).set j (some y)) else .bad) env) := rfl
theorem setSl_e {i : Nat} {z : Z} : setSl i z env = if i < env.length then .nx (env.set i (some z)) else .bad := rfl
theorem kFor_e {tg : Tg} {k : Itk} {d : Den (List W)} {b : DenS} : kFor tg k d b env = SR.of ((cIt k d env).bind fun items env => .ok (evFor (setTg tg) b items env) env) := rfl
def itF (env : Cb.Env) : Option (List W) → R (List W)
  | some l => .ok l env
  | none => .bad
@[simp] theorem itF_s {l : List W} : itF env (some l) = .ok l env := rfl
theorem cIt_e {k : Itk} {d : Den (List W)} : cIt k d env = (d env).bind fun zs env => itF env (itW k zs) := by unfold cIt itF; rfl
/-! defs -/
def bkAt (keeps : List Nat) (zs : List Z) (env : Cb.Env) (i : Nat) : Option Z := if keeps.contains i then gets env i else (match zs[i]? with | some (.w x) => some (.w x) | _ => none)
def bkF : Option Z → Option (List Z) → Option (List Z)
  | some z, some r => some (z :: r)
  | _, _ => none
@[simp] theorem bkF_s {z : Z} {r : List Z} : bkF (some z) (some r) = some (z :: r) := rfl
def backL (keeps : List Nat) (zs : List Z) (env : Cb.Env) : Nat → Nat → Option (List Z)
  | _, 0 => some []
  | i, n + 1 => bkF (bkAt keeps zs env i) (backL keeps zs env (i + 1) n)
theorem back_e {d : Df} {zs : List Z} : backOf d zs env = backL d.keeps zs env 0 d.np := by
  have h : ∀ (n i : Nat), ((List.range n).map (· + i)).mapM (bkAt d.keeps zs env) = backL d.keeps zs env i n := by
    intro n
    induction n with
    | zero => intro i; rfl
    | succ n ih =>
      intro i
      rw [List.range_succ_eq_map, List.map_cons, List.map_map, List.mapM_cons]
      have e : ((fun x => x + i) ∘ Nat.succ) = fun x => x + (i + 1) := by funext x; simp; omega
      rw [e, ih (i + 1), Nat.zero_add]
      show _ = bkF (bkAt d.keeps zs env i) (backL d.keeps zs env (i + 1) n)
      cases bkAt d.keeps zs env i with
      | none => rfl
      | some z => cases backL d.keeps zs env (i + 1) n <;> rfl
  have h0 := h d.np 0
  have e : ((List.range d.np).map (· + 0)) = List.range d.np := by simp
  rw [e] at h0
  rw [← h0]
  rfl
def fiF (d : Df) (zs : List Z) : SR → MR
  | .nx e => (match backOf d zs e with | some b => .ok (.w .non) b | none => .bad)
  | .rt z e => (match backOf d zs e with | some b => .ok z b | none => .bad)
  | .ex x e => (match backOf d zs e with | some b => .ex x b | none => .bad)
  | _ => .bad
theorem fiF_cong {d : Df} {zs : List Z} {r r' : SR} (h : r = r') : fiF d zs r = fiF d zs r' := by rw [h]
def fbF (z : Z) : Option (List Z) → MR
  | some b => .ok z b
  | none => .bad
@[simp] theorem fbF_s {z : Z} {b : List Z} : fbF z (some b) = .ok z b := rfl
@[simp] theorem fiF_nx {d : Df} {zs : List Z} : fiF d zs (.nx env) = fbF (.w .non) (backL d.keeps zs env 0 d.np) := by rw [← back_e]; rfl
@[simp] theorem fiF_rt {d : Df} {zs : List Z} {z : Z} : fiF d zs (.rt z env) = fbF z (backL d.keeps zs env 0 d.np) := by rw [← back_e]; rfl
@[simp] theorem fiF_ite {d : Df} {zs : List Z} {c : Prop} [Decidable c] {x y : SR} : fiF d zs (if c then x else y) = if c then fiF d zs x else fiF d zs y := by split <;> rfl
theorem evD_e {d : Df} {zs : List Z} (h : zs.length = d.np) : evD d zs = fiF d zs (d.body (zs.map some ++ List.replicate (d.ns - d.np) none)) := by
  unfold evD fiF
  exact (if_pos h).trans rfl
@[simp] theorem mapmr {z : Z} {os : List Z} : (some os).map (z :: ·) = some (z :: os) := rfl
/-! loops -/
theorem lc_spec {body : W → Cb.Env → R (Option W)} {f : W → Option W} : ∀ {items : List W} {acc : List W}, (∀ w ∈ items, body w env = .ok (f w) env) → acc.length + items.length ≤ 16777216 → lcLoop body items env acc = .ok (acc ++ items.filterMap f) env
  | [], acc, _, _ => by simp [lcLoop]
  | w :: ws, acc, h, hl => by
    unfold lcLoop
    rw [h w List.mem_cons_self]
    cases e : f w with
    | none =>
      show lcLoop body ws env acc = _
      rw [lc_spec (fun x hx => h x (List.mem_cons_of_mem _ hx)) (by simp at hl; omega), List.filterMap_cons, e]
    | some y =>
      show (if acc.length < 16777216 then lcLoop body ws env (acc ++ [y]) else .bad) = _
      simp at hl
      rw [if_pos (by omega), lc_spec (fun x hx => h x (List.mem_cons_of_mem _ hx)) (by simp; omega), List.filterMap_cons, e]
      simp
@[simp] theorem ite_bl {c : Prop} [Decidable c] {e : Cb.Env} : (if c then R.ok true e else R.ok false e) = R.ok (decide c) e := by
  by_cases h : c
  · rw [if_pos h, decide_eq_true h]
  · rw [if_neg h, decide_eq_false h]
@[simp] theorem ite_same {c : Prop} [Decidable c] {a : α} : (if c then a else a) = a := by split <;> rfl
theorem lc_nil {body : W → Cb.Env → R (Option W)} {acc : List W} : lcLoop body [] env acc = .ok acc env := rfl
theorem lc_cons {body : W → Cb.Env → R (Option W)} {w : W} {ws acc : List W} : lcLoop body (w :: ws) env acc = (body w env).bind fun x env => match x with
  | none => lcLoop body ws env acc
  | some y => if acc.length < 16777216 then lcLoop body ws env (acc ++ [y]) else .bad := rfl
theorem cLc_s {vs : List Nat} {tg : Tg} {k : Itk} {di : Den (List W)} {t : Den Bool} {d : Den Z} {items : List W} {env1 : Cb.Env} {f : W → Option W} (h1 : cIt k di env = .ok items env1) (h2 : ∀ w ∈ items, lcTurn vs tg t d w (wipeE env1 vs) = .ok (f w) (wipeE env1 vs)) (h3 : items.length ≤ 16777216) :
    cLc vs tg k di t d env = .ok (.L (items.filterMap f)) (restE env1 (wipeE env1 vs) vs) := by
  unfold cLc
  rw [h1, bind_ok, lc_spec h2 (by simpa using h3)]
  rfl
@[simp] theorem wipe_n : wipeE env [] = env := rfl
@[simp] theorem wipe_c {v : Nat} {vs : List Nat} : wipeE env (v :: vs) = (wipeE env vs).set v none := rfl
def rsV : Option Z → Option Z
  | some (.w x) => some (.w x)
  | _ => none
@[simp] theorem rsV_n : rsV none = none := rfl
@[simp] theorem rsV_w {x : W} : rsV (some (.w x)) = some (.w x) := rfl
@[simp] theorem rest_n {e0 : Cb.Env} : restE e0 env [] = env := rfl
@[simp] theorem rest_c {e0 : Cb.Env} {v : Nat} {vs : List Nat} : restE e0 env (v :: vs) = (restE e0 env vs).set v (rsV (gets e0 v)) := by
  show (restE e0 env vs).set v (match gets e0 v with | some (.w x) => some (.w x) | _ => none) = _
  unfold rsV
  rfl
/-- a turn of a block -/
def ltF (vs : List Nat) (t : Den Bool) (d : Den Z) : Option Cb.Env → R (Option W)
  | none => .bad
  | some env => (t env).bind fun b env => if b then (d env).bind fun y env => .ok (some (frz y)) (wipeE env vs) else .ok none (wipeE env vs)
@[simp] theorem ltF_s {vs : List Nat} {t : Den Bool} {d : Den Z} : ltF vs t d (some env) = (t env).bind fun b env => if b then (d env).bind fun y env => .ok (some (frz y)) (wipeE env vs) else .ok none (wipeE env vs) := rfl
theorem lcTurn_e {vs : List Nat} {tg : Tg} {t : Den Bool} {d : Den Z} {w : W} : lcTurn vs tg t d w env = ltF vs t d (setTg tg w env) := by unfold lcTurn ltF; cases setTg tg w env <;> rfl
@[simp] theorem stg_n {i : Nat} {w : W} : setTg (.nm i) w env = if i < env.length then some (env.set i (some (.w w))) else none := rfl
@[simp] theorem stg_2 {i j : Nat} {a b : W} (h1 : i < env.length) (h2 : j < env.length) : setTg (.tup [i, j]) (.tup [a, b]) env = some ((env.set i (some (.w a))).set j (some (.w b))) := by
  simp [setTg, setMany, h1, h2]
theorem for_inv {g : W → Cb.Env → Option Cb.Env} {b : DenS} (I : List W → Cb.Env → Prop) (h : ∀ w ws e, I (w :: ws) e → ∃ e1 e2, g w e = some e1 ∧ b e1 = .nx e2 ∧ I ws e2) : ∀ {items : List W} {env : Cb.Env}, I items env → ∃ e', evFor g b items env = .nx e' ∧ I [] e'
  | [], env, hi => ⟨env, rfl, hi⟩
  | w :: ws, env, hi => by
    obtain ⟨e1, e2, h1, h2, h3⟩ := h w ws env hi
    obtain ⟨e', h4, h5⟩ := for_inv I h h3
    refine ⟨e', ?_, h5⟩
    unfold evFor
    rw [h1]
    dsimp only
    rw [h2]
    exact h4
theorem while_inv {c : Den Bool} {b : DenS} (I : Nat → Cb.Env → Prop) (J : Cb.Env → Prop) (h : ∀ m e, I m e → (∃ e1, c e = .ok false e1 ∧ J e1) ∨ ∃ e1 e2 m', c e = .ok true e1 ∧ b e1 = .nx e2 ∧ m' < m ∧ I m' e2) :
    ∀ (n m : Nat) (env : Cb.Env), m < n → I m env → ∃ e', evWhile c b n env = .nx e' ∧ J e'
  | 0, m, env, hm, _ => absurd hm (Nat.not_lt_zero m)
  | n + 1, m, env, hm, hi => by
    rcases h m env hi with ⟨e1, h1, h2⟩ | ⟨e1, e2, m', h1, h2, h3, h4⟩
    · refine ⟨e1, ?_, h2⟩
      unfold evWhile
      rw [h1]
    · obtain ⟨e', h5, h6⟩ := while_inv I J h n m' e2 (by omega) h4
      refine ⟨e', ?_, h6⟩
      unfold evWhile
      rw [h1]
      dsimp only
      rw [h2]
      exact h5
/-- methods of lists -/
def mtF (t : Mt) (i : Nat) (ws : List W) (env : Cb.Env) : Option Z → R Z
  | some z => (match mtZ t z ws with | some (v, z') => .ok v (env.set i (some z')) | none => .bad)
  | none => .bad
theorem mutM_e {t : Mt} {i : Nat} {ws : List W} : mutM t i ws env = mtF t i ws env (gets env i) := by unfold mutM mtF; rfl
@[simp] theorem mtF_app {i : Nat} {x : W} {l : List W} : mtF .append i [x] env (some (.L l)) = if l.length < 16777216 then .ok (.w .non) (env.set i (some (.L (l ++ [x])))) else .bad := by
  show (match (if decide (l.length < 16777216) then some (Z.w W.non, Z.L (l ++ [x])) else none) with | some (v, z') => R.ok v (env.set i (some z')) | none => .bad) = _
  by_cases h : l.length < 16777216
  · rw [if_pos h, if_pos (decide_eq_true h)]
  · rw [if_neg h, if_neg (by simpa using h)]
@[simp] theorem mtF_ext {i : Nat} {x l : List W} : mtF .extend i [.lst x] env (some (.L l)) = if Cb.sizeOk (l.length + x.length) then .ok (.w .non) (env.set i (some (.L (l ++ x)))) else .bad := by
  show (match (if Cb.sizeOk (l.length + x.length) then some (Z.w W.non, Z.L (l ++ x)) else none) with | some (v, z') => R.ok v (env.set i (some z')) | none => .bad) = _
  split <;> simp_all
@[simp] theorem isL_L {l : List W} : isL (some (.L l)) = true := rfl
theorem cMut_e {t : Mt} {i : Nat} {d : Den (List W)} : cMut t i d env = if isL (gets env i) then (d env).bind fun ws env => mutM t i ws env else .bad := rfl
/-- slices -/
theorem cSl_e {de : Den Od} {dl dh : Den (Option Int)} : cSl de dl dh env = (de env).bind fun o env => (dl env).bind fun l env => (dh env).bind fun h env => primM (.sl l h) [o] env := rfl
theorem cNoP_e : cNoP env = .ok none env := rfl
def cpF (env : Cb.Env) : Option Int → R (Option Int)
  | some i => .ok (some i) env
  | none => .bad
@[simp] theorem cpF_s {i : Int} : cpF env (some i) = .ok (some i) env := rfl
theorem cP_e {d : Den Z} : cP d env = (d env).bind fun z env => cpF env (asI z) := by unfold cP cpF; rfl
/-! operations -/
@[simp] theorem p_isinst1 {t : Ty} {w : W} : prW (.isinst [t]) [w] = if isKit w then some (.w (.bl (isTy t w))) else none := by
  show (if isKit w then some (Z.w (.bl ([t].any fun t => isTy t w))) else none) = _
  simp
@[simp] theorem p_addI {i j : Int} : prW .add [.int i, .int j] = some (.w (.int (i + j))) := rfl
@[simp] theorem p_subI {i j : Int} : prW .sub [.int i, .int j] = some (.w (.int (i - j))) := rfl
@[simp] theorem p_mulI {i j : Int} : prW .mul [.int i, .int j] = if mulOk i j then some (.w (.int (i * j))) else none := rfl
@[simp] theorem mulOk2 {j : Int} : mulOk 2 j = true := by simp [mulOk, small]
@[simp] theorem p_lenT {l : List W} : prW .len [.tup l] = some (.w (.int l.length)) := rfl
@[simp] theorem p_lenL {l : List W} : prW .len [.lst l] = some (.w (.int l.length)) := rfl
@[simp] theorem p_eqI {i j : Int} : prW .eq [.int i, .int j] = some (.w (.bl (decide (i = j)))) := by
  show (if shW (.int i) && shW (.int j) then some (Z.w (.bl (eqW (.int i) (.int j)))) else none) = _
  simp [shW, plainW, depW, eqW, Bool.beq_eq_decide_eq]
@[simp] theorem p_neI {i j : Int} : prW .ne [.int i, .int j] = some (.w (.bl (decide (i ≠ j)))) := by
  show (if shW (.int i) && shW (.int j) then some (Z.w (.bl (!eqW (.int i) (.int j)))) else none) = _
  simp [shW, plainW, depW, eqW, Bool.beq_eq_decide_eq]
@[simp] theorem p_ltI {i j : Int} : prW .lt [.int i, .int j] = some (.w (.bl (decide (i < j)))) := rfl
@[simp] theorem p_gtI {i j : Int} : prW .gt [.int i, .int j] = some (.w (.bl (decide (j < i)))) := rfl
@[simp] theorem p_geI {i j : Int} : prW .ge [.int i, .int j] = some (.w (.bl (decide (j ≤ i)))) := rfl
@[simp] theorem p_leI {i j : Int} : prW .le [.int i, .int j] = some (.w (.bl (decide (i ≤ j)))) := rfl
@[simp] theorem p_eqB {i j : Bool} : prW .eq [.bl i, .bl j] = some (.w (.bl (i == j))) := rfl
@[simp] theorem p_tupL {l : List W} : prW .tuple [.lst l] = some (.w (.tup l)) := rfl
@[simp] theorem p_listL {l : List W} : prW .list [.lst l] = some (.L l) := rfl
@[simp] theorem p_listT {l : List W} : prW .list [.tup l] = some (.L l) := rfl
@[simp] theorem p_ixT {l : List W} {i : Int} : prW .ix [.tup l, .int i] = (atI l i).map .w := rfl
@[simp] theorem p_ixL {l : List W} {i : Int} : prW .ix [.lst l, .int i] = (atI l i).map .w := rfl
def allB (l : List Bool) : Bool := l.all id
def anyB (l : List Bool) : Bool := l.any id
@[simp] theorem p_allL {l : List W} : prW .all [.lst l] = (asBls l).map fun bs => .w (.bl (allB bs)) := rfl
@[simp] theorem p_anyL {l : List W} : prW .any [.lst l] = (asBls l).map fun bs => .w (.bl (anyB bs)) := rfl
@[simp] theorem p_innT {a : W} {l : List W} : prW .inn [a, .tup l] = if shW a && shWs l then some (.w (.bl (l.any fun x => eqW x a))) else none := rfl
@[simp] theorem p_innL {a : W} {l : List W} : prW .inn [a, .lst l] = if shW a && shWs l then some (.w (.bl (l.any fun x => eqW x a))) else none := rfl
@[simp] theorem p_ninT {a : W} {l : List W} : prW .nin [a, .tup l] = if shW a && shWs l then some (.w (.bl (!l.any fun x => eqW x a))) else none := rfl
@[simp] theorem p_ninL {a : W} {l : List W} : prW .nin [a, .lst l] = if shW a && shWs l then some (.w (.bl (!l.any fun x => eqW x a))) else none := rfl
@[simp] theorem p_sortedL {l : List W} : prW .sorted [.lst l] = if sortable l then some (.L (sortW ltW l)) else none := rfl
@[simp] theorem p_fldO {cs : List Str} {f c : Str} {fs : List (Str × W)} : prW (.fld cs f) [.obj c fs] = if cs.contains c then (fs.lookup f).map .w else none := rfl
/-! ints -/
theorem plain_ints (l : List Int) : plainWs (l.map .int) = true := by
  induction l with
  | nil => rfl
  | cons a l ih => simp [plainWs, plainW, ih]
theorem dep_ints (l : List Int) : depWs (l.map .int) = 0 := by
  induction l with
  | nil => rfl
  | cons a l ih => simp [depWs, depW, ih]
@[simp] theorem sh_int (i : Int) : shW (.int i) = true := rfl
@[simp] theorem sh_ints (l : List Int) : shWs (l.map .int) = true := by simp [shWs, plain_ints, dep_ints]
@[simp] theorem any_ints (l : List Int) (i : Int) : ((l.map W.int).any fun x => eqW x (.int i)) = decide (i ∈ l) := by
  induction l with
  | nil => simp
  | cons a l ih =>
    rw [List.map_cons, List.any_cons, ih]
    have e : eqW (.int a) (.int i) = decide (i = a) := by
      show (a == i) = _
      rw [Bool.beq_eq_decide_eq]
      by_cases h : a = i
      · simp [h]
      · have h' : ¬ i = a := fun e => h e.symm
        simp [h, h']
    rw [e]
    simp [List.mem_cons, Bool.decide_or]
@[simp] theorem asBls_map {γ : Type} (l : List γ) (f : γ → Bool) : asBls (l.map fun x => .bl (f x)) = some (l.map f) := by
  induction l with
  | nil => rfl
  | cons a l ih => simp [asBls, ih]
@[simp] theorem asBls_n : asBls [] = some [] := rfl
@[simp] theorem asBls_c {b : Bool} {l : List W} : asBls (.bl b :: l) = (asBls l).map (b :: ·) := rfl
@[simp] theorem atI_0 {a : W} {l : List W} : atI (a :: l) 0 = some a := by simp [atI, ixN]
theorem lc_map {γ : Type} {body : W → Cb.Env → R (Option W)} {g : γ → W} {f : γ → Option W} : ∀ {l : List γ} {acc : List W}, (∀ x ∈ l, body (g x) env = .ok (f x) env) → acc.length + l.length ≤ 16777216 → lcLoop body (l.map g) env acc = .ok (acc ++ l.filterMap f) env
  | [], acc, _, _ => by simp [lcLoop]
  | w :: ws, acc, h, hl => by
    rw [List.map_cons, lc_cons, h w List.mem_cons_self, bind_ok]
    simp at hl
    cases e : f w with
    | none =>
      show lcLoop body (ws.map g) env acc = _
      rw [lc_map (fun x hx => h x (List.mem_cons_of_mem _ hx)) (by omega), List.filterMap_cons, e]
    | some y =>
      show (if acc.length < 16777216 then lcLoop body (ws.map g) env (acc ++ [y]) else .bad) = _
      rw [if_pos (by omega), lc_map (fun x hx => h x (List.mem_cons_of_mem _ hx)) (by simp; omega), List.filterMap_cons, e]
      simp
theorem cLc_m {γ : Type} {vs : List Nat} {tg : Tg} {k : Itk} {di : Den (List W)} {t : Den Bool} {d : Den Z} {env1 : Cb.Env} (l : List γ) (g : γ → W) (f : γ → Option W) (h1 : cIt k di env = .ok (l.map g) env1) (h3 : l.length ≤ 16777216) (h2 : ∀ x ∈ l, lcTurn vs tg t d (g x) (wipeE env1 vs) = .ok (f x) (wipeE env1 vs)) :
    cLc vs tg k di t d env = .ok (.L (l.filterMap f)) (restE env1 (wipeE env1 vs) vs) := by
  unfold cLc
  rw [h1, bind_ok, lc_map h2 (by simpa using h3)]
  rfl
theorem cLcK_m {γ : Type} {vs : List Nat} {tg : Tg} {i : Nat} {t : Den Bool} {d : Den Z} {env : Cb.Env} (l : List γ) (g : γ → W) (f : γ → Option W) (h1 : gets env i = some (.L (l.map g))) (h3 : l.length ≤ 16777216) (h2 : ∀ x ∈ l, lcTurn vs tg t d (g x) (wipeE (env.set i none) vs) = .ok (f x) (wipeE (env.set i none) vs)) :
    cLcK vs tg i t d env = .ok (.L (l.filterMap f)) ((restE (env.set i none) (wipeE (env.set i none) vs) vs).set i (some (.L (l.map g)))) := by
  unfold cLcK
  rw [h1]
  dsimp only
  rw [lc_map h2 (by simpa using h3)]
  rfl
/-- 0 .. n - 1 -/
def rgI (n : Int) : List Int := (List.range n.toNat).map fun (k : Nat) => (k : Int)
theorem mem_rgI {n t : Int} : t ∈ rgI n ↔ 0 ≤ t ∧ t < n := by
  unfold rgI
  rw [List.mem_map]
  constructor
  · rintro ⟨k, hk, rfl⟩
    have := List.mem_range.mp hk
    omega
  · rintro ⟨h1, h2⟩
    exact ⟨t.toNat, List.mem_range.mpr (by omega), by omega⟩
theorem nodup_rgI (n : Int) : (rgI n).Nodup := by
  unfold rgI
  exact List.pairwise_map.mpr (List.nodup_range.imp fun {a b} h e => h (by omega))
theorem len_rgI {n : Int} : (rgI n).length = n.toNat := by simp [rgI]
theorem it_rg1 {n : Int} (h : bnd n = true) : itW .rng1 [.int n] = some ((rgI n).map .int) := by
  show (if bnd n then some ((List.range n.toNat).map fun (k : Nat) => W.int (k : Int)) else none) = _
  rw [if_pos h]
  simp [rgI]
@[simp] theorem it_val_l {l : List W} : itW .val [.lst l] = some l := rfl
@[simp] theorem it_val_t {l : List W} : itW .val [.tup l] = some l := rfl
theorem fm_if {γ δ : Type} (l : List γ) (q : γ → Bool) (b : γ → δ) : l.filterMap (fun p => if q p = true then some (b p) else none) = (l.filter q).map b := by
  induction l with
  | nil => rfl
  | cons a l ih =>
    rw [List.filterMap_cons, List.filter_cons]
    cases q a <;> simp [ih]
theorem sIx0 (n : Nat) : HT.sIx n 0 none = 0 := by first | rfl | simp [HT.sIx]
theorem sIxn (n : Nat) : HT.sIx n n none = n := by first | rfl | simp [HT.sIx]
@[simp] theorem any_ints2 (l : List Int) (i : Int) : (l.any ((fun x => eqW x (.int i)) ∘ W.int)) = decide (i ∈ l) := by
  rw [← any_ints l i, List.any_map]
theorem nodup_len {γ : Type} [DecidableEq γ] : ∀ {l m : List γ}, l.Nodup → (∀ x ∈ l, x ∈ m) → l.length ≤ m.length
  | [], _, _, _ => Nat.zero_le _
  | a :: l, m, h, hs => by
    obtain ⟨h1, h2⟩ := List.nodup_cons.mp h
    have ha : a ∈ m := hs a List.mem_cons_self
    have := nodup_len (m := m.erase a) h2 fun x hx => by
      have hne : x ≠ a := fun e => h1 (e ▸ hx)
      exact (List.mem_erase_of_ne hne).mpr (hs x (List.mem_cons_of_mem _ hx))
    rw [List.length_erase_of_mem ha] at this
    have : 0 < m.length := List.length_pos_of_mem ha
    simp only [List.length_cons]
    omega
theorem kWhile_e {f : Cb.Env → Nat} {t : Den Bool} {b : DenS} : kWhile f t b env = evWhile t b (f env) env := rfl
theorem drop_cons {γ : Type} {L ws : List γ} {w : γ} {k : Nat} (h : w :: ws = L.drop k) : ∃ h : k < L.length, w = L[k] ∧ ws = L.drop (k + 1) := by
  have hk : k < L.length := by
    cases Nat.lt_or_ge k L.length with
    | inl h => exact h
    | inr hg => rw [List.drop_of_length_le hg] at h; cases h
  rw [List.drop_eq_getElem_cons hk] at h
  injection h with h1 h2
  exact ⟨hk, h1, h2⟩
def sfF (cs : List Str) (i : Nat) (f : Str) (v : W) (env : Cb.Env) : Option Z → SR
  | some (.obj c fs) => if c ∈ cs ∧ fs.length < 1000 then .nx (env.set i (some (.obj c (putFW f v fs)))) else .bad
  | _ => .bad
@[simp] theorem sfF_s {cs : List Str} {i : Nat} {f c : Str} {v : W} {fs : List (Str × W)} : sfF cs i f v env (some (.obj c fs)) = if c ∈ cs ∧ fs.length < 1000 then .nx (env.set i (some (.obj c (putFW f v fs)))) else .bad := rfl
theorem kSetFld_e {cs : List Str} {i : Nat} {f : Str} {d : Den Z} : kSetFld cs i f d env = SR.of ((d env).bind fun v env => .ok (sfF cs i f (frz v) env (gets env i)) env) := by
  unfold kSetFld
  cases d env with
  | ok v e =>
    simp only [bind_ok]
    cases gets e i with
    | none => rfl
    | some z =>
      cases z with
      | obj c fs =>
        simp only [sfF]
        by_cases h : c ∈ cs ∧ fs.length < 1000
        · have h2 : (cs.contains c && decide (fs.length < 1000)) = true := by simpa using h
          rw [if_pos h, if_pos h2]
        · have h2 : ¬ (cs.contains c && decide (fs.length < 1000)) = true := by simpa using h
          rw [if_neg h, if_neg h2]; rfl
      | _ => rfl
  | _ => rfl
theorem itv_enT {l : List W} : itW .enT [.tup l] = some (l.zipIdx.map fun p => .tup [.int (p.2 : Int), p.1]) := rfl
theorem itv_en {l : List W} : itW .enum [.lst l] = some (l.zipIdx.map fun p => .tup [.int (p.2 : Int), p.1]) := rfl
@[simp] theorem lt_pair {a b c d : Int} : prW .lt [.tup [.int a, .int b], .tup [.int c, .int d]] = some (.w (.bl (decide (a < c ∨ (a = c ∧ b < d))))) := by
  show (if cmpWs [.int a, .int b] [.int c, .int d] && shWs [.int a, .int b] && shWs [.int c, .int d] then some (Z.w (.bl (ltWs [.int a, .int b] [.int c, .int d]))) else none) = _
  have e : (cmpWs [.int a, .int b] [.int c, .int d] && shWs [.int a, .int b] && shWs [.int c, .int d]) = true := rfl
  rw [if_pos e]
  simp only [ltWs, ltW, eqW]
  by_cases h1 : a = c
  · subst h1
    by_cases h2 : b = d
    · subst h2; simp
    · simp [h2]
  · simp [h1]
/-- a loop that lays something behind what it has -/
theorem for_acc {γ : Type} {tg : Tg} {b : DenS} {g : γ → W} {f : γ → List W} (E : List W → Option Z → Cb.Env) (n B : Nat) (hf : ∀ x, (f x).length ≤ n) : ∀ (l : List γ), (∀ x ∈ l, ∀ acc s, acc.length ≤ B → ∃ e1 s', setTg tg (g x) (E acc s) = some e1 ∧ b e1 = .nx (E (acc ++ f x) s')) →
    ∀ acc s, acc.length + n * l.length ≤ B → ∃ s', evFor (setTg tg) b (l.map g) (E acc s) = .nx (E (acc ++ l.flatMap f) s')
  | [], _, acc, s, _ => ⟨s, by simp [evFor]⟩
  | x :: l, h, acc, s, hl => by
    simp only [List.length_cons, Nat.mul_add, Nat.mul_one] at hl
    obtain ⟨e1, s', h1, h2⟩ := h x List.mem_cons_self acc s (by omega)
    have hfx := hf x
    obtain ⟨s2, h3⟩ := for_acc E n B hf l (fun y hy => h y (List.mem_cons_of_mem _ hy)) (acc ++ f x) s' (by rw [List.length_append]; omega)
    refine ⟨s2, ?_⟩
    rw [List.map_cons]
    unfold evFor
    rw [h1]
    dsimp only
    rw [h2]
    dsimp only
    rw [h3]
    simp
/-- m .. n - 1 -/
def rgJ (m n : Int) : List Int := (List.range (n - m).toNat).map fun (k : Nat) => m + (k : Int)
theorem it_rg2 {m n : Int} (h1 : bnd m = true) (h2 : bnd n = true) : itW .rng2 [.int m, .int n] = some ((rgJ m n).map .int) := by
  show (if bnd m && bnd n then some ((List.range (n - m).toNat).map fun (k : Nat) => W.int (m + (k : Int))) else none) = _
  rw [h1, h2]
  simp [rgJ]
theorem len_rgJ {m n : Int} : (rgJ m n).length = (n - m).toNat := by simp [rgJ]
theorem mem_rgJ {m n t : Int} : t ∈ rgJ m n ↔ m ≤ t ∧ t < n := by
  unfold rgJ
  rw [List.mem_map]
  constructor
  · rintro ⟨k, hk, rfl⟩
    have := List.mem_range.mp hk
    omega
  · rintro ⟨h1, h2⟩
    exact ⟨(t - m).toNat, List.mem_range.mpr (by omega), by omega⟩
theorem plain_of : ∀ {l : List W}, (∀ w ∈ l, plainW w = true) → plainWs l = true
  | [], _ => rfl
  | w :: l, h => by
    unfold plainWs
    rw [h w List.mem_cons_self, plain_of fun x hx => h x (List.mem_cons_of_mem _ hx)]
    rfl
theorem dep_of {n : Nat} : ∀ {l : List W}, (∀ w ∈ l, depW w ≤ n) → depWs l ≤ n
  | [], _ => Nat.zero_le _
  | w :: l, h => by
    unfold depWs
    exact Nat.max_le.mpr ⟨h w List.mem_cons_self, dep_of fun x hx => h x (List.mem_cons_of_mem _ hx)⟩
theorem shWs_of {l : List W} (h1 : ∀ w ∈ l, plainW w = true) (h2 : ∀ w ∈ l, depW w ≤ 60) : shWs l = true := by
  unfold shWs
  rw [plain_of h1, Bool.true_and]
  exact decide_eq_true (dep_of h2)
theorem shL_of {l : List W} (h1 : ∀ w ∈ l, plainW w = true) (h2 : ∀ w ∈ l, depW w ≤ 59) : shW (.lst l) = true := by
  unfold shW plainW depW
  rw [plain_of h1, Bool.true_and]
  have := dep_of h2
  exact decide_eq_true (by omega)
theorem sortW_len (l : List W) : (sortW ltW l).length = l.length := (sortW_perm l).length_eq
end Pl

end
section
set_option maxRecDepth 100000
set_option maxHeartbeats 4000000
namespace P49
open PySem L2 Cb Pl Wk
abbrev Ar := Int × Int
def pW (p : Ar) : W := .tup [.int p.1, .int p.2]
def aW (A : List Ar) : W := .tup (A.map pW)
theorem is_integer_s (i : Int) : m_is_integer [.w (.int i)] = .ok (.w (.bl true)) [.w (.int i)] := rfl
theorem is_within_s (t l m : Int) : m_is_within [.w (.int t), .w (.int l), .w (.int m)] = .ok (.w (.bl (decide (l ≤ t) && decide (t ≤ m)))) [.w (.int t), .w (.int l), .w (.int m)] := by
  rw [m_is_within, evD_e rfl]
  simp only [f_is_within, b_is_within]
  by_cases h : l ≤ t
  · simp [cVar_e, cOs_e, cC_e, cNil_e, cCons_e, cConsO_e, cOd_e, cTup_e, cLst_e, cPr_e, cB_e, cT_e, cNot_e, cIte_e, cAnd_e, cOr_e, cTrue_e, cFalse_e, cLe_e, cCh_e, cCall_e, cMk_e, primM_e, callM_e, makeM_e, kSeq_e, kNx_e, kRet_e, kRetv_e, kSet_e, kIte_e, kEx_e, kParZ_e, setSl_e, kFor_e, cIt_e, cMut_e, mutM_e, cSl_e, cNoP_e, cP_e, lcTurn_e, backL, bkAt, Cb.sizeOk]; simp [is_integer_s, h]; simp [cVar_e, cOs_e, cC_e, cNil_e, cCons_e, cConsO_e, cOd_e, cTup_e, cLst_e, cPr_e, cB_e, cT_e, cNot_e, cIte_e, cAnd_e, cOr_e, cTrue_e, cFalse_e, cLe_e, cCh_e, cCall_e, cMk_e, primM_e, callM_e, makeM_e, kSeq_e, kNx_e, kRet_e, kRetv_e, kSet_e, kIte_e, kEx_e, kParZ_e, setSl_e, kFor_e, cIt_e, cMut_e, mutM_e, cSl_e, cNoP_e, cP_e, lcTurn_e, backL, bkAt, Cb.sizeOk]
  · simp [cVar_e, cOs_e, cC_e, cNil_e, cCons_e, cConsO_e, cOd_e, cTup_e, cLst_e, cPr_e, cB_e, cT_e, cNot_e, cIte_e, cAnd_e, cOr_e, cTrue_e, cFalse_e, cLe_e, cCh_e, cCall_e, cMk_e, primM_e, callM_e, makeM_e, kSeq_e, kNx_e, kRet_e, kRetv_e, kSet_e, kIte_e, kEx_e, kParZ_e, setSl_e, kFor_e, cIt_e, cMut_e, mutM_e, cSl_e, cNoP_e, cP_e, lcTurn_e, backL, bkAt, Cb.sizeOk]; simp [is_integer_s, h]; simp [cVar_e, cOs_e, cC_e, cNil_e, cCons_e, cConsO_e, cOd_e, cTup_e, cLst_e, cPr_e, cB_e, cT_e, cNot_e, cIte_e, cAnd_e, cOr_e, cTrue_e, cFalse_e, cLe_e, cCh_e, cCall_e, cMk_e, primM_e, callM_e, makeM_e, kSeq_e, kNx_e, kRet_e, kRetv_e, kSet_e, kIte_e, kEx_e, kParZ_e, setSl_e, kFor_e, cIt_e, cMut_e, mutM_e, cSl_e, cNoP_e, cP_e, lcTurn_e, backL, bkAt, Cb.sizeOk]
theorem is_pair_s (a b : W) : m_is_pair [.w (.tup [a, b])] = .ok (.w (.bl true)) [.w (.tup [a, b])] := rfl
/-- an arrow as it is asked -/
def Val (c : Int) (p : Ar) : Prop := 0 ≤ p.1 ∧ p.1 ≤ 2 * c - 1 ∧ 0 ≤ p.2 ∧ p.2 ≤ 2 * c - 1 ∧ p.1 ≠ p.2 ∧ (p.1 < c ∨ c ≤ p.2)
theorem x_is_arrow_s (c i j : Int) (hi : 0 ≤ i ∧ i ≤ 2 * c - 1) (hj : 0 ≤ j ∧ j ≤ 2 * c - 1) : x_is_arrow_1 [some (.w (.int c)), some (.w (.tup [.int i, .int j])), none] = .ok (.L [.bl true, .bl true]) [some (.w (.int c)), some (.w (.tup [.int i, .int j])), none] := by
  unfold x_is_arrow_1
  rw [cLc_s (items := [.int i, .int j]) (env1 := [some (.w (.int c)), some (.w (.tup [.int i, .int j])), none]) (f := fun _ => some (.bl true))]
  · rfl
  · simp [cVar_e, cOs_e, cC_e, cNil_e, cCons_e, cConsO_e, cOd_e, cTup_e, cLst_e, cPr_e, cB_e, cT_e, cNot_e, cIte_e, cAnd_e, cOr_e, cTrue_e, cFalse_e, cLe_e, cCh_e, cCall_e, cMk_e, primM_e, callM_e, makeM_e, kSeq_e, kNx_e, kRet_e, kRetv_e, kSet_e, kIte_e, kEx_e, kParZ_e, setSl_e, kFor_e, cIt_e, cMut_e, mutM_e, cSl_e, cNoP_e, cP_e, lcTurn_e, backL, bkAt, Cb.sizeOk]
  · intro w hw
    rcases List.mem_cons.mp hw with e | e
    · subst e
      simp [cVar_e, cOs_e, cC_e, cNil_e, cCons_e, cConsO_e, cOd_e, cTup_e, cLst_e, cPr_e, cB_e, cT_e, cNot_e, cIte_e, cAnd_e, cOr_e, cTrue_e, cFalse_e, cLe_e, cCh_e, cCall_e, cMk_e, primM_e, callM_e, makeM_e, kSeq_e, kNx_e, kRet_e, kRetv_e, kSet_e, kIte_e, kEx_e, kParZ_e, setSl_e, kFor_e, cIt_e, cMut_e, mutM_e, cSl_e, cNoP_e, cP_e, lcTurn_e, backL, bkAt, Cb.sizeOk]; simp [is_within_s, hi.1, hi.2]
    · rw [List.mem_singleton.mp e]
      simp [cVar_e, cOs_e, cC_e, cNil_e, cCons_e, cConsO_e, cOd_e, cTup_e, cLst_e, cPr_e, cB_e, cT_e, cNot_e, cIte_e, cAnd_e, cOr_e, cTrue_e, cFalse_e, cLe_e, cCh_e, cCall_e, cMk_e, primM_e, callM_e, makeM_e, kSeq_e, kNx_e, kRet_e, kRetv_e, kSet_e, kIte_e, kEx_e, kParZ_e, setSl_e, kFor_e, cIt_e, cMut_e, mutM_e, cSl_e, cNoP_e, cP_e, lcTurn_e, backL, bkAt, Cb.sizeOk]; simp [is_within_s, hj.1, hj.2]
  · simp
theorem at1 (a b : W) (l : List W) : atI (a :: b :: l) 1 = some b := by
  have h : (1 : Int) < (l.length : Int) + 1 + 1 := by omega
  simp [atI, ixN, h]
theorem is_arrow_s (c : Int) (p : Ar) (h : Val c p) : m_is_arrow [.w (.int c), .w (pW p)] = .ok (.w (.bl true)) [.w (.int c), .w (pW p)] := by
  obtain ⟨i, j⟩ := p
  obtain ⟨h1, h2, h3, h4, h5, h6⟩ := h
  rw [m_is_arrow, evD_e rfl]
  simp only [f_is_arrow, b_is_arrow, pW]
  simp [cVar_e, cOs_e, cC_e, cNil_e, cCons_e, cConsO_e, cOd_e, cTup_e, cLst_e, cPr_e, cB_e, cT_e, cNot_e, cIte_e, cAnd_e, cOr_e, cTrue_e, cFalse_e, cLe_e, cCh_e, cCall_e, cMk_e, primM_e, callM_e, makeM_e, kSeq_e, kNx_e, kRet_e, kRetv_e, kSet_e, kIte_e, kEx_e, kParZ_e, setSl_e, kFor_e, cIt_e, cMut_e, mutM_e, cSl_e, cNoP_e, cP_e, lcTurn_e, backL, bkAt, Cb.sizeOk, is_pair_s, x_is_arrow_s c i j ⟨h1, h2⟩ ⟨h3, h4⟩, at1]
  simp at h5 h6
  simp [h5, allB]
  omega
/-! ### order_by -/
theorem sh_pair (p : Ar) : shW (pW p) = true := rfl
/-- all arrows to t come from F -/
def okT (A : List Ar) (F : List Int) (t : Int) : Bool := A.all fun p => !decide (p.2 = t) || decide (p.1 ∈ F)
def free (c : Int) (F : List Int) : List Int := (rgI (2 * c)).filter fun t => !decide (t ∈ F)
def good (c : Int) (A : List Ar) (F : List Int) : List Int := (free c F).filter (okT A F)
theorem x_order_1 (c t : Int) (A : List Ar) (F : List Int) (b g : Z) (hA : A.length ≤ 16777216) :
    x_order_by_1 [some (.w (.int c)), some (.w (aW A)), some (.L (F.map .int)), some b, some g, some (.w (.int t)), none, none] =
      .ok (.L ((A.filter fun p => decide (p.2 = t)).map fun p => .bl (decide (p.1 ∈ F)))) [some (.w (.int c)), some (.w (aW A)), some (.L (F.map .int)), some b, some g, some (.w (.int t)), none, none] := by
  unfold x_order_by_1
  rw [cLc_m A pW (fun p => if decide (p.2 = t) = true then some (.bl (decide (p.1 ∈ F))) else none) (env1 := [some (.w (.int c)), some (.w (aW A)), some (.L (F.map .int)), some b, some g, some (.w (.int t)), none, none])]
  · rw [fm_if]; rfl
  · simp [cVar_e, cOs_e, cC_e, cNil_e, cCons_e, cConsO_e, cOd_e, cTup_e, cLst_e, cPr_e, cB_e, cT_e, cNot_e, cIte_e, cAnd_e, cOr_e, cTrue_e, cFalse_e, cLe_e, cCh_e, cCall_e, cMk_e, primM_e, callM_e, makeM_e, kSeq_e, kNx_e, kRet_e, kRetv_e, kSet_e, kIte_e, kEx_e, kParZ_e, setSl_e, kFor_e, cIt_e, cMut_e, mutM_e, cSl_e, cNoP_e, cP_e, lcTurn_e, backL, bkAt, Cb.sizeOk, aW]
  · exact hA
  · intro p hp
    simp [cVar_e, cOs_e, cC_e, cNil_e, cCons_e, cConsO_e, cOd_e, cTup_e, cLst_e, cPr_e, cB_e, cT_e, cNot_e, cIte_e, cAnd_e, cOr_e, cTrue_e, cFalse_e, cLe_e, cCh_e, cCall_e, cMk_e, primM_e, callM_e, makeM_e, kSeq_e, kNx_e, kRet_e, kRetv_e, kSet_e, kIte_e, kEx_e, kParZ_e, setSl_e, kFor_e, cIt_e, cMut_e, mutM_e, cSl_e, cNoP_e, cP_e, lcTurn_e, backL, bkAt, Cb.sizeOk, pW]
    split <;> rfl
theorem okT_e (A : List Ar) (F : List Int) (t : Int) : allB ((A.filter fun p => decide (p.2 = t)).map fun p => decide (p.1 ∈ F)) = okT A F t := by
  unfold allB okT
  induction A with
  | nil => rfl
  | cons p A ih =>
    rw [List.filter_cons, List.all_cons, ← ih]
    by_cases h : p.2 = t
    · simp [h]
    · simp [h]
theorem x_order_2 (c : Int) (A : List Ar) (F l : List Int) (b : Z) (hA : A.length ≤ 16777216) (hl : l.length ≤ 16777216) :
    x_order_by_2 [some (.w (.int c)), some (.w (aW A)), some (.L (F.map .int)), some b, some (.L (l.map .int)), none, none, none] =
      .ok (.L ((l.filter (okT A F)).map .int)) [some (.w (.int c)), some (.w (aW A)), some (.L (F.map .int)), some b, some (.w (.lst (l.map .int))), none, none, none] := by
  unfold x_order_by_2
  rw [cLc_m l W.int (fun t => if okT A F t = true then some (.int t) else none) (env1 := [some (.w (.int c)), some (.w (aW A)), some (.L (F.map .int)), some b, some (.w (.lst (l.map .int))), none, none, none])]
  · rw [fm_if]; rfl
  · simp [cVar_e, cOs_e, cC_e, cNil_e, cCons_e, cConsO_e, cOd_e, cTup_e, cLst_e, cPr_e, cB_e, cT_e, cNot_e, cIte_e, cAnd_e, cOr_e, cTrue_e, cFalse_e, cLe_e, cCh_e, cCall_e, cMk_e, primM_e, callM_e, makeM_e, kSeq_e, kNx_e, kRet_e, kRetv_e, kSet_e, kIte_e, kEx_e, kParZ_e, setSl_e, kFor_e, cIt_e, cMut_e, mutM_e, cSl_e, cNoP_e, cP_e, lcTurn_e, backL, bkAt, Cb.sizeOk]
  · exact hl
  · intro t ht
    simp [cVar_e, cOs_e, cC_e, cNil_e, cCons_e, cConsO_e, cOd_e, cTup_e, cLst_e, cPr_e, cB_e, cT_e, cNot_e, cIte_e, cAnd_e, cOr_e, cTrue_e, cFalse_e, cLe_e, cCh_e, cCall_e, cMk_e, primM_e, callM_e, makeM_e, kSeq_e, kNx_e, kRet_e, kRetv_e, kSet_e, kIte_e, kEx_e, kParZ_e, setSl_e, kFor_e, cIt_e, cMut_e, mutM_e, cSl_e, cNoP_e, cP_e, lcTurn_e, backL, bkAt, Cb.sizeOk, x_order_1 c t A F b (.w (.lst (l.map .int))) hA, okT_e]
    split <;> simp_all
theorem x_order_3 (c : Int) (A : List Ar) (F : List Int) (b : Z) (o : Option Z) (hc : 0 ≤ c ∧ c ≤ 1000) :
    x_order_by_3 [some (.w (.int c)), some (.w (aW A)), some (.L (F.map .int)), some b, o, none, none, none] =
      .ok (.L ((free c F).map .int)) [some (.w (.int c)), some (.w (aW A)), some (.L (F.map .int)), some b, o, none, none, none] := by
  unfold x_order_by_3
  have hb : bnd (2 * c) = true := by simp [bnd]; omega
  rw [cLc_m (rgI (2 * c)) W.int (fun t => if (!decide (t ∈ F)) = true then some (.int t) else none) (env1 := [some (.w (.int c)), some (.w (aW A)), some (.L (F.map .int)), some b, o, none, none, none])]
  · rw [fm_if]; rfl
  · simp [cVar_e, cOs_e, cC_e, cNil_e, cCons_e, cConsO_e, cOd_e, cTup_e, cLst_e, cPr_e, cB_e, cT_e, cNot_e, cIte_e, cAnd_e, cOr_e, cTrue_e, cFalse_e, cLe_e, cCh_e, cCall_e, cMk_e, primM_e, callM_e, makeM_e, kSeq_e, kNx_e, kRet_e, kRetv_e, kSet_e, kIte_e, kEx_e, kParZ_e, setSl_e, kFor_e, cIt_e, cMut_e, mutM_e, cSl_e, cNoP_e, cP_e, lcTurn_e, backL, bkAt, Cb.sizeOk, it_rg1 hb]
  · rw [len_rgI]; omega
  · intro t ht
    simp [cVar_e, cOs_e, cC_e, cNil_e, cCons_e, cConsO_e, cOd_e, cTup_e, cLst_e, cPr_e, cB_e, cT_e, cNot_e, cIte_e, cAnd_e, cOr_e, cTrue_e, cFalse_e, cLe_e, cCh_e, cCall_e, cMk_e, primM_e, callM_e, makeM_e, kSeq_e, kNx_e, kRet_e, kRetv_e, kSet_e, kIte_e, kEx_e, kParZ_e, setSl_e, kFor_e, cIt_e, cMut_e, mutM_e, cSl_e, cNoP_e, cP_e, lcTurn_e, backL, bkAt, Cb.sizeOk]
    split <;> simp_all
theorem sl1 (l : List W) : prW (.sl none (some 1)) [.lst l] = some (.L (l.take 1)) := by
  show some (Z.L ((l.drop (HT.sIx l.length 0 none)).take (HT.sIx l.length l.length (some 1) - HT.sIx l.length 0 none))) = _
  have e : HT.sIx l.length l.length (some 1) = min 1 l.length := HT.sIx_nat _ _ 1
  rw [e, sIx0, List.drop_zero, Nat.sub_zero]
  cases l <;> simp
theorem z_order_s (c : Int) (A : List Ar) (F : List Int) (b : Z) (o : Option Z) (hc : 0 ≤ c ∧ c ≤ 1000) (hA : A.length ≤ 16777216) (hF : F.length ≤ 4000) :
    z_order_by_1 [some (.w (.int c)), some (.w (aW A)), some (.L (F.map .int)), some b, o, none, none, none] =
      .nx [some (.w (.int c)), some (.w (aW A)), some (.L ((F ++ (good c A F).take 1).map .int)), some (.w (.bl (decide (0 < (good c A F).length)))), some (.L ((good c A F).map .int)), none, none, none] := by
  have hl : (free c F).length ≤ 16777216 := by
    unfold free
    have := List.length_filter_le (fun t => !decide (t ∈ F)) (rgI (2 * c))
    rw [len_rgI] at this
    omega
  have e : (free c F).filter (okT A F) = good c A F := rfl
  have hs : F.length + min 1 (good c A F).length ≤ 16777216 := by omega
  simp [cVar_e, cOs_e, cC_e, cNil_e, cCons_e, cConsO_e, cOd_e, cTup_e, cLst_e, cPr_e, cB_e, cT_e, cNot_e, cIte_e, cAnd_e, cOr_e, cTrue_e, cFalse_e, cLe_e, cCh_e, cCall_e, cMk_e, primM_e, callM_e, makeM_e, kSeq_e, kNx_e, kRet_e, kRetv_e, kSet_e, kIte_e, kEx_e, kParZ_e, setSl_e, kFor_e, cIt_e, cMut_e, mutM_e, cSl_e, cNoP_e, cP_e, lcTurn_e, backL, bkAt, Cb.sizeOk, z_order_by_1, x_order_3 c A F b o hc, x_order_2 c A F (free c F) b hA hl, e, sl1, hs, List.map_take]
abbrev oE (c : Int) (A : List Ar) (F : List Int) (b : Bool) (o : Option Z) : Cb.Env := [some (.w (.int c)), some (.w (aW A)), some (.L (F.map .int)), some (.w (.bl b)), o, none, none, none]
theorem mem_good {c t : Int} {A : List Ar} {F : List Int} : t ∈ good c A F ↔ t ∈ rgI (2 * c) ∧ t ∉ F ∧ okT A F t = true := by
  unfold good free
  simp only [List.mem_filter, Bool.not_eq_true', decide_eq_false_iff_not]
  constructor
  · rintro ⟨⟨h1, h2⟩, h3⟩; exact ⟨h1, h2, h3⟩
  · rintro ⟨h1, h2, h3⟩; exact ⟨⟨h1, h2⟩, h3⟩
theorem y_order_s (c : Int) (A : List Ar) (hc : 0 ≤ c ∧ c ≤ 100) (hA : A.length ≤ 16777216) :
    ∃ F o, y_order_by_1 (oE c A [] true none) = .nx (oE c A F false o) ∧ F.Nodup ∧ (∀ t ∈ F, t ∈ rgI (2 * c)) ∧ good c A F = [] := by
  unfold y_order_by_1
  rw [kWhile_e]
  obtain ⟨e', h1, F, o, h2, h3⟩ := while_inv (c := cT (cVar 3)) (b := z_order_by_1)
    (fun m e => ∃ F b o, e = oE c A F b o ∧ F.Nodup ∧ (∀ t ∈ F, t ∈ rgI (2 * c)) ∧ (b = false → good c A F = []) ∧ m = 2 * ((2 * c).toNat - F.length) + (if b then 1 else 0))
    (fun e => ∃ F o, e = oE c A F false o ∧ F.Nodup ∧ (∀ t ∈ F, t ∈ rgI (2 * c)) ∧ good c A F = []) (by
      rintro m e ⟨F, b, o, rfl, hn, hs, hb, rfl⟩
      have hlen : F.length ≤ (2 * c).toNat := by
        have := nodup_len hn hs
        rwa [len_rgI] at this
      cases b with
      | false => exact .inl ⟨oE c A F false o, by simp [cVar_e, cOs_e, cC_e, cNil_e, cCons_e, cConsO_e, cOd_e, cTup_e, cLst_e, cPr_e, cB_e, cT_e, cNot_e, cIte_e, cAnd_e, cOr_e, cTrue_e, cFalse_e, cLe_e, cCh_e, cCall_e, cMk_e, primM_e, callM_e, makeM_e, kSeq_e, kNx_e, kRet_e, kRetv_e, kSet_e, kIte_e, kEx_e, kParZ_e, setSl_e, kFor_e, cIt_e, cMut_e, mutM_e, cSl_e, cNoP_e, cP_e, lcTurn_e, backL, bkAt, Cb.sizeOk], F, o, rfl, hn, hs, hb rfl⟩
      | true =>
        right
        have hz := z_order_s c A F (.w (.bl true)) o ⟨hc.1, by omega⟩ hA (by omega)
        refine ⟨oE c A F true o, _, 2 * ((2 * c).toNat - (F ++ (good c A F).take 1).length) + (if decide (0 < (good c A F).length) then 1 else 0), by simp [cVar_e, cOs_e, cC_e, cNil_e, cCons_e, cConsO_e, cOd_e, cTup_e, cLst_e, cPr_e, cB_e, cT_e, cNot_e, cIte_e, cAnd_e, cOr_e, cTrue_e, cFalse_e, cLe_e, cCh_e, cCall_e, cMk_e, primM_e, callM_e, makeM_e, kSeq_e, kNx_e, kRet_e, kRetv_e, kSet_e, kIte_e, kEx_e, kParZ_e, setSl_e, kFor_e, cIt_e, cMut_e, mutM_e, cSl_e, cNoP_e, cP_e, lcTurn_e, backL, bkAt, Cb.sizeOk], hz, ?_, F ++ (good c A F).take 1, decide (0 < (good c A F).length), _, rfl, ?_, ?_, ?_, rfl⟩
        · cases hg : good c A F with
          | nil => simp
          | cons t r =>
            have ht : t ∈ good c A F := by rw [hg]; exact List.mem_cons_self
            obtain ⟨t1, t2, t3⟩ := mem_good.mp ht
            have hn2 : (t :: F).Nodup := List.nodup_cons.mpr ⟨t2, hn⟩
            have := nodup_len hn2 (fun x hx => by
              rcases List.mem_cons.mp hx with e | e
              · rw [e]; exact t1
              · exact hs x e)
            rw [len_rgI] at this
            simp at this ⊢
            omega
        · cases hg : good c A F with
          | nil => simpa using hn
          | cons t r =>
            have ht : t ∈ good c A F := by rw [hg]; exact List.mem_cons_self
            obtain ⟨t1, t2, t3⟩ := mem_good.mp ht
            simp only [List.take_succ_cons, List.take_zero]
            refine List.nodup_append.mpr ⟨hn, by simp, fun a ha b hb e => ?_⟩
            rw [List.mem_singleton] at hb
            exact t2 (hb ▸ e ▸ ha)
        · intro t ht
          rcases List.mem_append.mp ht with h | h
          · exact hs t h
          · exact (mem_good.mp (List.mem_of_mem_take h)).1
        · intro h
          have h0 : (good c A F).length = 0 := by
            have := of_decide_eq_false h
            omega
          have h0 := List.length_eq_zero_iff.mp h0
          rw [h0]
          simpa using h0) 1000 (2 * ((2 * c).toNat - 0) + 1) (oE c A [] true none) (by omega) ⟨[], true, none, rfl, List.nodup_nil, fun t h => absurd h (by simp), fun h => absurd h (by simp), rfl⟩
  exact ⟨F, o, by rw [h1, h2], h3⟩
theorem order_s (c : Int) (A : List Ar) (hc : 0 ≤ c ∧ c ≤ 100) (hA : A.length ≤ 16777216) :
    ∃ F, m_order_by [.w (.int c), .w (aW A)] = .ok (.L (F.map .int)) [.w (.int c), .w (aW A)] ∧ F.Nodup ∧ (∀ t ∈ F, t ∈ rgI (2 * c)) ∧ good c A F = [] := by
  obtain ⟨F, o, h1, h2⟩ := y_order_s c A hc hA
  refine ⟨F, ?_, h2⟩
  rw [m_order_by, evD_e rfl]
  simp only [f_order_by, b_order_by]
  have h1 : y_order_by_1 [some (.w (.int c)), some (.w (aW A)), some (.L []), some (.w (.bl true)), none, none, none, none] = .nx (oE c A F false o) := h1
  simp [cVar_e, cOs_e, cC_e, cNil_e, cCons_e, cConsO_e, cOd_e, cTup_e, cLst_e, cPr_e, cB_e, cT_e, cNot_e, cIte_e, cAnd_e, cOr_e, cTrue_e, cFalse_e, cLe_e, cCh_e, cCall_e, cMk_e, primM_e, callM_e, makeM_e, kSeq_e, kNx_e, kRet_e, kRetv_e, kSet_e, kIte_e, kEx_e, kParZ_e, setSl_e, kFor_e, cIt_e, cMut_e, mutM_e, cSl_e, cNoP_e, cP_e, lcTurn_e, backL, bkAt, Cb.sizeOk, h1]
/-! ### Web -/
def ltA (p q : Ar) : Prop := p.1 < q.1 ∨ (p.1 = q.1 ∧ p.2 < q.2)
/-- nothing stands in a ring -/
def Acy (c : Int) (A : List Ar) : Prop := ∀ P : Int → Prop, (∀ t, P t → t ∈ rgI (2 * c) ∧ ∃ p ∈ A, p.2 = t ∧ P p.1) → ∀ t, ¬ P t
/-- arrows of a web -/
structure Wb (c : Int) (A : List Ar) : Prop where
  val : ∀ p ∈ A, Val c p
  asc : A.Pairwise ltA
  acy : Acy c A
  len : A.length ≤ 1000
theorem order_all {c : Int} {A : List Ar} {F : List Int} (h : Wb c A) (hn : F.Nodup) (hs : ∀ t ∈ F, t ∈ rgI (2 * c)) (hg : good c A F = []) : F.length = (2 * c).toNat := by
  have hall : ∀ t ∈ rgI (2 * c), t ∈ F := by
    intro t ht
    refine Classical.byContradiction fun hf => ?_
    refine h.acy (fun t => t ∈ rgI (2 * c) ∧ t ∉ F) (fun u ⟨h1, h2⟩ => ⟨h1, ?_⟩) t ⟨ht, hf⟩
    have : u ∉ good c A F := by rw [hg]; simp
    have hk : ¬ okT A F u = true := fun hk => this (mem_good.mpr ⟨h1, h2, hk⟩)
    unfold okT at hk
    rw [List.all_eq_true] at hk
    have hx : ∃ p ∈ A, ¬ (!decide (p.2 = u) || decide (p.1 ∈ F)) = true := Classical.byContradiction fun hc => hk fun p hp => Classical.byContradiction fun h => hc ⟨p, hp, h⟩
    obtain ⟨p, hp, hq⟩ := hx
    simp at hq
    obtain ⟨h3, h4, h5, h6, _⟩ := h.val p hp
    exact ⟨p, hp, hq.1, mem_rgI.mpr ⟨h3, by omega⟩, hq.2⟩
  have h1 := nodup_len hn hs
  have h2 := nodup_len (nodup_rgI (2 * c)) hall
  rw [len_rgI] at h1 h2
  omega
def wF (c : Int) (A : List Ar) : List (Str × W) := [("columns", .int c), ("arrows", aW A)]
theorem z_web_s (c : Int) (A : List Ar) (o : Option Z) (k : Nat) (hk : k < A.length) (h : Wb c A) :
    z_Web_init_1 [o, some (.w (.int c)), some (.w (aW A)), some (.w (.int (k : Int))), some (.w (pW A[k]))] = .nx [o, some (.w (.int c)), some (.w (aW A)), some (.w (.int (k : Int))), some (.w (pW A[k]))] := by
  have h1 := is_arrow_s c A[k] (h.val _ (List.getElem_mem hk))
  unfold z_Web_init_1
  by_cases h0 : 0 < k
  · have hlt : ltA A[k - 1] A[k] := List.pairwise_iff_getElem.mp h.asc (k - 1) k (by omega) hk (by omega)
    have e : atI (A.map pW) ((k : Int) - 1) = some (pW A[k - 1]) := by
      have e1 : ((k : Int) - 1) = ((k - 1 : Nat) : Int) := by omega
      have h2 : ((k - 1 : Nat) : Int) < ((A.map pW).length : Int) := by simp; omega
      unfold atI ixN
      rw [e1, if_pos (by omega), if_pos h2]
      simp [show k - 1 < A.length by omega]
    have hd : (decide ((A[k-1]).1 < (A[k]).1 ∨ (A[k-1]).1 = (A[k]).1 ∧ (A[k-1]).2 < (A[k]).2)) = true := decide_eq_true hlt
    have h0' : (0 : Int) < (k : Int) := by omega
    simp [cVar_e, cOs_e, cC_e, cNil_e, cCons_e, cConsO_e, cOd_e, cTup_e, cLst_e, cPr_e, cB_e, cT_e, cNot_e, cIte_e, cAnd_e, cOr_e, cTrue_e, cFalse_e, cLe_e, cCh_e, cCall_e, cMk_e, primM_e, callM_e, makeM_e, kSeq_e, kNx_e, kRet_e, kRetv_e, kSet_e, kIte_e, kEx_e, kParZ_e, setSl_e, kFor_e, cIt_e, cMut_e, mutM_e, cSl_e, cNoP_e, cP_e, lcTurn_e, backL, bkAt, Cb.sizeOk, h1, aW, e, h0, h0']
    simp only [pW, lt_pair, hd]
    simp [cVar_e, cOs_e, cC_e, cNil_e, cCons_e, cConsO_e, cOd_e, cTup_e, cLst_e, cPr_e, cB_e, cT_e, cNot_e, cIte_e, cAnd_e, cOr_e, cTrue_e, cFalse_e, cLe_e, cCh_e, cCall_e, cMk_e, primM_e, callM_e, makeM_e, kSeq_e, kNx_e, kRet_e, kRetv_e, kSet_e, kIte_e, kEx_e, kParZ_e, setSl_e, kFor_e, cIt_e, cMut_e, mutM_e, cSl_e, cNoP_e, cP_e, lcTurn_e, backL, bkAt, Cb.sizeOk]
  · have h0' : ¬ (0 : Int) < (k : Int) := by omega
    simp [cVar_e, cOs_e, cC_e, cNil_e, cCons_e, cConsO_e, cOd_e, cTup_e, cLst_e, cPr_e, cB_e, cT_e, cNot_e, cIte_e, cAnd_e, cOr_e, cTrue_e, cFalse_e, cLe_e, cCh_e, cCall_e, cMk_e, primM_e, callM_e, makeM_e, kSeq_e, kNx_e, kRet_e, kRetv_e, kSet_e, kIte_e, kEx_e, kParZ_e, setSl_e, kFor_e, cIt_e, cMut_e, mutM_e, cSl_e, cNoP_e, cP_e, lcTurn_e, backL, bkAt, Cb.sizeOk, h1, h0, h0', aW]
theorem y_web_s (c : Int) (A : List Ar) (o : Option Z) (h : Wb c A) :
    ∃ a b, y_Web_init_1 [o, some (.w (.int c)), some (.w (aW A)), none, none] = .nx [o, some (.w (.int c)), some (.w (aW A)), a, b] := by
  unfold y_Web_init_1
  obtain ⟨e', h1, k, a, b, h2, h3⟩ := for_inv (g := setTg (.tup [3, 4])) (b := z_Web_init_1)
    (fun ws e => ∃ (k : Nat) (a b : Option Z), ws = ((A.map pW).zipIdx.map fun p => W.tup [.int (p.2 : Int), p.1]).drop k ∧ e = [o, some (.w (.int c)), some (.w (aW A)), a, b]) (by
      rintro w ws e ⟨k, a, b, hw, rfl⟩
      obtain ⟨hk, rfl, rfl⟩ := drop_cons hw
      have hk' : k < A.length := by simpa using hk
      refine ⟨[o, some (.w (.int c)), some (.w (aW A)), some (.w (.int (k : Int))), some (.w (pW A[k]))], _, ?_, z_web_s c A o k hk' h, k + 1, some (.w (.int (k : Int))), some (.w (pW A[k])), rfl, rfl⟩
      simp) (items := (A.map pW).zipIdx.map fun p => W.tup [.int (p.2 : Int), p.1]) (env := [o, some (.w (.int c)), some (.w (aW A)), none, none]) ⟨0, none, none, rfl, rfl⟩
  refine ⟨a, b, ?_⟩
  rw [h3] at h1
  simp [cVar_e, cOs_e, cC_e, cNil_e, cCons_e, cConsO_e, cOd_e, cTup_e, cLst_e, cPr_e, cB_e, cT_e, cNot_e, cIte_e, cAnd_e, cOr_e, cTrue_e, cFalse_e, cLe_e, cCh_e, cCall_e, cMk_e, primM_e, callM_e, makeM_e, kSeq_e, kNx_e, kRet_e, kRetv_e, kSet_e, kIte_e, kEx_e, kParZ_e, setSl_e, kFor_e, cIt_e, cMut_e, mutM_e, cSl_e, cNoP_e, cP_e, lcTurn_e, backL, bkAt, Cb.sizeOk, aW, itv_enT]
  exact h1
theorem web_s (c : Int) (A : List Ar) (hc : 1 ≤ c ∧ c ≤ 4) (h : Wb c A) :
    m_Web_init [.obj "Web" [], .w (.int c), .w (aW A)] = .ok (.w .non) [.obj "Web" (wF c A), .w (.int c), .w (aW A)] := by
  obtain ⟨a, b, hy⟩ := y_web_s c A (some (.obj "Web" [])) h
  obtain ⟨F, h1, h2, h3, h4⟩ := order_s c A ⟨by omega, by omega⟩ (by have := h.len; omega)
  have hF := order_all h h2 h3 h4
  have hF' : ¬ ((F.length : Int) < 2 * c) := by rw [hF]; omega
  have ne : ("columns" : Str) ≠ "arrows" := by decide
  rw [m_Web_init, evD_e rfl]
  simp only [f_Web_init, b_Web_init]
  have hT : isTy .tuple (aW A) = true := rfl
  have hK : isKit (aW A) = true := rfl
  simp [cVar_e, cOs_e, cC_e, cNil_e, cCons_e, cConsO_e, cOd_e, cTup_e, cLst_e, cPr_e, cB_e, cT_e, cNot_e, cIte_e, cAnd_e, cOr_e, cTrue_e, cFalse_e, cLe_e, cCh_e, cCall_e, cMk_e, primM_e, callM_e, makeM_e, kSeq_e, kNx_e, kRet_e, kRetv_e, kSet_e, kIte_e, kEx_e, kParZ_e, setSl_e, kFor_e, cIt_e, cMut_e, mutM_e, cSl_e, cNoP_e, cP_e, lcTurn_e, backL, bkAt, Cb.sizeOk, is_within_s, hc.1, hc.2, hy, h1, hF', hT, hK, kSetFld_e, putFW, ne, wF]
end P49

end
section
set_option maxRecDepth 100000
set_option maxHeartbeats 4000000
namespace P49
open PySem L2 Cb Pl Wk
theorem sh_ar (A : List Ar) : shWs (A.map pW) = true := shWs_of (fun w hw => by
  obtain ⟨p, _, rfl⟩ := List.mem_map.mp hw; rfl) fun w hw => by
  obtain ⟨p, _, rfl⟩ := List.mem_map.mp hw
  show depW (.tup [.int p.1, .int p.2]) ≤ 60
  simp [depW, depWs]
theorem sh_tt (i j : Int) : shW (.tup [.int i, .int j]) = true := rfl
theorem any_ar (A : List Ar) (i j : Int) : ((A.map pW).any fun x => eqW x (.tup [.int i, .int j])) = decide ((i, j) ∈ A) := by
  induction A with
  | nil => simp
  | cons p A ih =>
    rw [List.map_cons, List.any_cons, ih]
    obtain ⟨a, b⟩ := p
    have e : eqW (pW (a, b)) (.tup [.int i, .int j]) = decide ((i, j) = (a, b)) := by
      have e0 : eqW (pW (a, b)) (.tup [.int i, .int j]) = ((a == i) && ((b == j) && true)) := rfl
      rw [e0, Bool.beq_eq_decide_eq, Bool.beq_eq_decide_eq, Bool.and_true]
      by_cases h1 : a = i
      · subst h1
        by_cases h2 : b = j
        · subst h2; simp
        · have h2' : ¬ (j = b) := fun e => h2 e.symm
          simp [h2, h2']
      · have h1' : ¬ (i = a) := fun e => h1 e.symm
        simp [h1, h1']
    rw [e]
    simp [List.mem_cons, Bool.decide_or]
theorem any_ar2 (A : List Ar) (i j : Int) : (A.any ((fun x => eqW x (.tup [.int i, .int j])) ∘ pW)) = decide ((i, j) ∈ A) := by
  rw [← any_ar A i j, List.any_map]
theorem lk_c (c : Int) (A : List Ar) : (wF c A).lookup ("columns" : Str) = some (W.int c) := rfl
theorem lk_a (c : Int) (A : List Ar) : (wF c A).lookup ("arrows" : Str) = some (aW A) := rfl
theorem inn_ar (A : List Ar) (i j : Int) : prW .inn [.tup [.int i, .int j], aW A] = some (.w (.bl (decide ((i, j) ∈ A)))) := by
  show (if shW (.tup [.int i, .int j]) && shWs (A.map pW) then some (Z.w (.bl ((A.map pW).any fun x => eqW x (.tup [.int i, .int j])))) else none) = _
  rw [sh_tt, sh_ar, any_ar]
  rfl
theorem bnd_s {n : Int} (h : 0 ≤ n ∧ n ≤ 1000) : bnd n = true := by simp [bnd]; omega
theorem len_fm {γ : Type} {f : γ → List W} {n : Nat} (hf : ∀ x, (f x).length ≤ n) : ∀ l : List γ, (l.flatMap f).length ≤ n * l.length
  | [] => by simp
  | x :: l => by
    have h1 := hf x
    have h2 := len_fm hf l
    rw [List.flatMap_cons, List.length_append, List.length_cons, Nat.mul_add, Nat.mul_one]
    omega
end P49

end
section
set_option maxRecDepth 100000
set_option maxHeartbeats 4000000
namespace P49
open PySem L2 Cb Pl Wk
/-! ### the hand -/
def Hd5 (cells : List Int) (at_ left seed turn : Int) : List W := [.lst (cells.map .int), .int at_, .int left, .int seed, .int turn]
structure HOk (h : List W) : Prop where
  ex : ∃ cells at_ left seed turn, h = Hd5 cells at_ left seed turn ∧ 0 ≤ at_ ∧ 0 ≤ left ∧ ∀ x ∈ cells, 0 ≤ x
def sbF (i : Nat) (k v : W) (env : Cb.Env) : Option Z → SR
  | some o => (match setItem o k v with | some o => .nx (env.set i (some o)) | none => .bad)
  | none => .bad
theorem kSetSub_e {i : Nat} {dk d : Den Z} {env : Cb.Env} : kSetSub i dk d env = SR.of ((d env).bind fun v env => if (gets env i).isSome then (dk env).bind fun k env => .ok (sbF i (frz k) (frz v) env (gets env i)) env else .bad) := by
  unfold kSetSub
  cases d env with
  | ok v e =>
    simp only [bind_ok]
    cases h : gets e i with
    | none => rfl
    | some z =>
      simp only [Option.isSome_some, if_true]
      cases dk e with
      | ok k e2 =>
        simp only [bind_ok]
        cases gets e2 i with
        | none => rfl
        | some o =>
          simp only [sbF]
          cases setItem o (frz k) (frz v) <;> rfl
      | _ => rfl
  | _ => rfl
@[simp] theorem sbF_1 {a b c d e v : W} {env : Cb.Env} {i : Nat} : sbF i (.int 1) v env (some (.L [a, b, c, d, e])) = .nx (env.set i (some (.L [a, v, c, d, e]))) := rfl
@[simp] theorem sbF_2 {a b c d e v : W} {env : Cb.Env} {i : Nat} : sbF i (.int 2) v env (some (.L [a, b, c, d, e])) = .nx (env.set i (some (.L [a, b, v, d, e]))) := rfl
@[simp] theorem sbF_3 {a b c d e v : W} {env : Cb.Env} {i : Nat} : sbF i (.int 3) v env (some (.L [a, b, c, d, e])) = .nx (env.set i (some (.L [a, b, c, v, e]))) := rfl
@[simp] theorem sbF_4 {a b c d e v : W} {env : Cb.Env} {i : Nat} : sbF i (.int 4) v env (some (.L [a, b, c, d, e])) = .nx (env.set i (some (.L [a, b, c, d, v]))) := rfl
@[simp] theorem h_0 {a b c d e : W} : atI [a, b, c, d, e] 0 = some a := rfl
@[simp] theorem h_1 {a b c d e : W} : atI [a, b, c, d, e] 1 = some b := rfl
@[simp] theorem h_2 {a b c d e : W} : atI [a, b, c, d, e] 2 = some c := rfl
@[simp] theorem h_3 {a b c d e : W} : atI [a, b, c, d, e] 3 = some d := rfl
@[simp] theorem h_4 {a b c d e : W} : atI [a, b, c, d, e] 4 = some e := rfl
@[simp] theorem p_intI {i : Int} : prW .int [.int i] = some (.w (.int i)) := rfl
@[simp] theorem p_absI {i : Int} : prW .abs [.int i] = some (.w (.int (if i < 0 then -i else i))) := rfl
@[simp] theorem p_pow18 : prW .pow [.int 10, .int 18] = some (.w (.int 1000000000000000000)) := rfl
@[simp] theorem p_modI {i j : Int} : prW .mod [.int i, .int j] = if 0 < j then some (.w (.int (i % j))) else none := by
  show (if decide (0 < j) then some (Z.w (.int (i % j))) else none) = _
  simp
theorem small_of {i : Int} (h : 0 ≤ i ∧ i ≤ 1000000000000) : small i = true := by simp [small]; omega
theorem log_of {j : Int} (h : 0 < j ∧ j ≤ 1000000) : j.natAbs.log2 < 9000 := by
  have h1 : j.natAbs < 2 ^ 9000 := by
    have e : j.natAbs < 2 ^ 20 := by omega
    exact Nat.lt_of_lt_of_le e (Nat.pow_le_pow_right (by decide) (by decide))
  exact (Nat.log2_lt (by omega)).mpr h1
theorem p_fdivI {i j : Int} (h : 0 < j ∧ j ≤ 1000000) : prW .fdiv [.int i, .int j] = some (.w (.int (i / j))) := by
  show (if decide (0 < j) && decide (j.natAbs.log2 < 9000) then some (Z.w (.int (i / j))) else none) = _
  simp [h.1, log_of h]
theorem mulOk_r {i j : Int} (h : 0 ≤ j ∧ j ≤ 1000000000000) : mulOk i j = true := by simp [mulOk, small_of h]
theorem mulOk_m {i j : Int} : mulOk (i % 2147483647) j = true := by
  have h1 := Int.emod_nonneg i (b := 2147483647) (by decide)
  have h2 := Int.emod_lt_of_pos i (b := 2147483647) (by decide)
  simp [mulOk, small_of (i := i % 2147483647) ⟨h1, by omega⟩]
/-- what a draw gives when the hand holds a great number -/
theorem draw_big (cells : List Int) (at_ left seed turn many : Int) (hl : 0 < left) (hm : 0 < many ∧ many ≤ 1000000) :
    m__law_draw [.L (Hd5 cells at_ left seed turn), .w (.int many)] = .ok (.w (.int (left % many))) [.L (Hd5 cells at_ (left / many) seed turn), .w (.int many)] := by
  have h1 : ¬ left = 0 := by omega
  rw [m__law_draw, evD_e rfl]
  simp only [f__law_draw, b__law_draw, Hd5]
  simp [cVar_e, cOs_e, cC_e, cNil_e, cCons_e, cConsO_e, cOd_e, cTup_e, cLst_e, cPr_e, cB_e, cT_e, cNot_e, cIte_e, cAnd_e, cOr_e, cTrue_e, cFalse_e, cLe_e, cCh_e, cCall_e, cMk_e, primM_e, callM_e, makeM_e, kSeq_e, kNx_e, kRet_e, kRetv_e, kSet_e, kIte_e, kEx_e, kParZ_e, setSl_e, kFor_e, cIt_e, cMut_e, mutM_e, cSl_e, cNoP_e, cP_e, lcTurn_e, backL, bkAt, Cb.sizeOk, h1, hl, hm.1, kSetSub_e, p_fdivI hm]
theorem mulOk_l {i j : Int} (h : 0 ≤ i ∧ i ≤ 1000000000000) : mulOk i j = true := by simp [mulOk, small_of h]
@[simp] theorem mk1 {i : Int} : mulOk i 48271 = true := mulOk_r (by decide)
@[simp] theorem mk2 {i : Int} : mulOk i 69621 = true := mulOk_r (by decide)
@[simp] theorem mk3 {i : Int} : mulOk 7919 i = true := mulOk_l (by decide)
@[simp] theorem fd1 {i : Int} : prW .fdiv [.int i, .int 1009] = some (.w (.int (i / 1009))) := p_fdivI (by decide)
@[simp] theorem fd2 {i : Int} : prW .fdiv [.int i, .int 2003] = some (.w (.int (i / 2003))) := p_fdivI (by decide)
@[simp] theorem fd3 {i : Int} : prW .fdiv [.int i, .int 16] = some (.w (.int (i / 16))) := p_fdivI (by decide)
def dn (seed turn : Int) : Int :=
  let n1 := (seed + 7919 * turn) * 48271 % 2147483647
  let n2 := n1 * (n1 / 1009 + 69621) % 2147483647
  n2 * (n2 / 2003 + 40692) % 2147483399
/-- .. when no number is left -/
theorem draw_end (cells : List Int) (at_ seed turn many : Int) (ha : ¬ at_ < (cells.length : Int)) (hm : 0 < many ∧ many ≤ 1000000) :
    m__law_draw [.L (Hd5 cells at_ 0 seed turn), .w (.int many)] = .ok (.w (.int (dn seed (turn + 1) / 16 % many))) [.L (Hd5 cells at_ 0 seed (turn + 1)), .w (.int many)] := by
  rw [m__law_draw, evD_e rfl]
  simp only [f__law_draw, b__law_draw, Hd5]
  simp [cVar_e, cOs_e, cC_e, cNil_e, cCons_e, cConsO_e, cOd_e, cTup_e, cLst_e, cPr_e, cB_e, cT_e, cNot_e, cIte_e, cAnd_e, cOr_e, cTrue_e, cFalse_e, cLe_e, cCh_e, cCall_e, cMk_e, primM_e, callM_e, makeM_e, kSeq_e, kNx_e, kRet_e, kRetv_e, kSet_e, kIte_e, kEx_e, kParZ_e, setSl_e, kFor_e, cIt_e, cMut_e, mutM_e, cSl_e, cNoP_e, cP_e, lcTurn_e, backL, bkAt, Cb.sizeOk, ha, hm.1, kSetSub_e, mulOk_m, dn]
theorem at_cell {cells : List Int} {at_ : Int} (h0 : 0 ≤ at_) (h : at_ < (cells.length : Int)) : ∃ x ∈ cells, atI (cells.map W.int) at_ = some (.int x) := by
  have hn : at_.toNat < cells.length := by omega
  refine ⟨cells[at_.toNat], List.getElem_mem hn, ?_⟩
  unfold atI ixN
  rw [if_pos h0, if_pos (by simpa using h)]
  simp [hn]
/-- .. when the next number is small -/
theorem draw_small (cells : List Int) (at_ seed turn many x : Int) (ha : at_ < (cells.length : Int)) (hx : atI (cells.map W.int) at_ = some (.int x)) (hx2 : ¬ 1000000000000000000 ≤ x) (hm : 0 < many ∧ many ≤ 1000000) :
    ∃ s2, m__law_draw [.L (Hd5 cells at_ 0 seed turn), .w (.int many)] = .ok (.w (.int (dn s2 (turn + 1) / 16 % many))) [.L (Hd5 cells (at_ + 1) 0 s2 (turn + 1)), .w (.int many)] := by
  refine ⟨(seed * 69621 + x + 11) % 2147483629, ?_⟩
  rw [m__law_draw, evD_e rfl]
  simp only [f__law_draw, b__law_draw, Hd5]
  simp [cVar_e, cOs_e, cC_e, cNil_e, cCons_e, cConsO_e, cOd_e, cTup_e, cLst_e, cPr_e, cB_e, cT_e, cNot_e, cIte_e, cAnd_e, cOr_e, cTrue_e, cFalse_e, cLe_e, cCh_e, cCall_e, cMk_e, primM_e, callM_e, makeM_e, kSeq_e, kNx_e, kRet_e, kRetv_e, kSet_e, kIte_e, kEx_e, kParZ_e, setSl_e, kFor_e, cIt_e, cMut_e, mutM_e, cSl_e, cNoP_e, cP_e, lcTurn_e, backL, bkAt, Cb.sizeOk, ha, hm.1, hx, hx2, kSetSub_e, mulOk_m, dn]
theorem draw_great (cells : List Int) (at_ seed turn many x : Int) (ha : at_ < (cells.length : Int)) (hx : atI (cells.map W.int) at_ = some (.int x)) (hx2 : 1000000000000000000 ≤ x) (hm : 0 < many ∧ many ≤ 1000000) :
    ∃ s2, m__law_draw [.L (Hd5 cells at_ 0 seed turn), .w (.int many)] = .ok (.w (.int (x % many))) [.L (Hd5 cells (at_ + 1) (x / many) s2 turn), .w (.int many)] := by
  refine ⟨(seed * 69621 + x + 11) % 2147483629, ?_⟩
  have h0 : 0 < x := by omega
  rw [m__law_draw, evD_e rfl]
  simp only [f__law_draw, b__law_draw, Hd5]
  simp [cVar_e, cOs_e, cC_e, cNil_e, cCons_e, cConsO_e, cOd_e, cTup_e, cLst_e, cPr_e, cB_e, cT_e, cNot_e, cIte_e, cAnd_e, cOr_e, cTrue_e, cFalse_e, cLe_e, cCh_e, cCall_e, cMk_e, primM_e, callM_e, makeM_e, kSeq_e, kNx_e, kRet_e, kRetv_e, kSet_e, kIte_e, kEx_e, kParZ_e, setSl_e, kFor_e, cIt_e, cMut_e, mutM_e, cSl_e, cNoP_e, cP_e, lcTurn_e, backL, bkAt, Cb.sizeOk, ha, hm.1, hx, hx2, h0, kSetSub_e, p_fdivI hm]
theorem draw_s {h : List W} (hk : HOk h) (many : Int) (hm : 0 < many ∧ many ≤ 1000000) :
    ∃ r h', HOk h' ∧ (0 ≤ r ∧ r < many) ∧ m__law_draw [.L h, .w (.int many)] = .ok (.w (.int r)) [.L h', .w (.int many)] := by
  obtain ⟨cells, at_, left, seed, turn, rfl, h1, h2, h3⟩ := hk.ex
  have md : ∀ z : Int, 0 ≤ z % many ∧ z % many < many := fun z => ⟨Int.emod_nonneg z (by omega), Int.emod_lt_of_pos z hm.1⟩
  by_cases hl : 0 < left
  · exact ⟨_, _, ⟨cells, at_, left / many, seed, turn, rfl, h1, Int.ediv_nonneg h2 (by omega), h3⟩, md left, draw_big cells at_ left seed turn many hl hm⟩
  · have e : left = 0 := by omega
    subst e
    by_cases ha : at_ < (cells.length : Int)
    · obtain ⟨x, hx, hx1⟩ := at_cell h1 ha
      by_cases hx2 : 1000000000000000000 ≤ x
      · obtain ⟨s2, q⟩ := draw_great cells at_ seed turn many x ha hx1 hx2 hm
        exact ⟨_, _, ⟨cells, at_ + 1, x / many, s2, turn, rfl, by omega, Int.ediv_nonneg (h3 x hx) (by omega), h3⟩, md x, q⟩
      · obtain ⟨s2, q⟩ := draw_small cells at_ seed turn many x ha hx1 hx2 hm
        exact ⟨_, _, ⟨cells, at_ + 1, 0, s2, turn + 1, rfl, by omega, Int.le_refl _, h3⟩, md _, q⟩
    · exact ⟨_, _, ⟨cells, at_, 0, seed, turn + 1, rfl, h1, Int.le_refl _, h3⟩, md _, draw_end cells at_ seed turn many ha hm⟩
theorem hand_s (ns : List Int) : ∃ h, HOk h ∧ m__law_hand [.w (.scr ns)] = .ok (.L h) [.w (.scr ns)] := by
  let cut := (ns.drop (HT.sIx ns.length 0 none)).take (HT.sIx ns.length ns.length (some 63) - HT.sIx ns.length 0 none)
  have hx : x__law_hand_1 [some (.w (.scr ns)), none, none] = .ok (.L ((cut.map fun i => if i < 0 then -i else i).map .int)) [some (.w (.scr ns)), none, none] := by
    unfold x__law_hand_1
    have hsl : prW (.sl none (some 63)) [.scr ns] = some (.L (cut.map .int)) := rfl
    have hlen : cut.length ≤ 16777216 := by
      have h1 : cut.length ≤ HT.sIx ns.length ns.length (some 63) - HT.sIx ns.length 0 none := List.length_take_le _ _
      have h2 : HT.sIx ns.length ns.length (some 63) = min 63 ns.length := HT.sIx_nat _ _ 63
      rw [h2] at h1
      omega
    rw [cLc_m cut W.int (fun i => some (.int (if i < 0 then -i else i))) (env1 := [some (.w (.scr ns)), none, none])]
    · rw [List.filterMap_eq_map']
      simp
    · simp [cVar_e, cOs_e, cC_e, cNil_e, cCons_e, cConsO_e, cOd_e, cTup_e, cLst_e, cPr_e, cB_e, cT_e, cNot_e, cIte_e, cAnd_e, cOr_e, cTrue_e, cFalse_e, cLe_e, cCh_e, cCall_e, cMk_e, primM_e, callM_e, makeM_e, kSeq_e, kNx_e, kRet_e, kRetv_e, kSet_e, kIte_e, kEx_e, kParZ_e, setSl_e, kFor_e, cIt_e, cMut_e, mutM_e, cSl_e, cNoP_e, cP_e, lcTurn_e, backL, bkAt, Cb.sizeOk, hsl]
    · exact hlen
    · intro i hi
      simp [cVar_e, cOs_e, cC_e, cNil_e, cCons_e, cConsO_e, cOd_e, cTup_e, cLst_e, cPr_e, cB_e, cT_e, cNot_e, cIte_e, cAnd_e, cOr_e, cTrue_e, cFalse_e, cLe_e, cCh_e, cCall_e, cMk_e, primM_e, callM_e, makeM_e, kSeq_e, kNx_e, kRet_e, kRetv_e, kSet_e, kIte_e, kEx_e, kParZ_e, setSl_e, kFor_e, cIt_e, cMut_e, mutM_e, cSl_e, cNoP_e, cP_e, lcTurn_e, backL, bkAt, Cb.sizeOk]
  refine ⟨Hd5 (cut.map fun i => if i < 0 then -i else i) 0 0 (1 + ((cut.map fun i => if i < 0 then -i else i).length : Int)) 0, ⟨_, 0, 0, _, 0, rfl, Int.le_refl _, Int.le_refl _, ?_⟩, ?_⟩
  · intro x hx
    obtain ⟨i, _, rfl⟩ := List.mem_map.mp hx
    split <;> omega
  · rw [m__law_hand, evD_e rfl]
    simp only [f__law_hand, b__law_hand, Hd5]
    simp [cVar_e, cOs_e, cC_e, cNil_e, cCons_e, cConsO_e, cOd_e, cTup_e, cLst_e, cPr_e, cB_e, cT_e, cNot_e, cIte_e, cAnd_e, cOr_e, cTrue_e, cFalse_e, cLe_e, cCh_e, cCall_e, cMk_e, primM_e, callM_e, makeM_e, kSeq_e, kNx_e, kRet_e, kRetv_e, kSet_e, kIte_e, kEx_e, kParZ_e, setSl_e, kFor_e, cIt_e, cMut_e, mutM_e, cSl_e, cNoP_e, cP_e, lcTurn_e, backL, bkAt, Cb.sizeOk, hx]
end P49

end
section
set_option maxRecDepth 100000
set_option maxHeartbeats 4000000
namespace P49
open PySem L2 Cb Pl Wk
theorem at_list {l : List W} {r : Int} (h0 : 0 ≤ r) (h : r < (l.length : Int)) : ∃ x ∈ l, atI l r = some x := by
  have hn : r.toNat < l.length := by omega
  refine ⟨l[r.toNat], List.getElem_mem hn, ?_⟩
  unfold atI ixN
  rw [if_pos h0, if_pos h]
  simp [hn]
theorem some_s {h : List W} (hk : HOk h) (l : List W) (hl : 0 < l.length ∧ l.length ≤ 1000) :
    ∃ w h', w ∈ l ∧ HOk h' ∧ m__law_some [.L h, .w (.lst l)] = .ok (.w w) [.L h', .w (.lst l)] := by
  obtain ⟨r, h', h1, h2, h3⟩ := draw_s hk (l.length : Int) (by omega)
  obtain ⟨w, hw, ha⟩ := at_list h2.1 h2.2
  refine ⟨w, h', hw, h1, ?_⟩
  rw [m__law_some, evD_e rfl]
  simp only [f__law_some, b__law_some]
  simp [cVar_e, cOs_e, cC_e, cNil_e, cCons_e, cConsO_e, cOd_e, cTup_e, cLst_e, cPr_e, cB_e, cT_e, cNot_e, cIte_e, cAnd_e, cOr_e, cTrue_e, cFalse_e, cLe_e, cCh_e, cCall_e, cMk_e, primM_e, callM_e, makeM_e, kSeq_e, kNx_e, kRet_e, kRetv_e, kSet_e, kIte_e, kEx_e, kParZ_e, setSl_e, kFor_e, cIt_e, cMut_e, mutM_e, cSl_e, cNoP_e, cP_e, lcTurn_e, backL, bkAt, Cb.sizeOk, h3, ha]
theorem pop1_s {env : Cb.Env} {i : Nat} {l : List W} {r : Int} (h0 : 0 ≤ r) (h : r < (l.length : Int)) (hl : l.length ≤ 1000) :
    ∃ hn : r.toNat < l.length, mtF .pop1 i [.int r] env (some (.L l)) = .ok (.w l[r.toNat]) (env.set i (some (.L (l.eraseIdx r.toNat)))) := by
  have hn : r.toNat < l.length := by omega
  refine ⟨hn, ?_⟩
  have e1 : seqIndex? r l.length = some r.toNat := by
    unfold seqIndex?
    first
      | (simp [h0, hn]; omega)
      | (simp [h0, hn])
      | (rw [if_neg (by omega)]; simp; omega)
  have e2 : mtZ .pop1 (.L l) [.int r] = some (.w l[r.toNat], .L (l.eraseIdx r.toNat)) := by
    show (if bnd r then (seqIndex? r l.length).bind fun k => (l[k]?).map fun x => (Z.w x, Z.L (l.eraseIdx k)) else none) = _
    rw [bnd_s ⟨h0, by omega⟩, if_pos rfl, e1]
    simp [hn]
  show (match mtZ .pop1 (.L l) [.int r] with | some (v, z') => R.ok v (env.set i (some z')) | none => .bad) = _
  rw [e2]
theorem perm_erase {γ : Type} {l : List γ} {n : Nat} (h : n < l.length) : l.Perm (l[n] :: l.eraseIdx n) := by
  have e : l = l.take n ++ l[n] :: l.drop (n + 1) := by rw [← List.drop_eq_getElem_cons h, List.take_append_drop]
  rw [List.eraseIdx_eq_take_drop_succ]
  have := List.perm_middle (a := l[n]) (l₁ := l.take n) (l₂ := l.drop (n + 1))
  rwa [← e] at this
theorem z_shuf_s {h : List W} (hk : HOk h) (l pool found : List W) (hp : 0 < pool.length ∧ pool.length ≤ 1000) (hf : found.length ≤ 1000) :
    ∃ h' x pool', HOk h' ∧ pool.Perm (x :: pool') ∧ z__law_shuffled_1 [some (.L h), some (.w (.lst l)), some (.L pool), some (.L found)] = .nx [some (.L h'), some (.w (.lst l)), some (.L pool'), some (.L (found ++ [x]))] := by
  obtain ⟨r, h', h1, h2, h3⟩ := draw_s hk (pool.length : Int) (by omega)
  obtain ⟨hn, hpop⟩ := pop1_s (env := [some (.L h'), some (.w (.lst l)), some (.L pool), some (.L found)]) (i := 2) h2.1 h2.2 hp.2
  refine ⟨h', pool[r.toNat], pool.eraseIdx r.toNat, h1, ?_, ?_⟩
  · exact perm_erase hn
  · have hf' : found.length < 16777216 := by omega
    unfold z__law_shuffled_1
    simp [cVar_e, cOs_e, cC_e, cNil_e, cCons_e, cConsO_e, cOd_e, cTup_e, cLst_e, cPr_e, cB_e, cT_e, cNot_e, cIte_e, cAnd_e, cOr_e, cTrue_e, cFalse_e, cLe_e, cCh_e, cCall_e, cMk_e, primM_e, callM_e, makeM_e, kSeq_e, kNx_e, kRet_e, kRetv_e, kSet_e, kIte_e, kEx_e, kParZ_e, setSl_e, kFor_e, cIt_e, cMut_e, mutM_e, cSl_e, cNoP_e, cP_e, lcTurn_e, backL, bkAt, Cb.sizeOk, h3, hpop, hf']
theorem shuf_s {h : List W} (hk : HOk h) (l : List W) (hl : l.length ≤ 500) :
    ∃ h' p, HOk h' ∧ p.Perm l ∧ m__law_shuffled [.L h, .w (.lst l)] = .ok (.L p) [.L h', .w (.lst l)] := by
  obtain ⟨e', h1, h', p, h2, h3, h4⟩ := while_inv (c := cT (cPr .gt (cConsO (cOd (cPr .len (cConsO (cOs 2) cNil))) (cConsO (cOd (cC (.int 0))) cNil)))) (b := z__law_shuffled_1)
    (fun m e => ∃ h pool found, e = [some (.L h), some (.w (.lst l)), some (.L pool), some (.L found)] ∧ HOk h ∧ (found ++ pool).Perm l ∧ m = pool.length)
    (fun e => ∃ h p, e = [some (.L h), some (.w (.lst l)), some (.L []), some (.L p)] ∧ HOk h ∧ p.Perm l) (by
      rintro m e ⟨h, pool, found, rfl, hh, hp, rfl⟩
      have hlen := hp.length_eq
      rw [List.length_append] at hlen
      cases pool with
      | nil => exact .inl ⟨_, by simp [cVar_e, cOs_e, cC_e, cNil_e, cCons_e, cConsO_e, cOd_e, cTup_e, cLst_e, cPr_e, cB_e, cT_e, cNot_e, cIte_e, cAnd_e, cOr_e, cTrue_e, cFalse_e, cLe_e, cCh_e, cCall_e, cMk_e, primM_e, callM_e, makeM_e, kSeq_e, kNx_e, kRet_e, kRetv_e, kSet_e, kIte_e, kEx_e, kParZ_e, setSl_e, kFor_e, cIt_e, cMut_e, mutM_e, cSl_e, cNoP_e, cP_e, lcTurn_e, backL, bkAt, Cb.sizeOk], h, found, rfl, hh, by simpa using hp⟩
      | cons x pool =>
        obtain ⟨h', y, pool', h1, h2, h3⟩ := z_shuf_s hh l (x :: pool) found ⟨by simp, by simp at hlen ⊢; omega⟩ (by omega)
        refine .inr ⟨_, _, pool'.length, by simp [cVar_e, cOs_e, cC_e, cNil_e, cCons_e, cConsO_e, cOd_e, cTup_e, cLst_e, cPr_e, cB_e, cT_e, cNot_e, cIte_e, cAnd_e, cOr_e, cTrue_e, cFalse_e, cLe_e, cCh_e, cCall_e, cMk_e, primM_e, callM_e, makeM_e, kSeq_e, kNx_e, kRet_e, kRetv_e, kSet_e, kIte_e, kEx_e, kParZ_e, setSl_e, kFor_e, cIt_e, cMut_e, mutM_e, cSl_e, cNoP_e, cP_e, lcTurn_e, backL, bkAt, Cb.sizeOk], h3, ?_, h', pool', found ++ [y], rfl, h1, ?_, rfl⟩
        · have := h2.length_eq
          simp at this ⊢
          omega
        · rw [List.append_assoc]
          exact (List.Perm.append_left found h2.symm).trans hp) 1000 l.length [some (.L h), some (.w (.lst l)), some (.L l), some (.L [])] (by omega) ⟨h, l, [], rfl, hk, List.Perm.refl _, rfl⟩
  refine ⟨h', p, h3, h4, ?_⟩
  rw [m__law_shuffled, evD_e rfl]
  simp only [f__law_shuffled, b__law_shuffled]
  have hy : y__law_shuffled_1 [some (.L h), some (.w (.lst l)), some (.L l), some (.L [])] = .nx [some (.L h'), some (.w (.lst l)), some (.L []), some (.L p)] := by
    unfold y__law_shuffled_1
    rw [kWhile_e, h1, h2]
  simp [cVar_e, cOs_e, cC_e, cNil_e, cCons_e, cConsO_e, cOd_e, cTup_e, cLst_e, cPr_e, cB_e, cT_e, cNot_e, cIte_e, cAnd_e, cOr_e, cTrue_e, cFalse_e, cLe_e, cCh_e, cCall_e, cMk_e, primM_e, callM_e, makeM_e, kSeq_e, kNx_e, kRet_e, kRetv_e, kSet_e, kIte_e, kEx_e, kParZ_e, setSl_e, kFor_e, cIt_e, cMut_e, mutM_e, cSl_e, cNoP_e, cP_e, lcTurn_e, backL, bkAt, Cb.sizeOk, hy]
/-! ### sorted pairs -/
theorem sorted_pw {ws : List W} (h : sortable ws = true) : (sortW ltW ws).Pairwise fun a b => ltW b a = false := by
  obtain ⟨h1, h2⟩ := sortable_iff h
  have hp : ∀ x ∈ ws, plainW x = true := fun x hx => plainWs_mem (shWs_iff h1).1 hx
  have hm : ∀ x ∈ sortW ltW ws, x ∈ ws := fun x hx => (sortW_perm _).mem_iff.mp hx
  have := PySem.W.sort_pairwise total_data ws
  rw [sort_eq h] at this
  refine List.Pairwise.imp_of_mem (fun {a b} ha hb hab => ?_) this
  have e : PySem.W.dataLt (toD b) (toD a) = false := by
    have : (!PySem.W.dataLt (toD b) (toD a)) = true := hab
    simpa using this
  rwa [dataLt_of _ _ (h2 b (hm b hb) a (hm a ha)) (hp b (hm b hb)) (hp a (hm a ha))] at e
theorem sorted_strict {ws : List W} (h : sortable ws = true) (nd : ws.Nodup) : (sortW ltW ws).Pairwise fun a b => ltW a b = true := by
  obtain ⟨h1, h2⟩ := sortable_iff h
  have hm : ∀ x ∈ sortW ltW ws, x ∈ ws := fun x hx => (sortW_perm _).mem_iff.mp hx
  have nd2 : (sortW ltW ws).Nodup := (sortW_perm _).nodup_iff.mpr nd
  refine List.Pairwise.imp_of_mem (fun {a b} ha hb hab => ?_) ((sorted_pw h).and nd2)
  cases e : ltW a b with
  | true => rfl
  | false => exact absurd (cmp_tri a b (h2 a (hm a ha) b (hm b hb)) e hab.1) hab.2
def unP : W → Ar
  | .tup [.int a, .int b] => (a, b)
  | _ => (0, 0)
theorem unP_p (p : Ar) : unP (pW p) = p := rfl
theorem lt_pW {p q : Ar} (h : ltW (pW p) (pW q) = true) : ltA p q := by
  have e : prW .lt [pW p, pW q] = some (.w (.bl (ltW (pW p) (pW q)))) := rfl
  have e2 : prW .lt [pW p, pW q] = some (.w (.bl (decide (p.1 < q.1 ∨ (p.1 = q.1 ∧ p.2 < q.2))))) := lt_pair
  rw [e] at e2
  injection e2 with e2
  injection e2 with e2
  injection e2 with e2
  rw [h] at e2
  exact of_decide_eq_true (p := p.1 < q.1 ∨ (p.1 = q.1 ∧ p.2 < q.2)) e2.symm
theorem pairs_sortable (A : List Ar) : sortable (A.map pW) = true := by
  unfold sortable
  rw [sh_ar, Bool.true_and]
  refine List.all_eq_true.mpr fun a ha => List.all_eq_true.mpr fun b hb => ?_
  obtain ⟨p, _, rfl⟩ := List.mem_map.mp ha
  obtain ⟨q, _, rfl⟩ := List.mem_map.mp hb
  rfl
theorem nodup_pW {A : List Ar} (h : A.Nodup) : (A.map pW).Nodup := List.pairwise_map.mpr (h.imp fun {a b} hne e => hne (by rw [← unP_p a, e, unP_p]))
/-- sorted pairs, each once -/
theorem sort_pairs (F : List Ar) (h : F.Nodup) : ∃ A : List Ar, sortW ltW (F.map pW) = A.map pW ∧ A.Perm F ∧ A.Pairwise ltA := by
  have hp := sortW_perm (lt := ltW) (F.map pW)
  refine ⟨(sortW ltW (F.map pW)).map unP, ?_, ?_, ?_⟩
  · rw [List.map_map]
    have : (sortW ltW (F.map pW)).map (pW ∘ unP) = (sortW ltW (F.map pW)).map id := List.map_congr_left fun w hw => by
      obtain ⟨p, _, rfl⟩ := List.mem_map.mp (hp.mem_iff.mp hw)
      rfl
    rw [this, List.map_id]
  · have := hp.map unP
    rw [List.map_map] at this
    have e : F.map (unP ∘ pW) = F := by
      have : F.map (unP ∘ pW) = F.map id := List.map_congr_left fun p _ => rfl
      rw [this, List.map_id]
    rwa [e] at this
  · refine List.pairwise_map.mpr (List.Pairwise.imp_of_mem (fun {a b} ha hb hab => ?_) (sorted_strict (pairs_sortable F) (nodup_pW h)))
    obtain ⟨p, _, rfl⟩ := List.mem_map.mp (hp.mem_iff.mp ha)
    obtain ⟨q, _, rfl⟩ := List.mem_map.mp (hp.mem_iff.mp hb)
    exact lt_pW hab
end P49

end
section
set_option maxRecDepth 100000
set_option maxHeartbeats 4000000
namespace P49
open PySem L2 Cb Pl Wk
theorem parents_s (A : List Ar) (t : Int) (hA : A.length ≤ 1000) :
    m__law_parents [.w (aW A), .w (.int t)] = .ok (.L (((A.filter fun p => decide (p.2 = t)).map fun p => p.1).map .int)) [.w (aW A), .w (.int t)] := by
  have hx : x__law_parents_1 [some (.w (aW A)), some (.w (.int t)), none, none] = .ok (.L (((A.filter fun p => decide (p.2 = t)).map fun p => p.1).map .int)) [some (.w (aW A)), some (.w (.int t)), none, none] := by
    unfold x__law_parents_1
    rw [cLc_m A pW (fun p => if decide (p.2 = t) = true then some (.int p.1) else none) (env1 := [some (.w (aW A)), some (.w (.int t)), none, none])]
    · rw [fm_if, List.map_map]; rfl
    · simp [cVar_e, cOs_e, cC_e, cNil_e, cCons_e, cConsO_e, cOd_e, cTup_e, cLst_e, cPr_e, cB_e, cT_e, cNot_e, cIte_e, cAnd_e, cOr_e, cTrue_e, cFalse_e, cLe_e, cCh_e, cCall_e, cMk_e, primM_e, callM_e, makeM_e, kSeq_e, kNx_e, kRet_e, kRetv_e, kSet_e, kIte_e, kEx_e, kParZ_e, setSl_e, kFor_e, cIt_e, cMut_e, mutM_e, cSl_e, cNoP_e, cP_e, lcTurn_e, backL, bkAt, Cb.sizeOk, aW]
    · omega
    · intro p hp
      simp [cVar_e, cOs_e, cC_e, cNil_e, cCons_e, cConsO_e, cOd_e, cTup_e, cLst_e, cPr_e, cB_e, cT_e, cNot_e, cIte_e, cAnd_e, cOr_e, cTrue_e, cFalse_e, cLe_e, cCh_e, cCall_e, cMk_e, primM_e, callM_e, makeM_e, kSeq_e, kNx_e, kRet_e, kRetv_e, kSet_e, kIte_e, kEx_e, kParZ_e, setSl_e, kFor_e, cIt_e, cMut_e, mutM_e, cSl_e, cNoP_e, cP_e, lcTurn_e, backL, bkAt, Cb.sizeOk, pW]
      split <;> simp_all
  rw [m__law_parents, evD_e rfl]
  simp only [f__law_parents, b__law_parents]
  simp [cVar_e, cOs_e, cC_e, cNil_e, cCons_e, cConsO_e, cOd_e, cTup_e, cLst_e, cPr_e, cB_e, cT_e, cNot_e, cIte_e, cAnd_e, cOr_e, cTrue_e, cFalse_e, cLe_e, cCh_e, cCall_e, cMk_e, primM_e, callM_e, makeM_e, kSeq_e, kNx_e, kRet_e, kRetv_e, kSet_e, kIte_e, kEx_e, kParZ_e, setSl_e, kFor_e, cIt_e, cMut_e, mutM_e, cSl_e, cNoP_e, cP_e, lcTurn_e, backL, bkAt, Cb.sizeOk, hx]
/-- something of l leads to t -/
def led (A : List Ar) (l : List Int) (t : Int) : Bool := anyB ((A.filter fun p => decide (p.2 = t)).map fun p => decide (p.1 ∈ l))
theorem led_iff {A : List Ar} {l : List Int} {t : Int} : led A l t = true ↔ ∃ p ∈ A, p.2 = t ∧ p.1 ∈ l := by
  unfold led anyB
  rw [List.any_eq_true]
  constructor
  · rintro ⟨b, hb, h⟩
    obtain ⟨p, hp, rfl⟩ := List.mem_map.mp hb
    obtain ⟨h1, h2⟩ := List.mem_filter.mp hp
    exact ⟨p, h1, of_decide_eq_true h2, of_decide_eq_true h⟩
  · rintro ⟨p, h1, h2, h3⟩
    exact ⟨true, List.mem_map.mpr ⟨p, List.mem_filter.mpr ⟨h1, decide_eq_true h2⟩, decide_eq_true h3⟩, rfl⟩
theorem x_ring1_s (c t : Int) (A : List Ar) (l : List Int) (u : Option Z) (hA : A.length ≤ 1000) :
    x__law_has_ring_1 [some (.w (.int c)), some (.w (aW A)), some (.w (.lst (l.map .int))), u, some (.w (.int t)), none] =
      .ok (.L ((A.filter fun p => decide (p.2 = t)).map fun p => .bl (decide (p.1 ∈ l)))) [some (.w (.int c)), some (.w (aW A)), some (.w (.lst (l.map .int))), u, some (.w (.int t)), none] := by
  unfold x__law_has_ring_1
  have hlen : (A.filter fun p => decide (p.2 = t)).length ≤ 16777216 := by
    have := List.length_filter_le (fun p : Ar => decide (p.2 = t)) A
    omega
  rw [cLc_m (A.filter fun p => decide (p.2 = t)) (fun p => W.int p.1) (fun p => some (.bl (decide (p.1 ∈ l)))) (env1 := [some (.w (.int c)), some (.w (aW A)), some (.w (.lst (l.map .int))), u, some (.w (.int t)), none])]
  · rw [List.filterMap_eq_map']; rfl
  · simp [cVar_e, cOs_e, cC_e, cNil_e, cCons_e, cConsO_e, cOd_e, cTup_e, cLst_e, cPr_e, cB_e, cT_e, cNot_e, cIte_e, cAnd_e, cOr_e, cTrue_e, cFalse_e, cLe_e, cCh_e, cCall_e, cMk_e, primM_e, callM_e, makeM_e, kSeq_e, kNx_e, kRet_e, kRetv_e, kSet_e, kIte_e, kEx_e, kParZ_e, setSl_e, kFor_e, cIt_e, cMut_e, mutM_e, cSl_e, cNoP_e, cP_e, lcTurn_e, backL, bkAt, Cb.sizeOk, parents_s A t hA]
  · exact hlen
  · intro i hi
    simp [cVar_e, cOs_e, cC_e, cNil_e, cCons_e, cConsO_e, cOd_e, cTup_e, cLst_e, cPr_e, cB_e, cT_e, cNot_e, cIte_e, cAnd_e, cOr_e, cTrue_e, cFalse_e, cLe_e, cCh_e, cCall_e, cMk_e, primM_e, callM_e, makeM_e, kSeq_e, kNx_e, kRet_e, kRetv_e, kSet_e, kIte_e, kEx_e, kParZ_e, setSl_e, kFor_e, cIt_e, cMut_e, mutM_e, cSl_e, cNoP_e, cP_e, lcTurn_e, backL, bkAt, Cb.sizeOk]
theorem x_ring2_s (c : Int) (A : List Ar) (l : List Int) (z : Z) (u : Option Z) (hz : frz z = .lst (l.map .int)) (hA : A.length ≤ 1000) (hl : l.length ≤ 1000) :
    x__law_has_ring_2 [some (.w (.int c)), some (.w (aW A)), some z, u, none, none] = .ok (.L ((l.filter (led A l)).map .int)) [some (.w (.int c)), some (.w (aW A)), some (.w (.lst (l.map .int))), u, none, none] := by
  unfold x__law_has_ring_2
  rw [cLc_m l W.int (fun t => if led A l t = true then some (.int t) else none) (env1 := [some (.w (.int c)), some (.w (aW A)), some (.w (.lst (l.map .int))), u, none, none])]
  · rw [fm_if]; rfl
  · simp [cVar_e, cOs_e, cC_e, cNil_e, cCons_e, cConsO_e, cOd_e, cTup_e, cLst_e, cPr_e, cB_e, cT_e, cNot_e, cIte_e, cAnd_e, cOr_e, cTrue_e, cFalse_e, cLe_e, cCh_e, cCall_e, cMk_e, primM_e, callM_e, makeM_e, kSeq_e, kNx_e, kRet_e, kRetv_e, kSet_e, kIte_e, kEx_e, kParZ_e, setSl_e, kFor_e, cIt_e, cMut_e, mutM_e, cSl_e, cNoP_e, cP_e, lcTurn_e, backL, bkAt, Cb.sizeOk, hz, okZ_of hz]
  · omega
  · intro t ht
    have e : anyB ((A.filter fun p => decide (p.2 = t)).map fun p => decide (p.1 ∈ l)) = led A l t := rfl
    simp [cVar_e, cOs_e, cC_e, cNil_e, cCons_e, cConsO_e, cOd_e, cTup_e, cLst_e, cPr_e, cB_e, cT_e, cNot_e, cIte_e, cAnd_e, cOr_e, cTrue_e, cFalse_e, cLe_e, cCh_e, cCall_e, cMk_e, primM_e, callM_e, makeM_e, kSeq_e, kNx_e, kRet_e, kRetv_e, kSet_e, kIte_e, kEx_e, kParZ_e, setSl_e, kFor_e, cIt_e, cMut_e, mutM_e, cSl_e, cNoP_e, cP_e, lcTurn_e, backL, bkAt, Cb.sizeOk, x_ring1_s c t A l u hA, e]
    try (split <;> simp_all)
def rgF (env : Cb.Env) : Option Int → R Z
  | some n => if rgOk 0 n then .ok (.L (rgW 0 n)) env else .bad
  | none => .bad
theorem cRg1_e {d : Den Z} {env : Cb.Env} : cRg1 d env = (d env).bind fun z env => rgF env (asI z) := by unfold cRg1 rgF; rfl
/-- what is left after n turns -/
def leftN (A : List Ar) : Nat → List Int → List Int
  | 0, l => l
  | n + 1, l => leftN A n (l.filter (led A l))
theorem ring_s (c : Int) (A : List Ar) (hc : 0 ≤ c ∧ c ≤ 100) (hA : A.length ≤ 1000) :
    m__law_has_ring [.w (.int c), .w (aW A)] = .ok (.w (.bl (decide (0 < (leftN A (2 * c).toNat (rgI (2 * c))).length)))) [.w (.int c), .w (aW A)] := by
  have hy : ∃ u, y__law_has_ring_1 [some (.w (.int c)), some (.w (aW A)), some (.L ((rgI (2 * c)).map .int)), none, none, none] = .nx [some (.w (.int c)), some (.w (aW A)), some (.L ((leftN A (2 * c).toNat (rgI (2 * c))).map .int)), u, none, none] := by
    obtain ⟨e', h1, l, u, n, h2, h3, h4⟩ := for_inv (g := setTg (.nm 3)) (b := z__law_has_ring_1)
      (fun ws e => ∃ l u n, ws.length = n ∧ e = [some (.w (.int c)), some (.w (aW A)), some (.L (l.map W.int)), u, none, none] ∧ leftN A n l = leftN A (2 * c).toNat (rgI (2 * c)) ∧ l.length ≤ 1000) (by
        rintro w ws e ⟨l, u, n, hn, rfl, hl, hl2⟩
        cases n with
        | zero => cases hn
        | succ n =>
          have hx := x_ring2_s c A l (.L (l.map .int)) (some (.w w)) rfl hA hl2
          refine ⟨[some (.w (.int c)), some (.w (aW A)), some (.L (l.map W.int)), some (.w w), none, none], [some (.w (.int c)), some (.w (aW A)), some (.L ((l.filter (led A l)).map W.int)), some (.w w), none, none], by simp, ?_, l.filter (led A l), some (.w w), n, by simpa using hn, rfl, hl, ?_⟩
          · unfold z__law_has_ring_1
            simp [cVar_e, cOs_e, cC_e, cNil_e, cCons_e, cConsO_e, cOd_e, cTup_e, cLst_e, cPr_e, cB_e, cT_e, cNot_e, cIte_e, cAnd_e, cOr_e, cTrue_e, cFalse_e, cLe_e, cCh_e, cCall_e, cMk_e, primM_e, callM_e, makeM_e, kSeq_e, kNx_e, kRet_e, kRetv_e, kSet_e, kIte_e, kEx_e, kParZ_e, setSl_e, kFor_e, cIt_e, cMut_e, mutM_e, cSl_e, cNoP_e, cP_e, lcTurn_e, backL, bkAt, Cb.sizeOk, hx]
          · exact Nat.le_trans (List.length_filter_le _ _) hl2)
      (items := (rgI (2 * c)).map W.int) (env := [some (.w (.int c)), some (.w (aW A)), some (.L ((rgI (2 * c)).map .int)), none, none, none])
      ⟨rgI (2 * c), none, (2 * c).toNat, by rw [List.length_map, len_rgI], rfl, rfl, by rw [len_rgI]; omega⟩
    refine ⟨u, ?_⟩
    have h0 : n = 0 := h2.symm
    subst h0
    rw [← h4.1]
    rw [h3] at h1
    unfold y__law_has_ring_1
    simp [cVar_e, cOs_e, cC_e, cNil_e, cCons_e, cConsO_e, cOd_e, cTup_e, cLst_e, cPr_e, cB_e, cT_e, cNot_e, cIte_e, cAnd_e, cOr_e, cTrue_e, cFalse_e, cLe_e, cCh_e, cCall_e, cMk_e, primM_e, callM_e, makeM_e, kSeq_e, kNx_e, kRet_e, kRetv_e, kSet_e, kIte_e, kEx_e, kParZ_e, setSl_e, kFor_e, cIt_e, cMut_e, mutM_e, cSl_e, cNoP_e, cP_e, lcTurn_e, backL, bkAt, Cb.sizeOk, it_rg1 (bnd_s (n := 2 * c) (by omega))]
    exact h1
  obtain ⟨u, hy⟩ := hy
  have hr : rgOk 0 (2 * c) = true := by
    unfold rgOk
    rw [bnd_s (n := 0) (by omega), bnd_s (n := 2 * c) (by omega)]
    simp
    omega
  have hrg : rgW 0 (2 * c) = (rgI (2 * c)).map .int := by
    unfold rgW rgI
    rw [List.map_map]
    simp
  rw [m__law_has_ring, evD_e rfl]
  simp only [f__law_has_ring, b__law_has_ring]
  simp [cVar_e, cOs_e, cC_e, cNil_e, cCons_e, cConsO_e, cOd_e, cTup_e, cLst_e, cPr_e, cB_e, cT_e, cNot_e, cIte_e, cAnd_e, cOr_e, cTrue_e, cFalse_e, cLe_e, cCh_e, cCall_e, cMk_e, primM_e, callM_e, makeM_e, kSeq_e, kNx_e, kRet_e, kRetv_e, kSet_e, kIte_e, kEx_e, kParZ_e, setSl_e, kFor_e, cIt_e, cMut_e, mutM_e, cSl_e, cNoP_e, cP_e, lcTurn_e, backL, bkAt, Cb.sizeOk, cRg1_e, rgF, hr, hrg, hy]
theorem left_stays {A : List Ar} {P : Int → Prop} (h : ∀ t, P t → ∃ p ∈ A, p.2 = t ∧ P p.1) : ∀ (n : Nat) (l : List Int), (∀ t, P t → t ∈ l) → ∀ t, P t → t ∈ leftN A n l
  | 0, l, hl, t, ht => hl t ht
  | n + 1, l, hl, t, ht => by
    refine left_stays h n _ (fun t ht => List.mem_filter.mpr ⟨hl t ht, led_iff.mpr ?_⟩) t ht
    obtain ⟨p, h1, h2, h3⟩ := h t ht
    exact ⟨p, h1, h2, hl _ h3⟩
/-- no ring is told: none is there -/
theorem no_ring {c : Int} {A : List Ar} (h : ¬ 0 < (leftN A (2 * c).toNat (rgI (2 * c))).length) : Acy c A := fun P hP t ht => h (List.length_pos_of_mem (left_stays (P := P) (fun t ht => (hP t ht).2) _ _ (fun t ht => (hP t ht).1) t ht))
end P49

end
section
set_option maxRecDepth 100000
set_option maxHeartbeats 4000000
namespace P49
open PySem L2 Cb Pl Wk
theorem ex_map {γ : Type} {g : γ → W} {P : γ → Prop} : ∀ {l : List W}, (∀ w ∈ l, ∃ s, w = g s ∧ P s) → ∃ L : List γ, l = L.map g ∧ ∀ s ∈ L, P s
  | [], _ => ⟨[], rfl, fun _ h => absurd h (by simp)⟩
  | w :: l, h => by
    obtain ⟨s, rfl, hs⟩ := h w List.mem_cons_self
    obtain ⟨L, rfl, hL⟩ := ex_map (l := l) fun x hx => h x (List.mem_cons_of_mem _ hx)
    refine ⟨s :: L, rfl, fun t ht => ?_⟩
    rcases List.mem_cons.mp ht with rfl | h
    · exact hs
    · exact hL t h
@[simp] theorem p_addT {a b : List W} : prW .add [.tup a, .tup b] = if Cb.sizeOk (a.length + b.length) then some (.w (.tup (a ++ b))) else none := rfl
@[simp] theorem p_addL {a b : List W} : prW .add [.lst a, .lst b] = if Cb.sizeOk (a.length + b.length) then some (.L (a ++ b)) else none := rfl
/-! ### every web -/
theorem x_lots_s (b : Option Z) (Ls : List (List Ar)) (t : Ar) (n : Nat) (hn : ∀ S ∈ Ls, S.length ≤ 100) (hl : Ls.length ≤ 10000) :
    x__law_lots_1 [b, some (.L (Ls.map aW)), some (.w (pW t)), none] = .ok (.L ((Ls.map fun S => S ++ [t]).map aW)) [b, some (.w (.lst (Ls.map aW))), some (.w (pW t)), none] := by
  unfold x__law_lots_1
  rw [cLc_m Ls aW (fun S => some (aW (S ++ [t]))) (env1 := [b, some (.w (.lst (Ls.map aW))), some (.w (pW t)), none])]
  · rw [List.filterMap_eq_map', List.map_map]; rfl
  · simp [cVar_e, cOs_e, cC_e, cNil_e, cCons_e, cConsO_e, cOd_e, cTup_e, cLst_e, cPr_e, cB_e, cT_e, cNot_e, cIte_e, cAnd_e, cOr_e, cTrue_e, cFalse_e, cLe_e, cCh_e, cCall_e, cMk_e, primM_e, callM_e, makeM_e, kSeq_e, kNx_e, kRet_e, kRetv_e, kSet_e, kIte_e, kEx_e, kParZ_e, setSl_e, kFor_e, cIt_e, cMut_e, mutM_e, cSl_e, cNoP_e, cP_e, lcTurn_e, backL, bkAt, Cb.sizeOk]
  · omega
  · intro S hS
    have h1 := hn S hS
    have h2 : S.length + 1 ≤ 16777216 := by omega
    simp [cVar_e, cOs_e, cC_e, cNil_e, cCons_e, cConsO_e, cOd_e, cTup_e, cLst_e, cPr_e, cB_e, cT_e, cNot_e, cIte_e, cAnd_e, cOr_e, cTrue_e, cFalse_e, cLe_e, cCh_e, cCall_e, cMk_e, primM_e, callM_e, makeM_e, kSeq_e, kNx_e, kRet_e, kRetv_e, kSet_e, kIte_e, kEx_e, kParZ_e, setSl_e, kFor_e, cIt_e, cMut_e, mutM_e, cSl_e, cNoP_e, cP_e, lcTurn_e, backL, bkAt, Cb.sizeOk, aW, h2]
theorem z_lots_s (b : Option Z) (Ls : List (List Ar)) (t : Ar) (n : Nat) (hn : ∀ S ∈ Ls, S.length ≤ 100) (hl : Ls.length ≤ 10000) :
    z__law_lots_1 [b, some (.L (Ls.map aW)), some (.w (pW t)), none] = .nx [b, some (.L ((Ls ++ Ls.map fun S => S ++ [t]).map aW)), some (.w (pW t)), none] := by
  unfold z__law_lots_1
  have h2 : Ls.length + Ls.length ≤ 16777216 := by omega
  simp [cVar_e, cOs_e, cC_e, cNil_e, cCons_e, cConsO_e, cOd_e, cTup_e, cLst_e, cPr_e, cB_e, cT_e, cNot_e, cIte_e, cAnd_e, cOr_e, cTrue_e, cFalse_e, cLe_e, cCh_e, cCall_e, cMk_e, primM_e, callM_e, makeM_e, kSeq_e, kNx_e, kRet_e, kRetv_e, kSet_e, kIte_e, kEx_e, kParZ_e, setSl_e, kFor_e, cIt_e, cMut_e, mutM_e, cSl_e, cNoP_e, cP_e, lcTurn_e, backL, bkAt, Cb.sizeOk, x_lots_s b Ls t n hn hl, h2]
theorem cmp_ar : ∀ (A B : List Ar), cmpWs (A.map pW) (B.map pW) = true
  | [], _ => by simp [cmpWs]
  | _ :: _, [] => by simp [cmpWs]
  | a :: A, b :: B => by
    rw [List.map_cons, List.map_cons, cmpWs, cmp_ar A B]
    rfl
theorem sh_aW (A : List Ar) : plainW (aW A) = true ∧ depW (aW A) ≤ 5 := by
  constructor
  · show plainWs (A.map pW) = true
    exact plain_of fun w hw => by
      obtain ⟨p, _, rfl⟩ := List.mem_map.mp hw; rfl
  · have : depWs (A.map pW) ≤ 4 := dep_of fun w hw => by
      obtain ⟨p, _, rfl⟩ := List.mem_map.mp hw
      show depW (.tup [.int p.1, .int p.2]) ≤ 4
      simp [depW, depWs]
    show depW (.tup (A.map pW)) ≤ 5
    unfold depW
    omega
theorem lots_sortable (Ls : List (List Ar)) : sortable (Ls.map aW) = true := by
  unfold sortable
  rw [shWs_of (fun w hw => by
    obtain ⟨S, _, rfl⟩ := List.mem_map.mp hw; exact (sh_aW S).1) fun w hw => by
    obtain ⟨S, _, rfl⟩ := List.mem_map.mp hw
    exact Nat.le_trans (sh_aW S).2 (by decide), Bool.true_and]
  exact List.all_eq_true.mpr fun a ha => List.all_eq_true.mpr fun b hb => by
    obtain ⟨p, _, rfl⟩ := List.mem_map.mp ha
    obtain ⟨q, _, rfl⟩ := List.mem_map.mp hb
    exact cmp_ar p q
theorem lots_s (B : List Ar) (hB : B.length ≤ 8) : ∃ Ls : List (List Ar), m__law_lots [.L (B.map pW)] = .ok (.L (Ls.map aW)) [.w (.lst (B.map pW))] ∧ (∀ S ∈ Ls, S.Sublist B) ∧ Ls.length ≤ 256 := by
  have hy : ∃ Ls o, y__law_lots_1 [some (.L (B.map pW)), some (.L [aW []]), none, none] = .nx [some (.w (.lst (B.map pW))), some (.L (List.map aW Ls)), o, none] ∧ (∀ S ∈ Ls, S.Sublist B) ∧ Ls.length = 2 ^ B.length := by
    obtain ⟨e', h1, Ls, o, P, R, h2, h3, h4, h5, h6⟩ := for_inv (g := setTg (.nm 2)) (b := z__law_lots_1)
      (fun ws e => ∃ (Ls : List (List Ar)) (o : Option Z) (P R : List Ar), e = [some (.w (.lst (B.map pW))), some (.L (Ls.map aW)), o, none] ∧ ws = R.map pW ∧ B = P ++ R ∧ (∀ S ∈ Ls, S.Sublist P) ∧ Ls.length = 2 ^ P.length) (by
        rintro w ws e ⟨Ls, o, P, R, rfl, hw, hB2, hS, hn⟩
        cases R with
        | nil => cases hw
        | cons t R =>
          injection hw with h1 h2
          subst h1 h2
          have hP : P.length ≤ 8 := by rw [hB2, List.length_append] at hB; omega
          have hLs : Ls.length ≤ 256 := by rw [hn]; exact Nat.pow_le_pow_right (by decide) hP
          refine ⟨_, _, by simp, z_lots_s (some (.w (.lst (B.map pW)))) Ls t 0 (fun S h => ?_) (by omega), _, _, P ++ [t], R, rfl, rfl, by rw [hB2]; simp, ?_, ?_⟩
          · have := (hS S h).length_le
            omega
          · intro S h
            rcases List.mem_append.mp h with h | h
            · exact (hS S h).trans (List.sublist_append_left P [t])
            · obtain ⟨S', h', rfl⟩ := List.mem_map.mp h
              exact List.Sublist.append (hS S' h') (List.Sublist.refl [t])
          · simp [hn, Nat.pow_succ]
            try omega)
      (items := B.map pW) (env := [some (.w (.lst (B.map pW))), some (.L [aW []]), none, none])
      ⟨[[]], none, [], B, rfl, rfl, rfl, fun S h => by simp at h; rw [h]; exact List.Sublist.refl _, rfl⟩
    have hR : R = [] := by cases R with
      | nil => rfl
      | cons x l => cases h3
    subst hR
    rw [List.append_nil] at h4
    subst h4
    refine ⟨Ls, o, ?_, h5, h6⟩
    rw [← h2, ← h1]
    unfold y__law_lots_1
    simp [cVar_e, cOs_e, cC_e, cNil_e, cCons_e, cConsO_e, cOd_e, cTup_e, cLst_e, cPr_e, cB_e, cT_e, cNot_e, cIte_e, cAnd_e, cOr_e, cTrue_e, cFalse_e, cLe_e, cCh_e, cCall_e, cMk_e, primM_e, callM_e, makeM_e, kSeq_e, kNx_e, kRet_e, kRetv_e, kSet_e, kIte_e, kEx_e, kParZ_e, setSl_e, kFor_e, cIt_e, cMut_e, mutM_e, cSl_e, cNoP_e, cP_e, lcTurn_e, backL, bkAt, Cb.sizeOk]
  obtain ⟨Ls, o, hy, hS, hn⟩ := hy
  obtain ⟨Ls', e1, h'⟩ := ex_map (g := aW) (P := fun S => S ∈ Ls) (l := sortW ltW (Ls.map aW)) fun w hw => by
    obtain ⟨S, hS, rfl⟩ := List.mem_map.mp ((sortW_perm _).mem_iff.mp hw)
    exact ⟨S, rfl, hS⟩
  refine ⟨Ls', ?_, fun S h => hS S (h' S h), ?_⟩
  · rw [m__law_lots, evD_e rfl]
    simp only [f__law_lots, b__law_lots]
    have hy : y__law_lots_1 [some (.L (B.map pW)), some (.L [.tup []]), none, none] = .nx [some (.w (.lst (B.map pW))), some (.L (List.map aW Ls)), o, none] := hy
    simp [cVar_e, cOs_e, cC_e, cNil_e, cCons_e, cConsO_e, cOd_e, cTup_e, cLst_e, cPr_e, cB_e, cT_e, cNot_e, cIte_e, cAnd_e, cOr_e, cTrue_e, cFalse_e, cLe_e, cCh_e, cCall_e, cMk_e, primM_e, callM_e, makeM_e, kSeq_e, kNx_e, kRet_e, kRetv_e, kSet_e, kIte_e, kEx_e, kParZ_e, setSl_e, kFor_e, cIt_e, cMut_e, mutM_e, cSl_e, cNoP_e, cP_e, lcTurn_e, backL, bkAt, Cb.sizeOk, hy, lots_sortable, e1]
  · have := sortW_len (Ls.map aW)
    rw [e1, List.length_map, List.length_map, hn] at this
    rw [this]
    exact Nat.pow_le_pow_right (by decide) hB
end P49

end
section
set_option maxRecDepth 100000
set_option maxHeartbeats 4000000
namespace P49
open PySem L2 Cb Pl Wk
instance : DecidableRel ltA := fun p q => inferInstanceAs (Decidable (_ ∨ _))
/-- an arrow may go so -/
def may (c i j : Int) : Bool := !decide (i = j) && (decide (i < c) || decide (c ≤ j))
def row (c i : Int) : List Ar := ((rgI (2 * c)).filter (may c i)).map fun j => (i, j)
def allA (c : Int) : List Ar := (rgI (2 * c)).flatMap (row c)
theorem x_every3_s (c i : Int) (a b : Option Z) (hc : 0 ≤ c ∧ c ≤ 4) :
    x__law_every_3 [some (.w (.int c)), some (.w (.lst ((rgI (2 * c)).map .int))), a, some (.w (.int i)), b, none, none, none] =
      .ok (.L ((row c i).map pW)) [some (.w (.int c)), some (.w (.lst ((rgI (2 * c)).map .int))), a, some (.w (.int i)), b, none, none, none] := by
  unfold x__law_every_3
  rw [cLc_m (rgI (2 * c)) W.int (fun j => if may c i j = true then some (pW (i, j)) else none) (env1 := [some (.w (.int c)), some (.w (.lst ((rgI (2 * c)).map .int))), a, some (.w (.int i)), b, none, none, none])]
  · rw [fm_if, row, List.map_map]; rfl
  · simp [cVar_e, cOs_e, cC_e, cNil_e, cCons_e, cConsO_e, cOd_e, cTup_e, cLst_e, cPr_e, cB_e, cT_e, cNot_e, cIte_e, cAnd_e, cOr_e, cTrue_e, cFalse_e, cLe_e, cCh_e, cCall_e, cMk_e, primM_e, callM_e, makeM_e, kSeq_e, kNx_e, kRet_e, kRetv_e, kSet_e, kIte_e, kEx_e, kParZ_e, setSl_e, kFor_e, cIt_e, cMut_e, mutM_e, cSl_e, cNoP_e, cP_e, lcTurn_e, backL, bkAt, Cb.sizeOk]
  · rw [len_rgI]; omega
  · intro j hj
    unfold may
    by_cases h1 : i = j
    · simp [cVar_e, cOs_e, cC_e, cNil_e, cCons_e, cConsO_e, cOd_e, cTup_e, cLst_e, cPr_e, cB_e, cT_e, cNot_e, cIte_e, cAnd_e, cOr_e, cTrue_e, cFalse_e, cLe_e, cCh_e, cCall_e, cMk_e, primM_e, callM_e, makeM_e, kSeq_e, kNx_e, kRet_e, kRetv_e, kSet_e, kIte_e, kEx_e, kParZ_e, setSl_e, kFor_e, cIt_e, cMut_e, mutM_e, cSl_e, cNoP_e, cP_e, lcTurn_e, backL, bkAt, Cb.sizeOk, h1]
    · by_cases h2 : i < c
      · simp [cVar_e, cOs_e, cC_e, cNil_e, cCons_e, cConsO_e, cOd_e, cTup_e, cLst_e, cPr_e, cB_e, cT_e, cNot_e, cIte_e, cAnd_e, cOr_e, cTrue_e, cFalse_e, cLe_e, cCh_e, cCall_e, cMk_e, primM_e, callM_e, makeM_e, kSeq_e, kNx_e, kRet_e, kRetv_e, kSet_e, kIte_e, kEx_e, kParZ_e, setSl_e, kFor_e, cIt_e, cMut_e, mutM_e, cSl_e, cNoP_e, cP_e, lcTurn_e, backL, bkAt, Cb.sizeOk, h1, h2, pW]
      · by_cases h3 : c ≤ j
        · simp [cVar_e, cOs_e, cC_e, cNil_e, cCons_e, cConsO_e, cOd_e, cTup_e, cLst_e, cPr_e, cB_e, cT_e, cNot_e, cIte_e, cAnd_e, cOr_e, cTrue_e, cFalse_e, cLe_e, cCh_e, cCall_e, cMk_e, primM_e, callM_e, makeM_e, kSeq_e, kNx_e, kRet_e, kRetv_e, kSet_e, kIte_e, kEx_e, kParZ_e, setSl_e, kFor_e, cIt_e, cMut_e, mutM_e, cSl_e, cNoP_e, cP_e, lcTurn_e, backL, bkAt, Cb.sizeOk, h1, h2, h3, pW]
        · simp [cVar_e, cOs_e, cC_e, cNil_e, cCons_e, cConsO_e, cOd_e, cTup_e, cLst_e, cPr_e, cB_e, cT_e, cNot_e, cIte_e, cAnd_e, cOr_e, cTrue_e, cFalse_e, cLe_e, cCh_e, cCall_e, cMk_e, primM_e, callM_e, makeM_e, kSeq_e, kNx_e, kRet_e, kRetv_e, kSet_e, kIte_e, kEx_e, kParZ_e, setSl_e, kFor_e, cIt_e, cMut_e, mutM_e, cSl_e, cNoP_e, cP_e, lcTurn_e, backL, bkAt, Cb.sizeOk, h1, h2, h3, pW]
theorem len_row (c i : Int) (hc : 0 ≤ c ∧ c ≤ 4) : (row c i).length ≤ 8 := by
  unfold row
  have := List.length_filter_le (may c i) (rgI (2 * c))
  rw [len_rgI] at this
  rw [List.length_map]
  omega
theorem z_every1_s (c i : Int) (acc : List Ar) (b : Option Z) (hc : 0 ≤ c ∧ c ≤ 4) (hl : acc.length ≤ 1000) :
    z__law_every_1 [some (.w (.int c)), some (.w (.lst ((rgI (2 * c)).map .int))), some (.L (acc.map pW)), some (.w (.int i)), b, none, none, none] =
      .nx [some (.w (.int c)), some (.w (.lst ((rgI (2 * c)).map .int))), some (.L ((acc ++ row c i).map pW)), some (.w (.int i)), b, none, none, none] := by
  unfold z__law_every_1
  have h := len_row c i hc
  have h2 : acc.length + (row c i).length ≤ 16777216 := by omega
  simp [cVar_e, cOs_e, cC_e, cNil_e, cCons_e, cConsO_e, cOd_e, cTup_e, cLst_e, cPr_e, cB_e, cT_e, cNot_e, cIte_e, cAnd_e, cOr_e, cTrue_e, cFalse_e, cLe_e, cCh_e, cCall_e, cMk_e, primM_e, callM_e, makeM_e, kSeq_e, kNx_e, kRet_e, kRetv_e, kSet_e, kIte_e, kEx_e, kParZ_e, setSl_e, kFor_e, cIt_e, cMut_e, mutM_e, cSl_e, cNoP_e, cP_e, lcTurn_e, backL, bkAt, Cb.sizeOk, x_every3_s c i _ b hc, h2]
theorem y_every1_s (c : Int) (hc : 0 ≤ c ∧ c ≤ 4) : ∃ o, y__law_every_1 [some (.w (.int c)), some (.L ((rgI (2 * c)).map .int)), some (.L []), none, none, none, none, none] =
      .nx [some (.w (.int c)), some (.w (.lst ((rgI (2 * c)).map .int))), some (.L ((allA c).map pW)), o, none, none, none, none] := by
  obtain ⟨e', h1, acc, o, l, h2, h3, h4, h5⟩ := for_inv (g := setTg (.nm 3)) (b := z__law_every_1)
    (fun ws e => ∃ (acc : List Ar) (o : Option Z) (l : List Int), e = [some (.w (.int c)), some (.w (.lst ((rgI (2 * c)).map .int))), some (.L (acc.map pW)), o, none, none, none, none] ∧ ws = l.map W.int ∧ acc ++ l.flatMap (row c) = allA c ∧ acc.length + 8 * l.length ≤ 100) (by
      rintro w ws e ⟨acc, o, l, rfl, hw, hl, hn⟩
      cases l with
      | nil => cases hw
      | cons x l =>
        injection hw with h1 h2
        subst h1 h2
        simp only [List.length_cons] at hn
        have hx := len_row c x hc
        exact ⟨_, _, by simp, z_every1_s c x acc none hc (by omega), _, _, l, rfl, rfl, by rw [← hl, List.flatMap_cons, List.append_assoc], by rw [List.length_append]; omega⟩)
    (items := (rgI (2 * c)).map W.int) (env := [some (.w (.int c)), some (.w (.lst ((rgI (2 * c)).map .int))), some (.L []), none, none, none, none, none])
    ⟨[], none, rgI (2 * c), rfl, rfl, rfl, by rw [len_rgI]; simp; omega⟩
  refine ⟨o, ?_⟩
  have hl : l = [] := by cases l with
    | nil => rfl
    | cons x l => cases h3
  subst hl
  simp at h4
  rw [← h4, ← h2, ← h1]
  unfold y__law_every_1
  simp [cVar_e, cOs_e, cC_e, cNil_e, cCons_e, cConsO_e, cOd_e, cTup_e, cLst_e, cPr_e, cB_e, cT_e, cNot_e, cIte_e, cAnd_e, cOr_e, cTrue_e, cFalse_e, cLe_e, cCh_e, cCall_e, cMk_e, primM_e, callM_e, makeM_e, kSeq_e, kNx_e, kRet_e, kRetv_e, kSet_e, kIte_e, kEx_e, kParZ_e, setSl_e, kFor_e, cIt_e, cMut_e, mutM_e, cSl_e, cNoP_e, cP_e, lcTurn_e, backL, bkAt, Cb.sizeOk]
def sW (S : List Ar) : W := .tup [.int S.length, aW S]
theorem sized_sortable (Ls : List (List Ar)) : sortable (Ls.map sW) = true := by
  unfold sortable
  rw [shWs_of (fun w hw => by
    obtain ⟨S, _, rfl⟩ := List.mem_map.mp hw
    simp [sW, plainW, plainWs, (sh_aW S).1]) fun w hw => by
    obtain ⟨S, _, rfl⟩ := List.mem_map.mp hw
    have := (sh_aW S).2
    simp [sW, depW, depWs]
    omega, Bool.true_and]
  exact List.all_eq_true.mpr fun a ha => List.all_eq_true.mpr fun b hb => by
    obtain ⟨p, _, rfl⟩ := List.mem_map.mp ha
    obtain ⟨q, _, rfl⟩ := List.mem_map.mp hb
    show (cmpW (.int p.length) (.int q.length) && (cmpWs (p.map pW) (q.map pW) && true)) = true
    rw [cmp_ar]
    rfl
theorem x_every2_s (c : Int) (a o b : Option Z) (B : List Ar) (Ls : List (List Ar)) (h : m__law_lots [.L (B.map pW)] = .ok (.L (Ls.map aW)) [.w (.lst (B.map pW))]) (hS : ∀ S ∈ Ls, S.Sublist B) (hB : B.length ≤ 8) (hl : Ls.length ≤ 256) :
    x__law_every_2 [some (.w (.int c)), a, some (.L (B.map pW)), o, b, none, none, none] =
      .ok (.L (Ls.map sW)) [some (.w (.int c)), a, some (.w (.lst (B.map pW))), o, b, none, none, none] := by
  unfold x__law_every_2
  rw [cLc_m Ls aW (fun S => some (sW S)) (env1 := [some (.w (.int c)), a, some (.w (.lst (B.map pW))), o, b, none, none, none])]
  · rw [List.filterMap_eq_map']; rfl
  · simp [cVar_e, cOs_e, cC_e, cNil_e, cCons_e, cConsO_e, cOd_e, cTup_e, cLst_e, cPr_e, cB_e, cT_e, cNot_e, cIte_e, cAnd_e, cOr_e, cTrue_e, cFalse_e, cLe_e, cCh_e, cCall_e, cMk_e, primM_e, callM_e, makeM_e, kSeq_e, kNx_e, kRet_e, kRetv_e, kSet_e, kIte_e, kEx_e, kParZ_e, setSl_e, kFor_e, cIt_e, cMut_e, mutM_e, cSl_e, cNoP_e, cP_e, lcTurn_e, backL, bkAt, Cb.sizeOk, h]
  · omega
  · intro S hS
    simp [cVar_e, cOs_e, cC_e, cNil_e, cCons_e, cConsO_e, cOd_e, cTup_e, cLst_e, cPr_e, cB_e, cT_e, cNot_e, cIte_e, cAnd_e, cOr_e, cTrue_e, cFalse_e, cLe_e, cCh_e, cCall_e, cMk_e, primM_e, callM_e, makeM_e, kSeq_e, kNx_e, kRet_e, kRetv_e, kSet_e, kIte_e, kEx_e, kParZ_e, setSl_e, kFor_e, cIt_e, cMut_e, mutM_e, cSl_e, cNoP_e, cP_e, lcTurn_e, backL, bkAt, Cb.sizeOk, aW, sW]
/-- no ring is told -/
def calmA (c : Int) (S : List Ar) : Bool := !decide (0 < (leftN S (2 * c).toNat (rgI (2 * c))).length)
theorem x_every1_s (c : Int) (a d o : Option Z) (Ls Ls2 : List (List Ar)) (hs : sortW ltW (Ls.map sW) = Ls2.map sW) (hS : ∀ S ∈ Ls2, S.length ≤ 8) (hl : Ls2.length ≤ 256) (hc : 0 ≤ c ∧ c ≤ 4) :
    x__law_every_1 [some (.w (.int c)), a, d, o, some (.L (Ls.map sW)), none, none, none] =
      .ok (.L ((Ls2.filter (calmA c)).map aW)) [some (.w (.int c)), a, d, o, some (.L (Ls.map sW)), none, none, none] := by
  unfold x__law_every_1
  rw [cLc_m Ls2 sW (fun S => if calmA c S = true then some (aW S) else none) (env1 := [some (.w (.int c)), a, d, o, some (.L (Ls.map sW)), none, none, none])]
  · rw [fm_if]; rfl
  · simp [cVar_e, cOs_e, cC_e, cNil_e, cCons_e, cConsO_e, cOd_e, cTup_e, cLst_e, cPr_e, cB_e, cT_e, cNot_e, cIte_e, cAnd_e, cOr_e, cTrue_e, cFalse_e, cLe_e, cCh_e, cCall_e, cMk_e, primM_e, callM_e, makeM_e, kSeq_e, kNx_e, kRet_e, kRetv_e, kSet_e, kIte_e, kEx_e, kParZ_e, setSl_e, kFor_e, cIt_e, cMut_e, mutM_e, cSl_e, cNoP_e, cP_e, lcTurn_e, backL, bkAt, Cb.sizeOk, sized_sortable, hs]
  · omega
  · intro S h
    have h1 := hS S h
    have e : (!decide (0 < (leftN S (2 * c).toNat (rgI (2 * c))).length)) = calmA c S := rfl
    have hr := ring_s c S ⟨hc.1, by omega⟩ (by omega)
    cases h2 : calmA c S with
    | true =>
      have h3 : leftN S (2 * c).toNat (rgI (2 * c)) = [] := by
        unfold calmA at h2
        simpa using h2
      rw [h3] at hr
      simp at hr
      simp [cVar_e, cOs_e, cC_e, cNil_e, cCons_e, cConsO_e, cOd_e, cTup_e, cLst_e, cPr_e, cB_e, cT_e, cNot_e, cIte_e, cAnd_e, cOr_e, cTrue_e, cFalse_e, cLe_e, cCh_e, cCall_e, cMk_e, primM_e, callM_e, makeM_e, kSeq_e, kNx_e, kRet_e, kRetv_e, kSet_e, kIte_e, kEx_e, kParZ_e, setSl_e, kFor_e, cIt_e, cMut_e, mutM_e, cSl_e, cNoP_e, cP_e, lcTurn_e, backL, bkAt, Cb.sizeOk, sW, hr, h2]
    | false =>
      have h3 : decide (0 < (leftN S (2 * c).toNat (rgI (2 * c))).length) = true := by
        unfold calmA at h2
        simpa using h2
      rw [h3] at hr
      simp [cVar_e, cOs_e, cC_e, cNil_e, cCons_e, cConsO_e, cOd_e, cTup_e, cLst_e, cPr_e, cB_e, cT_e, cNot_e, cIte_e, cAnd_e, cOr_e, cTrue_e, cFalse_e, cLe_e, cCh_e, cCall_e, cMk_e, primM_e, callM_e, makeM_e, kSeq_e, kNx_e, kRet_e, kRetv_e, kSet_e, kIte_e, kEx_e, kParZ_e, setSl_e, kFor_e, cIt_e, cMut_e, mutM_e, cSl_e, cNoP_e, cP_e, lcTurn_e, backL, bkAt, Cb.sizeOk, sW, hr, h2]
theorem every_s (c : Int) (hc : c = 1 ∨ c = 2) : ∃ Ls : List (List Ar), m__law_every [.w (.int c)] = .ok (.L (Ls.map aW)) [.w (.int c)] ∧ ∀ S ∈ Ls, Wb c S := by
  have hc2 : 0 ≤ c ∧ c ≤ 4 := by omega
  obtain ⟨o, hy⟩ := y_every1_s c hc2
  have hB : (allA c).length ≤ 8 := by rcases hc with rfl | rfl <;> decide
  have hasc : (allA c).Pairwise ltA := by rcases hc with rfl | rfl <;> decide
  obtain ⟨Ls, h1, h2, h3⟩ := lots_s (allA c) hB
  obtain ⟨Ls2, h4, h5⟩ := ex_map (g := sW) (P := fun S => S ∈ Ls) (l := sortW ltW (Ls.map sW)) fun w hw => by
    obtain ⟨S, hS, rfl⟩ := List.mem_map.mp ((sortW_perm _).mem_iff.mp hw)
    exact ⟨S, rfl, hS⟩
  have hlen : Ls2.length = Ls.length := by
    have := sortW_len (Ls.map sW)
    rwa [h4, List.length_map, List.length_map] at this
  have hx2 := x_every2_s c (some (.w (.lst ((rgI (2 * c)).map .int)))) o none (allA c) Ls h1 h2 hB h3
  have hx1 := x_every1_s c (some (.w (.lst ((rgI (2 * c)).map .int)))) (some (.w (.lst ((allA c).map pW)))) o Ls Ls2 h4 (fun S h => Nat.le_trans (h2 S (h5 S h)).length_le hB) (by omega) hc2
  have hr : rgOk 0 (2 * c) = true := by
    unfold rgOk
    rw [bnd_s (n := 0) (by omega), bnd_s (n := 2 * c) (by omega)]
    simp
    omega
  have hrg : rgW 0 (2 * c) = (rgI (2 * c)).map .int := by
    unfold rgW rgI
    rw [List.map_map]
    simp
  refine ⟨Ls2.filter (calmA c), ?_, fun S h => ?_⟩
  · rw [m__law_every, evD_e rfl]
    simp only [f__law_every, b__law_every]
    simp [cVar_e, cOs_e, cC_e, cNil_e, cCons_e, cConsO_e, cOd_e, cTup_e, cLst_e, cPr_e, cB_e, cT_e, cNot_e, cIte_e, cAnd_e, cOr_e, cTrue_e, cFalse_e, cLe_e, cCh_e, cCall_e, cMk_e, primM_e, callM_e, makeM_e, kSeq_e, kNx_e, kRet_e, kRetv_e, kSet_e, kIte_e, kEx_e, kParZ_e, setSl_e, kFor_e, cIt_e, cMut_e, mutM_e, cSl_e, cNoP_e, cP_e, lcTurn_e, backL, bkAt, Cb.sizeOk, cRg1_e, rgF, hr, hrg, hy, hx2, hx1]
  · obtain ⟨hS, hcalm⟩ := List.mem_filter.mp h
    have hsub := h2 S (h5 S hS)
    refine ⟨fun p hp => ?_, hasc.sublist hsub, no_ring ?_, Nat.le_trans hsub.length_le (Nat.le_trans hB (by decide))⟩
    · obtain ⟨i, hi, hp⟩ := List.mem_flatMap.mp (hsub.subset hp)
      obtain ⟨j, hj, rfl⟩ := List.mem_map.mp hp
      obtain ⟨hj, hm⟩ := List.mem_filter.mp hj
      have h1 := mem_rgI.mp hi
      have h2 := mem_rgI.mp hj
      simp [may] at hm
      refine ⟨h1.1, ?_, h2.1, ?_, hm.1, hm.2⟩ <;> (dsimp only; omega)
    · unfold calmA at hcalm
      simpa using hcalm
end P49

end
section
set_option maxRecDepth 100000
set_option maxHeartbeats 4000000
namespace P49
open PySem L2 Cb Pl Wk
/-! ### drawn arrows -/
def prs : List Int → List Ar
  | [] => []
  | x :: r => r.map (fun y => (x, y)) ++ prs r
theorem prs_len : ∀ T : List Int, 2 * (prs T).length + T.length = T.length * T.length
  | [] => rfl
  | x :: r => by
    have := prs_len r
    simp only [prs, List.length_append, List.length_map, List.length_cons, Nat.mul_add, Nat.add_mul, Nat.one_mul, Nat.mul_one]
    omega
theorem prs_mem : ∀ {T : List Int} {p : Ar}, p ∈ prs T → p.1 ∈ T ∧ p.2 ∈ T
  | [], _, h => absurd h (by simp [prs])
  | x :: r, p, h => by
    rcases List.mem_append.mp h with h | h
    · obtain ⟨y, hy, rfl⟩ := List.mem_map.mp h
      exact ⟨List.mem_cons_self, List.mem_cons_of_mem _ hy⟩
    · obtain ⟨h1, h2⟩ := prs_mem h
      exact ⟨List.mem_cons_of_mem _ h1, List.mem_cons_of_mem _ h2⟩
theorem prs_app : ∀ {X Y : List Int} {p : Ar}, p ∈ prs (X ++ Y) → p.1 ∈ X ∨ p ∈ prs Y
  | [], _, _, h => .inr h
  | x :: r, Y, p, h => by
    rcases List.mem_append.mp h with h | h
    · obtain ⟨y, hy, rfl⟩ := List.mem_map.mp h
      exact .inl List.mem_cons_self
    · rcases prs_app (X := r) h with h | h
      · exact .inl (List.mem_cons_of_mem _ h)
      · exact .inr h
theorem prs_ne : ∀ {T : List Int} {p : Ar}, T.Nodup → p ∈ prs T → p.1 ≠ p.2
  | [], _, _, h => absurd h (by simp [prs])
  | x :: r, p, hn, h => by
    obtain ⟨h1, h2⟩ := List.nodup_cons.mp hn
    rcases List.mem_append.mp h with h | h
    · obtain ⟨y, hy, rfl⟩ := List.mem_map.mp h
      intro e
      have e : x = y := e
      exact h1 (e ▸ hy)
    · exact prs_ne h2 h
theorem prs_nodup : ∀ {T : List Int}, T.Nodup → (prs T).Nodup
  | [], _ => List.nodup_nil
  | x :: r, hn => by
    obtain ⟨h1, h2⟩ := List.nodup_cons.mp hn
    refine List.nodup_append.mpr ⟨List.pairwise_map.mpr (h2.imp fun {a b} hne e => hne (by injection e)), prs_nodup h2, fun p hp q hq e => ?_⟩
    obtain ⟨y, hy, rfl⟩ := List.mem_map.mp hp
    subst e
    exact h1 (prs_mem hq).1
theorem prs_acy {P : Int → Prop} : ∀ {T : List Int}, T.Nodup → (∀ t, P t → ∃ p ∈ prs T, p.2 = t ∧ P p.1) → ∀ t, ¬ P t
  | [], _, h, t, ht => by
    obtain ⟨p, hp, _⟩ := h t ht
    exact absurd hp (by simp [prs])
  | x :: r, hn, h, t, ht => by
    obtain ⟨h1, h2⟩ := List.nodup_cons.mp hn
    have hx : ¬ P x := fun hx => by
      obtain ⟨p, hp, e, _⟩ := h x hx
      rcases List.mem_append.mp hp with hp | hp
      · obtain ⟨y, hy, rfl⟩ := List.mem_map.mp hp
        have e : y = x := e
        exact h1 (e ▸ hy)
      · exact h1 (e ▸ (prs_mem hp).2)
    refine prs_acy h2 (fun t ht => ?_) t ht
    obtain ⟨p, hp, e, hp1⟩ := h t ht
    rcases List.mem_append.mp hp with hp | hp
    · obtain ⟨y, hy, rfl⟩ := List.mem_map.mp hp
      exact absurd hp1 hx
    · exact ⟨p, hp, e, hp1⟩
theorem sl_from (l : List W) (k : Nat) (h : k < l.length) : prW (.sl (some ((k : Int) + 1)) none) [.lst l] = some (.L (l.drop (k + 1))) := by
  show some (Z.L ((l.drop (HT.sIx l.length 0 (some ((k : Int) + 1)))).take (HT.sIx l.length l.length none - HT.sIx l.length 0 (some ((k : Int) + 1))))) = _
  have e : HT.sIx l.length 0 (some ((k : Int) + 1)) = min (k + 1) l.length := HT.sIx_nat _ _ (k + 1)
  rw [e, sIxn, Nat.min_eq_left (by omega), List.take_of_length_le (by simp)]
abbrev aE (h : List W) (c rare : Int) (p : Option Z) (F : List Ar) (s : Option Z) (T : List Int) (k x o : Option Z) : Cb.Env := [some (.L h), some (.w (.int c)), some (.w (.int rare)), p, some (.L (F.map pW)), s, some (.w (.lst (T.map .int))), k, x, o, none]
theorem z_arrows1_s {h : List W} (hk : HOk h) (c rare : Int) (p s k : Option Z) (F : List Ar) (T : List Int) (x y : Int) (hr : 0 < rare ∧ rare ≤ 1000000) (hF : F.length ≤ 1000) :
    ∃ h' G, HOk h' ∧ G.Sublist [(x, y)] ∧ z__law_arrows_1 (aE h c rare p F s T k (some (.w (.int x))) (some (.w (.int y)))) = .nx (aE h' c rare p (F ++ G) s T k (some (.w (.int x))) (some (.w (.int y)))) := by
  obtain ⟨r, h', h1, h2, h3⟩ := draw_s hk rare hr
  have hF' : F.length < 16777216 := by omega
  by_cases hz : r = 0
  · refine ⟨h', [(x, y)], h1, List.Sublist.refl _, ?_⟩
    unfold z__law_arrows_1
    simp [cVar_e, cOs_e, cC_e, cNil_e, cCons_e, cConsO_e, cOd_e, cTup_e, cLst_e, cPr_e, cB_e, cT_e, cNot_e, cIte_e, cAnd_e, cOr_e, cTrue_e, cFalse_e, cLe_e, cCh_e, cCall_e, cMk_e, primM_e, callM_e, makeM_e, kSeq_e, kNx_e, kRet_e, kRetv_e, kSet_e, kIte_e, kEx_e, kParZ_e, setSl_e, kFor_e, cIt_e, cMut_e, mutM_e, cSl_e, cNoP_e, cP_e, lcTurn_e, backL, bkAt, Cb.sizeOk, h3, hz, hF', pW]
  · refine ⟨h', [], h1, List.nil_sublist _, ?_⟩
    unfold z__law_arrows_1
    simp [cVar_e, cOs_e, cC_e, cNil_e, cCons_e, cConsO_e, cOd_e, cTup_e, cLst_e, cPr_e, cB_e, cT_e, cNot_e, cIte_e, cAnd_e, cOr_e, cTrue_e, cFalse_e, cLe_e, cCh_e, cCall_e, cMk_e, primM_e, callM_e, makeM_e, kSeq_e, kNx_e, kRet_e, kRetv_e, kSet_e, kIte_e, kEx_e, kParZ_e, setSl_e, kFor_e, cIt_e, cMut_e, mutM_e, cSl_e, cNoP_e, cP_e, lcTurn_e, backL, bkAt, Cb.sizeOk, h3, hz]
theorem y_arrows1_s {h : List W} (hk : HOk h) (c rare : Int) (p s o : Option Z) (F : List Ar) (T : List Int) (k : Nat) (x : Int) (hr : 0 < rare ∧ rare ≤ 1000000) (hT : T.length ≤ 8) (hkT : k < T.length) (hF : F.length ≤ 900) :
    ∃ h' G o', HOk h' ∧ G.Sublist ((T.drop (k + 1)).map fun y => (x, y)) ∧ y__law_arrows_1 (aE h c rare p F s T (some (.w (.int k))) (some (.w (.int x))) o) = .nx (aE h' c rare p (F ++ G) s T (some (.w (.int k))) (some (.w (.int x))) o') := by
  obtain ⟨e', h1, h', G, o', P, R, h2, h3, h4, h5, h6⟩ := for_inv (g := setTg (.nm 9)) (b := z__law_arrows_1)
    (fun ws e => ∃ (h' : List W) (G : List Ar) (o' : Option Z) (P R : List Int), e = aE h' c rare p (F ++ G) s T (some (.w (.int k))) (some (.w (.int x))) o' ∧ ws = R.map W.int ∧ T.drop (k + 1) = P ++ R ∧ G.Sublist (P.map fun y => (x, y)) ∧ HOk h') (by
      rintro w ws e ⟨h', G, o', P, R, rfl, hw, hP, hG, hh⟩
      cases R with
      | nil => cases hw
      | cons y R =>
        injection hw with h1 h2
        subst h1 h2
        have hl : P.length ≤ 8 := by
          have := congrArg List.length hP
          simp at this
          omega
        have hg := hG.length_le
        rw [List.length_map] at hg
        obtain ⟨h2, G2, q1, q2, q3⟩ := z_arrows1_s hh c rare p s (some (.w (.int k))) (F ++ G) T x y hr (by rw [List.length_append]; omega)
        exact ⟨_, _, by simp, q3, h2, G ++ G2, _, P ++ [y], R, by rw [List.append_assoc], rfl, by rw [hP]; simp, by rw [List.map_append]; exact List.Sublist.append hG q2, q1⟩)
    (items := (T.drop (k + 1)).map W.int) (env := aE h c rare p F s T (some (.w (.int k))) (some (.w (.int x))) o)
    ⟨h, [], o, [], T.drop (k + 1), by simp, rfl, rfl, List.nil_sublist _, hk⟩
  have hR : R = [] := by cases R with
    | nil => rfl
    | cons x l => cases h3
  subst hR
  rw [List.append_nil] at h4
  refine ⟨h', G, o', h6, by rw [h4]; exact h5, ?_⟩
  rw [← h2, ← h1]
  unfold y__law_arrows_1
  simp [cVar_e, cOs_e, cC_e, cNil_e, cCons_e, cConsO_e, cOd_e, cTup_e, cLst_e, cPr_e, cB_e, cT_e, cNot_e, cIte_e, cAnd_e, cOr_e, cTrue_e, cFalse_e, cLe_e, cCh_e, cCall_e, cMk_e, primM_e, callM_e, makeM_e, kSeq_e, kNx_e, kRet_e, kRetv_e, kSet_e, kIte_e, kEx_e, kParZ_e, setSl_e, kFor_e, cIt_e, cMut_e, mutM_e, cSl_e, cNoP_e, cP_e, lcTurn_e, backL, bkAt, Cb.sizeOk, sl_from (T.map W.int) k (by simpa using hkT), List.map_drop]
theorem y_arrows2_s {h : List W} (hk : HOk h) (c rare : Int) (p s : Option Z) (T : List Int) (hr : 0 < rare ∧ rare ≤ 1000000) (hT : T.length ≤ 8) :
    ∃ h' F k x o, HOk h' ∧ F.Sublist (prs T) ∧ y__law_arrows_2 [some (.L h), some (.w (.int c)), some (.w (.int rare)), p, some (.L []), s, some (.L (T.map .int)), none, none, none, none] = .nx (aE h' c rare p F s T k x o) := by
  have hlen := prs_len T
  have hpr : (prs T).length ≤ 64 := by
    have : T.length * T.length ≤ 8 * 8 := Nat.mul_le_mul hT hT
    omega
  obtain ⟨e', h1, h', F, D, n, k, x, o, h2, h3, h4, h5, h6⟩ := for_inv (g := setTg (.tup [7, 8])) (b := z__law_arrows_2)
    (fun ws e => ∃ (h' : List W) (F D : List Ar) (n : Nat) (k x o : Option Z), e = aE h' c rare p F s T k x o ∧ ws = ((T.map W.int).zipIdx.map fun p => W.tup [.int (p.2 : Int), p.1]).drop n ∧ D ++ prs (T.drop n) = prs T ∧ F.Sublist D ∧ HOk h') (by
      rintro w ws e ⟨h', F, D, n, k, x, o, rfl, hw, hD, hF, hh⟩
      obtain ⟨hn, rfl, rfl⟩ := drop_cons hw
      have hn' : n < T.length := by simpa using hn
      have hl : D.length ≤ 64 := by
        have := congrArg List.length hD
        rw [List.length_append] at this
        omega
      have hg := hF.length_le
      obtain ⟨h2, G, o2, q1, q2, q3⟩ := y_arrows1_s hh c rare p s o F T n T[n] hr hT hn' (by omega)
      refine ⟨aE h' c rare p F s T (some (.w (.int n))) (some (.w (.int T[n]))) o, _, by simp, ?_, h2, F ++ G, D ++ (T.drop (n + 1)).map (fun y => (T[n], y)), n + 1, some (.w (.int n)), some (.w (.int T[n])), o2, rfl, rfl, ?_, List.Sublist.append hF q2, q1⟩
      · unfold z__law_arrows_2
        simp [cVar_e, cOs_e, cC_e, cNil_e, cCons_e, cConsO_e, cOd_e, cTup_e, cLst_e, cPr_e, cB_e, cT_e, cNot_e, cIte_e, cAnd_e, cOr_e, cTrue_e, cFalse_e, cLe_e, cCh_e, cCall_e, cMk_e, primM_e, callM_e, makeM_e, kSeq_e, kNx_e, kRet_e, kRetv_e, kSet_e, kIte_e, kEx_e, kParZ_e, setSl_e, kFor_e, cIt_e, cMut_e, mutM_e, cSl_e, cNoP_e, cP_e, lcTurn_e, backL, bkAt, Cb.sizeOk, q3]
      · rw [List.drop_eq_getElem_cons hn'] at hD
        rw [← hD, prs, List.append_assoc])
    (items := (T.map W.int).zipIdx.map fun p => W.tup [.int (p.2 : Int), p.1]) (env := aE h c rare p [] s T none none none)
    ⟨h, [], [], 0, none, none, none, rfl, rfl, rfl, List.Sublist.refl _, hk⟩
  have hF : F.Sublist (prs T) := h5.trans (by rw [← h4]; exact List.sublist_append_left _ _)
  refine ⟨h', F, k, x, o, h6, hF, ?_⟩
  rw [← h2, ← h1]
  unfold y__law_arrows_2
  simp [cVar_e, cOs_e, cC_e, cNil_e, cCons_e, cConsO_e, cOd_e, cTup_e, cLst_e, cPr_e, cB_e, cT_e, cNot_e, cIte_e, cAnd_e, cOr_e, cTrue_e, cFalse_e, cLe_e, cCh_e, cCall_e, cMk_e, primM_e, callM_e, makeM_e, kSeq_e, kNx_e, kRet_e, kRetv_e, kSet_e, kIte_e, kEx_e, kParZ_e, setSl_e, kFor_e, cIt_e, cMut_e, mutM_e, cSl_e, cNoP_e, cP_e, lcTurn_e, backL, bkAt, Cb.sizeOk, itv_en]
  rfl
end P49

end
section
set_option maxRecDepth 100000
set_option maxHeartbeats 4000000
namespace P49
open PySem L2 Cb Pl Wk
theorem shufI {h : List W} (hk : HOk h) (c : Int) (hc : 0 ≤ c ∧ c ≤ 4) :
    ∃ (h' : List W) (q : List Int), HOk h' ∧ q.Perm (rgI c) ∧ m__law_shuffled [.L h, .w (.lst ((rgI c).map .int))] = .ok (.L (q.map .int)) [.L h', .w (.lst ((rgI c).map .int))] := by
  obtain ⟨h', p, h1, h2, h3⟩ := shuf_s hk ((rgI c).map .int) (by rw [List.length_map, len_rgI]; omega)
  obtain ⟨q, rfl, _⟩ := ex_map (g := W.int) (P := fun _ => True) (l := p) fun w hw => by
    obtain ⟨i, _, rfl⟩ := List.mem_map.mp (h2.mem_iff.mp hw)
    exact ⟨i, rfl, trivial⟩
  refine ⟨h', q, h1, ?_, h3⟩
  have e := h2.map (fun w => match w with | W.int i => i | _ => 0)
  rw [List.map_map, List.map_map] at e
  have f : ∀ l : List Int, l.map ((fun w => match w with | W.int i => i | _ => 0) ∘ W.int) = l := fun l => by
    have : l.map ((fun w => match w with | W.int i => i | _ => 0) ∘ W.int) = l.map id := List.map_congr_left fun i _ => rfl
    rw [this, List.map_id]
  rwa [f, f] at e
theorem rg_e {c : Int} (hc : 0 ≤ c ∧ c ≤ 100) : rgOk 0 c = true ∧ rgW 0 c = (rgI c).map .int := by
  constructor
  · unfold rgOk
    rw [bnd_s (n := 0) (by omega), bnd_s (n := c) (by omega)]
    simp
    omega
  · unfold rgW rgI
    rw [List.map_map]
    simp
theorem x_arrows_s {h : List W} (hk : HOk h) (c : Int) (a b d : Option Z) (hc : 0 ≤ c ∧ c ≤ 4) :
    ∃ (h' : List W) (q : List Int), HOk h' ∧ q.Perm (rgI c) ∧ x__law_arrows_1 [some (.L h), some (.w (.int c)), a, b, d, none, none, none, none, none, none] =
      .ok (.L ((q.map fun k => c + k).map .int)) [some (.L h'), some (.w (.int c)), a, b, d, none, none, none, none, none, none] := by
  obtain ⟨h', q, h1, h2, h3⟩ := shufI hk c hc
  obtain ⟨r1, r2⟩ := rg_e (c := c) ⟨hc.1, by omega⟩
  refine ⟨h', q, h1, h2, ?_⟩
  unfold x__law_arrows_1
  rw [cLc_m q W.int (fun k => some (.int (c + k))) (env1 := [some (.L h'), some (.w (.int c)), a, b, d, none, none, none, none, none, none])]
  · rw [List.filterMap_eq_map', List.map_map]; rfl
  · simp [cVar_e, cOs_e, cC_e, cNil_e, cCons_e, cConsO_e, cOd_e, cTup_e, cLst_e, cPr_e, cB_e, cT_e, cNot_e, cIte_e, cAnd_e, cOr_e, cTrue_e, cFalse_e, cLe_e, cCh_e, cCall_e, cMk_e, primM_e, callM_e, makeM_e, kSeq_e, kNx_e, kRet_e, kRetv_e, kSet_e, kIte_e, kEx_e, kParZ_e, setSl_e, kFor_e, cIt_e, cMut_e, mutM_e, cSl_e, cNoP_e, cP_e, lcTurn_e, backL, bkAt, Cb.sizeOk, cRg1_e, rgF, r1, r2, h3]
  · rw [h2.length_eq, len_rgI]; omega
  · intro k hk
    simp [cVar_e, cOs_e, cC_e, cNil_e, cCons_e, cConsO_e, cOd_e, cTup_e, cLst_e, cPr_e, cB_e, cT_e, cNot_e, cIte_e, cAnd_e, cOr_e, cTrue_e, cFalse_e, cLe_e, cCh_e, cCall_e, cMk_e, primM_e, callM_e, makeM_e, kSeq_e, kNx_e, kRet_e, kRetv_e, kSet_e, kIte_e, kEx_e, kParZ_e, setSl_e, kFor_e, cIt_e, cMut_e, mutM_e, cSl_e, cNoP_e, cP_e, lcTurn_e, backL, bkAt, Cb.sizeOk]
theorem arrows_s {h : List W} (hk : HOk h) (c rare : Int) (hc : 1 ≤ c ∧ c ≤ 4) (hr : 0 < rare ∧ rare ≤ 1000000) :
    ∃ h' A, HOk h' ∧ Wb c A ∧ A.length ≤ 28 ∧ m__law_arrows [.L h, .w (.int c), .w (.int rare)] = .ok (.w (aW A)) [.L h', .w (.int c), .w (.int rare)] := by
  have hc2 : 0 ≤ c ∧ c ≤ 4 := by omega
  obtain ⟨h1, q1, a1, a2, a3⟩ := shufI hk c hc2
  obtain ⟨h2, q2, b1, b2, b3⟩ := x_arrows_s a1 c (some (.w (.int rare))) (some (.L (q1.map .int))) (some (.L [])) hc2
  have l1 : q1.length = c.toNat := by rw [a2.length_eq, len_rgI]
  have l2 : q2.length = c.toNat := by rw [b2.length_eq, len_rgI]
  have hT : (q1 ++ q2.map fun k => c + k).length ≤ 8 := by rw [List.length_append, List.length_map]; omega
  have n1 : q1.Nodup := a2.nodup_iff.mpr (nodup_rgI c)
  have n2 : q2.Nodup := b2.nodup_iff.mpr (nodup_rgI c)
  have m1 : ∀ x ∈ q1, 0 ≤ x ∧ x < c := fun x hx => mem_rgI.mp (a2.mem_iff.mp hx)
  have m2 : ∀ x ∈ q2.map fun k => c + k, c ≤ x ∧ x < 2 * c := fun x hx => by
    obtain ⟨k, hk, rfl⟩ := List.mem_map.mp hx
    have := mem_rgI.mp (b2.mem_iff.mp hk)
    omega
  have nT : (q1 ++ q2.map fun k => c + k).Nodup := List.nodup_append.mpr ⟨n1, List.pairwise_map.mpr (n2.imp fun {a b} hne e => hne (by omega)), fun x hx y hy e => by
    have := m1 x hx
    have := m2 y hy
    omega⟩
  obtain ⟨h3, F, k, x, o, d1, d2, d3⟩ := y_arrows2_s b1 c rare (some (.L (q1.map .int))) (some (.L ((q2.map fun k => c + k).map .int))) (q1 ++ q2.map fun k => c + k) hr hT
  obtain ⟨A, e1, e2, e3⟩ := sort_pairs F ((prs_nodup nT).sublist d2)
  have hmem : ∀ p ∈ A, p ∈ prs (q1 ++ q2.map fun k => c + k) := fun p hp => d2.subset (e2.mem_iff.mp hp)
  have hlen : A.length ≤ 28 := by
    have h1 := prs_len (q1 ++ q2.map fun k => c + k)
    have h2 := d2.length_le
    have h3 := e2.length_eq
    have hn : (q1 ++ q2.map fun k => c + k).length = 2 * c.toNat := by rw [List.length_append, List.length_map]; omega
    rw [hn] at h1
    have hcc : c.toNat = 1 ∨ c.toNat = 2 ∨ c.toNat = 3 ∨ c.toNat = 4 := by omega
    rcases hcc with h | h | h | h <;> rw [h] at h1 <;> omega
  have hw : Wb c A := by
    refine ⟨fun p hp => ?_, e3, ?_, by omega⟩
    · have hp := hmem p hp
      obtain ⟨h1, h2⟩ := prs_mem hp
      have hb : ∀ x ∈ q1 ++ q2.map fun k => c + k, 0 ≤ x ∧ x < 2 * c := fun x hx => by
        rcases List.mem_append.mp hx with h | h
        · have := m1 x h; omega
        · have := m2 x h; omega
      have h1 := hb _ h1
      have h2 := hb _ h2
      refine ⟨h1.1, by omega, h2.1, by omega, prs_ne nT hp, ?_⟩
      rcases prs_app hp with h | h
      · exact .inl (m1 _ h).2
      · exact .inr (m2 _ (prs_mem h).2).1
    · intro P hP t ht
      exact prs_acy nT (fun t ht => by
        obtain ⟨p, hp, h⟩ := (hP t ht).2
        exact ⟨p, hmem p hp, h⟩) t ht
  refine ⟨h3, A, d1, hw, hlen, ?_⟩
  obtain ⟨r1, r2⟩ := rg_e (c := c) ⟨hc2.1, by omega⟩
  have hT' : q1.length + q2.length ≤ 16777216 := by omega
  rw [m__law_arrows, evD_e rfl]
  simp only [f__law_arrows, b__law_arrows]
  have d3 : y__law_arrows_2 [some (.L h2), some (.w (.int c)), some (.w (.int rare)), some (.L (q1.map .int)), some (.L []), some (.L (q2.map (W.int ∘ fun k => c + k))), some (.L (q1.map W.int ++ q2.map (W.int ∘ fun k => c + k))), none, none, none, none] = .nx (aE h3 c rare (some (.L (q1.map .int))) F (some (.L (q2.map (W.int ∘ fun k => c + k)))) (q1 ++ q2.map fun k => c + k) k x o) := by
    rw [List.map_append, List.map_map] at d3
    exact d3
  rw [List.map_map] at b3
  simp [cVar_e, cOs_e, cC_e, cNil_e, cCons_e, cConsO_e, cOd_e, cTup_e, cLst_e, cPr_e, cB_e, cT_e, cNot_e, cIte_e, cAnd_e, cOr_e, cTrue_e, cFalse_e, cLe_e, cCh_e, cCall_e, cMk_e, primM_e, callM_e, makeM_e, kSeq_e, kNx_e, kRet_e, kRetv_e, kSet_e, kIte_e, kEx_e, kParZ_e, setSl_e, kFor_e, cIt_e, cMut_e, mutM_e, cSl_e, cNoP_e, cP_e, lcTurn_e, backL, bkAt, Cb.sizeOk, cRg1_e, rgF, r1, r2, a3, b3, hT', d3, pairs_sortable, e1]
  rfl
end P49

end
section
set_option maxRecDepth 100000
set_option maxHeartbeats 4000000
namespace P49
open PySem L2 Cb Pl Wk
/-! ### order_by of a list -/
def lW (A : List Ar) : W := .lst (A.map pW)
/-- each thing stands behind all that lead to it -/
def Tp (A : List Ar) (F : List Int) : Prop := ∀ X t Y, F = X ++ t :: Y → okT A X t = true
theorem tp_nil {A : List Ar} : Tp A [] := fun X t Y e => by simp at e
theorem tp_snoc {A : List Ar} {F : List Int} {t : Int} (h : Tp A F) (ht : okT A F t = true) : Tp A (F ++ [t]) := fun X s Y e => by
  rcases List.eq_nil_or_concat Y with rfl | ⟨Y', y, rfl⟩
  · obtain ⟨e1, e2⟩ := List.append_inj' e rfl
    cases e2
    rw [← e1]; exact ht
  · have e' : F ++ [t] = (X ++ s :: Y') ++ [y] := by rw [e]; simp
    obtain ⟨e1, e2⟩ := List.append_inj' e' rfl
    exact h X s Y' e1
namespace L
theorem x_order_1 (c t : Int) (A : List Ar) (F : List Int) (b g : Z) (hA : A.length ≤ 16777216) :
    x_order_by_1 [some (.w (.int c)), some (.w (lW A)), some (.L (F.map .int)), some b, some g, some (.w (.int t)), none, none] =
      .ok (.L ((A.filter fun p => decide (p.2 = t)).map fun p => .bl (decide (p.1 ∈ F)))) [some (.w (.int c)), some (.w (lW A)), some (.L (F.map .int)), some b, some g, some (.w (.int t)), none, none] := by
  unfold x_order_by_1
  rw [cLc_m A pW (fun p => if decide (p.2 = t) = true then some (.bl (decide (p.1 ∈ F))) else none) (env1 := [some (.w (.int c)), some (.w (lW A)), some (.L (F.map .int)), some b, some g, some (.w (.int t)), none, none])]
  · rw [fm_if]; rfl
  · simp [cVar_e, cOs_e, cC_e, cNil_e, cCons_e, cConsO_e, cOd_e, cTup_e, cLst_e, cPr_e, cB_e, cT_e, cNot_e, cIte_e, cAnd_e, cOr_e, cTrue_e, cFalse_e, cLe_e, cCh_e, cCall_e, cMk_e, primM_e, callM_e, makeM_e, kSeq_e, kNx_e, kRet_e, kRetv_e, kSet_e, kIte_e, kEx_e, kParZ_e, setSl_e, kFor_e, cIt_e, cMut_e, mutM_e, cSl_e, cNoP_e, cP_e, lcTurn_e, backL, bkAt, Cb.sizeOk, lW]
  · exact hA
  · intro p hp
    simp [cVar_e, cOs_e, cC_e, cNil_e, cCons_e, cConsO_e, cOd_e, cTup_e, cLst_e, cPr_e, cB_e, cT_e, cNot_e, cIte_e, cAnd_e, cOr_e, cTrue_e, cFalse_e, cLe_e, cCh_e, cCall_e, cMk_e, primM_e, callM_e, makeM_e, kSeq_e, kNx_e, kRet_e, kRetv_e, kSet_e, kIte_e, kEx_e, kParZ_e, setSl_e, kFor_e, cIt_e, cMut_e, mutM_e, cSl_e, cNoP_e, cP_e, lcTurn_e, backL, bkAt, Cb.sizeOk, pW]
    split <;> rfl
theorem x_order_2 (c : Int) (A : List Ar) (F l : List Int) (b : Z) (hA : A.length ≤ 16777216) (hl : l.length ≤ 16777216) :
    x_order_by_2 [some (.w (.int c)), some (.w (lW A)), some (.L (F.map .int)), some b, some (.L (l.map .int)), none, none, none] =
      .ok (.L ((l.filter (okT A F)).map .int)) [some (.w (.int c)), some (.w (lW A)), some (.L (F.map .int)), some b, some (.w (.lst (l.map .int))), none, none, none] := by
  unfold x_order_by_2
  rw [cLc_m l W.int (fun t => if okT A F t = true then some (.int t) else none) (env1 := [some (.w (.int c)), some (.w (lW A)), some (.L (F.map .int)), some b, some (.w (.lst (l.map .int))), none, none, none])]
  · rw [fm_if]; rfl
  · simp [cVar_e, cOs_e, cC_e, cNil_e, cCons_e, cConsO_e, cOd_e, cTup_e, cLst_e, cPr_e, cB_e, cT_e, cNot_e, cIte_e, cAnd_e, cOr_e, cTrue_e, cFalse_e, cLe_e, cCh_e, cCall_e, cMk_e, primM_e, callM_e, makeM_e, kSeq_e, kNx_e, kRet_e, kRetv_e, kSet_e, kIte_e, kEx_e, kParZ_e, setSl_e, kFor_e, cIt_e, cMut_e, mutM_e, cSl_e, cNoP_e, cP_e, lcTurn_e, backL, bkAt, Cb.sizeOk]
  · exact hl
  · intro t ht
    simp [cVar_e, cOs_e, cC_e, cNil_e, cCons_e, cConsO_e, cOd_e, cTup_e, cLst_e, cPr_e, cB_e, cT_e, cNot_e, cIte_e, cAnd_e, cOr_e, cTrue_e, cFalse_e, cLe_e, cCh_e, cCall_e, cMk_e, primM_e, callM_e, makeM_e, kSeq_e, kNx_e, kRet_e, kRetv_e, kSet_e, kIte_e, kEx_e, kParZ_e, setSl_e, kFor_e, cIt_e, cMut_e, mutM_e, cSl_e, cNoP_e, cP_e, lcTurn_e, backL, bkAt, Cb.sizeOk, x_order_1 c t A F b (.w (.lst (l.map .int))) hA, okT_e]
    split <;> simp_all
theorem x_order_3 (c : Int) (A : List Ar) (F : List Int) (b : Z) (o : Option Z) (hc : 0 ≤ c ∧ c ≤ 1000) :
    x_order_by_3 [some (.w (.int c)), some (.w (lW A)), some (.L (F.map .int)), some b, o, none, none, none] =
      .ok (.L ((free c F).map .int)) [some (.w (.int c)), some (.w (lW A)), some (.L (F.map .int)), some b, o, none, none, none] := by
  unfold x_order_by_3
  have hb : bnd (2 * c) = true := by simp [bnd]; omega
  rw [cLc_m (rgI (2 * c)) W.int (fun t => if (!decide (t ∈ F)) = true then some (.int t) else none) (env1 := [some (.w (.int c)), some (.w (lW A)), some (.L (F.map .int)), some b, o, none, none, none])]
  · rw [fm_if]; rfl
  · simp [cVar_e, cOs_e, cC_e, cNil_e, cCons_e, cConsO_e, cOd_e, cTup_e, cLst_e, cPr_e, cB_e, cT_e, cNot_e, cIte_e, cAnd_e, cOr_e, cTrue_e, cFalse_e, cLe_e, cCh_e, cCall_e, cMk_e, primM_e, callM_e, makeM_e, kSeq_e, kNx_e, kRet_e, kRetv_e, kSet_e, kIte_e, kEx_e, kParZ_e, setSl_e, kFor_e, cIt_e, cMut_e, mutM_e, cSl_e, cNoP_e, cP_e, lcTurn_e, backL, bkAt, Cb.sizeOk, it_rg1 hb]
  · rw [len_rgI]; omega
  · intro t ht
    simp [cVar_e, cOs_e, cC_e, cNil_e, cCons_e, cConsO_e, cOd_e, cTup_e, cLst_e, cPr_e, cB_e, cT_e, cNot_e, cIte_e, cAnd_e, cOr_e, cTrue_e, cFalse_e, cLe_e, cCh_e, cCall_e, cMk_e, primM_e, callM_e, makeM_e, kSeq_e, kNx_e, kRet_e, kRetv_e, kSet_e, kIte_e, kEx_e, kParZ_e, setSl_e, kFor_e, cIt_e, cMut_e, mutM_e, cSl_e, cNoP_e, cP_e, lcTurn_e, backL, bkAt, Cb.sizeOk]
    split <;> simp_all
theorem z_order_s (c : Int) (A : List Ar) (F : List Int) (b : Z) (o : Option Z) (hc : 0 ≤ c ∧ c ≤ 1000) (hA : A.length ≤ 16777216) (hF : F.length ≤ 4000) :
    z_order_by_1 [some (.w (.int c)), some (.w (lW A)), some (.L (F.map .int)), some b, o, none, none, none] =
      .nx [some (.w (.int c)), some (.w (lW A)), some (.L ((F ++ (good c A F).take 1).map .int)), some (.w (.bl (decide (0 < (good c A F).length)))), some (.L ((good c A F).map .int)), none, none, none] := by
  have hl : (free c F).length ≤ 16777216 := by
    unfold free
    have := List.length_filter_le (fun t => !decide (t ∈ F)) (rgI (2 * c))
    rw [len_rgI] at this
    omega
  have e : (free c F).filter (okT A F) = good c A F := rfl
  have hs : F.length + min 1 (good c A F).length ≤ 16777216 := by omega
  simp [cVar_e, cOs_e, cC_e, cNil_e, cCons_e, cConsO_e, cOd_e, cTup_e, cLst_e, cPr_e, cB_e, cT_e, cNot_e, cIte_e, cAnd_e, cOr_e, cTrue_e, cFalse_e, cLe_e, cCh_e, cCall_e, cMk_e, primM_e, callM_e, makeM_e, kSeq_e, kNx_e, kRet_e, kRetv_e, kSet_e, kIte_e, kEx_e, kParZ_e, setSl_e, kFor_e, cIt_e, cMut_e, mutM_e, cSl_e, cNoP_e, cP_e, lcTurn_e, backL, bkAt, Cb.sizeOk, z_order_by_1, x_order_3 c A F b o hc, x_order_2 c A F (free c F) b hA hl, e, sl1, hs, List.map_take]
abbrev oE (c : Int) (A : List Ar) (F : List Int) (b : Bool) (o : Option Z) : Cb.Env := [some (.w (.int c)), some (.w (lW A)), some (.L (F.map .int)), some (.w (.bl b)), o, none, none, none]
theorem y_order_s (c : Int) (A : List Ar) (hc : 0 ≤ c ∧ c ≤ 100) (hA : A.length ≤ 16777216) :
    ∃ F o, y_order_by_1 (oE c A [] true none) = .nx (oE c A F false o) ∧ (F.Nodup ∧ Tp A F) ∧ (∀ t ∈ F, t ∈ rgI (2 * c)) ∧ good c A F = [] := by
  unfold y_order_by_1
  rw [kWhile_e]
  obtain ⟨e', h1, F, o, h2, h3⟩ := while_inv (c := cT (cVar 3)) (b := z_order_by_1)
    (fun m e => ∃ F b o, e = oE c A F b o ∧ (F.Nodup ∧ Tp A F) ∧ (∀ t ∈ F, t ∈ rgI (2 * c)) ∧ (b = false → good c A F = []) ∧ m = 2 * ((2 * c).toNat - F.length) + (if b then 1 else 0))
    (fun e => ∃ F o, e = oE c A F false o ∧ (F.Nodup ∧ Tp A F) ∧ (∀ t ∈ F, t ∈ rgI (2 * c)) ∧ good c A F = []) (by
      rintro m e ⟨F, b, o, rfl, hn, hs, hb, rfl⟩
      have hlen : F.length ≤ (2 * c).toNat := by
        have := nodup_len hn.1 hs
        rwa [len_rgI] at this
      cases b with
      | false => exact .inl ⟨oE c A F false o, by simp [cVar_e, cOs_e, cC_e, cNil_e, cCons_e, cConsO_e, cOd_e, cTup_e, cLst_e, cPr_e, cB_e, cT_e, cNot_e, cIte_e, cAnd_e, cOr_e, cTrue_e, cFalse_e, cLe_e, cCh_e, cCall_e, cMk_e, primM_e, callM_e, makeM_e, kSeq_e, kNx_e, kRet_e, kRetv_e, kSet_e, kIte_e, kEx_e, kParZ_e, setSl_e, kFor_e, cIt_e, cMut_e, mutM_e, cSl_e, cNoP_e, cP_e, lcTurn_e, backL, bkAt, Cb.sizeOk], F, o, rfl, hn, hs, hb rfl⟩
      | true =>
        right
        have hz := z_order_s c A F (.w (.bl true)) o ⟨hc.1, by omega⟩ hA (by omega)
        refine ⟨oE c A F true o, _, 2 * ((2 * c).toNat - (F ++ (good c A F).take 1).length) + (if decide (0 < (good c A F).length) then 1 else 0), by simp [cVar_e, cOs_e, cC_e, cNil_e, cCons_e, cConsO_e, cOd_e, cTup_e, cLst_e, cPr_e, cB_e, cT_e, cNot_e, cIte_e, cAnd_e, cOr_e, cTrue_e, cFalse_e, cLe_e, cCh_e, cCall_e, cMk_e, primM_e, callM_e, makeM_e, kSeq_e, kNx_e, kRet_e, kRetv_e, kSet_e, kIte_e, kEx_e, kParZ_e, setSl_e, kFor_e, cIt_e, cMut_e, mutM_e, cSl_e, cNoP_e, cP_e, lcTurn_e, backL, bkAt, Cb.sizeOk], hz, ?_, F ++ (good c A F).take 1, decide (0 < (good c A F).length), _, rfl, ?_, ?_, ?_, rfl⟩
        · cases hg : good c A F with
          | nil => simp
          | cons t r =>
            have ht : t ∈ good c A F := by rw [hg]; exact List.mem_cons_self
            obtain ⟨t1, t2, t3⟩ := mem_good.mp ht
            have hn2 : (t :: F).Nodup := List.nodup_cons.mpr ⟨t2, hn.1⟩
            have := nodup_len hn2 (fun x hx => by
              rcases List.mem_cons.mp hx with e | e
              · rw [e]; exact t1
              · exact hs x e)
            rw [len_rgI] at this
            simp at this ⊢
            omega
        · cases hg : good c A F with
          | nil => simpa using hn
          | cons t r =>
            have ht : t ∈ good c A F := by rw [hg]; exact List.mem_cons_self
            obtain ⟨t1, t2, t3⟩ := mem_good.mp ht
            simp only [List.take_succ_cons, List.take_zero]
            refine ⟨List.nodup_append.mpr ⟨hn.1, by simp, fun a ha b hb e => ?_⟩, tp_snoc hn.2 t3⟩
            rw [List.mem_singleton] at hb
            exact t2 (hb ▸ e ▸ ha)
        · intro t ht
          rcases List.mem_append.mp ht with h | h
          · exact hs t h
          · exact (mem_good.mp (List.mem_of_mem_take h)).1
        · intro h
          have h0 : (good c A F).length = 0 := by
            have := of_decide_eq_false h
            omega
          have h0 := List.length_eq_zero_iff.mp h0
          rw [h0]
          simpa using h0) 1000 (2 * ((2 * c).toNat - 0) + 1) (oE c A [] true none) (by omega) ⟨[], true, none, rfl, ⟨List.nodup_nil, tp_nil⟩, fun t h => absurd h (by simp), fun h => absurd h (by simp), rfl⟩
  exact ⟨F, o, by rw [h1, h2], h3⟩
theorem order_s (c : Int) (A : List Ar) (hc : 0 ≤ c ∧ c ≤ 100) (hA : A.length ≤ 16777216) :
    ∃ F, m_order_by [.w (.int c), .w (lW A)] = .ok (.L (F.map .int)) [.w (.int c), .w (lW A)] ∧ (F.Nodup ∧ Tp A F) ∧ (∀ t ∈ F, t ∈ rgI (2 * c)) ∧ good c A F = [] := by
  obtain ⟨F, o, h1, h2⟩ := y_order_s c A hc hA
  refine ⟨F, ?_, h2⟩
  rw [m_order_by, evD_e rfl]
  simp only [f_order_by, b_order_by]
  have h1 : y_order_by_1 [some (.w (.int c)), some (.w (lW A)), some (.L []), some (.w (.bl true)), none, none, none, none] = .nx (oE c A F false o) := h1
  simp [cVar_e, cOs_e, cC_e, cNil_e, cCons_e, cConsO_e, cOd_e, cTup_e, cLst_e, cPr_e, cB_e, cT_e, cNot_e, cIte_e, cAnd_e, cOr_e, cTrue_e, cFalse_e, cLe_e, cCh_e, cCall_e, cMk_e, primM_e, callM_e, makeM_e, kSeq_e, kNx_e, kRet_e, kRetv_e, kSet_e, kIte_e, kEx_e, kParZ_e, setSl_e, kFor_e, cIt_e, cMut_e, mutM_e, cSl_e, cNoP_e, cP_e, lcTurn_e, backL, bkAt, Cb.sizeOk, h1]
end L
end P49

end
section
set_option maxRecDepth 100000
set_option maxHeartbeats 4000000
namespace P49
open PySem L2 Cb Pl Wk
/-! ### all lots, fewest first -/
def lexk {α : Type} : List α → Nat → List (List α)
  | _, 0 => [[]]
  | [], _ + 1 => []
  | x :: r, k + 1 => (lexk r k).map (x :: ·) ++ lexk r (k + 1)
def short {α : Type} (l : List α) : List (List α) := (List.range (l.length + 1)).flatMap (lexk l)
theorem lexk_sub {α : Type} : ∀ {l : List α} {k : Nat} {S : List α}, S ∈ lexk l k → S.Sublist l ∧ S.length = k
  | l, 0, S, h => by
    cases l <;> (unfold lexk at h; rw [List.mem_singleton.mp h]; exact ⟨List.nil_sublist _, rfl⟩)
  | [], k + 1, S, h => by unfold lexk at h; cases h
  | x :: r, k + 1, S, h => by
    unfold lexk at h
    rcases List.mem_append.mp h with h | h
    · obtain ⟨T, hT, rfl⟩ := List.mem_map.mp h
      obtain ⟨h1, h2⟩ := lexk_sub hT
      exact ⟨h1.cons_cons x, by simp [h2]⟩
    · obtain ⟨h1, h2⟩ := lexk_sub h
      exact ⟨h1.cons x, h2⟩
theorem sub_lexk {α : Type} : ∀ {l S : List α}, S.Sublist l → S ∈ lexk l S.length
  | [], S, h => by rw [List.sublist_nil.mp h]; simp [lexk]
  | x :: r, S, h => by
    cases h with
    | cons _ h =>
      have := sub_lexk h
      cases S with
      | nil => simp [lexk]
      | cons y S => exact List.mem_append_right _ this
    | cons_cons _ h =>
      rename_i T
      exact List.mem_append_left _ (List.mem_map_of_mem (f := (x :: ·)) (sub_lexk h))
theorem mem_short {α : Type} {l S : List α} : S ∈ short l ↔ S.Sublist l := by
  unfold short
  rw [List.mem_flatMap]
  constructor
  · rintro ⟨k, _, h⟩
    exact (lexk_sub h).1
  · intro h
    exact ⟨S.length, List.mem_range.mpr (Nat.lt_succ_of_le h.length_le), sub_lexk h⟩
def gen {α : Type} (l : List α) : List (List α) := l.foldl (fun acc x => acc ++ acc.map fun y => y ++ [x]) [[]]
theorem gen_snoc {α : Type} (l : List α) (x : α) : gen (l ++ [x]) = gen l ++ (gen l).map fun y => y ++ [x] := by unfold gen; rw [List.foldl_append]; rfl
def C2 (c : Int) : Prop := c = 1 ∨ c = 2
theorem perm_gs {c : Int} (h : C2 c) : (gen (allA c)).Perm (short (allA c)) := by rcases h with rfl | rfl <;> decide +kernel
theorem asc_s {c : Int} (h : C2 c) : ((short (allA c)).map sW).Pairwise fun a b => ltW b a = false := by rcases h with rfl | rfl <;> decide +kernel
theorem gen_len {c : Int} (h : C2 c) : (gen (allA c)).length ≤ 256 := by rcases h with rfl | rfl <;> decide +kernel
theorem B_len {c : Int} (h : C2 c) : (allA c).length ≤ 8 := by rcases h with rfl | rfl <;> decide +kernel
end P49

end
section
set_option maxRecDepth 100000
set_option maxHeartbeats 4000000
namespace P49
open PySem L2 Cb Pl Wk
theorem lots_p (B : List Ar) (hB : B.length ≤ 8) (hl : (gen B).length ≤ 256) : ∃ Ls : List (List Ar), m__law_lots [.L (B.map pW)] = .ok (.L (Ls.map aW)) [.w (.lst (B.map pW))] ∧ Ls.Perm (gen B) := by
  have gl : ∀ P : List Ar, (gen P).length = 2 ^ P.length := by
    intro P
    have key : ∀ (P : List Ar) (acc : List (List Ar)), (P.foldl (fun acc x => acc ++ acc.map fun y => y ++ [x]) acc).length = acc.length * 2 ^ P.length := by
      intro P
      induction P with
      | nil => intro acc; simp
      | cons x P ih =>
        intro acc
        rw [List.foldl_cons, ih, List.length_append, List.length_map, List.length_cons, Nat.pow_succ]
        rw [← Nat.two_mul, Nat.mul_comm 2, Nat.mul_assoc, Nat.mul_comm 2]
    have := key P [[]]
    simpa [gen] using this
  have gs : ∀ (P : List Ar), ∀ S ∈ gen P, S.length ≤ P.length := by
    intro P
    have key : ∀ (P : List Ar) (acc : List (List Ar)) (m : Nat), (∀ S ∈ acc, S.length ≤ m) → ∀ S ∈ P.foldl (fun acc x => acc ++ acc.map fun y => y ++ [x]) acc, S.length ≤ m + P.length := by
      intro P
      induction P with
      | nil => intro acc m h S hS; exact h S hS
      | cons x P ih =>
        intro acc m h S hS
        rw [List.foldl_cons] at hS
        have := ih _ (m + 1) (fun T hT => by
          rcases List.mem_append.mp hT with hT | hT
          · exact Nat.le_succ_of_le (h T hT)
          · obtain ⟨T', hT', rfl⟩ := List.mem_map.mp hT
            rw [List.length_append, List.length_singleton]
            exact Nat.succ_le_succ (h T' hT')) S hS
        rw [List.length_cons]; omega
    intro S hS
    have := key P [[]] 0 (fun S hS => by rw [List.mem_singleton.mp hS]; simp) S hS
    simpa using this
  have hy : ∃ o, y__law_lots_1 [some (.L (B.map pW)), some (.L [aW []]), none, none] = .nx [some (.w (.lst (B.map pW))), some (.L (List.map aW (gen B))), o, none] := by
    obtain ⟨e', h1, o, P, R, h2, h3, h4⟩ := for_inv (g := setTg (.nm 2)) (b := z__law_lots_1)
      (fun ws e => ∃ (o : Option Z) (P R : List Ar), e = [some (.w (.lst (B.map pW))), some (.L ((gen P).map aW)), o, none] ∧ ws = R.map pW ∧ B = P ++ R) (by
        rintro w ws e ⟨o, P, R, rfl, hw, hB2⟩
        cases R with
        | nil => cases hw
        | cons t R =>
          injection hw with h1 h2
          subst h1 h2
          have hP : P.length ≤ 8 := by rw [hB2, List.length_append] at hB; omega
          have hLs : (gen P).length ≤ 256 := by rw [gl]; exact Nat.pow_le_pow_right (by decide) hP
          refine ⟨_, _, by simp, z_lots_s (some (.w (.lst (B.map pW)))) (gen P) t 0 (fun S h => ?_) (by omega), some (.w (pW t)), P ++ [t], R, ?_, rfl, by rw [hB2]; simp⟩
          · have := gs P S h
            omega
          · rw [gen_snoc])
      (items := B.map pW) (env := [some (.w (.lst (B.map pW))), some (.L [aW []]), none, none])
      ⟨none, [], B, rfl, rfl, rfl⟩
    have hR : R = [] := by cases R with
      | nil => rfl
      | cons x l => cases h3
    subst hR
    rw [List.append_nil] at h4
    subst h4
    refine ⟨o, ?_⟩
    rw [← h2, ← h1]
    unfold y__law_lots_1
    simp [cVar_e, cOs_e, cC_e, cNil_e, cCons_e, cConsO_e, cOd_e, cTup_e, cLst_e, cPr_e, cB_e, cT_e, cNot_e, cIte_e, cAnd_e, cOr_e, cTrue_e, cFalse_e, cLe_e, cCh_e, cCall_e, cMk_e, primM_e, callM_e, makeM_e, kSeq_e, kNx_e, kRet_e, kRetv_e, kSet_e, kIte_e, kEx_e, kParZ_e, setSl_e, kFor_e, cIt_e, cMut_e, mutM_e, cSl_e, cNoP_e, cP_e, lcTurn_e, backL, bkAt, Cb.sizeOk]
  obtain ⟨o, hy⟩ := hy
  obtain ⟨Ls', e1, h'⟩ := ex_map (g := aW) (P := fun S => S ∈ gen B) (l := sortW ltW ((gen B).map aW)) fun w hw => by
    obtain ⟨S, hS, rfl⟩ := List.mem_map.mp ((sortW_perm _).mem_iff.mp hw)
    exact ⟨S, rfl, hS⟩
  refine ⟨Ls', ?_, ?_⟩
  · rw [m__law_lots, evD_e rfl]
    simp only [f__law_lots, b__law_lots]
    have hy : y__law_lots_1 [some (.L (B.map pW)), some (.L [.tup []]), none, none] = .nx [some (.w (.lst (B.map pW))), some (.L (List.map aW (gen B))), o, none] := hy
    generalize gen B = G at hy e1
    simp [cVar_e, cOs_e, cC_e, cNil_e, cCons_e, cConsO_e, cOd_e, cTup_e, cLst_e, cPr_e, cB_e, cT_e, cNot_e, cIte_e, cAnd_e, cOr_e, cTrue_e, cFalse_e, cLe_e, cCh_e, cCall_e, cMk_e, primM_e, callM_e, makeM_e, kSeq_e, kNx_e, kRet_e, kRetv_e, kSet_e, kIte_e, kEx_e, kParZ_e, setSl_e, kFor_e, cIt_e, cMut_e, mutM_e, cSl_e, cNoP_e, cP_e, lcTurn_e, backL, bkAt, Cb.sizeOk, hy, lots_sortable, e1]
  · have pm : (Ls'.map aW).Perm ((gen B).map aW) := e1 ▸ sortW_perm _
    have un : ∀ l : List (List Ar), (l.map aW).map (fun w => match w with | .tup ws => ws.map unP | _ => []) = l := fun l => by
      rw [List.map_map]
      conv => rhs; rw [← List.map_id l]
      refine List.map_congr_left fun S _ => ?_
      show (S.map pW).map unP = S
      rw [List.map_map]
      conv => rhs; rw [← List.map_id S]
      exact List.map_congr_left fun p _ => unP_p p
    have := pm.map (fun w => match w with | .tup ws => ws.map unP | _ => [])
    rwa [un, un] at this
theorem short_sort {c : Int} (h : C2 c) {Ls : List (List Ar)} (pm : Ls.Perm (gen (allA c))) : sortW ltW (Ls.map sW) = (short (allA c)).map sW := by
  have p2 : Ls.Perm (short (allA c)) := pm.trans (perm_gs h)
  refine ((sortW_perm _).trans (p2.map sW)).eq_of_pairwise (le := fun a b => ltW b a = false) (fun a b ha hb h1 h3 => ?_) (sort_asc (sized_sortable Ls)) (asc_s h)
  obtain ⟨_, h2⟩ := sortable_iff (sized_sortable (short (allA c)))
  exact cmp_tri a b (h2 a ((p2.map sW).mem_iff.mp ((sortW_perm _).mem_iff.mp ha)) b hb) h3 h1
/-- the arrows of all webs -/
def Es (c : Int) : List (List Ar) := (short (allA c)).filter (calmA c)
theorem every_e {c : Int} (h : C2 c) : m__law_every [.w (.int c)] = .ok (.L ((Es c).map aW)) [.w (.int c)] := by
  have hc2 : 0 ≤ c ∧ c ≤ 4 := by rcases h with rfl | rfl <;> decide
  obtain ⟨o, hy⟩ := y_every1_s c hc2
  have hB := B_len h
  obtain ⟨Ls, h1, pm⟩ := lots_p (allA c) hB (gen_len h)
  have hS : ∀ S ∈ Ls, S.Sublist (allA c) := fun S hS => mem_short.mp ((pm.trans (perm_gs h)).mem_iff.mp hS)
  have h3 : Ls.length ≤ 256 := by rw [pm.length_eq]; exact gen_len h
  have h4 := short_sort h pm
  have h5 : (short (allA c)).length ≤ 256 := by rw [← (pm.trans (perm_gs h)).length_eq]; exact h3
  have hx2 := x_every2_s c (some (.w (.lst ((rgI (2 * c)).map .int)))) o none (allA c) Ls h1 hS hB h3
  have hx1 := x_every1_s c (some (.w (.lst ((rgI (2 * c)).map .int)))) (some (.w (.lst ((allA c).map pW)))) o Ls (short (allA c)) h4 (fun S hS => Nat.le_trans (mem_short.mp hS).length_le hB) h5 hc2
  have hr : rgOk 0 (2 * c) = true := by
    unfold rgOk
    rw [bnd_s (n := 0) (by omega), bnd_s (n := 2 * c) (by omega)]
    simp
    omega
  have hrg : rgW 0 (2 * c) = (rgI (2 * c)).map .int := by
    unfold rgW rgI
    rw [List.map_map]
    simp
  have key : ∀ {B : List Ar} {E : List (List Ar)}, y__law_every_1 [some (.w (.int c)), some (.L ((rgI (2 * c)).map .int)), some (.L []), none, none, none, none, none] = .nx [some (.w (.int c)), some (.w (.lst ((rgI (2 * c)).map .int))), some (.L (B.map pW)), o, none, none, none, none] →
      x__law_every_2 [some (.w (.int c)), some (.w (.lst ((rgI (2 * c)).map .int))), some (.L (B.map pW)), o, none, none, none, none] = .ok (.L (Ls.map sW)) [some (.w (.int c)), some (.w (.lst ((rgI (2 * c)).map .int))), some (.w (.lst (B.map pW))), o, none, none, none, none] →
      x__law_every_1 [some (.w (.int c)), some (.w (.lst ((rgI (2 * c)).map .int))), some (.w (.lst (B.map pW))), o, some (.L (Ls.map sW)), none, none, none] = .ok (.L (E.map aW)) [some (.w (.int c)), some (.w (.lst ((rgI (2 * c)).map .int))), some (.w (.lst (B.map pW))), o, some (.L (Ls.map sW)), none, none, none] →
      m__law_every [.w (.int c)] = .ok (.L (E.map aW)) [.w (.int c)] := by
    intro B E hy hx2 hx1
    rw [m__law_every, evD_e rfl]
    simp only [f__law_every, b__law_every]
    simp [cVar_e, cOs_e, cC_e, cNil_e, cCons_e, cConsO_e, cOd_e, cTup_e, cLst_e, cPr_e, cB_e, cT_e, cNot_e, cIte_e, cAnd_e, cOr_e, cTrue_e, cFalse_e, cLe_e, cCh_e, cCall_e, cMk_e, primM_e, callM_e, makeM_e, kSeq_e, kNx_e, kRet_e, kRetv_e, kSet_e, kIte_e, kEx_e, kParZ_e, setSl_e, kFor_e, cIt_e, cMut_e, mutM_e, cSl_e, cNoP_e, cP_e, lcTurn_e, backL, bkAt, Cb.sizeOk, cRg1_e, rgF, hr, hrg, hy, hx2, hx1]
  exact key hy hx2 hx1
end P49

end
section
set_option maxRecDepth 100000
set_option maxHeartbeats 4000000
namespace P49
open PySem L2 Cb Pl Wk
/-! ### the program's lots -/
def kW (p : List Int) : W := .tup [.int (p.length : Nat), itW1 p]
theorem asc_8 : ((short (rgI 8)).map kW).Pairwise fun a b => ltW b a = false := by decide +kernel
theorem perm_8 : (gen (rgI 8)).Perm (short (rgI 8)) := by decide +kernel
theorem loop_8 : y_all_lots_1 [some (.w (.int 8)), some (.L [.tup []]), none, none] = .nx [some (.w (.int 8)), some (.L ((gen (rgI 8)).map itW1)), some (.w (.int 7)), none] := by kernel_rfl
end P49

end
section
set_option maxRecDepth 100000
set_option maxHeartbeats 4000000
namespace P49
open PySem L2 Cb Pl Wk
theorem dep_it (p : List Int) : depW (itW1 p) = 1 := by
  show depWs (p.map .int) + 1 = 1
  rw [dep_ints]
theorem cmps_ints : ∀ (p q : List Int), cmpWs (p.map .int) (q.map .int) = true
  | [], _ => by simp [cmpWs]
  | _ :: _, [] => by simp [cmpWs]
  | a :: p, b :: q => by
    rw [List.map_cons, List.map_cons, cmpWs, cmps_ints p q]
    rfl
theorem key_it (p : List Int) : keyLW (itW1 p) = kW p := by
  show W.tup [.int ((p.map W.int).length : Nat), _] = _
  rw [List.length_map]; rfl
theorem sortable_kW (G : List (List Int)) : sortable (G.map kW) = true := by
  unfold sortable
  rw [shWs_of (fun w hw => by
    obtain ⟨p, _, rfl⟩ := List.mem_map.mp hw
    have : plainW (itW1 p) = true := plain_ints p
    simp [kW, plainW, plainWs, this]) (fun w hw => by
    obtain ⟨p, _, rfl⟩ := List.mem_map.mp hw
    simp [kW, depW, depWs, dep_it]), Bool.true_and]
  refine List.all_eq_true.mpr fun a ha => List.all_eq_true.mpr fun b hb => ?_
  obtain ⟨p, _, rfl⟩ := List.mem_map.mp ha
  obtain ⟨q, _, rfl⟩ := List.mem_map.mp hb
  have : cmpWs (p.map .int) (q.map .int) = true := cmps_ints p q
  simp [kW, cmpW, cmpWs, itW1, this]
theorem isIT_it (p : List Int) : isIT (itW1 p) = true := by
  show (asInts (p.map .int)).isSome = true
  rw [asInts_map]; rfl
theorem all_lots_gen {k : Int} {G L : List (List Int)} {t u : Option Z} (hy : y_all_lots_1 [some (.w (.int k)), some (.L [.tup []]), none, none] = .nx [some (.w (.int k)), some (.L (G.map itW1)), t, u]) (pm : G.Perm L) (asc : (L.map kW).Pairwise fun a b => ltW b a = false) :
    m_all_lots [.w (.int k)] = .ok (.L (L.map itW1)) [.w (.int k)] := by
  have hp : prW .sortLT [.lst (G.map itW1)] = some (.L (L.map itW1)) := by
    show (if (G.map itW1).all isIT && sortable ((G.map itW1).map keyLW) then some (Z.L ((sortW ltW ((G.map itW1).map keyLW)).map unKey)) else none) = _
    have h1 : (G.map itW1).all isIT = true := List.all_eq_true.mpr fun w hw => by
      obtain ⟨p, _, rfl⟩ := List.mem_map.mp hw; exact isIT_it p
    have h2 : (G.map itW1).map keyLW = G.map kW := by
      rw [List.map_map]
      exact List.map_congr_left fun p _ => key_it p
    have h3 : sortW ltW (G.map kW) = L.map kW := by
      refine ((sortW_perm _).trans (pm.map kW)).eq_of_pairwise (le := fun a b => ltW b a = false) (fun a b ha hb h1 h3 => ?_) (sort_asc (sortable_kW G)) asc
      obtain ⟨_, h2⟩ := sortable_iff (sortable_kW L)
      exact cmp_tri a b (h2 a ((pm.map kW).mem_iff.mp ((sortW_perm _).mem_iff.mp ha)) b hb) h3 h1
    rw [h1, h2, sortable_kW, h3, List.map_map]; rfl
  rw [m_all_lots, evD_e rfl]
  simp only [f_all_lots, b_all_lots]
  simp [cVar_e, cOs_e, cC_e, cNil_e, cCons_e, cConsO_e, cOd_e, cTup_e, cLst_e, cPr_e, cB_e, cT_e, cNot_e, cIte_e, cAnd_e, cOr_e, cTrue_e, cFalse_e, cLe_e, cCh_e, cCall_e, cMk_e, primM_e, callM_e, makeM_e, kSeq_e, kNx_e, kRet_e, kRetv_e, kSet_e, kIte_e, kEx_e, kParZ_e, setSl_e, kFor_e, cIt_e, cMut_e, mutM_e, cSl_e, cNoP_e, cP_e, lcTurn_e, backL, bkAt, Cb.sizeOk, hy, hp]
/-- so many arrows are let -/
def nA (c : Int) : Int := if c = 1 then 1 else 8
theorem lots_k {c : Int} (h : C2 c) : m_all_lots [.w (.int (nA c))] = .ok (.L ((short (rgI (nA c))).map itW1)) [.w (.int (nA c))] := by
  rcases h with rfl | rfl
  · kernel_rfl
  · exact all_lots_gen loop_8 perm_8 asc_8
def pk (c : Int) (p : List Int) : List Ar := p.map fun i => (allA c).getD i.toNat (0, 0)
theorem pk_all {c : Int} (h : C2 c) : (short (rgI (nA c))).map (pk c) = short (allA c) := by rcases h with rfl | rfl <;> decide +kernel
theorem at_B {c : Int} (h : C2 c) : ∀ i ∈ rgI (nA c), atI ((allA c).map pW) i = some (pW ((allA c).getD i.toNat (0, 0))) :=
  List.map_inj_left.mp (by rcases h with rfl | rfl <;> kernel_rfl)
theorem lot_in {c : Int} (h : C2 c) {p : List Int} (hp : p ∈ short (rgI (nA c))) : (∀ i ∈ p, i ∈ rgI (nA c)) ∧ p.length ≤ 8 := by
  have h1 := mem_short.mp hp
  refine ⟨fun i hi => h1.subset hi, Nat.le_trans h1.length_le ?_⟩
  rcases h with rfl | rfl <;> decide
theorem len_B {c : Int} (h : C2 c) : ((allA c).length : Int) = nA c := by rcases h with rfl | rfl <;> decide +kernel
theorem may_B {c : Int} (h : C2 c) (a b d e f g i : Option Z) : x_webs_of_2 [some (.w (.int c)), some (.w (.rng 0 (2 * c))), none, none, none, none, none, none, none] = .ok (.L ((allA c).map pW)) [some (.w (.int c)), some (.w (.rng 0 (2 * c))), none, none, none, none, none, none, none] := by
  rcases h with rfl | rfl <;> kernel_rfl
/-- rings stay -/
theorem ring_B {c : Int} (h : C2 c) {S : List Ar} (hS : S ∈ short (allA c)) (hc : calmA c S = false) : ∃ P : List Int, P ≠ [] ∧ ∀ t ∈ P, t ∈ rgI (2 * c) ∧ ∃ p ∈ S, p.2 = t ∧ p.1 ∈ P := by
  have : (short (allA c)).all (fun S => calmA c S || (!(leftN S (2 * c).toNat (rgI (2 * c))).isEmpty && (leftN S (2 * c).toNat (rgI (2 * c))).all fun t => decide (t ∈ rgI (2 * c)) && S.any fun p => decide (p.2 = t) && decide (p.1 ∈ leftN S (2 * c).toNat (rgI (2 * c))))) = true := by
    rcases h with rfl | rfl <;> decide +kernel
  have h1 := List.all_eq_true.mp this S hS
  rw [hc, Bool.false_or] at h1
  obtain ⟨h2, h3⟩ := Bool.and_eq_true_iff.mp h1
  refine ⟨leftN S (2 * c).toNat (rgI (2 * c)), fun e => (by rw [e] at h2; cases h2), fun t ht => ?_⟩
  have h4 := List.all_eq_true.mp h3 t ht
  obtain ⟨h5, h6⟩ := Bool.and_eq_true_iff.mp h4
  obtain ⟨p, hp, h7⟩ := List.any_eq_true.mp h6
  obtain ⟨h8, h9⟩ := Bool.and_eq_true_iff.mp h7
  exact ⟨of_decide_eq_true h5, p, hp, of_decide_eq_true h8, of_decide_eq_true h9⟩
theorem wb_S {c : Int} (h : C2 c) {S : List Ar} (hS : S ∈ short (allA c)) (hc : calmA c S = true) : Wb c S := by
  have hB := B_len h
  have hasc : (allA c).Pairwise ltA := by rcases h with rfl | rfl <;> decide
  have hsub := mem_short.mp hS
  refine ⟨fun p hp => ?_, hasc.sublist hsub, no_ring ?_, Nat.le_trans hsub.length_le (Nat.le_trans hB (by decide))⟩
  · obtain ⟨i, hi, hp⟩ := List.mem_flatMap.mp (hsub.subset hp)
    obtain ⟨j, hj, rfl⟩ := List.mem_map.mp hp
    obtain ⟨hj, hm⟩ := List.mem_filter.mp hj
    have h1 := mem_rgI.mp hi
    have h2 := mem_rgI.mp hj
    simp [may] at hm
    refine ⟨h1.1, ?_, h2.1, ?_, hm.1, hm.2⟩ <;> (dsimp only; omega)
  · unfold calmA at hc
    simpa using hc
/-- no thing of a ring stands in an order -/
theorem no_tp {S : List Ar} {P : List Int} (hP : ∀ t ∈ P, ∃ p ∈ S, p.2 = t ∧ p.1 ∈ P) {F : List Int} (h : Tp S F) : ∀ t ∈ P, t ∉ F := by
  have key : ∀ (n : Nat) (X : List Int), X.length = n → (∃ Y, F = X ++ Y) → ∀ t ∈ P, t ∉ X := by
    intro n
    induction n with
    | zero =>
      intro X hX _ t _
      rw [List.length_eq_zero_iff.mp hX]; simp
    | succ n ih =>
      intro X hX ⟨Y, hY⟩ t ht hm
      rcases List.eq_nil_or_concat X with rfl | ⟨X', s, rfl⟩
      · simp at hX
      · rw [List.concat_eq_append] at hX hY hm
        have hX' : X'.length = n := by simpa using hX
        have h1 := ih X' hX' ⟨s :: Y, by rw [hY]; simp⟩
        rcases List.mem_append.mp hm with hm | hm
        · exact h1 t ht hm
        · rw [List.mem_singleton] at hm
          subst hm
          obtain ⟨p, hp, e, hp1⟩ := hP t ht
          have h2 := h X' t Y (by rw [hY]; simp)
          unfold okT at h2
          have h3 := List.all_eq_true.mp h2 p hp
          rw [e] at h3
          simp at h3
          exact h1 _ hp1 h3
  exact fun t ht => key F.length F rfl ⟨[], by simp⟩ t ht
theorem order_len {c : Int} (h : C2 c) {S : List Ar} (hS : S ∈ short (allA c)) : ∃ F : List Int, m_order_by [.w (.int c), .w (lW S)] = .ok (.L (F.map .int)) [.w (.int c), .w (lW S)] ∧ decide ((F.length : Int) = 2 * c) = calmA c S := by
  have hc : 1 ≤ c ∧ c ≤ 2 := by rcases h with rfl | rfl <;> decide
  have hl : S.length ≤ 8 := Nat.le_trans (mem_short.mp hS).length_le (B_len h)
  obtain ⟨F, h1, ⟨h2, htp⟩, h3, h4⟩ := L.order_s c S ⟨by omega, by omega⟩ (by omega)
  refine ⟨F, h1, ?_⟩
  cases q : calmA c S with
  | true =>
    have := order_all (wb_S h hS q) h2 h3 h4
    rw [decide_eq_true_iff]
    omega
  | false =>
    rw [decide_eq_false_iff_not]
    intro e
    obtain ⟨P, hne, hP⟩ := ring_B h hS q
    obtain ⟨t, ht⟩ := List.exists_mem_of_ne_nil P hne
    have hnot := no_tp (fun t ht => (hP t ht).2) htp t ht
    have hlt := nodup_len (List.nodup_cons.mpr ⟨hnot, h2⟩) (fun x hx => by
      rcases List.mem_cons.mp hx with rfl | hx
      · exact (hP _ ht).1
      · exact h3 x hx)
    rw [len_rgI] at hlt
    simp at hlt
    omega
theorem sort_S {c : Int} {S : List Ar} (h : Wb c S) : prW .sorted [lW S] = some (.L (S.map pW)) := by
  show (if sortable (S.map pW) then some (Z.L (sortW ltW (S.map pW))) else none) = _
  have nd : S.Nodup := h.asc.imp fun {a b} hab e => by subst e; unfold ltA at hab; omega
  obtain ⟨A, e1, e2, e3⟩ := sort_pairs S nd
  rw [pairs_sortable, e1]
  have : A = S := e2.eq_of_pairwise (le := ltA) (fun a b _ _ h1 h2 => by unfold ltA at h1 h2; omega) e3 h.asc
  rw [this]; rfl
theorem raw_s {c : Int} (hc : 1 ≤ c ∧ c ≤ 4) {S : List Ar} (h : Wb c S) : m_raw_web [.w (.int c), .w (lW S)] = .ok (.obj "Web" (wF c S)) [.w (.int c), .w (lW S)] := by
  have h1 := web_s c S hc h
  have h2 := sort_S h
  have h3 : prW .tuple [.lst (S.map pW)] = some (.w (aW S)) := rfl
  generalize lW S = g at h2
  rw [m_raw_web, evD_e rfl]
  simp only [f_raw_web, b_raw_web]
  simp [cVar_e, cOs_e, cC_e, cNil_e, cCons_e, cConsO_e, cOd_e, cTup_e, cLst_e, cPr_e, cB_e, cT_e, cNot_e, cIte_e, cAnd_e, cOr_e, cTrue_e, cFalse_e, cLe_e, cCh_e, cCall_e, cMk_e, primM_e, callM_e, makeM_e, kSeq_e, kNx_e, kRet_e, kRetv_e, kSet_e, kIte_e, kEx_e, kParZ_e, setSl_e, kFor_e, cIt_e, cMut_e, mutM_e, cSl_e, cNoP_e, cP_e, lcTurn_e, backL, bkAt, Cb.sizeOk, h2, h3, h1]
end P49

end
section
set_option maxRecDepth 100000
set_option maxHeartbeats 4000000
namespace P49
open PySem L2 Cb Pl Wk
def wO (c : Int) (S : List Ar) : W := .obj "Web" (wF c S)
theorem x_webs_gen {c : Int} {p : List Int} {B : List W} {g : Int → W} (hat : ∀ i ∈ p, atI B i = some (g i)) (hl : p.length ≤ 8) (a f s t u : Option Z) :
    x_webs_of_1 [some (.w (.int c)), a, some (.L B), f, some (.w (itW1 p)), s, t, u, none] = .ok (.L (p.map g)) [some (.w (.int c)), a, some (.L B), f, some (.w (itW1 p)), s, t, u, none] := by
  unfold x_webs_of_1
  rw [cLc_m p W.int (fun i => some (g i)) (env1 := [some (.w (.int c)), a, some (.L B), f, some (.w (itW1 p)), s, t, u, none])]
  · rw [List.filterMap_eq_map']; rfl
  · simp [cVar_e, cOs_e, cC_e, cNil_e, cCons_e, cConsO_e, cOd_e, cTup_e, cLst_e, cPr_e, cB_e, cT_e, cNot_e, cIte_e, cAnd_e, cOr_e, cTrue_e, cFalse_e, cLe_e, cCh_e, cCall_e, cMk_e, primM_e, callM_e, makeM_e, kSeq_e, kNx_e, kRet_e, kRetv_e, kSet_e, kIte_e, kEx_e, kParZ_e, setSl_e, kFor_e, cIt_e, cMut_e, mutM_e, cSl_e, cNoP_e, cP_e, lcTurn_e, backL, bkAt, Cb.sizeOk, itW1]
  · omega
  · intro i hi
    simp [cVar_e, cOs_e, cC_e, cNil_e, cCons_e, cConsO_e, cOd_e, cTup_e, cLst_e, cPr_e, cB_e, cT_e, cNot_e, cIte_e, cAnd_e, cOr_e, cTrue_e, cFalse_e, cLe_e, cCh_e, cCall_e, cMk_e, primM_e, callM_e, makeM_e, kSeq_e, kNx_e, kRet_e, kRetv_e, kSet_e, kIte_e, kEx_e, kParZ_e, setSl_e, kFor_e, cIt_e, cMut_e, mutM_e, cSl_e, cNoP_e, cP_e, lcTurn_e, backL, bkAt, Cb.sizeOk, hat i hi]
theorem x_webs1 {c : Int} (h : C2 c) {p : List Int} (hp : p ∈ short (rgI (nA c))) (a f s t u : Option Z) :
    x_webs_of_1 [some (.w (.int c)), a, some (.L ((allA c).map pW)), f, some (.w (itW1 p)), s, t, u, none] = .ok (.L ((pk c p).map pW)) [some (.w (.int c)), a, some (.L ((allA c).map pW)), f, some (.w (itW1 p)), s, t, u, none] := by
  obtain ⟨h1, h2⟩ := lot_in h hp
  have e0 : (pk c p).map pW = p.map fun i => pW ((allA c).getD i.toNat (0, 0)) := by unfold pk; rw [List.map_map]; rfl
  rw [e0]
  exact x_webs_gen (fun i hi => at_B h i (h1 i hi)) h2 a f s t u
theorem pk_in {c : Int} (h : C2 c) {p : List Int} (hp : p ∈ short (rgI (nA c))) : pk c p ∈ short (allA c) := by
  rw [← pk_all h]; exact List.mem_map_of_mem hp
abbrev gE (c : Int) (B F : List W) (l s : Option Z) : Cb.Env := [some (.w (.int c)), some (.w (.rng 0 (2 * c))), some (.L B), some (.L F), l, s, none, none, none]
theorem z_webs_gen {c : Int} {p : List Int} {B F : List W} {S : List Ar} {O : List Int} {b : Bool} (hx : ∀ s, x_webs_of_1 (gE c B F (some (.w (itW1 p))) s) = .ok (.L (S.map pW)) (gE c B F (some (.w (itW1 p))) s))
    (ho : m_order_by [.w (.int c), .w (lW S)] = .ok (.L (O.map .int)) [.w (.int c), .w (lW S)]) (hb : decide ((O.length : Int) = 2 * c) = b) (hr : b = true → m_raw_web [.w (.int c), .w (lW S)] = .ok (.obj "Web" (wF c S)) [.w (.int c), .w (lW S)]) (hF : F.length < 16777216) (s : Option Z) :
    z_webs_of_1 (gE c B F (some (.w (itW1 p))) s) = .nx (gE c B (if b = true then F ++ [wO c S] else F) (some (.w (itW1 p))) (some (.w (lW S)))) := by
  have ho' : m_order_by [.w (.int c), .w (.lst (S.map pW))] = .ok (.L (O.map .int)) [.w (.int c), .w (.lst (S.map pW))] := ho
  cases b with
  | true =>
    have hr' : m_raw_web [.w (.int c), .w (.lst (S.map pW))] = .ok (.obj "Web" (wF c S)) [.w (.int c), .w (.lst (S.map pW))] := hr rfl
    have hb' := of_decide_eq_true hb
    unfold z_webs_of_1
    simp [cVar_e, cOs_e, cC_e, cNil_e, cCons_e, cConsO_e, cOd_e, cTup_e, cLst_e, cPr_e, cB_e, cT_e, cNot_e, cIte_e, cAnd_e, cOr_e, cTrue_e, cFalse_e, cLe_e, cCh_e, cCall_e, cMk_e, primM_e, callM_e, makeM_e, kSeq_e, kNx_e, kRet_e, kRetv_e, kSet_e, kIte_e, kEx_e, kParZ_e, setSl_e, kFor_e, cIt_e, cMut_e, mutM_e, cSl_e, cNoP_e, cP_e, lcTurn_e, backL, bkAt, Cb.sizeOk, hx, ho', hb', hr', hF, wO, lW]
  | false =>
    have hb' := of_decide_eq_false hb
    unfold z_webs_of_1
    simp [cVar_e, cOs_e, cC_e, cNil_e, cCons_e, cConsO_e, cOd_e, cTup_e, cLst_e, cPr_e, cB_e, cT_e, cNot_e, cIte_e, cAnd_e, cOr_e, cTrue_e, cFalse_e, cLe_e, cCh_e, cCall_e, cMk_e, primM_e, callM_e, makeM_e, kSeq_e, kNx_e, kRet_e, kRetv_e, kSet_e, kIte_e, kEx_e, kParZ_e, setSl_e, kFor_e, cIt_e, cMut_e, mutM_e, cSl_e, cNoP_e, cP_e, lcTurn_e, backL, bkAt, Cb.sizeOk, hx, ho', hb', lW]
theorem z_webs {c : Int} (h : C2 c) {p : List Int} (hp : p ∈ short (rgI (nA c))) (F : List W) (hF : F.length < 16777216) (s : Option Z) :
    z_webs_of_1 (gE c ((allA c).map pW) F (some (.w (itW1 p))) s) = .nx (gE c ((allA c).map pW) (if calmA c (pk c p) = true then F ++ [wO c (pk c p)] else F) (some (.w (itW1 p))) (some (.w (lW (pk c p))))) := by
  obtain ⟨O, h1, h2⟩ := order_len h (pk_in h hp)
  have hc : 1 ≤ c ∧ c ≤ 4 := by rcases h with rfl | rfl <;> decide
  exact z_webs_gen (fun s => x_webs1 h hp _ _ s _ _) h1 h2 (fun hb => raw_s hc (wb_S h (pk_in h hp) hb)) hF s
theorem y_webs {c : Int} (h : C2 c) : ∀ (l : List (List Int)) (F : List W) (t s : Option Z), (∀ p ∈ l, p ∈ short (rgI (nA c))) → F.length + l.length ≤ 1000 →
    ∃ t' s', evFor (setTg (.nm 4)) z_webs_of_1 (l.map itW1) (gE c ((allA c).map pW) F t s) = .nx (gE c ((allA c).map pW) (F ++ ((l.map (pk c)).filter (calmA c)).map (wO c)) t' s')
  | [], F, t, s, _, _ => ⟨t, s, by simp [evFor]⟩
  | p :: l, F, t, s, hl, hn => by
    simp only [List.length_cons] at hn
    have hz := z_webs h (hl p List.mem_cons_self) F (by omega) s
    obtain ⟨t', s', e⟩ := y_webs h l (if calmA c (pk c p) = true then F ++ [wO c (pk c p)] else F) (some (.w (itW1 p))) (some (.w (lW (pk c p)))) (fun q hq => hl q (List.mem_cons_of_mem _ hq)) (by
      split
      · rw [List.length_append, List.length_singleton]; omega
      · omega)
    refine ⟨t', s', ?_⟩
    rw [List.map_cons]
    show (match setTg (.nm 4) (itW1 p) (gE c ((allA c).map pW) F t s) with
      | none => SR.bad
      | some env => (match z_webs_of_1 env with
        | .nx env => evFor (setTg (.nm 4)) z_webs_of_1 (l.map itW1) env
        | .ct env => evFor (setTg (.nm 4)) z_webs_of_1 (l.map itW1) env
        | .bk env => .nx env
        | r => r)) = _
    have e1 : setTg (.nm 4) (itW1 p) (gE c ((allA c).map pW) F t s) = some (gE c ((allA c).map pW) F (some (.w (itW1 p))) s) := rfl
    rw [e1]
    dsimp only
    rw [hz]
    dsimp only
    rw [e]
    cases q : calmA c (pk c p) with
    | true => simp [List.filter_cons, q]
    | false => simp [List.filter_cons, q]
def rv1F (env : Cb.Env) : W → R Z
  | .int b => .ok (.w (.rng 0 b)) env
  | _ => .bad
theorem cRv1_e {d : Den Z} {env : Cb.Env} : cRv1 d env = (d env).bind fun z env => rv1F env (frz z) := by
  unfold cRv1
  cases d env with
  | ok z e => simp only [bind_ok]; cases frz z <;> rfl
  | _ => rfl
@[simp] theorem rv1F_i {env : Cb.Env} {b : Int} : rv1F env (.int b) = .ok (.w (.rng 0 b)) env := rfl
theorem kFor_l {tg : Tg} {k : Itk} {d : Den (List W)} {b : DenS} {env e2 : Cb.Env} {l : List W} (h : cIt k d env = .ok l e2) : kFor tg k d b env = evFor (setTg tg) b l e2 := by
  unfold kFor
  rw [h]
  rfl
theorem webs_gen {M : Mean} {X2 : Den Z} {Z1 : DenS} {c n : Int} {B L F : List W} {t s : Option Z} (e1 : X2 [some (.w (.int c)), some (.w (.rng 0 (2 * c))), none, none, none, none, none, none, none] = .ok (.L B) [some (.w (.int c)), some (.w (.rng 0 (2 * c))), none, none, none, none, none, none, none])
    (e2 : (B.length : Int) = n) (e3 : M [.w (.int n)] = .ok (.L L) [.w (.int n)]) (e4 : evFor (setTg (.nm 4)) Z1 L (gE c B [] none none) = .nx (gE c B F t s)) :
    evD ⟨1, 9, [0], kSeq (kSet 1 (cRv1 (cPr .mul (cConsO (cOd (cC (.int 2))) (cConsO (cOs 0) cNil))))) (kSeq (kSet 2 X2) (kSeq (kSet 3 (cLst (cNil))) (kSeq (kFor (.nm 4) .val (cCons (cCall M (cConsO (cOd (cPr .len (cConsO (cOs 2) cNil))) (cNil))) cNil) Z1) (kSeq (kRetv 3) (kNx)))))⟩ [.w (.int c)] = .ok (.L F) [.w (.int c)] := by
  rw [evD_e rfl]
  simp [cVar_e, cOs_e, cC_e, cNil_e, cCons_e, cConsO_e, cOd_e, cTup_e, cLst_e, cPr_e, cB_e, cT_e, cNot_e, cIte_e, cAnd_e, cOr_e, cTrue_e, cFalse_e, cLe_e, cCh_e, cCall_e, cMk_e, primM_e, callM_e, makeM_e, kSeq_e, kNx_e, kRet_e, kRetv_e, kSet_e, kIte_e, kEx_e, kParZ_e, setSl_e, kFor_e, cIt_e, cMut_e, mutM_e, cSl_e, cNoP_e, cP_e, lcTurn_e, backL, bkAt, Cb.sizeOk, cRv1_e, e1, e2, e3, e4]
theorem webs_e {c : Int} (h : C2 c) : m_webs_of [.w (.int c)] = .ok (.L ((Es c).map (wO c))) [.w (.int c)] := by
  obtain ⟨t, s, e⟩ := y_webs h (short (rgI (nA c))) [] none none (fun _ h => h) (by rcases h with rfl | rfl <;> decide +kernel)
  rw [pk_all h] at e
  have e2 : ((((allA c).map pW).length : Nat) : Int) = nA c := by rw [List.length_map]; exact len_B h
  exact webs_gen (may_B h none none none none none none none) e2 (lots_k h) e
theorem all_webs_e {c : Int} (h : C2 c) : m_all_webs [.w (.int c)] = .ok (.L ((Es c).map (wO c))) [.w (.int c)] := by
  have e := webs_e h
  have hc : 1 ≤ c ∧ c ≤ 2 := by rcases h with rfl | rfl <;> decide
  rw [m_all_webs, evD_e rfl]
  simp only [f_all_webs, b_all_webs]
  generalize (Es c).map (wO c) = X at e
  simp [cVar_e, cOs_e, cC_e, cNil_e, cCons_e, cConsO_e, cOd_e, cTup_e, cLst_e, cPr_e, cB_e, cT_e, cNot_e, cIte_e, cAnd_e, cOr_e, cTrue_e, cFalse_e, cLe_e, cCh_e, cCall_e, cMk_e, primM_e, callM_e, makeM_e, kSeq_e, kNx_e, kRet_e, kRetv_e, kSet_e, kIte_e, kEx_e, kParZ_e, setSl_e, kFor_e, cIt_e, cMut_e, mutM_e, cSl_e, cNoP_e, cP_e, lcTurn_e, backL, bkAt, Cb.sizeOk, is_within_s, hc.1, hc.2, e]
end P49

end
section
set_option maxRecDepth 100000
set_option maxHeartbeats 4000000
namespace P49
open PySem L2 Cb Pl Wk
/-! ### a thing is itself, kind by kind -/
theorem is1_s (i : Int) : m__law_is_r1 [.w (.int i), .w (.int i)] = .ok (.w (.bl true)) [.w (.int i), .w (.int i)] := by
  rw [m__law_is_r1, evD_e rfl]
  simp only [f__law_is_r1, b__law_is_r1]
  have e1 : prW (.isinst [.tuple, .list]) [.int i] = some (.w (.bl false)) := rfl
  have e2 : prW (.isinst [.dict]) [.int i] = some (.w (.bl false)) := rfl
  have e3 : prW (.isinst [.bool]) [.int i] = some (.w (.bl false)) := rfl
  simp [cVar_e, cOs_e, cC_e, cNil_e, cCons_e, cConsO_e, cOd_e, cTup_e, cLst_e, cPr_e, cB_e, cT_e, cNot_e, cIte_e, cAnd_e, cOr_e, cTrue_e, cFalse_e, cLe_e, cCh_e, cCall_e, cMk_e, primM_e, callM_e, makeM_e, kSeq_e, kNx_e, kRet_e, kRetv_e, kSet_e, kIte_e, kEx_e, kParZ_e, setSl_e, kFor_e, cIt_e, cMut_e, mutM_e, cSl_e, cNoP_e, cP_e, lcTurn_e, backL, bkAt, Cb.sizeOk, e1, e2, e3]
def isX (M : Mean) : Den Z := cLc (([("_law_k", 2)] : List (PySem.Str × Nat)).map (·.2)) (.nm 2) .rng1 (cCons (cPr .len (cConsO (cOs 1) cNil)) (cNil)) (cTrue) (cCall M (cConsO (cOd (cPr .ix (cConsO (cOs 0) (cConsO (cOs 2) cNil)))) (cConsO (cOd (cPr .ix (cConsO (cOs 1) (cConsO (cOs 2) cNil)))) (cNil))))
def isB (X : Den Z) (Y : DenS) : DenS := kSeq (kIte (cT (cPr (.isinst [.tuple, .list]) (cConsO (cOs 1) cNil))) (kSeq (kIte (cOr (cT (cPr .ne (cConsO (cOd (cPr (.isinst [.tuple]) (cConsO (cOs 0) cNil))) (cConsO (cOd (cPr (.isinst [.tuple]) (cConsO (cOs 1) cNil))) cNil)))) (cOr (cT (cPr .ne (cConsO (cOd (cPr (.isinst [.list]) (cConsO (cOs 0) cNil))) (cConsO (cOd (cPr (.isinst [.list]) (cConsO (cOs 1) cNil))) cNil)))) cFalse)) (kSeq (kRet (cC (.bl false))) (kNx)) (kNx)) (kSeq (kRet (cB (cAnd (cT (cPr .eq (cConsO (cOd (cPr .len (cConsO (cOs 0) cNil))) (cConsO (cOd (cPr .len (cConsO (cOs 1) cNil))) cNil)))) (cAnd (cT (cPr .all (cConsO (cOd X) cNil))) cTrue)))) (kNx))) (kNx)) Y
theorem rgI_at {l : List W} {i : Int} (h : i ∈ rgI (l.length : Int)) : ∃ w ∈ l, atI l i = some w := by
  obtain ⟨h1, h2⟩ := mem_rgI.mp h
  exact at_list h1 h2
theorem asBls_tt {γ : Type} (l : List γ) : asBls (l.map fun _ => W.bl true) = some (l.map fun _ => true) := by
  induction l with
  | nil => rfl
  | cons b bs ih => simp [ih]
theorem all_tt {γ : Type} (l : List γ) : allB (l.map fun _ => true) = true := by
  induction l with
  | nil => rfl
  | cons b bs ih => simp [allB]
theorem ne_b (a : Bool) : prW .ne [.bl a, .bl a] = some (.w (.bl false)) := by cases a <;> rfl
theorem isX_gen {M : Mean} {l : List W} {w : W} {b : Z} {n : Int} (hn : (l.length : Int) = n) (hl : l.length ≤ 1000) (hb0 : okZ (some b) = some b) (hb1 : frz b = w) (hlen : prW .len [w] = some (.w (.int n))) (hix : ∀ i : Int, prW .ix [w, .int i] = (atI l i).map .w)
    (hM : ∀ w ∈ l, ∃ a b, M [.w w, .w w] = .ok (.w (.bl true)) [a, b]) (u : Option Z) :
    isX M [some (.w w), some b, none, u] = .ok (.L ((rgI n).map fun _ => .bl true)) [some (.w w), some b, none, u] := by
  unfold isX
  have hb : bnd n = true := bnd_s (by omega)
  rw [cLc_m (rgI n) W.int (fun _ => some (.bl true)) (env1 := [some (.w w), some b, none, u])]
  · rw [List.filterMap_eq_map']; rfl
  · have e1 : (cCons (cPr .len (cConsO (cOs 1) cNil)) (cNil) : Den (List W)) [some (.w w), some b, none, u] = .ok [.int n] [some (.w w), some b, none, u] := by simp [cVar_e, cOs_e, cC_e, cNil_e, cCons_e, cConsO_e, cOd_e, cTup_e, cLst_e, cPr_e, cB_e, cT_e, cNot_e, cIte_e, cAnd_e, cOr_e, cTrue_e, cFalse_e, cLe_e, cCh_e, cCall_e, cMk_e, primM_e, callM_e, makeM_e, kSeq_e, kNx_e, kRet_e, kRetv_e, kSet_e, kIte_e, kEx_e, kParZ_e, setSl_e, kFor_e, cIt_e, cMut_e, mutM_e, cSl_e, cNoP_e, cP_e, lcTurn_e, backL, bkAt, Cb.sizeOk, hb0, hb1, hlen]
    unfold cIt
    rw [e1, bind_ok, it_rg1 hb]
  · rw [len_rgI]; omega
  · intro i hi
    rw [← hn] at hi
    obtain ⟨x, hx, e⟩ := rgI_at hi
    obtain ⟨a, b', e2⟩ := hM x hx
    simp [cVar_e, cOs_e, cC_e, cNil_e, cCons_e, cConsO_e, cOd_e, cTup_e, cLst_e, cPr_e, cB_e, cT_e, cNot_e, cIte_e, cAnd_e, cOr_e, cTrue_e, cFalse_e, cLe_e, cCh_e, cCall_e, cMk_e, primM_e, callM_e, makeM_e, kSeq_e, kNx_e, kRet_e, kRetv_e, kSet_e, kIte_e, kEx_e, kParZ_e, setSl_e, kFor_e, cIt_e, cMut_e, mutM_e, cSl_e, cNoP_e, cP_e, lcTurn_e, backL, bkAt, Cb.sizeOk, hb0, hb1, hix, e, e2]
@[simp] theorem i_tlT {l : List W} : prW (.isinst [.tuple, .list]) [.tup l] = some (.w (.bl true)) := rfl
@[simp] theorem i_tlL {l : List W} : prW (.isinst [.tuple, .list]) [.lst l] = some (.w (.bl true)) := rfl
theorem is_gen {X : Den Z} {Y : DenS} {w : W} {b : Z} {n : Int} {bs : List Bool} {t1 t2 : Bool} (hb0 : okZ (some b) = some b) (hb1 : frz b = w) (hlen : prW .len [w] = some (.w (.int n))) (e0 : prW (.isinst [.tuple, .list]) [w] = some (.w (.bl true))) (e1 : prW (.isinst [.tuple]) [w] = some (.w (.bl t1))) (e2 : prW (.isinst [.list]) [w] = some (.w (.bl t2)))
    (hx : X [some (.w w), some b, none, none] = .ok (.L (bs.map .bl)) [some (.w w), some b, none, none]) (hbs : allB bs = true) (hbk : asBls (bs.map .bl) = some bs) (q : ∀ zs : List Z, zs = [.w w, b] → True) :
    (isB X Y) [some (.w w), some b, none, none] = .rt (.w (.bl true)) [some (.w w), some b, none, none] := by
  unfold isB
  simp [cVar_e, cOs_e, cC_e, cNil_e, cCons_e, cConsO_e, cOd_e, cTup_e, cLst_e, cPr_e, cB_e, cT_e, cNot_e, cIte_e, cAnd_e, cOr_e, cTrue_e, cFalse_e, cLe_e, cCh_e, cCall_e, cMk_e, primM_e, callM_e, makeM_e, kSeq_e, kNx_e, kRet_e, kRetv_e, kSet_e, kIte_e, kEx_e, kParZ_e, setSl_e, kFor_e, cIt_e, cMut_e, mutM_e, cSl_e, cNoP_e, cP_e, lcTurn_e, backL, bkAt, Cb.sizeOk, hb0, hb1, hlen, e0, e1, e2, ne_b, hx, hbs, hbk]
theorem asBls_bs (bs : List Bool) : asBls (bs.map .bl) = some bs := by
  induction bs with
  | nil => rfl
  | cons b bs ih => simp [ih]
theorem is_end {B : DenS} {w : W} {b : Z} (hb0 : okZ (some b) = some b) (h : B [some (.w w), some b, none, none] = .rt (.w (.bl true)) [some (.w w), some b, none, none]) : evD ⟨2, 4, [0, 1], B⟩ [.w w, b] = .ok (.w (.bl true)) [.w w, b] := by
  rw [evD_e rfl]
  simp [cVar_e, cOs_e, cC_e, cNil_e, cCons_e, cConsO_e, cOd_e, cTup_e, cLst_e, cPr_e, cB_e, cT_e, cNot_e, cIte_e, cAnd_e, cOr_e, cTrue_e, cFalse_e, cLe_e, cCh_e, cCall_e, cMk_e, primM_e, callM_e, makeM_e, kSeq_e, kNx_e, kRet_e, kRetv_e, kSet_e, kIte_e, kEx_e, kParZ_e, setSl_e, kFor_e, cIt_e, cMut_e, mutM_e, cSl_e, cNoP_e, cP_e, lcTurn_e, backL, bkAt, Cb.sizeOk, h, hb0]
theorem is_tup {M : Mean} {Y : DenS} {l : List W} (hl : l.length ≤ 1000) (hM : ∀ w ∈ l, ∃ a b, M [.w w, .w w] = .ok (.w (.bl true)) [a, b]) :
    evD ⟨2, 4, [0, 1], isB (isX M) Y⟩ [.w (.tup l), .w (.tup l)] = .ok (.w (.bl true)) [.w (.tup l), .w (.tup l)] := by
  have hx := isX_gen (w := .tup l) (b := .w (.tup l)) rfl hl rfl rfl rfl (fun _ => rfl) hM none
  have e : ((rgI (l.length : Int)).map fun _ => W.bl true) = ((rgI (l.length : Int)).map fun _ => true).map .bl := by rw [List.map_map]; rfl
  rw [e] at hx
  exact is_end rfl (is_gen rfl rfl rfl rfl rfl rfl hx (all_tt _) (asBls_bs _) (fun _ _ => trivial))
theorem is_lst {M : Mean} {Y : DenS} {l : List W} (hl : l.length ≤ 1000) (hM : ∀ w ∈ l, ∃ a b, M [.w w, .w w] = .ok (.w (.bl true)) [a, b]) :
    evD ⟨2, 4, [0, 1], isB (isX M) Y⟩ [.w (.lst l), .L l] = .ok (.w (.bl true)) [.w (.lst l), .L l] := by
  have hx := isX_gen (w := .lst l) (b := .L l) rfl hl rfl rfl rfl (fun _ => rfl) hM none
  have e : ((rgI (l.length : Int)).map fun _ => W.bl true) = ((rgI (l.length : Int)).map fun _ => true).map .bl := by rw [List.map_map]; rfl
  rw [e] at hx
  exact is_end rfl (is_gen rfl rfl rfl rfl rfl rfl hx (all_tt _) (asBls_bs _) (fun _ _ => trivial))
theorem is2_s (p : Ar) : m__law_is_r2 [.w (pW p), .w (pW p)] = .ok (.w (.bl true)) [.w (pW p), .w (pW p)] :=
  is_tup (M := m__law_is_r1) (show 2 ≤ 1000 by decide) fun w hw => by
    rcases List.mem_cons.mp hw with rfl | hw
    · exact ⟨_, _, is1_s _⟩
    · rw [List.mem_singleton] at hw
      subst hw
      exact ⟨_, _, is1_s _⟩
theorem is3_s (S : List Ar) (h : S.length ≤ 1000) : m__law_is_r3 [.w (aW S), .w (aW S)] = .ok (.w (.bl true)) [.w (aW S), .w (aW S)] :=
  is_tup (M := m__law_is_r2) (by rw [List.length_map]; exact h) fun w hw => by
    obtain ⟨p, _, rfl⟩ := List.mem_map.mp hw
    exact ⟨_, _, is2_s p⟩
theorem is4_s (E : List (List Ar)) (h : E.length ≤ 1000) (hS : ∀ S ∈ E, S.length ≤ 1000) : m__law_is_r4 [.w (.lst (E.map aW)), .L (E.map aW)] = .ok (.w (.bl true)) [.w (.lst (E.map aW)), .L (E.map aW)] :=
  is_lst (M := m__law_is_r3) (by rw [List.length_map]; exact h) fun w hw => by
    obtain ⟨S, hS', rfl⟩ := List.mem_map.mp hw
    exact ⟨_, _, is3_s S (hS S hS')⟩
/-! ### == of webs -/
theorem eqs_ps : ∀ (S T : List Ar), eqWs (S.map pW) (T.map pW) = decide (S = T)
  | [], [] => by simp [eqWs]
  | [], _ :: _ => by simp [eqWs]
  | _ :: _, [] => by simp [eqWs]
  | (a, b) :: S, (c, d) :: T => by
    rw [List.map_cons, List.map_cons, eqWs, eqs_ps S T]
    have : eqW (pW (a, b)) (pW (c, d)) = decide ((a, b) = (c, d)) := by
      simp [pW, eqW, eqWs, Bool.beq_eq_decide_eq, Prod.mk.injEq]
    rw [this, Bool.eq_iff_iff]
    simp
theorem eqs_aW : ∀ (E : List (List Ar)), eqWs (E.map aW) (E.map aW) = true
  | [] => by simp [eqWs]
  | S :: E => by
    rw [List.map_cons, eqWs, eqs_aW E, Bool.and_true]
    show eqWs (S.map pW) (S.map pW) = true
    rw [eqs_ps]; simp
theorem ne_E (E : List (List Ar)) : prW .ne [.lst (E.map aW), .lst (E.map aW)] = some (.w (.bl false)) := by
  have hs : shW (.lst (E.map aW)) = true := shL_of (fun w hw => by obtain ⟨S, _, rfl⟩ := List.mem_map.mp hw; exact (sh_aW S).1) fun w hw => by
    obtain ⟨S, _, rfl⟩ := List.mem_map.mp hw
    have := (sh_aW S).2
    omega
  show (if shW (.lst (E.map aW)) && shW (.lst (E.map aW)) then some (Z.w (.bl (!eqWs (E.map aW) (E.map aW)))) else none) = _
  rw [hs, eqs_aW]; rfl
def isoF (c : Str) (env : Cb.Env) : Option Z → R Z
  | some z => (match isOwnW c (frz z) with
    | some b => .ok (.w (.bl b)) env
    | none => .bad)
  | none => .bad
theorem cIsO_e {c : Str} {d : Den Od} {env : Cb.Env} : cIsO c d env = (d env).bind fun o env => isoF c env (o.res env) := by unfold cIsO isoF; rfl
@[simp] theorem isoF_w {c : Str} {S : List Ar} {n : Int} {env : Cb.Env} : isoF "Web" env (some (.w (wO n S))) = .ok (.w (.bl true)) env := rfl
theorem weq_s (c : Int) (S T : List Ar) : m_Web_eq [.w (wO c S), .w (wO c T)] = .ok (.w (.bl (decide (S = T)))) [.w (wO c S), .w (wO c T)] := by
  have f1 : ∀ U : List Ar, prW (.fld ["Web"] "columns") [wO c U] = some (.w (.int c)) := fun U => rfl
  have f2 : ∀ U : List Ar, prW (.fld ["Web"] "arrows") [wO c U] = some (.w (aW U)) := fun U => rfl
  have e1 : prW .eq [.tup [.int c, aW S], .tup [.int c, aW T]] = some (.w (.bl (decide (S = T)))) := by
    have hs : ∀ U : List Ar, shW (.tup [.int c, aW U]) = true := fun U => by
      have h1 := (sh_aW U).1
      have h2 := (sh_aW U).2
      unfold shW
      simp [plainW, plainWs, depW, depWs, h1]
      omega
    show (if shW (.tup [.int c, aW S]) && shW (.tup [.int c, aW T]) then some (Z.w (.bl (eqW (.tup [.int c, aW S]) (.tup [.int c, aW T])))) else none) = _
    rw [hs, hs]
    have : eqW (.tup [.int c, aW S]) (.tup [.int c, aW T]) = decide (S = T) := by
      show (((c == c) && (eqWs (S.map pW) (T.map pW) && true))) = _
      rw [eqs_ps]; simp
    rw [this]; rfl
  have ex : Od.res [some (Z.w (wO c S)), some (Z.w (wO c T))] (.s 1) = some (.w (wO c T)) := rfl
  rw [m_Web_eq, evD_e rfl]
  simp only [f_Web_eq, b_Web_eq]
  simp [cVar_e, cOs_e, cC_e, cNil_e, cCons_e, cConsO_e, cOd_e, cTup_e, cLst_e, cPr_e, cB_e, cT_e, cNot_e, cIte_e, cAnd_e, cOr_e, cTrue_e, cFalse_e, cLe_e, cCh_e, cCall_e, cMk_e, primM_e, callM_e, makeM_e, kSeq_e, kNx_e, kRet_e, kRetv_e, kSet_e, kIte_e, kEx_e, kParZ_e, setSl_e, kFor_e, cIt_e, cMut_e, mutM_e, cSl_e, cNoP_e, cP_e, lcTurn_e, backL, bkAt, Cb.sizeOk, cIsO_e, ex, f1, f2, e1]
theorem eqO_s (c : Int) (S T : List Ar) : eqO "Web" m_Web_eq (wO c S) (wO c T) = some (decide (S = T)) := by
  unfold eqO
  rw [weq_s]
  rfl
/-! ### each web is among them -/
theorem sub_asc : ∀ {A B : List Ar}, A.Pairwise ltA → B.Pairwise ltA → (∀ p ∈ A, p ∈ B) → A.Sublist B
  | [], B, _, _, _ => List.nil_sublist B
  | p :: A, [], _, _, h => absurd (h p List.mem_cons_self) (by simp)
  | p :: A, q :: B, ha, hb, h => by
    obtain ⟨ha1, ha2⟩ := List.pairwise_cons.mp ha
    obtain ⟨hb1, hb2⟩ := List.pairwise_cons.mp hb
    by_cases e : p = q
    · subst e
      refine (sub_asc ha2 hb2 fun x hx => ?_).cons_cons p
      rcases List.mem_cons.mp (h x (List.mem_cons_of_mem _ hx)) with rfl | hm
      · have := ha1 _ hx
        unfold ltA at this; omega
      · exact hm
    · have hp : p ∈ B := (List.mem_cons.mp (h p List.mem_cons_self)).resolve_left e
      refine (sub_asc ha hb2 fun x hx => ?_).cons q
      rcases List.mem_cons.mp (h x hx) with rfl | hm
      · have h1 := hb1 p hp
        rcases List.mem_cons.mp hx with e2 | hx
        · exact absurd e2.symm e
        · have h2 := ha1 _ hx
          unfold ltA at h1 h2; omega
      · exact hm
theorem mem_allA {c : Int} {p : Ar} (h : Val c p) : p ∈ allA c := by
  obtain ⟨h1, h2, h3, h4, h5, h6⟩ := h
  refine List.mem_flatMap.mpr ⟨p.1, mem_rgI.mpr ⟨h1, by omega⟩, List.mem_map.mpr ⟨p.2, List.mem_filter.mpr ⟨mem_rgI.mpr ⟨h3, by omega⟩, ?_⟩, rfl⟩⟩
  simp [may, h5, h6]
theorem mem_Es {c : Int} (h : C2 c) {A : List Ar} (w : Wb c A) : A ∈ Es c := by
  have hasc : (allA c).Pairwise ltA := by rcases h with rfl | rfl <;> decide
  have hA : A ∈ short (allA c) := mem_short.mpr (sub_asc w.asc hasc fun p hp => mem_allA (w.val p hp))
  refine List.mem_filter.mpr ⟨hA, ?_⟩
  cases q : calmA c A with
  | true => rfl
  | false =>
    obtain ⟨P, hne, hP⟩ := ring_B h hA q
    obtain ⟨t, ht⟩ := List.exists_mem_of_ne_nil P hne
    exact absurd ht (w.acy (· ∈ P) hP t)
theorem one_Es {c : Int} (h : C2 c) : ∀ A ∈ Es c, ((Es c).filter fun S => decide (S = A)).length = 1 := by rcases h with rfl | rfl <;> decide +kernel
theorem len_Es {c : Int} (h : C2 c) : 0 < (Es c).length ∧ (Es c).length ≤ 256 := by rcases h with rfl | rfl <;> decide +kernel
end P49

end
section
set_option maxRecDepth 100000
set_option maxHeartbeats 4000000
namespace P49
open PySem L2 Cb Pl Wk
@[simp] theorem od_s {env : Cb.Env} {i : Nat} : Od.res env (.s i) = gets env i := rfl
@[simp] theorem od_w {env : Cb.Env} {x : W} : Od.res env (.w x) = some (.w x) := rfl
def eqoF (env : Cb.Env) : Option Bool → R Z
  | some r => .ok (.w (.bl r)) env
  | none => .bad
theorem cEqO_e {c : Str} {m : Mean} {d e : Den Z} {env : Cb.Env} : cEqO c m d e env = (d env).bind fun a env => (e env).bind fun b env => eqoF env (eqO c m (frz a) (frz b)) := by unfold cEqO eqoF; rfl
@[simp] theorem eqoF_s {env : Cb.Env} {r : Bool} : eqoF env (some r) = .ok (.w (.bl r)) env := rfl
theorem cFr_e {d : Den Z} {env : Cb.Env} : cFr d env = (d env).bind fun z env => .ok (.w (frz z)) env := rfl
theorem fold_o (c : Int) (A : List Ar) : W.obj "Web" (wF c A) = wO c A := rfl
theorem fl_c (c : Int) (U : List Ar) : prW (.fld ["Web"] "columns") [wO c U] = some (.w (.int c)) := rfl
theorem fl_a (c : Int) (U : List Ar) : prW (.fld ["Web"] "arrows") [wO c U] = some (.w (aW U)) := rfl
abbrev LE (sc h : Option Z) (c : Int) (told due t w at_ one : Option Z) : Cb.Env := [sc, h, some (.w (.int c)), told, due, t, w, at_, one]
theorem x4_s {c : Int} {E : List (List Ar)} (hE : E.length ≤ 256) (sc h due t w at_ one : Option Z) : ∃ w', x_law_4 (LE sc h c (some (.L (E.map (wO c)))) due t w at_ one) = .ok (.L ((E.map fun _ => true).map .bl)) (LE sc h c (some (.L (E.map (wO c)))) due t w' at_ one) := by
  refine ⟨rsV (gets (LE sc h c none due t w at_ one) 6), ?_⟩
  unfold x_law_4
  rw [cLcK_m E (wO c) (fun _ => some (.bl true))]
  · rw [List.filterMap_eq_map', List.map_map]
    show R.ok _ ((restE _ _ [6]).set 3 _) = _
    rw [rest_c]
    rfl
  · rfl
  · omega
  · intro S hS
    simp [cVar_e, cOs_e, cC_e, cNil_e, cCons_e, cConsO_e, cOd_e, cTup_e, cLst_e, cPr_e, cB_e, cT_e, cNot_e, cIte_e, cAnd_e, cOr_e, cTrue_e, cFalse_e, cLe_e, cCh_e, cCall_e, cMk_e, primM_e, callM_e, makeM_e, kSeq_e, kNx_e, kRet_e, kRetv_e, kSet_e, kIte_e, kEx_e, kParZ_e, setSl_e, kFor_e, cIt_e, cMut_e, mutM_e, cSl_e, cNoP_e, cP_e, lcTurn_e, backL, bkAt, Cb.sizeOk, cIsO_e, fl_c]
theorem x3_s {c : Int} {E : List (List Ar)} (hE : E.length ≤ 256) (sc h due t w at_ one : Option Z) : ∃ w', x_law_3 (LE sc h c (some (.L (E.map (wO c)))) due t w at_ one) = .ok (.L (E.map aW)) (LE sc h c (some (.L (E.map (wO c)))) due t w' at_ one) := by
  refine ⟨rsV (gets (LE sc h c none due t w at_ one) 6), ?_⟩
  unfold x_law_3
  rw [cLcK_m E (wO c) (fun S => some (aW S))]
  · rw [List.filterMap_eq_map']
    show R.ok _ ((restE _ _ [6]).set 3 _) = _
    rw [rest_c]
    rfl
  · rfl
  · omega
  · intro S hS
    simp [cVar_e, cOs_e, cC_e, cNil_e, cCons_e, cConsO_e, cOd_e, cTup_e, cLst_e, cPr_e, cB_e, cT_e, cNot_e, cIte_e, cAnd_e, cOr_e, cTrue_e, cFalse_e, cLe_e, cCh_e, cCall_e, cMk_e, primM_e, callM_e, makeM_e, kSeq_e, kNx_e, kRet_e, kRetv_e, kSet_e, kIte_e, kEx_e, kParZ_e, setSl_e, kFor_e, cIt_e, cMut_e, mutM_e, cSl_e, cNoP_e, cP_e, lcTurn_e, backL, bkAt, Cb.sizeOk, fl_a]
theorem x2_s {c : Int} {E : List (List Ar)} (hE : E.length ≤ 256) (A : List Ar) (sc h due t at_ one : Option Z) : ∃ o', x_law_2 (LE sc h c (some (.L (E.map (wO c)))) due t (some (.w (wO c A))) at_ one) = .ok (.L ((E.filter fun S => decide (S = A)).map (wO c))) (LE sc h c (some (.L (E.map (wO c)))) due t (some (.w (wO c A))) at_ o') := by
  refine ⟨rsV (gets (LE sc h c none due t (some (.w (wO c A))) at_ one) 8), ?_⟩
  unfold x_law_2
  rw [cLcK_m E (wO c) (fun S => if decide (S = A) = true then some (wO c S) else none)]
  · rw [fm_if]
    show R.ok _ ((restE _ _ [8]).set 3 _) = _
    rw [rest_c]
    rfl
  · rfl
  · omega
  · intro S hS
    by_cases e : S = A
    · simp [cVar_e, cOs_e, cC_e, cNil_e, cCons_e, cConsO_e, cOd_e, cTup_e, cLst_e, cPr_e, cB_e, cT_e, cNot_e, cIte_e, cAnd_e, cOr_e, cTrue_e, cFalse_e, cLe_e, cCh_e, cCall_e, cMk_e, primM_e, callM_e, makeM_e, kSeq_e, kNx_e, kRet_e, kRetv_e, kSet_e, kIte_e, kEx_e, kParZ_e, setSl_e, kFor_e, cIt_e, cMut_e, mutM_e, cSl_e, cNoP_e, cP_e, lcTurn_e, backL, bkAt, Cb.sizeOk, cEqO_e, eqO_s, e]
    · simp [cVar_e, cOs_e, cC_e, cNil_e, cCons_e, cConsO_e, cOd_e, cTup_e, cLst_e, cPr_e, cB_e, cT_e, cNot_e, cIte_e, cAnd_e, cOr_e, cTrue_e, cFalse_e, cLe_e, cCh_e, cCall_e, cMk_e, primM_e, callM_e, makeM_e, kSeq_e, kNx_e, kRet_e, kRetv_e, kSet_e, kIte_e, kEx_e, kParZ_e, setSl_e, kFor_e, cIt_e, cMut_e, mutM_e, cSl_e, cNoP_e, cP_e, lcTurn_e, backL, bkAt, Cb.sizeOk, cEqO_e, eqO_s, e]
theorem z1_gen {SM AR WI : Mean} {X2 : Den Z} {c rare : Int} {A : List Ar} {F : List W} {h1 h2 h3 : List W} {sc told told' due t w at_ one one' : Option Z} (e1 : SM [.L h1, .w (.lst [.int 1, .int 2, .int 3])] = .ok (.w (.int rare)) [.L h2, .w (.lst [.int 1, .int 2, .int 3])])
    (e2 : AR [.L h2, .w (.int c), .w (.int rare)] = .ok (.w (aW A)) [.L h3, .w (.int c), .w (.int rare)]) (e3 : WI [.obj "Web" [], .w (.int c), .w (aW A)] = .ok (.w .non) [.obj "Web" (wF c A), .w (.int c), .w (aW A)])
    (e4 : X2 (LE sc (some (.L h3)) c told due t (some (.w (wO c A))) at_ one) = .ok (.L F) (LE sc (some (.L h3)) c told' due t (some (.w (wO c A))) at_ one')) (e5 : (F.length : Int) = 1) :
    (kSeq (kSet 6 (cFr (cMk "Web" WI (cConsO (cOs 2) (cConsO (cOd (cCall AR (cConsO (cOs 1) (cConsO (cOs 2) (cConsO (cOd (cCall SM (cConsO (cOs 1) (cConsO (cOd (cLst (cCons (cC (.int 1)) (cCons (cC (.int 2)) (cCons (cC (.int 3)) (cNil)))))) (cNil))))) (cNil)))))) (cNil)))))) (kSeq (kIte (cT (cPr .ne (cConsO (cOd (cPr .len (cConsO (cOd X2) cNil))) (cConsO (cOd (cC (.int 1))) cNil)))) (kSeq (kRet (cC (.bl false))) (kNx)) (kNx)) (kNx))) (LE sc (some (.L h1)) c told due t w at_ one) =
      .nx (LE sc (some (.L h3)) c told' due t (some (.w (wO c A))) at_ one') := by
  simp [cVar_e, cOs_e, cC_e, cNil_e, cCons_e, cConsO_e, cOd_e, cTup_e, cLst_e, cPr_e, cB_e, cT_e, cNot_e, cIte_e, cAnd_e, cOr_e, cTrue_e, cFalse_e, cLe_e, cCh_e, cCall_e, cMk_e, primM_e, callM_e, makeM_e, kSeq_e, kNx_e, kRet_e, kRetv_e, kSet_e, kIte_e, kEx_e, kParZ_e, setSl_e, kFor_e, cIt_e, cMut_e, mutM_e, cSl_e, cNoP_e, cP_e, lcTurn_e, backL, bkAt, Cb.sizeOk, cFr_e, e1, e2, e3, fold_o, e4, e5]
theorem z1_s {c : Int} (hc : C2 c) {h : List W} (hk : HOk h) (sc due t w at_ one : Option Z) : ∃ (h' : List W) (w' one' : Option Z), HOk h' ∧ z_law_1 (LE sc (some (.L h)) c (some (.L ((Es c).map (wO c)))) due t w at_ one) = .nx (LE sc (some (.L h')) c (some (.L ((Es c).map (wO c)))) due t w' at_ one') := by
  have hc4 : 1 ≤ c ∧ c ≤ 4 := by rcases hc with rfl | rfl <;> decide
  obtain ⟨wr, h2, m1, k2, e1⟩ := some_s hk [.int 1, .int 2, .int 3] (by decide)
  have hr : ∃ rare : Int, wr = .int rare ∧ 0 < rare ∧ rare ≤ 1000000 := by
    simp at m1
    rcases m1 with rfl | rfl | rfl <;> exact ⟨_, rfl, by decide, by decide⟩
  obtain ⟨rare, rfl, hr⟩ := hr
  obtain ⟨h3, A, k3, hw, _, e2⟩ := arrows_s k2 c rare hc4 hr
  obtain ⟨o', e4⟩ := x2_s (E := Es c) (len_Es hc).2 A sc (some (.L h3)) due t at_ one (c := c)
  have e5 : ((((Es c).filter fun S => decide (S = A)).map (wO c)).length : Int) = 1 := by rw [List.length_map, one_Es hc A (mem_Es hc hw)]; rfl
  exact ⟨h3, some (.w (wO c A)), o', k3, z1_gen e1 e2 (web_s c A hc4 hw) e4 e5⟩
theorem y1_s {c : Int} (hc : C2 c) {h : List W} (hk : HOk h) (sc due t w at_ one : Option Z) : ∃ (h' : List W) (t' w' one' : Option Z), HOk h' ∧ y_law_1 (LE sc (some (.L h)) c (some (.L ((Es c).map (wO c)))) due t w at_ one) = .nx (LE sc (some (.L h')) c (some (.L ((Es c).map (wO c)))) due t' w' at_ one') := by
  obtain ⟨e', h1, h', t', w', o', rfl, q⟩ := for_inv (g := setTg (.nm 5)) (b := z_law_1)
    (fun ws e => ∃ (h : List W) (t w o : Option Z), e = LE sc (some (.L h)) c (some (.L ((Es c).map (wO c)))) due t w at_ o ∧ HOk h) (by
      rintro x ws e ⟨h, t, w, o, rfl, hh⟩
      obtain ⟨h2, w2, o2, q1, q2⟩ := z1_s hc hh sc due (some (.w x)) w at_ o
      exact ⟨LE sc (some (.L h)) c (some (.L ((Es c).map (wO c)))) due (some (.w x)) w at_ o, _, by simp, q2, h2, some (.w x), w2, o2, rfl, q1⟩)
    (items := (rgI 3).map .int) (env := LE sc (some (.L h)) c (some (.L ((Es c).map (wO c)))) due t w at_ one) ⟨h, t, w, one, rfl, hk⟩
  refine ⟨h', t', w', o', q, ?_⟩
  rw [← h1]
  unfold y_law_1
  exact kFor_l (by simp [cVar_e, cOs_e, cC_e, cNil_e, cCons_e, cConsO_e, cOd_e, cTup_e, cLst_e, cPr_e, cB_e, cT_e, cNot_e, cIte_e, cAnd_e, cOr_e, cTrue_e, cFalse_e, cLe_e, cCh_e, cCall_e, cMk_e, primM_e, callM_e, makeM_e, kSeq_e, kNx_e, kRet_e, kRetv_e, kSet_e, kIte_e, kEx_e, kParZ_e, setSl_e, kFor_e, cIt_e, cMut_e, mutM_e, cSl_e, cNoP_e, cP_e, lcTurn_e, backL, bkAt, Cb.sizeOk, it_rg1 (n := 3) (by decide)])
theorem x1_s {c : Int} (hc : C2 c) (sc h told due t w at_ one : Option Z) : ∃ w', x_law_1 (LE sc h c told due t w at_ one) = .ok (.L ((Es c).map aW)) (LE sc h c told due t w' at_ one) := by
  have e := all_webs_e hc
  have hl := (len_Es hc).2
  refine ⟨rsV (gets (LE sc h c told due t w at_ one) 6), ?_⟩
  generalize Es c = E at e hl
  unfold x_law_1
  rw [cLc_m E (wO c) (fun S => some (aW S)) (env1 := LE sc h c told due t w at_ one)]
  · rw [List.filterMap_eq_map']
    show R.ok _ (restE _ _ [6]) = _
    rw [rest_c]; rfl
  · simp [cVar_e, cOs_e, cC_e, cNil_e, cCons_e, cConsO_e, cOd_e, cTup_e, cLst_e, cPr_e, cB_e, cT_e, cNot_e, cIte_e, cAnd_e, cOr_e, cTrue_e, cFalse_e, cLe_e, cCh_e, cCall_e, cMk_e, primM_e, callM_e, makeM_e, kSeq_e, kNx_e, kRet_e, kRetv_e, kSet_e, kIte_e, kEx_e, kParZ_e, setSl_e, kFor_e, cIt_e, cMut_e, mutM_e, cSl_e, cNoP_e, cP_e, lcTurn_e, backL, bkAt, Cb.sizeOk, e]
  · omega
  · intro S hS
    simp [cVar_e, cOs_e, cC_e, cNil_e, cCons_e, cConsO_e, cOd_e, cTup_e, cLst_e, cPr_e, cB_e, cT_e, cNot_e, cIte_e, cAnd_e, cOr_e, cTrue_e, cFalse_e, cLe_e, cCh_e, cCall_e, cMk_e, primM_e, callM_e, makeM_e, kSeq_e, kNx_e, kRet_e, kRetv_e, kSet_e, kIte_e, kEx_e, kParZ_e, setSl_e, kFor_e, cIt_e, cMut_e, mutM_e, cSl_e, cNoP_e, cP_e, lcTurn_e, backL, bkAt, Cb.sizeOk, fl_a]
theorem z2_gen {AW EV IS DR : Mean} {X4 X3 X1 : Den Z} {Y1 : DenS} {c r n : Int} {T D T2 : List W} {h1 h2 h3 : List W} {bs : List Bool} {sc t t' w1 w2 w3 w4 w5 told due at_ one one' : Option Z} (e1 : AW [.w (.int c)] = .ok (.L T) [.w (.int c)]) (e2 : EV [.w (.int c)] = .ok (.L D) [.w (.int c)])
    (e3 : X4 (LE sc (some (.L h1)) c (some (.L T)) (some (.L D)) t w1 at_ one) = .ok (.L (bs.map .bl)) (LE sc (some (.L h1)) c (some (.L T)) (some (.L D)) t w2 at_ one)) (hbs : allB bs = true)
    (e4 : X3 (LE sc (some (.L h1)) c (some (.L T)) (some (.L D)) t w2 at_ one) = .ok (.L D) (LE sc (some (.L h1)) c (some (.L T)) (some (.L D)) t w3 at_ one)) (e5 : IS [.w (.lst D), .L D] = .ok (.w (.bl true)) [.w (.lst D), .L D])
    (e6 : Y1 (LE sc (some (.L h1)) c (some (.L T)) (some (.L D)) t w3 at_ one) = .nx (LE sc (some (.L h2)) c (some (.L T)) (some (.L D)) t' w4 at_ one')) (hn : (T.length : Int) = n)
    (e7 : DR [.L h2, .w (.int n)] = .ok (.w (.int r)) [.L h3, .w (.int n)]) (e8 : setItem (.L T) (.int r) .non = some (.L T2)) (hT2 : T2.length < 16777216)
    (e9 : X1 (LE sc (some (.L h3)) c (some (.L (T2 ++ [.non]))) (some (.L D)) t' w4 (some (.w (.int r))) one') = .ok (.L D) (LE sc (some (.L h3)) c (some (.L (T2 ++ [.non]))) (some (.L D)) t' w5 (some (.w (.int r))) one')) (e10 : prW .ne [.lst D, .lst D] = some (.w (.bl false))) :
    (kSeq (kParZ 3 4 (cCall AW (cConsO (cOs 2) (cNil))) (cCall EV (cConsO (cOs 2) (cNil)))) (kSeq (kIte (cOr (cNot (cT (cPr (.isinst [.list]) (cConsO (cOs 3) cNil)))) (cOr (cNot (cT (cPr .all (cConsO (cOd X4) cNil)))) cFalse)) (kSeq (kRet (cC (.bl false))) (kNx)) (kNx)) (kSeq (kIte (cNot (cT (cCall IS (cConsO (cOd X3) (cConsO (cOs 4) (cNil)))))) (kSeq (kRet (cC (.bl false))) (kNx)) (kNx)) (kSeq Y1 (kSeq (kSet 7 (cCall DR (cConsO (cOs 1) (cConsO (cOd (cPr .len (cConsO (cOs 3) cNil))) (cNil))))) (kSeq (kSetSub 3 (cVar 7) (cC .non)) (kSeq (kEx (cMut .append 3 (cCons (cC .non) cNil))) (kSeq (kIte (cT (cPr .ne (cConsO (cOd X1) (cConsO (cOs 4) cNil)))) (kSeq (kRet (cC (.bl false))) (kNx)) (kNx)) (kNx)))))))))
      (LE sc (some (.L h1)) c told due t w1 at_ one) = .nx (LE sc (some (.L h3)) c (some (.L (T2 ++ [.non]))) (some (.L D)) t' w5 (some (.w (.int r))) one') := by
  have hl : prW (.isinst [.list]) [.lst T] = some (.w (.bl true)) := rfl
  have es : ∀ env : Cb.Env, sbF 3 (.int r) .non env (some (.L T)) = .nx (env.set 3 (some (.L T2))) := fun env => by unfold sbF; dsimp only; rw [e8]
  simp [cVar_e, cOs_e, cC_e, cNil_e, cCons_e, cConsO_e, cOd_e, cTup_e, cLst_e, cPr_e, cB_e, cT_e, cNot_e, cIte_e, cAnd_e, cOr_e, cTrue_e, cFalse_e, cLe_e, cCh_e, cCall_e, cMk_e, primM_e, callM_e, makeM_e, kSeq_e, kNx_e, kRet_e, kRetv_e, kSet_e, kIte_e, kEx_e, kParZ_e, setSl_e, kFor_e, cIt_e, cMut_e, mutM_e, cSl_e, cNoP_e, cP_e, lcTurn_e, backL, bkAt, Cb.sizeOk, e1, e2, hl, e3, asBls_bs, hbs, e4, e5, e6, hn, e7, kSetSub_e, es, hT2, e9, e10]
theorem set_at {l : List W} {r : Int} (h0 : 0 ≤ r) (h1 : r < (l.length : Int)) (v : W) : setItem (.L l) (.int r) v = some (.L (l.set r.toNat v)) := by
  show ((ixN l.length r).map fun j => Z.L (l.set j v)) = _
  unfold ixN
  rw [if_pos h0, if_pos h1]; rfl
theorem z2_s {c : Int} (hc : C2 c) {h : List W} (hk : HOk h) (sc told due t w at_ one : Option Z) : ∃ (h' : List W) (told' due' t' w' at' one' : Option Z), HOk h' ∧ z_law_2 (LE sc (some (.L h)) c told due t w at_ one) = .nx (LE sc (some (.L h')) c told' due' t' w' at' one') := by
  obtain ⟨hp, hl⟩ := len_Es hc
  obtain ⟨w2, e3⟩ := x4_s (c := c) (E := Es c) hl sc (some (.L h)) (some (.L ((Es c).map aW))) t w at_ one
  obtain ⟨w3, e4⟩ := x3_s (c := c) (E := Es c) hl sc (some (.L h)) (some (.L ((Es c).map aW))) t w2 at_ one
  have e5 := is4_s (Es c) (by omega) fun S hS => by
    have h1 := (mem_short.mp (List.mem_filter.mp hS).1).length_le
    have h2 := B_len hc
    omega
  obtain ⟨h2, t', w4, one', k2, e6⟩ := y1_s hc hk sc (some (.L ((Es c).map aW))) t w3 at_ one
  have hlen : (((Es c).map (wO c)).length : Int) = ((Es c).length : Int) := by rw [List.length_map]
  obtain ⟨r, h3, k3, hr, e7⟩ := draw_s k2 ((Es c).length : Int) (by omega)
  have e8 := set_at (l := (Es c).map (wO c)) hr.1 (by rw [hlen]; exact hr.2) .non
  obtain ⟨w5, e9⟩ := x1_s hc sc (some (.L h3)) (some (.L (((Es c).map (wO c)).set r.toNat .non ++ [.non]))) (some (.L ((Es c).map aW))) t' w4 (some (.w (.int r))) one'
  exact ⟨h3, _, _, t', w5, _, one', k3, z2_gen (all_webs_e hc) (every_e hc) e3 (all_tt _) e4 e5 e6 hlen e7 e8 (by rw [List.length_set, List.length_map]; omega) e9 (ne_E _)⟩
theorem y2_s {h : List W} (hk : HOk h) (sc : Option Z) : ∃ r1 r2 r3 r4 r5 r6 r7 r8, y_law_2 [sc, some (.L h), none, none, none, none, none, none, none] = .nx [sc, r1, r2, r3, r4, r5, r6, r7, r8] := by
  obtain ⟨h1, p, k1, pm, e1⟩ := shuf_s hk [.int 1, .int 2] (by decide)
  obtain ⟨e', q1, ⟨h2, c2, r3, r4, r5, r6, r7, r8, rfl, _⟩, _⟩ := for_inv (g := setTg (.nm 2)) (b := z_law_2)
    (fun ws e => (∃ (h : List W) (c told due t w at_ one : Option Z), e = [sc, some (.L h), c, told, due, t, w, at_, one] ∧ HOk h) ∧ ∀ x ∈ ws, ∃ c : Int, x = .int c ∧ C2 c) (by
      rintro x ws e ⟨⟨h, c, told, due, t, w, at_, one, rfl, hh⟩, hx⟩
      obtain ⟨c', rfl, hc⟩ := hx x List.mem_cons_self
      obtain ⟨h', a1, a2, a3, a4, a5, a6, k, q2⟩ := z2_s hc hh sc told due t w at_ one
      exact ⟨LE sc (some (.L h)) c' told due t w at_ one, _, by simp, q2, ⟨h', _, a1, a2, a3, a4, a5, a6, rfl, k⟩, fun y hy => hx y (List.mem_cons_of_mem _ hy)⟩)
    (items := p) (env := [sc, some (.L h1), none, none, none, none, none, none, none]) ⟨⟨h1, none, none, none, none, none, none, none, rfl, k1⟩, fun x hx => by
      have := pm.mem_iff.mp hx
      simp at this
      rcases this with rfl | rfl
      · exact ⟨1, rfl, .inl rfl⟩
      · exact ⟨2, rfl, .inr rfl⟩⟩
  refine ⟨some (.L h2), c2, r3, r4, r5, r6, r7, r8, ?_⟩
  rw [← q1]
  unfold y_law_2
  exact kFor_l (by simp [cVar_e, cOs_e, cC_e, cNil_e, cCons_e, cConsO_e, cOd_e, cTup_e, cLst_e, cPr_e, cB_e, cT_e, cNot_e, cIte_e, cAnd_e, cOr_e, cTrue_e, cFalse_e, cLe_e, cCh_e, cCall_e, cMk_e, primM_e, callM_e, makeM_e, kSeq_e, kNx_e, kRet_e, kRetv_e, kSet_e, kIte_e, kEx_e, kParZ_e, setSl_e, kFor_e, cIt_e, cMut_e, mutM_e, cSl_e, cNoP_e, cP_e, lcTurn_e, backL, bkAt, Cb.sizeOk, e1])
theorem law_gen {Hd : Mean} {Y : DenS} {w : W} {h : List W} {r1 r2 r3 r4 r5 r6 r7 r8 : Option Z} (h2 : Hd [.w w] = .ok (.L h) [.w w])
    (h3 : Y [some (.w w), some (.L h), none, none, none, none, none, none, none] = .nx [some (.w w), r1, r2, r3, r4, r5, r6, r7, r8]) :
    evD ⟨1, 9, [0], kSeq (kSet 1 (cCall Hd (cConsO (cOs 0) (cNil)))) (kSeq Y (kSeq (kRet (cC (.bl true))) kNx))⟩ [.w w] = .ok (.w (.bl true)) [.w w] := by
  rw [evD_e rfl]
  simp [cVar_e, cOs_e, cC_e, cNil_e, cCons_e, cConsO_e, cOd_e, cTup_e, cLst_e, cPr_e, cB_e, cT_e, cNot_e, cIte_e, cAnd_e, cOr_e, cTrue_e, cFalse_e, cLe_e, cCh_e, cCall_e, cMk_e, primM_e, callM_e, makeM_e, kSeq_e, kNx_e, kRet_e, kRetv_e, kSet_e, kIte_e, kEx_e, kParZ_e, setSl_e, kFor_e, cIt_e, cMut_e, mutM_e, cSl_e, cNoP_e, cP_e, lcTurn_e, backL, bkAt, Cb.sizeOk, h2, h3]
theorem law_s (ns : List Int) : ∃ back, m_law [.w (.scr ns)] = .ok (.w (.bl true)) back := by
  obtain ⟨h, h1, h2⟩ := hand_s ns
  obtain ⟨r1, r2, r3, r4, r5, r6, r7, r8, h4⟩ := y2_s h1 (some (.w (.scr ns)))
  exact ⟨[.w (.scr ns)], law_gen h2 h4⟩
end P49

end
theorem PySem.Challenge.cw_calmblanks_k49_whole_all_webs_holds : PySem.Challenge.rw_calmblanks_k49_whole_all_webs.Holds :=
  joined fun ns _ => P49.law_s ns
