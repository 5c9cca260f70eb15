import PyProof.Rows.All
import Wide.All
import OpenK.AllK
import Wide.FinOn
import HandS.ForMost
import HandS.ForExc
import HandS.Zip
import HandS.RevTup
import HandS.Rev
import HandS.Style
import HandS.IsInst
import HandS.Wide
import HandS.Deep
import HandS.DictTup
import HandS.SortOrd
import KE.DataCmp
import KE.DataEq
import KE.DataFind
import KE.SortData
import HandS.TupAny
import HandS.TupMul
import HandS.Text
import HandS.TupLen
import HandS.WordsDict
import HandS.Small
import HandS.ListItems
import HandS.Conv
import HandS.TupSets
import PyProof.MaxThree
import PyProof.ReprReads
import PyProof.ReprRoads
import PyProof.DictUpdate
import HandS.CallLocal
import KE.KExcInit
import KE.KExcIs
import HandS.ExcField
import HandS.ExcIs
import HandS.Ends
import HandS.TryMany
import HandS.DictComp
import HandS.Lambda
import KE.KExcLine
import KE.OsArith
import KE.BitLaws
import PySem.Challenge.RW_surelythisrock_k15_orders_that_are_left
set_option Elab.async false
set_option linter.all false
set_option maxRecDepth 100000
set_option maxHeartbeats 4000000
/-! # PD: a data layer over the hand layer. A def gets a denotation: a plain Lean function over data D and owned objects SV. -/
namespace PD
open PySem PySem.Spec PyProof.Rows L2
abbrev Kf := PySem.W.Frag
/-! ## data -/
inductive D where
  | non | bl (b : Bool) | int (i : Int) | str (x : Str)
  | tup (xs : List D) | lst (xs : List D)
  | dk (kvs : List (Key × D)) | dt (kvs : List (List Key × D))
  | fn (a : Addr)
  | scr (ns : List Int)
/-- a tuple, a list that stands there, or a written one -/
def TupAt (_ : Kf) (H : Hp) (a : Addr) (xs : List V) : Prop := H a = some (.tup xs)
def LstAt (_ : Kf) (H : Hp) (a : Addr) (xs : List V) : Prop := H a = some (.lst xs)
theorem TupAt.sq {K K' : Kf} {H : Hp} {a : Addr} {xs : List V} (h : TupAt K H a xs) : SqT K' H a xs := SqT.of h
theorem LstAt.sq {K K' : Kf} {H : Hp} {a : Addr} {xs : List V} (h : LstAt K H a xs) : SqL K' H a xs := SqL.of h
theorem TupAt.at {K : Kf} {H : Hp} {a : Addr} {xs : List V} (h : TupAt K H a xs) : H a = some (.tup xs) := h
theorem LstAt.at {K : Kf} {H : Hp} {a : Addr} {xs : List V} (h : LstAt K H a xs) : H a = some (.lst xs) := h
section
variable (K : Kf) (F : Hp)
mutual
def Rep : D → V → Prop
  | .non, v => v = .non
  | .bl b, v => v = .bl b
  | .int i, v => v = .int i
  | .str x, v => v = .str x
  | .tup ds, v => ∃ a vs, v = .ref a ∧ TupAt K F a vs ∧ RepAll ds vs
  | .lst ds, v => ∃ a vs, v = .ref a ∧ LstAt K F a vs ∧ RepAll ds vs
  | .dk kvs, v => ∃ a ws, v = .ref a ∧ F a = some (.dK ws) ∧ RepK kvs ws
  | .dt kvs, v => ∃ a ws, v = .ref a ∧ F a = some (.dT ws) ∧ RepT kvs ws
  | .fn a, v => v = .ref a
  | .scr ns, v => ∃ a, v = .ref a ∧ SqL K F a (ns.map V.int)
def RepAll : List D → List V → Prop
  | [], vs => vs = []
  | d :: ds, vs => ∃ v r, vs = v :: r ∧ Rep d v ∧ RepAll ds r
def RepK : List (Key × D) → List (Key × V) → Prop
  | [], ws => ws = []
  | (k, d) :: r, ws => ∃ v s, ws = (k, v) :: s ∧ Rep d v ∧ RepK r s
def RepT : List (List Key × D) → List (List Key × V) → Prop
  | [], ws => ws = []
  | (k, d) :: r, ws => ∃ v s, ws = (k, v) :: s ∧ Rep d v ∧ RepT r s
end
end
theorem same_t {K : Kf} {F F' : Hp} (e : Same F F') {a : Addr} {xs : List V} (h : TupAt K F a xs) : TupAt K F' a xs := e _ _ h
theorem same_l {K : Kf} {F F' : Hp} (e : Same F F') {a : Addr} {xs : List V} (h : LstAt K F a xs) : LstAt K F' a xs := e _ _ h
/-- what is written for data is written -/
def Up (K KX : Kf) : Prop := ∀ a o, K.lookup a = some o → KX.lookup a = some o
theorem up_t {K KX : Kf} (u : Up K KX) {H : Hp} {a : Addr} {xs : List V} (h : SqT K H a xs) : SqT KX H a xs := h.imp id fun ⟨o, its, n, h1, h2⟩ => ⟨o, its, n, u _ _ h1, h2⟩
theorem up_l {K KX : Kf} (u : Up K KX) {H : Hp} {a : Addr} {xs : List V} (h : SqL K H a xs) : SqL KX H a xs := h.imp id fun ⟨o, its, n, h1, h2⟩ => ⟨o, its, n, u _ _ h1, h2⟩
theorem up_refl (K : Kf) : Up K K := fun _ _ h => h
theorem up_nil (K : Kf) : Up [] K := fun _ _ h => by cases h
section
variable {K : Kf} {F F' : Hp}
mutual
theorem Rep.mono (e : Same F F') : ∀ (d : D) (v : V), Rep K F d v → Rep K F' d v
  | .non, _, h => h
  | .bl _, _, h => h
  | .int _, _, h => h
  | .str _, _, h => h
  | .fn _, _, h => h
  | .scr ns, _, ⟨a, hv, hs⟩ => ⟨a, hv, e.seq hs⟩
  | .tup ds, _, ⟨a, vs, hv, hs, hr⟩ => ⟨a, vs, hv, same_t e hs, RepAll.mono e ds vs hr⟩
  | .lst ds, _, ⟨a, vs, hv, hs, hr⟩ => ⟨a, vs, hv, same_l e hs, RepAll.mono e ds vs hr⟩
  | .dk kvs, _, ⟨a, ws, hv, hs, hr⟩ => ⟨a, ws, hv, e _ _ hs, RepK.mono e kvs ws hr⟩
  | .dt kvs, _, ⟨a, ws, hv, hs, hr⟩ => ⟨a, ws, hv, e _ _ hs, RepT.mono e kvs ws hr⟩
theorem RepAll.mono (e : Same F F') : ∀ (d : List D) (v : List V), RepAll K F d v → RepAll K F' d v
  | [], _, h => h
  | d :: ds, _, ⟨v, r, hv, h1, h2⟩ => ⟨v, r, hv, Rep.mono e d v h1, RepAll.mono e ds r h2⟩
theorem RepK.mono (e : Same F F') : ∀ (d : List (Key × D)) (v : List (Key × V)), RepK K F d v → RepK K F' d v
  | [], _, h => h
  | (k, d) :: ds, _, ⟨v, r, hv, h1, h2⟩ => ⟨v, r, hv, Rep.mono e d v h1, RepK.mono e ds r h2⟩
theorem RepT.mono (e : Same F F') : ∀ (d : List (List Key × D)) (v : List (List Key × V)), RepT K F d v → RepT K F' d v
  | [], _, h => h
  | (k, d) :: ds, _, ⟨v, r, hv, h1, h2⟩ => ⟨v, r, hv, Rep.mono e d v h1, RepT.mono e ds r h2⟩
end
end
/-! ## owned objects -/
inductive SV where
  | fz (d : D)
  | ol (xs : List SV)
  | ok (kvs : List (Key × SV))
  | ot (kvs : List (List Key × SV))
mutual
def frz : SV → D
  | .fz d => d
  | .ol xs => .lst (frzL xs)
  | .ok kvs => .dk (frzK kvs)
  | .ot kvs => .dt (frzT kvs)
def frzL : List SV → List D
  | [] => []
  | x :: xs => frz x :: frzL xs
def frzK : List (Key × SV) → List (Key × D)
  | [] => []
  | (k, x) :: xs => (k, frz x) :: frzK xs
def frzT : List (List Key × SV) → List (List Key × D)
  | [] => []
  | (k, x) :: xs => (k, frz x) :: frzT xs
end
section
variable (K : Kf) (F H : Hp)
mutual
/-- v is the object s, its own parts at q -/
def Own : SV → V → List Addr → Prop
  | .fz d, v, q => Rep K F d v ∧ q = []
  | .ol xs, v, q => ∃ a vs r, v = .ref a ∧ H a = some (.lst vs) ∧ OwnL xs vs r ∧ q = a :: r
  | .ok kvs, v, q => ∃ a ws r, v = .ref a ∧ H a = some (.dK ws) ∧ OwnK kvs ws r ∧ q = a :: r
  | .ot kvs, v, q => ∃ a ws r, v = .ref a ∧ H a = some (.dT ws) ∧ OwnT kvs ws r ∧ q = a :: r
def OwnL : List SV → List V → List Addr → Prop
  | [], vs, q => vs = [] ∧ q = []
  | x :: xs, vs, q => ∃ v r q1 q2, vs = v :: r ∧ Own x v q1 ∧ OwnL xs r q2 ∧ q = q1 ++ q2
def OwnK : List (Key × SV) → List (Key × V) → List Addr → Prop
  | [], vs, q => vs = [] ∧ q = []
  | (k, x) :: xs, vs, q => ∃ v r q1 q2, vs = (k, v) :: r ∧ Own x v q1 ∧ OwnK xs r q2 ∧ q = q1 ++ q2
def OwnT : List (List Key × SV) → List (List Key × V) → List Addr → Prop
  | [], vs, q => vs = [] ∧ q = []
  | (k, x) :: xs, vs, q => ∃ v r q1 q2, vs = (k, v) :: r ∧ Own x v q1 ∧ OwnT xs r q2 ∧ q = q1 ++ q2
end
end
section
variable {K : Kf} {F F' H H' : Hp}
mutual
theorem Own.keep (e : Same F F') : ∀ (s : SV) (v : V) (q : List Addr), Own K F H s v q → (∀ a ∈ q, H' a = H a) → Own K F' H' s v q
  | .fz d, v, q, ⟨h, hq⟩, _ => ⟨h.mono e, hq⟩
  | .ol xs, v, q, ⟨a, vs, r, hv, ha, hr, hq⟩, k => by
    subst hq
    exact ⟨a, vs, r, hv, (k a List.mem_cons_self).trans ha, OwnL.keep e xs vs r hr fun b hb => k b (List.mem_cons_of_mem _ hb), rfl⟩
  | .ok xs, v, q, ⟨a, vs, r, hv, ha, hr, hq⟩, k => by
    subst hq
    exact ⟨a, vs, r, hv, (k a List.mem_cons_self).trans ha, OwnK.keep e xs vs r hr fun b hb => k b (List.mem_cons_of_mem _ hb), rfl⟩
  | .ot xs, v, q, ⟨a, vs, r, hv, ha, hr, hq⟩, k => by
    subst hq
    exact ⟨a, vs, r, hv, (k a List.mem_cons_self).trans ha, OwnT.keep e xs vs r hr fun b hb => k b (List.mem_cons_of_mem _ hb), rfl⟩
theorem OwnL.keep (e : Same F F') : ∀ (s : List SV) (v : List V) (q : List Addr), OwnL K F H s v q → (∀ a ∈ q, H' a = H a) → OwnL K F' H' s v q
  | [], _, _, h, _ => h
  | x :: xs, _, _, ⟨v, r, q1, q2, hv, h1, h2, hq⟩, k => by
    subst hq
    exact ⟨v, r, q1, q2, hv, Own.keep e x v q1 h1 fun b hb => k b (List.mem_append_left _ hb), OwnL.keep e xs r q2 h2 fun b hb => k b (List.mem_append_right _ hb), rfl⟩
theorem OwnK.keep (e : Same F F') : ∀ (s : List (Key × SV)) (v : List (Key × V)) (q : List Addr), OwnK K F H s v q → (∀ a ∈ q, H' a = H a) → OwnK K F' H' s v q
  | [], _, _, h, _ => h
  | (key, x) :: xs, _, _, ⟨v, r, q1, q2, hv, h1, h2, hq⟩, k => by
    subst hq
    exact ⟨v, r, q1, q2, hv, Own.keep e x v q1 h1 fun b hb => k b (List.mem_append_left _ hb), OwnK.keep e xs r q2 h2 fun b hb => k b (List.mem_append_right _ hb), rfl⟩
theorem OwnT.keep (e : Same F F') : ∀ (s : List (List Key × SV)) (v : List (List Key × V)) (q : List Addr), OwnT K F H s v q → (∀ a ∈ q, H' a = H a) → OwnT K F' H' s v q
  | [], _, _, h, _ => h
  | (key, x) :: xs, _, _, ⟨v, r, q1, q2, hv, h1, h2, hq⟩, k => by
    subst hq
    exact ⟨v, r, q1, q2, hv, Own.keep e x v q1 h1 fun b hb => k b (List.mem_append_left _ hb), OwnT.keep e xs r q2 h2 fun b hb => k b (List.mem_append_right _ hb), rfl⟩
end
mutual
theorem Own.there : ∀ (s : SV) (v : V) (q : List Addr), Own K F H s v q → ∀ a ∈ q, H a ≠ none
  | .fz d, v, q, ⟨h, hq⟩, a, m => by subst hq; cases m
  | .ol xs, v, q, ⟨a, vs, r, hv, ha, hr, hq⟩, b, m => by
    subst hq
    rcases List.mem_cons.mp m with rfl | m
    · rw [ha]; exact Option.some_ne_none _
    · exact OwnL.there xs vs r hr b m
  | .ok xs, v, q, ⟨a, vs, r, hv, ha, hr, hq⟩, b, m => by
    subst hq
    rcases List.mem_cons.mp m with rfl | m
    · rw [ha]; exact Option.some_ne_none _
    · exact OwnK.there xs vs r hr b m
  | .ot xs, v, q, ⟨a, vs, r, hv, ha, hr, hq⟩, b, m => by
    subst hq
    rcases List.mem_cons.mp m with rfl | m
    · rw [ha]; exact Option.some_ne_none _
    · exact OwnT.there xs vs r hr b m
theorem OwnL.there : ∀ (s : List SV) (v : List V) (q : List Addr), OwnL K F H s v q → ∀ a ∈ q, H a ≠ none
  | [], _, _, ⟨_, h⟩, a, m => by subst h; cases m
  | x :: xs, _, _, ⟨v, r, q1, q2, hv, h1, h2, hq⟩, a, m => by
    subst hq
    rcases List.mem_append.mp m with m | m
    · exact Own.there x v q1 h1 a m
    · exact OwnL.there xs r q2 h2 a m
theorem OwnK.there : ∀ (s : List (Key × SV)) (v : List (Key × V)) (q : List Addr), OwnK K F H s v q → ∀ a ∈ q, H a ≠ none
  | [], _, _, ⟨_, h⟩, a, m => by subst h; cases m
  | (_, x) :: xs, _, _, ⟨v, r, q1, q2, hv, h1, h2, hq⟩, a, m => by
    subst hq
    rcases List.mem_append.mp m with m | m
    · exact Own.there x v q1 h1 a m
    · exact OwnK.there xs r q2 h2 a m
theorem OwnT.there : ∀ (s : List (List Key × SV)) (v : List (List Key × V)) (q : List Addr), OwnT K F H s v q → ∀ a ∈ q, H a ≠ none
  | [], _, _, ⟨_, h⟩, a, m => by subst h; cases m
  | (_, x) :: xs, _, _, ⟨v, r, q1, q2, hv, h1, h2, hq⟩, a, m => by
    subst hq
    rcases List.mem_append.mp m with m | m
    · exact Own.there x v q1 h1 a m
    · exact OwnT.there xs r q2 h2 a m
end
mutual
/-- what is owned, frozen -/
theorem Own.frz (e : Same F F') : ∀ (s : SV) (v : V) (q : List Addr), Own K F H s v q → (∀ a ∈ q, F' a = H a) → Rep K F' (frz s) v
  | .fz d, v, q, ⟨h, hq⟩, _ => h.mono e
  | .ol xs, v, q, ⟨a, vs, r, hv, ha, hr, hq⟩, k => by
    subst hq
    exact ⟨a, vs, hv, (k a List.mem_cons_self).trans ha, OwnL.frz e xs vs r hr fun b hb => k b (List.mem_cons_of_mem _ hb)⟩
  | .ok xs, v, q, ⟨a, vs, r, hv, ha, hr, hq⟩, k => by
    subst hq
    exact ⟨a, vs, hv, (k a List.mem_cons_self).trans ha, OwnK.frz e xs vs r hr fun b hb => k b (List.mem_cons_of_mem _ hb)⟩
  | .ot xs, v, q, ⟨a, vs, r, hv, ha, hr, hq⟩, k => by
    subst hq
    exact ⟨a, vs, hv, (k a List.mem_cons_self).trans ha, OwnT.frz e xs vs r hr fun b hb => k b (List.mem_cons_of_mem _ hb)⟩
theorem OwnL.frz (e : Same F F') : ∀ (s : List SV) (v : List V) (q : List Addr), OwnL K F H s v q → (∀ a ∈ q, F' a = H a) → RepAll K F' (frzL s) v
  | [], _, _, ⟨h, _⟩, _ => h
  | x :: xs, _, _, ⟨v, r, q1, q2, hv, h1, h2, hq⟩, k => by
    subst hq
    exact ⟨v, r, hv, Own.frz e x v q1 h1 fun b hb => k b (List.mem_append_left _ hb), OwnL.frz e xs r q2 h2 fun b hb => k b (List.mem_append_right _ hb)⟩
theorem OwnK.frz (e : Same F F') : ∀ (s : List (Key × SV)) (v : List (Key × V)) (q : List Addr), OwnK K F H s v q → (∀ a ∈ q, F' a = H a) → RepK K F' (frzK s) v
  | [], _, _, ⟨h, _⟩, _ => h
  | (_, x) :: xs, _, _, ⟨v, r, q1, q2, hv, h1, h2, hq⟩, k => by
    subst hq
    exact ⟨v, r, hv, Own.frz e x v q1 h1 fun b hb => k b (List.mem_append_left _ hb), OwnK.frz e xs r q2 h2 fun b hb => k b (List.mem_append_right _ hb)⟩
theorem OwnT.frz (e : Same F F') : ∀ (s : List (List Key × SV)) (v : List (List Key × V)) (q : List Addr), OwnT K F H s v q → (∀ a ∈ q, F' a = H a) → RepT K F' (frzT s) v
  | [], _, _, ⟨h, _⟩, _ => h
  | (_, x) :: xs, _, _, ⟨v, r, q1, q2, hv, h1, h2, hq⟩, k => by
    subst hq
    exact ⟨v, r, hv, Own.frz e x v q1 h1 fun b hb => k b (List.mem_append_left _ hb), OwnT.frz e xs r q2 h2 fun b hb => k b (List.mem_append_right _ hb)⟩
end
end
end PD
namespace PD
open PySem PySem.Spec PyProof.Rows L2
/-! ## places within owned objects -/
inductive Pth where
  | i (k : Nat) | k (key : Key) | t (key : List Key)
def look {κ β : Type} [DecidableEq κ] (kvs : List (κ × β)) (k : κ) : Option β := (kvs.find? fun kv => decide (kv.1 = k)).map (·.2)
def repl {κ β : Type} [DecidableEq κ] : List (κ × β) → κ → β → List (κ × β)
  | [], _, _ => []
  | (j, x) :: r, k, y => if j = k then (j, y) :: r else (j, x) :: repl r k y
def sub : SV → List Pth → Option SV
  | s, [] => some s
  | .ol xs, .i k :: p => match xs[k]? with
    | some x => sub x p
    | none => none
  | .ok kvs, .k key :: p => match look kvs key with
    | some x => sub x p
    | none => none
  | .ot kvs, .t key :: p => match look kvs key with
    | some x => sub x p
    | none => none
  | _, _ :: _ => none
def put : SV → List Pth → SV → SV
  | _, [], s => s
  | .ol xs, .i k :: p, s => match xs[k]? with
    | some x => .ol (xs.set k (put x p s))
    | none => .ol xs
  | .ok kvs, .k key :: p, s => match look kvs key with
    | some x => .ok (repl kvs key (put x p s))
    | none => .ok kvs
  | .ot kvs, .t key :: p, s => match look kvs key with
    | some x => .ot (repl kvs key (put x p s))
    | none => .ot kvs
  | s, _ :: _, _ => s
/-- the way through the heap from w by p to v -/
def PathH (H : Hp) : V → List Pth → V → Prop
  | w, [], v => v = w
  | w, .i k :: p, v => ∃ a vs u, w = .ref a ∧ H a = some (.lst vs) ∧ vs[k]? = some u ∧ PathH H u p v
  | w, .k key :: p, v => ∃ a vs u, w = .ref a ∧ H a = some (.dK vs) ∧ look vs key = some u ∧ PathH H u p v
  | w, .t key :: p, v => ∃ a vs u, w = .ref a ∧ H a = some (.dT vs) ∧ look vs key = some u ∧ PathH H u p v
theorem PathH.mono {H H' : Hp} (e : Same H H') : ∀ (p : List Pth) (w v : V), PathH H w p v → PathH H' w p v
  | [], _, _, h => h
  | .i k :: p, _, _, ⟨a, vs, u, hw, ha, hk, hp⟩ => ⟨a, vs, u, hw, e _ _ ha, hk, PathH.mono e p _ _ hp⟩
  | .k k :: p, _, _, ⟨a, vs, u, hw, ha, hk, hp⟩ => ⟨a, vs, u, hw, e _ _ ha, hk, PathH.mono e p _ _ hp⟩
  | .t k :: p, _, _, ⟨a, vs, u, hw, ha, hk, hp⟩ => ⟨a, vs, u, hw, e _ _ ha, hk, PathH.mono e p _ _ hp⟩
theorem PathH.fun {H : Hp} : ∀ (p : List Pth) (w v v' : V), PathH H w p v → PathH H w p v' → v = v'
  | [], _, _, _, h, h' => h.trans h'.symm
  | .i k :: p, _, _, _, ⟨a, vs, u, hw, ha, hk, hp⟩, ⟨a', vs', u', hw', ha', hk', hp'⟩ => by
    subst hw; cases hw'; rw [ha] at ha'; cases ha'; rw [hk] at hk'; cases hk'; exact PathH.fun p _ _ _ hp hp'
  | .k k :: p, _, _, _, ⟨a, vs, u, hw, ha, hk, hp⟩, ⟨a', vs', u', hw', ha', hk', hp'⟩ => by
    subst hw; cases hw'; rw [ha] at ha'; cases ha'; rw [hk] at hk'; cases hk'; exact PathH.fun p _ _ _ hp hp'
  | .t k :: p, _, _, _, ⟨a, vs, u, hw, ha, hk, hp⟩, ⟨a', vs', u', hw', ha', hk', hp'⟩ => by
    subst hw; cases hw'; rw [ha] at ha'; cases ha'; rw [hk] at hk'; cases hk'; exact PathH.fun p _ _ _ hp hp'
/-- the part s at w with its own parts at g; whoever changes only those, to s', has the whole changed -/
def Rebuild (K : Kf) (F H : Hp) (w : V) (g q : List Addr) (mk : SV → SV) (v : V) (B : Hp → Hp → SV → V → List Addr → Prop) : Prop :=
  ∀ (F' H' : Hp) (s' : SV) (g' : List Addr), Same F F' → Own K F' H' s' w g' → g'.Nodup → (∀ a ∈ q, a ∉ g → H' a = H a) → (∀ a ∈ g', a ∈ g ∨ a ∉ q) →
    ∃ q', B F' H' (mk s') v q' ∧ q'.Nodup ∧ (∀ a ∈ q', a ∈ g' ∨ (a ∈ q ∧ a ∉ g)) ∧ (∀ a ∈ g', a ∈ q')
theorem nodup_app {α : Type} {a b : List α} (h : (a ++ b).Nodup) : a.Nodup ∧ b.Nodup ∧ ∀ x ∈ a, x ∉ b := by
  rw [List.nodup_append] at h
  exact ⟨h.1, h.2.1, fun x h1 h2 => h.2.2 x h1 x h2 rfl⟩
theorem nodup_mk {α : Type} {a b : List α} (h1 : a.Nodup) (h2 : b.Nodup) (h3 : ∀ x ∈ a, x ∉ b) : (a ++ b).Nodup := by
  rw [List.nodup_append]
  exact ⟨h1, h2, fun x hx y hy e => h3 x hx (e ▸ hy)⟩
section
variable {K : Kf} {F H : Hp}
theorem ownL_get : ∀ {xs : List SV} {vs : List V} {q : List Addr}, OwnL K F H xs vs q → ∀ {k : Nat} {x : SV}, xs[k]? = some x → ∃ u g, vs[k]? = some u ∧ Own K F H x u g ∧ (∀ a ∈ g, a ∈ q)
  | [], _, _, _, _, _, h => by simp at h
  | y :: xs, _, _, ⟨v, r, q1, q2, hv, h1, h2, hq⟩, 0, x, h => by
    subst hv hq
    simp at h; subst h
    exact ⟨v, q1, by simp, h1, fun a m => List.mem_append_left _ m⟩
  | y :: xs, _, _, ⟨v, r, q1, q2, hv, h1, h2, hq⟩, k + 1, x, h => by
    subst hv hq
    obtain ⟨u, g, e, o, m⟩ := ownL_get h2 (k := k) (x := x) (by simpa using h)
    exact ⟨u, g, by simpa using e, o, fun a ma => List.mem_append_right _ (m a ma)⟩
theorem ownK_get : ∀ {xs : List (Key × SV)} {vs : List (Key × V)} {q : List Addr}, OwnK K F H xs vs q → ∀ {k : Key} {x : SV}, look xs k = some x → ∃ u g, look vs k = some u ∧ Own K F H x u g ∧ (∀ a ∈ g, a ∈ q)
  | [], _, _, _, _, _, h => by simp [look] at h
  | (j, y) :: xs, _, _, ⟨v, r, q1, q2, hv, h1, h2, hq⟩, k, x, h => by
    subst hv hq
    by_cases e : j = k
    · subst e
      simp [look] at h; subst h
      exact ⟨v, q1, by simp [look], h1, fun a m => List.mem_append_left _ m⟩
    · have h' : look xs k = some x := by simpa [look, List.find?_cons, e] using h
      obtain ⟨u, g, eu, o, m⟩ := ownK_get h2 h'
      exact ⟨u, g, by simpa [look, List.find?_cons, e] using eu, o, fun a ma => List.mem_append_right _ (m a ma)⟩
theorem ownT_get : ∀ {xs : List (List Key × SV)} {vs : List (List Key × V)} {q : List Addr}, OwnT K F H xs vs q → ∀ {k : List Key} {x : SV}, look xs k = some x → ∃ u g, look vs k = some u ∧ Own K F H x u g ∧ (∀ a ∈ g, a ∈ q)
  | [], _, _, _, _, _, h => by simp [look] at h
  | (j, y) :: xs, _, _, ⟨v, r, q1, q2, hv, h1, h2, hq⟩, k, x, h => by
    subst hv hq
    by_cases e : j = k
    · subst e
      simp [look] at h; subst h
      exact ⟨v, q1, by simp [look], h1, fun a m => List.mem_append_left _ m⟩
    · have h' : look xs k = some x := by simpa [look, List.find?_cons, e] using h
      obtain ⟨u, g, eu, o, m⟩ := ownT_get h2 h'
      exact ⟨u, g, by simpa [look, List.find?_cons, e] using eu, o, fun a ma => List.mem_append_right _ (m a ma)⟩
/-- a child of a list is changed in place -/
theorem ownL_set : ∀ {xs : List SV} {vs : List V} {q : List Addr}, OwnL K F H xs vs q → q.Nodup → ∀ {k : Nat} {x : SV}, xs[k]? = some x → ∃ u g, vs[k]? = some u ∧ Own K F H x u g ∧ g.Nodup ∧ (∀ a ∈ g, a ∈ q) ∧
    ∀ (F' H' : Hp) (x' : SV) (g' : List Addr), Same F F' → Own K F' H' x' u g' → g'.Nodup → (∀ a ∈ q, a ∉ g → H' a = H a) → (∀ a ∈ g', a ∈ g ∨ a ∉ q) →
      ∃ q', OwnL K F' H' (xs.set k x') vs q' ∧ q'.Nodup ∧ (∀ a ∈ q', a ∈ g' ∨ (a ∈ q ∧ a ∉ g)) ∧ (∀ a ∈ g', a ∈ q')
  | [], _, _, _, _, _, _, h => by simp at h
  | y :: xs, _, _, ⟨v, r, q1, q2, hv, h1, h2, hq⟩, nd, 0, x, h => by
    subst hv hq
    simp at h; subst h
    obtain ⟨n1, n2, n3⟩ := nodup_app nd
    refine ⟨v, q1, by simp, h1, n1, fun a m => List.mem_append_left _ m, fun F' H' x' g' e o n k f => ?_⟩
    refine ⟨g' ++ q2, ⟨v, r, g', q2, rfl, o, OwnL.keep e _ _ _ h2 fun a m => k a (List.mem_append_right _ m) fun z => n3 a z m, rfl⟩, nodup_mk n n2 fun a m m2 => ?_, fun a m => ?_, fun a m => List.mem_append_left _ m⟩
    · rcases f a m with z | z
      · exact n3 a z m2
      · exact z (List.mem_append_right _ m2)
    · rcases List.mem_append.mp m with m | m
      · exact .inl m
      · exact .inr ⟨List.mem_append_right _ m, fun z => n3 a z m⟩
  | y :: xs, _, _, ⟨v, r, q1, q2, hv, h1, h2, hq⟩, nd, k + 1, x, h => by
    subst hv hq
    obtain ⟨n1, n2, n3⟩ := nodup_app nd
    obtain ⟨u, g, eu, o, ng, m, re⟩ := ownL_set h2 n2 (k := k) (x := x) (by simpa using h)
    refine ⟨u, g, by simpa using eu, o, ng, fun a ma => List.mem_append_right _ (m a ma), fun F' H' x' g' e o' n k' f => ?_⟩
    obtain ⟨q', oq, nq, hq, hg⟩ := re F' H' x' g' e o' n (fun a ma na => k' a (List.mem_append_right _ ma) na) fun a ma => (f a ma).imp id fun z w => z (List.mem_append_right _ w)
    have d1 : ∀ a ∈ q1, a ∉ q' := fun a ma mq => by
      rcases hq a mq with z | ⟨z, _⟩
      · rcases f a z with w | w
        · exact n3 a ma (m a w)
        · exact w (List.mem_append_left _ ma)
      · exact n3 a ma z
    refine ⟨q1 ++ q', ⟨v, r, q1, q', rfl, Own.keep e _ _ _ h1 fun a ma => k' a (List.mem_append_left _ ma) fun z => n3 a ma (m a z), oq, rfl⟩, nodup_mk n1 nq d1, fun a ma => ?_, fun a ma => List.mem_append_right _ (hg a ma)⟩
    rcases List.mem_append.mp ma with ma | ma
    · exact .inr ⟨List.mem_append_left _ ma, fun z => n3 a ma (m a z)⟩
    · exact (hq a ma).imp id fun z => ⟨List.mem_append_right _ z.1, z.2⟩
theorem ownK_set : ∀ {xs : List (Key × SV)} {vs : List (Key × V)} {q : List Addr}, OwnK K F H xs vs q → q.Nodup → ∀ {k : Key} {x : SV}, look xs k = some x → ∃ u g, look vs k = some u ∧ Own K F H x u g ∧ g.Nodup ∧ (∀ a ∈ g, a ∈ q) ∧
    ∀ (F' H' : Hp) (x' : SV) (g' : List Addr), Same F F' → Own K F' H' x' u g' → g'.Nodup → (∀ a ∈ q, a ∉ g → H' a = H a) → (∀ a ∈ g', a ∈ g ∨ a ∉ q) →
      ∃ q', OwnK K F' H' (repl xs k x') vs q' ∧ q'.Nodup ∧ (∀ a ∈ q', a ∈ g' ∨ (a ∈ q ∧ a ∉ g)) ∧ (∀ a ∈ g', a ∈ q')
  | [], _, _, _, _, _, _, h => by simp [look] at h
  | (j, y) :: xs, _, _, ⟨v, r, q1, q2, hv, h1, h2, hq⟩, nd, k, x, h => by
    subst hv hq
    obtain ⟨n1, n2, n3⟩ := nodup_app nd
    by_cases e : j = k
    · subst e
      simp [look] at h; subst h
      refine ⟨v, q1, by simp [look], h1, n1, fun a m => List.mem_append_left _ m, fun F' H' x' g' e o n k f => ?_⟩
      rw [show repl ((j, y) :: xs) j x' = (j, x') :: xs by simp [repl]]
      refine ⟨g' ++ q2, ⟨v, r, g', q2, rfl, o, OwnK.keep e _ _ _ h2 fun a m => k a (List.mem_append_right _ m) fun z => n3 a z m, rfl⟩, nodup_mk n n2 fun a m m2 => ?_, fun a m => ?_, fun a m => List.mem_append_left _ m⟩
      · rcases f a m with z | z
        · exact n3 a z m2
        · exact z (List.mem_append_right _ m2)
      · rcases List.mem_append.mp m with m | m
        · exact .inl m
        · exact .inr ⟨List.mem_append_right _ m, fun z => n3 a z m⟩
    · have h' : look xs k = some x := by simpa [look, List.find?_cons, e] using h
      obtain ⟨u, g, eu, o, ng, m, re⟩ := ownK_set h2 n2 h'
      refine ⟨u, g, by simpa [look, List.find?_cons, e] using eu, o, ng, fun a ma => List.mem_append_right _ (m a ma), fun F' H' x' g' ee o' n k' f => ?_⟩
      obtain ⟨q', oq, nq, hq, hg⟩ := re F' H' x' g' ee o' n (fun a ma na => k' a (List.mem_append_right _ ma) na) fun a ma => (f a ma).imp id fun z w => z (List.mem_append_right _ w)
      have d1 : ∀ a ∈ q1, a ∉ q' := fun a ma mq => by
        rcases hq a mq with z | ⟨z, _⟩
        · rcases f a z with w | w
          · exact n3 a ma (m a w)
          · exact w (List.mem_append_left _ ma)
        · exact n3 a ma z
      rw [show repl ((j, y) :: xs) k x' = (j, y) :: repl xs k x' by simp [repl, e]]
      refine ⟨q1 ++ q', ⟨v, r, q1, q', rfl, Own.keep ee _ _ _ h1 fun a ma => k' a (List.mem_append_left _ ma) fun z => n3 a ma (m a z), oq, rfl⟩, nodup_mk n1 nq d1, fun a ma => ?_, fun a ma => List.mem_append_right _ (hg a ma)⟩
      rcases List.mem_append.mp ma with ma | ma
      · exact .inr ⟨List.mem_append_left _ ma, fun z => n3 a ma (m a z)⟩
      · exact (hq a ma).imp id fun z => ⟨List.mem_append_right _ z.1, z.2⟩
theorem ownT_set : ∀ {xs : List (List Key × SV)} {vs : List (List Key × V)} {q : List Addr}, OwnT K F H xs vs q → q.Nodup → ∀ {k : List Key} {x : SV}, look xs k = some x → ∃ u g, look vs k = some u ∧ Own K F H x u g ∧ g.Nodup ∧ (∀ a ∈ g, a ∈ q) ∧
    ∀ (F' H' : Hp) (x' : SV) (g' : List Addr), Same F F' → Own K F' H' x' u g' → g'.Nodup → (∀ a ∈ q, a ∉ g → H' a = H a) → (∀ a ∈ g', a ∈ g ∨ a ∉ q) →
      ∃ q', OwnT K F' H' (repl xs k x') vs q' ∧ q'.Nodup ∧ (∀ a ∈ q', a ∈ g' ∨ (a ∈ q ∧ a ∉ g)) ∧ (∀ a ∈ g', a ∈ q')
  | [], _, _, _, _, _, _, h => by simp [look] at h
  | (j, y) :: xs, _, _, ⟨v, r, q1, q2, hv, h1, h2, hq⟩, nd, k, x, h => by
    subst hv hq
    obtain ⟨n1, n2, n3⟩ := nodup_app nd
    by_cases e : j = k
    · subst e
      simp [look] at h; subst h
      refine ⟨v, q1, by simp [look], h1, n1, fun a m => List.mem_append_left _ m, fun F' H' x' g' e o n k f => ?_⟩
      rw [show repl ((j, y) :: xs) j x' = (j, x') :: xs by simp [repl]]
      refine ⟨g' ++ q2, ⟨v, r, g', q2, rfl, o, OwnT.keep e _ _ _ h2 fun a m => k a (List.mem_append_right _ m) fun z => n3 a z m, rfl⟩, nodup_mk n n2 fun a m m2 => ?_, fun a m => ?_, fun a m => List.mem_append_left _ m⟩
      · rcases f a m with z | z
        · exact n3 a z m2
        · exact z (List.mem_append_right _ m2)
      · rcases List.mem_append.mp m with m | m
        · exact .inl m
        · exact .inr ⟨List.mem_append_right _ m, fun z => n3 a z m⟩
    · have h' : look xs k = some x := by simpa [look, List.find?_cons, e] using h
      obtain ⟨u, g, eu, o, ng, m, re⟩ := ownT_set h2 n2 h'
      refine ⟨u, g, by simpa [look, List.find?_cons, e] using eu, o, ng, fun a ma => List.mem_append_right _ (m a ma), fun F' H' x' g' ee o' n k' f => ?_⟩
      obtain ⟨q', oq, nq, hq, hg⟩ := re F' H' x' g' ee o' n (fun a ma na => k' a (List.mem_append_right _ ma) na) fun a ma => (f a ma).imp id fun z w => z (List.mem_append_right _ w)
      have d1 : ∀ a ∈ q1, a ∉ q' := fun a ma mq => by
        rcases hq a mq with z | ⟨z, _⟩
        · rcases f a z with w | w
          · exact n3 a ma (m a w)
          · exact w (List.mem_append_left _ ma)
        · exact n3 a ma z
      rw [show repl ((j, y) :: xs) k x' = (j, y) :: repl xs k x' by simp [repl, e]]
      refine ⟨q1 ++ q', ⟨v, r, q1, q', rfl, Own.keep ee _ _ _ h1 fun a ma => k' a (List.mem_append_left _ ma) fun z => n3 a ma (m a z), oq, rfl⟩, nodup_mk n1 nq d1, fun a ma => ?_, fun a ma => List.mem_append_right _ (hg a ma)⟩
      rcases List.mem_append.mp ma with ma | ma
      · exact .inr ⟨List.mem_append_left _ ma, fun z => n3 a ma (m a z)⟩
      · exact (hq a ma).imp id fun z => ⟨List.mem_append_right _ z.1, z.2⟩
/-- a part of an owned object: where it stands, and the whole when it is changed -/
theorem own_put : ∀ (p : List Pth) {s s1 : SV} {v : V} {q : List Addr}, Own K F H s v q → q.Nodup → sub s p = some s1 → ∃ w g, PathH H v p w ∧ Own K F H s1 w g ∧ g.Nodup ∧ (∀ a ∈ g, a ∈ q) ∧
    ∀ (F' H' : Hp) (s' : SV) (g' : List Addr), Same F F' → Own K F' H' s' w g' → g'.Nodup → (∀ a ∈ q, a ∉ g → H' a = H a) → (∀ a ∈ g', a ∈ g ∨ a ∉ q) →
      ∃ q', Own K F' H' (put s p s') v q' ∧ q'.Nodup ∧ (∀ a ∈ q', a ∈ g' ∨ (a ∈ q ∧ a ∉ g)) ∧ (∀ a ∈ g', a ∈ q')
  | [], s, s1, v, q, o, nd, h => by
    simp [sub] at h; subst h
    exact ⟨v, q, rfl, o, nd, fun _ m => m, fun F' H' s' g' e o' n _ _ => ⟨g', by simpa [put] using o', n, fun a m => .inl m, fun _ m => m⟩⟩
  | .i k :: p, s, s1, v, q, o, nd, h => by
    cases s with
    | fz d => simp [sub] at h
    | ok _ => simp [sub] at h
    | ot _ => simp [sub] at h
    | ol xs =>
      obtain ⟨a, vs, r, hv, ha, hr, hq⟩ := o
      subst hq
      rw [List.nodup_cons] at nd
      cases ex : xs[k]? with
      | none => simp [sub, ex] at h
      | some x =>
        have h' : sub x p = some s1 := by simpa [sub, ex] using h
        obtain ⟨u, g, eu, ou, ng, mg, re⟩ := ownL_set hr nd.2 ex
        obtain ⟨w, g1, pw, ow, n1, m1, re1⟩ := own_put p ou ng h'
        refine ⟨w, g1, ⟨a, vs, u, hv, ha, eu, pw⟩, ow, n1, fun b m => List.mem_cons_of_mem _ (mg b (m1 b m)), fun F' H' s' g' e o' n k' f => ?_⟩
        have na : a ∉ g := fun z => nd.1 (mg a z)
        obtain ⟨g2, o2, n2, h2, i2⟩ := re1 F' H' s' g' e o' n (fun b mb nb => k' b (List.mem_cons_of_mem _ (mg b mb)) nb) fun b mb => (f b mb).imp id fun z w => z (List.mem_cons_of_mem _ (mg b w))
        obtain ⟨q', oq, nq, hq, iq⟩ := re F' H' (put x p s') g2 e o2 n2 (fun b mb nb => k' b (List.mem_cons_of_mem _ mb) fun z => nb (m1 b z)) fun b mb => by
          rcases h2 b mb with z | ⟨z, _⟩
          · rcases f b z with w | w
            · exact .inl (m1 b w)
            · exact .inr fun y => w (List.mem_cons_of_mem _ y)
          · exact .inl z
        have ap : ∀ b ∈ q', b ∈ g' ∨ (b ∈ r ∧ b ∉ g1) := fun b mb => by
          rcases hq b mb with z | ⟨z, z2⟩
          · rcases h2 b z with w | ⟨w, w2⟩
            · exact .inl w
            · exact .inr ⟨mg b w, w2⟩
          · exact .inr ⟨z, fun y => z2 (m1 b y)⟩
        refine ⟨a :: q', ?_, List.nodup_cons.mpr ⟨fun z => ?_, nq⟩, fun b mb => ?_, fun b mb => List.mem_cons_of_mem _ (iq b (i2 b mb))⟩
        · have ez : put (.ol xs) (.i k :: p) s' = .ol (xs.set k (put x p s')) := by simp [put, ex]
          rw [ez]
          exact ⟨a, vs, q', hv, (k' a List.mem_cons_self fun z => na (m1 a z)).trans ha, oq, rfl⟩
        · rcases ap a z with y | ⟨y, _⟩
          · rcases f a y with w | w
            · exact na (m1 a w)
            · exact w List.mem_cons_self
          · exact nd.1 y
        · rcases List.mem_cons.mp mb with rfl | mb
          · exact .inr ⟨List.mem_cons_self, fun z => na (m1 _ z)⟩
          · exact (ap b mb).imp id fun z => ⟨List.mem_cons_of_mem _ z.1, z.2⟩
  | .k key :: p, s, s1, v, q, o, nd, h => by
    cases s with
    | fz d => simp [sub] at h
    | ol _ => simp [sub] at h
    | ot _ => simp [sub] at h
    | ok xs =>
      obtain ⟨a, vs, r, hv, ha, hr, hq⟩ := o
      subst hq
      rw [List.nodup_cons] at nd
      cases ex : look xs key with
      | none => simp [sub, ex] at h
      | some x =>
        have h' : sub x p = some s1 := by simpa [sub, ex] using h
        obtain ⟨u, g, eu, ou, ng, mg, re⟩ := ownK_set hr nd.2 ex
        obtain ⟨w, g1, pw, ow, n1, m1, re1⟩ := own_put p ou ng h'
        refine ⟨w, g1, ⟨a, vs, u, hv, ha, eu, pw⟩, ow, n1, fun b m => List.mem_cons_of_mem _ (mg b (m1 b m)), fun F' H' s' g' e o' n k' f => ?_⟩
        have na : a ∉ g := fun z => nd.1 (mg a z)
        obtain ⟨g2, o2, n2, h2, i2⟩ := re1 F' H' s' g' e o' n (fun b mb nb => k' b (List.mem_cons_of_mem _ (mg b mb)) nb) fun b mb => (f b mb).imp id fun z w => z (List.mem_cons_of_mem _ (mg b w))
        obtain ⟨q', oq, nq, hq, iq⟩ := re F' H' (put x p s') g2 e o2 n2 (fun b mb nb => k' b (List.mem_cons_of_mem _ mb) fun z => nb (m1 b z)) fun b mb => by
          rcases h2 b mb with z | ⟨z, _⟩
          · rcases f b z with w | w
            · exact .inl (m1 b w)
            · exact .inr fun y => w (List.mem_cons_of_mem _ y)
          · exact .inl z
        have ap : ∀ b ∈ q', b ∈ g' ∨ (b ∈ r ∧ b ∉ g1) := fun b mb => by
          rcases hq b mb with z | ⟨z, z2⟩
          · rcases h2 b z with w | ⟨w, w2⟩
            · exact .inl w
            · exact .inr ⟨mg b w, w2⟩
          · exact .inr ⟨z, fun y => z2 (m1 b y)⟩
        refine ⟨a :: q', ?_, List.nodup_cons.mpr ⟨fun z => ?_, nq⟩, fun b mb => ?_, fun b mb => List.mem_cons_of_mem _ (iq b (i2 b mb))⟩
        · have ez : put (.ok xs) (.k key :: p) s' = .ok (repl xs key (put x p s')) := by simp [put, ex]
          rw [ez]
          exact ⟨a, vs, q', hv, (k' a List.mem_cons_self fun z => na (m1 a z)).trans ha, oq, rfl⟩
        · rcases ap a z with y | ⟨y, _⟩
          · rcases f a y with w | w
            · exact na (m1 a w)
            · exact w List.mem_cons_self
          · exact nd.1 y
        · rcases List.mem_cons.mp mb with rfl | mb
          · exact .inr ⟨List.mem_cons_self, fun z => na (m1 _ z)⟩
          · exact (ap b mb).imp id fun z => ⟨List.mem_cons_of_mem _ z.1, z.2⟩
  | .t key :: p, s, s1, v, q, o, nd, h => by
    cases s with
    | fz d => simp [sub] at h
    | ol _ => simp [sub] at h
    | ok _ => simp [sub] at h
    | ot xs =>
      obtain ⟨a, vs, r, hv, ha, hr, hq⟩ := o
      subst hq
      rw [List.nodup_cons] at nd
      cases ex : look xs key with
      | none => simp [sub, ex] at h
      | some x =>
        have h' : sub x p = some s1 := by simpa [sub, ex] using h
        obtain ⟨u, g, eu, ou, ng, mg, re⟩ := ownT_set hr nd.2 ex
        obtain ⟨w, g1, pw, ow, n1, m1, re1⟩ := own_put p ou ng h'
        refine ⟨w, g1, ⟨a, vs, u, hv, ha, eu, pw⟩, ow, n1, fun b m => List.mem_cons_of_mem _ (mg b (m1 b m)), fun F' H' s' g' e o' n k' f => ?_⟩
        have na : a ∉ g := fun z => nd.1 (mg a z)
        obtain ⟨g2, o2, n2, h2, i2⟩ := re1 F' H' s' g' e o' n (fun b mb nb => k' b (List.mem_cons_of_mem _ (mg b mb)) nb) fun b mb => (f b mb).imp id fun z w => z (List.mem_cons_of_mem _ (mg b w))
        obtain ⟨q', oq, nq, hq, iq⟩ := re F' H' (put x p s') g2 e o2 n2 (fun b mb nb => k' b (List.mem_cons_of_mem _ mb) fun z => nb (m1 b z)) fun b mb => by
          rcases h2 b mb with z | ⟨z, _⟩
          · rcases f b z with w | w
            · exact .inl (m1 b w)
            · exact .inr fun y => w (List.mem_cons_of_mem _ y)
          · exact .inl z
        have ap : ∀ b ∈ q', b ∈ g' ∨ (b ∈ r ∧ b ∉ g1) := fun b mb => by
          rcases hq b mb with z | ⟨z, z2⟩
          · rcases h2 b z with w | ⟨w, w2⟩
            · exact .inl w
            · exact .inr ⟨mg b w, w2⟩
          · exact .inr ⟨z, fun y => z2 (m1 b y)⟩
        refine ⟨a :: q', ?_, List.nodup_cons.mpr ⟨fun z => ?_, nq⟩, fun b mb => ?_, fun b mb => List.mem_cons_of_mem _ (iq b (i2 b mb))⟩
        · have ez : put (.ot xs) (.t key :: p) s' = .ot (repl xs key (put x p s')) := by simp [put, ex]
          rw [ez]
          exact ⟨a, vs, q', hv, (k' a List.mem_cons_self fun z => na (m1 a z)).trans ha, oq, rfl⟩
        · rcases ap a z with y | ⟨y, _⟩
          · rcases f a y with w | w
            · exact na (m1 a w)
            · exact w List.mem_cons_self
          · exact nd.1 y
        · rcases List.mem_cons.mp mb with rfl | mb
          · exact .inr ⟨List.mem_cons_self, fun z => na (m1 _ z)⟩
          · exact (ap b mb).imp id fun z => ⟨List.mem_cons_of_mem _ z.1, z.2⟩
end
end PD
namespace PD
open PySem PySem.Spec PyProof.Rows L2
/-! ## the machine's state: slots, owned arguments -/
inductive Sl where
  | sv (s : SV)
  | pa (k : Nat)
structure M where
  sl : List (Option Sl)
  pp : List SV
inductive Ow where
  | s (i : Nat) | p (k : Nat)
  deriving DecidableEq
def get (m : M) : Ow → Option SV
  | .s i => match m.sl[i]? with
    | some (some (Sl.sv s)) => some s
    | _ => none
  | .p k => m.pp[k]?
def refO (σ : L2.St) (π : List V) : Ow → Option V
  | .s i => match σ[i]? with
    | some (some v) => some v
    | _ => none
  | .p k => π[k]?
def setO (m : M) : Ow → SV → M
  | .s i, s => { m with sl := m.sl.set i (some (Sl.sv s)) }
  | .p k, s => { m with pp := m.pp.set k s }
inductive EV where
  | v (d : D) | br (o : Ow) (p : List Pth) | fr (s : SV)
inductive Out (α : Type) where
  | ok (a : α) (m : M) | exc (c : Str) (d : D) (m : M) | bad
def Out.bind {α β : Type} (x : Out α) (f : α → M → Out β) : Out β := match x with
  | .ok a m => f a m
  | .exc c d m => .exc c d m
  | .bad => .bad
structure StF (K : Kf) (F0 G : Hp) (π : List V) (m : M) (σ : L2.St) (F H : Hp) (fp : Ow → List Addr) : Prop where
  len : m.sl.length = σ.length
  plen : m.pp.length = π.length
  sub : Same F H
  base : Same G H
  mono : Same F0 F
  new : ∀ a, F a ≠ none → F0 a ≠ none ∨ G a = none
  own : ∀ o s, get m o = some s → ∃ v, refO σ π o = some v ∧ Own K F H s v (fp o)
  non : ∀ o, get m o = none → fp o = []
  ali : ∀ (i k : Nat), m.sl[i]? = some (some (Sl.pa k)) → ∃ v, π[k]? = some v ∧ σ[i]? = some (some v)
  nd : ∀ o, (fp o).Nodup
  dj : ∀ o o' a, a ∈ fp o → a ∈ fp o' → o = o'
  fr : ∀ o a, a ∈ fp o → F a = none ∧ G a = none
def EvF (K : Kf) (G : Hp) (π : List V) (σ : L2.St) (F H : Hp) (fp : Ow → List Addr) (N : Addr → Prop) (v : V) : EV → Prop
  | .v d => Rep K F d v
  | .br o p => ∃ w, refO σ π o = some w ∧ PathH H w p v
  | .fr s => ∃ q, Own K F H s v q ∧ q.Nodup ∧ ∀ a ∈ q, F a = none ∧ G a = none ∧ (∀ o, a ∉ fp o) ∧ N a
/-- what an evaluated thing holds -/
def view (m : M) : EV → Option SV
  | .v d => some (.fz d)
  | .br o p => (get m o).bind fun s => sub s p
  | .fr s => some s
/-- at v stands s -/
def Cont (K : Kf) (F H : Hp) (s : SV) (v : V) : Prop := ∃ q, Own K F H s v q
theorem same_ne {A B : Hp} (e : Same A B) {a : Addr} (h : A a ≠ none) : B a ≠ none := by
  cases q : A a with
  | none => exact absurd q h
  | some o => rw [e a o q]; exact Option.some_ne_none _
theorem same_of {A B : Hp} (e : Same A B) {a : Addr} (h : A a ≠ none) : B a = A a := by
  cases q : A a with
  | none => exact absurd q h
  | some o => rw [e a o q]
theorem same_new {H : Hp} {p : Addr} {o : HO} (h : H p = none) : Same H (upd H p o) := fun b x e => by
  rw [upd_ne (ne_of_none e h)]
  exact e
theorem same_none {A B : Hp} (e : Same A B) {a : Addr} (h : B a = none) : A a = none := e.free h
section
variable {K : Kf} {F0 G : Hp} {π : List V} {m : M} {σ : L2.St} {F H : Hp} {fp : Ow → List Addr} {N : Addr → Prop}
theorem StF.there (S : StF K F0 G π m σ F H fp) {o : Ow} {a : Addr} (h : a ∈ fp o) : H a ≠ none := by
  cases e : get m o with
  | none => rw [S.non o e] at h; cases h
  | some s =>
    obtain ⟨v, _, w⟩ := S.own o s e
    exact w.there _ _ _ a h
theorem StF.view (S : StF K F0 G π m σ F H fp) {ev : EV} {v : V} (h : EvF K G π σ F H fp N v ev) {s : SV} (e : view m ev = some s) : Cont K F H s v := by
  cases ev with
  | v d =>
    simp [PD.view] at e; subst e
    exact ⟨[], h, rfl⟩
  | fr s' =>
    simp [PD.view] at e; subst e
    obtain ⟨q, h, _⟩ := h
    exact ⟨q, h⟩
  | br o p =>
    simp only [PD.view] at e
    cases eg : get m o with
    | none => rw [eg] at e; cases e
    | some r =>
      rw [eg] at e
      obtain ⟨w, hw, hp⟩ := h
      obtain ⟨w', hw', ho⟩ := S.own o r eg
      rw [hw] at hw'; cases hw'
      obtain ⟨u, g, pu, ou, _⟩ := own_put p ho (S.nd o) e
      have := PathH.fun p _ _ _ hp pu
      subst this
      exact ⟨g, ou⟩
/-- the heap grows -/
theorem StF.grow (S : StF K F0 G π m σ F H fp) {F' H' : Hp} (eF : Same F F') (eH : Same H H') (sub : Same F' H') (new : ∀ a, F' a ≠ none → F a ≠ none ∨ H a = none) : StF K F0 G π m σ F' H' fp := by
  have nf : ∀ o a, a ∈ fp o → F' a = none := fun o a h => by
    cases q : F' a with
    | none => rfl
    | some x =>
      rcases new a (by rw [q]; exact Option.some_ne_none _) with z | z
      · exact absurd (S.fr o a h).1 z
      · exact absurd z (S.there h)
  refine ⟨S.len, S.plen, sub, S.base.trans eH, S.mono.trans eF, fun a h => ?_, fun o s e => ?_, S.non, S.ali, S.nd, S.dj, fun o a h => ⟨nf o a h, (S.fr o a h).2⟩⟩
  · rcases new a h with z | z
    · exact S.new a z
    · exact .inr (same_none S.base z)
  · obtain ⟨v, h1, h2⟩ := S.own o s e
    exact ⟨v, h1, h2.keep eF _ _ _ fun a ha => same_of eH (S.there ha)⟩
theorem StF.allocF (S : StF K F0 G π m σ F H fp) {p : Addr} (o : HO) (hp : H p = none) : StF K F0 G π m σ (upd F p o) (upd H p o) fp := by
  refine S.grow (same_new (same_none S.sub hp)) (same_new hp) (fun a x e => ?_) fun a h => ?_
  · by_cases e' : a = p
    · subst e'; rw [upd_same] at e ⊢; exact e
    · rw [upd_ne e'] at e ⊢; exact S.sub a x e
  · by_cases e' : a = p
    · subst e'; exact .inr hp
    · rw [upd_ne e'] at h; exact .inl h
theorem StF.allocO (S : StF K F0 G π m σ F H fp) {p : Addr} (o : HO) (hp : H p = none) : StF K F0 G π m σ F (upd H p o) fp :=
  S.grow (Same.refl F) (same_new hp) (S.sub.trans (same_new hp)) fun a h => .inl h
theorem StF.freshG (S : StF K F0 G π m σ F H fp) {p : Addr} (hp : H p = none) : F p = none ∧ G p = none ∧ ∀ o, p ∉ fp o :=
  ⟨same_none S.sub hp, same_none S.base hp, fun o h => S.there h hp⟩
/-- what is evaluated stays, while the heap grows -/
theorem EvF.imp {v : V} {ev : EV} {N' : Addr → Prop} (h : EvF K G π σ F H fp N v ev) (k : ∀ a, N a → N' a) : EvF K G π σ F H fp N' v ev := by
  cases ev with
  | v d => exact h
  | br o p => exact h
  | fr s =>
    obtain ⟨q, h1, h2, h3⟩ := h
    exact ⟨q, h1, h2, fun a ha => ⟨(h3 a ha).1, (h3 a ha).2.1, (h3 a ha).2.2.1, k a (h3 a ha).2.2.2⟩⟩
theorem EvF.grow {v : V} {ev : EV} (S : StF K F0 G π m σ F H fp) (h : EvF K G π σ F H fp N v ev) {F' H' : Hp} (eF : Same F F') (eH : Same H H') (new : ∀ a, F' a ≠ none → F a ≠ none ∨ H a = none) : EvF K G π σ F' H' fp N v ev := by
  cases ev with
  | v d => exact Rep.mono eF d v h
  | br o p =>
    obtain ⟨w, h1, h2⟩ := h
    exact ⟨w, h1, h2.mono eH⟩
  | fr s =>
    obtain ⟨q, h1, h2, h3⟩ := h
    refine ⟨q, h1.keep eF _ _ _ fun a ha => same_of eH (h1.there _ _ _ a ha), h2, fun a ha => ⟨?_, (h3 a ha).2⟩⟩
    cases e : F' a with
    | none => rfl
    | some x =>
      rcases new a (by rw [e]; exact Option.some_ne_none _) with z | z
      · exact absurd (h3 a ha).1 z
      · exact absurd z (h1.there _ _ _ a ha)
open Classical in
/-- F with what stands at q -/
noncomputable def addF (F H : Hp) (q : List Addr) : Hp := fun a => if a ∈ q then H a else F a
theorem addF_in {F H : Hp} {q : List Addr} {a : Addr} (h : a ∈ q) : addF F H q a = H a := if_pos h
theorem addF_out {F H : Hp} {q : List Addr} {a : Addr} (h : a ∉ q) : addF F H q a = F a := if_neg h
theorem addF_same {F H : Hp} {q : List Addr} (h : ∀ a ∈ q, F a = none) : Same F (addF F H q) := fun a x e => by
  rw [addF_out]
  · exact e
  · intro z; rw [h a z] at e; cases e
theorem addF_sub {F H : Hp} {q : List Addr} (s : Same F H) : Same (addF F H q) H := fun a x e => by
  by_cases z : a ∈ q
  · rw [addF_in z] at e; exact e
  · rw [addF_out z] at e; exact s a x e
/-- what is new and owned is frozen -/
theorem StF.freeze (S : StF K F0 G π m σ F H fp) {s : SV} {v : V} (h : EvF K G π σ F H fp N v (.fr s)) : ∃ F', StF K F0 G π m σ F' H fp ∧ Rep K F' (frz s) v ∧ Same F F' ∧ ∀ a, F' a ≠ none → F a ≠ none ∨ N a := by
  obtain ⟨q, h1, h2, h3⟩ := h
  have eF : Same F (addF F H q) := addF_same fun a ha => (h3 a ha).1
  refine ⟨addF F H q, ⟨S.len, S.plen, addF_sub S.sub, S.base, S.mono.trans eF, fun a ha => ?_, fun o s e => ?_, S.non, S.ali, S.nd, S.dj, fun o a ha => ⟨?_, (S.fr o a ha).2⟩⟩, h1.frz eF _ _ _ fun a ha => addF_in ha, eF, fun a ha => ?_⟩
  · by_cases z : a ∈ q
    · exact .inr (h3 a z).2.1
    · rw [addF_out z] at ha; exact S.new a ha
  · obtain ⟨w, e1, e2⟩ := S.own o s e
    exact ⟨w, e1, e2.keep eF _ _ _ fun _ _ => rfl⟩
  · rw [addF_out fun z => (h3 a z).2.2.1 o ha]
    exact (S.fr o a ha).1
  · by_cases z : a ∈ q
    · exact .inr (h3 a z).2.2.2
    · rw [addF_out z] at ha; exact .inl ha
theorem get_set_s {m : M} {i : Nat} {x : Option Sl} (hi : i < m.sl.length) (j : Nat) : get { m with sl := m.sl.set i x } (.s j) = if j = i then (match x with | some (Sl.sv s) => some s | _ => none) else get m (.s j) := by
  unfold get
  by_cases e : j = i
  · subst e
    simp only [List.getElem?_set_self hi, if_true]
    cases x with
    | none => rfl
    | some y => cases y <;> rfl
  · simp only [List.getElem?_set_ne (Ne.symm e), if_neg e]
theorem refO_set {σ : L2.St} {π : List V} {i : Nat} {x : Option V} (hi : i < σ.length) (j : Nat) : refO (σ.set i x) π (.s j) = if j = i then x else refO σ π (.s j) := by
  unfold refO
  by_cases e : j = i
  · subst e
    simp only [List.getElem?_set_self hi, if_true]
    cases x <;> rfl
  · simp only [List.getElem?_set_ne (Ne.symm e), if_neg e]
theorem set_out {α : Type} {l : List α} {i : Nat} {x : α} (h : ¬ i < l.length) : l.set i x = l := List.set_eq_of_length_le (Nat.le_of_not_lt h)
/-- slot i is stored: nothing, a frozen thing, an owned one, or an alias of an argument -/
theorem StF.store (S : StF K F0 G π m σ F H fp) (i : Nat) (x : Option Sl) (v : Option V) (q : List Addr)
    (hx : ∀ s, x = some (Sl.sv s) → ∃ w, v = some w ∧ Own K F H s w q) (hn : (∀ s, x ≠ some (Sl.sv s)) → q = []) (ha : ∀ k, x = some (Sl.pa k) → ∃ w, π[k]? = some w ∧ v = some w)
    (nd : q.Nodup) (fr : ∀ a ∈ q, F a = none ∧ G a = none ∧ ∀ o, o ≠ Ow.s i → a ∉ fp o) (hi : i < m.sl.length ∨ q = []) :
    StF K F0 G π { m with sl := m.sl.set i x } (σ.set i v) F H (fun o => if o = .s i then (if i < m.sl.length then q else []) else fp o) := by
  by_cases hl : i < m.sl.length
  · have hs : i < σ.length := by rw [← S.len]; exact hl
    simp only [if_pos hl]
    refine ⟨by simp [S.len], S.plen, S.sub, S.base, S.mono, S.new, fun o s e => ?_, fun o e => ?_, fun j k e => ?_, fun o => ?_, fun o o' a h h' => ?_, fun o a h => ?_⟩
    · cases o with
      | p k => exact S.own (.p k) s e
      | s j =>
        rw [get_set_s hl] at e
        rw [refO_set hs]
        by_cases ej : j = i
        · subst ej
          rw [if_pos rfl] at e ⊢
          rw [if_pos rfl]
          cases x with
          | none => cases e
          | some y =>
            cases y with
            | pa k => cases e
            | sv s' =>
              cases e
              obtain ⟨w, e1, e2⟩ := hx _ rfl
              exact ⟨w, e1, e2⟩
        · rw [if_neg ej] at e ⊢
          rw [if_neg (fun z => ej (Ow.s.inj z))]
          exact S.own (.s j) s e
    · cases o with
      | p k =>
        rw [if_neg (fun z => nomatch z)]
        exact S.non (.p k) e
      | s j =>
        rw [get_set_s hl] at e
        by_cases ej : j = i
        · subst ej
          rw [if_pos rfl] at e ⊢
          refine hn fun s z => ?_
          subst z
          cases e
        · rw [if_neg ej] at e
          rw [if_neg (fun z => ej (Ow.s.inj z))]
          exact S.non (.s j) e
    · by_cases ej : j = i
      · subst ej
        have e' : x = some (Sl.pa k) := by simpa [List.getElem?_set_self hl] using e
        obtain ⟨w, h1, h2⟩ := ha k e'
        exact ⟨w, h1, by rw [List.getElem?_set_self hs, h2]⟩
      · have e' : m.sl[j]? = some (some (Sl.pa k)) := by simpa [List.getElem?_set_ne (Ne.symm ej)] using e
        obtain ⟨w, h1, h2⟩ := S.ali j k e'
        exact ⟨w, h1, by rw [List.getElem?_set_ne (Ne.symm ej)]; exact h2⟩
    · by_cases ej : o = .s i
      · rw [if_pos ej]; exact nd
      · rw [if_neg ej]; exact S.nd o
    · by_cases e1 : o = .s i
      · rw [if_pos e1] at h
        by_cases e2 : o' = .s i
        · rw [e1, e2]
        · rw [if_neg e2] at h'
          exact absurd h' ((fr a h).2.2 o' e2)
      · rw [if_neg e1] at h
        by_cases e2 : o' = .s i
        · rw [if_pos e2] at h'
          exact absurd h ((fr a h').2.2 o e1)
        · rw [if_neg e2] at h'
          exact S.dj o o' a h h'
    · by_cases e1 : o = .s i
      · rw [if_pos e1] at h
        exact ⟨(fr a h).1, (fr a h).2.1⟩
      · rw [if_neg e1] at h
        exact S.fr o a h
  · have hs : ¬ i < σ.length := by rw [← S.len]; exact hl
    simp only [if_neg hl, set_out hl, set_out hs]
    have e : get m (.s i) = none := by
      simp [get, List.getElem?_eq_none (Nat.le_of_not_lt hl)]
    have ez : fp (.s i) = [] := S.non _ e
    have ef : (fun o => if o = Ow.s i then [] else fp o) = fp := by
      funext o
      by_cases z : o = .s i
      · rw [if_pos z, z, ez]
      · rw [if_neg z]
    rw [ef]
    exact S
/-- a frozen thing is stored -/
theorem StF.storeF (S : StF K F0 G π m σ F H fp) (i : Nat) {d : D} {v : V} (h : Rep K F d v) : ∃ fp', StF K F0 G π { m with sl := m.sl.set i (some (.sv (.fz d))) } (σ.set i (some v)) F H fp' :=
  ⟨_, S.store i _ _ [] (fun s e => by cases e; exact ⟨v, rfl, h, rfl⟩) (fun h => rfl) (fun k e => by cases e) List.nodup_nil (fun a h => by cases h) (.inr rfl)⟩
theorem StF.clear (S : StF K F0 G π m σ F H fp) (i : Nat) : ∃ fp', StF K F0 G π { m with sl := m.sl.set i none } (σ.set i none) F H fp' :=
  ⟨_, S.store i none none [] (fun s e => by cases e) (fun h => rfl) (fun k e => by cases e) List.nodup_nil (fun a h => by cases h) (.inr rfl)⟩
/-- a new owned thing is stored -/
theorem StF.storeO (S : StF K F0 G π m σ F H fp) {i : Nat} (hi : i < m.sl.length) {s : SV} {v : V} (h : EvF K G π σ F H fp N v (.fr s)) : ∃ fp', StF K F0 G π { m with sl := m.sl.set i (some (Sl.sv s)) } (σ.set i (some v)) F H fp' := by
  obtain ⟨q, h1, h2, h3⟩ := h
  exact ⟨_, S.store i _ _ q (fun s e => by cases e; exact ⟨v, rfl, h1⟩) (fun h => absurd rfl (h s)) (fun k e => by cases e) h2 (fun a ha => ⟨(h3 a ha).1, (h3 a ha).2.1, fun o _ => (h3 a ha).2.2.1 o⟩) (.inl hi)⟩
theorem StF.storeA (S : StF K F0 G π m σ F H fp) (i : Nat) {k : Nat} {v : V} (h : π[k]? = some v) : ∃ fp', StF K F0 G π { m with sl := m.sl.set i (some (Sl.pa k)) } (σ.set i (some v)) F H fp' :=
  ⟨_, S.store i _ _ [] (fun s e => by cases e) (fun h => rfl) (fun j e => by cases e; exact ⟨v, h, rfl⟩) List.nodup_nil (fun a h => by cases h) (.inr rfl)⟩
theorem get_setO {m : M} {o : Ow} {s r : SV} (h : get m o = some r) (o' : Ow) : get (setO m o s) o' = if o' = o then some s else get m o' := by
  cases o with
  | s i =>
    have hi : i < m.sl.length := by
      apply Decidable.byContradiction
      intro z
      simp [get, List.getElem?_eq_none (Nat.le_of_not_lt z)] at h
    cases o' with
    | p k => rw [if_neg (fun z => nomatch z)]; rfl
    | s j =>
      show get { m with sl := m.sl.set i (some (Sl.sv s)) } (.s j) = _
      rw [get_set_s hi]
      by_cases e : j = i
      · rw [if_pos e, if_pos (congrArg Ow.s e)]
      · rw [if_neg e, if_neg (fun z => e (Ow.s.inj z))]
  | p k =>
    have hk : k < m.pp.length := by
      apply Decidable.byContradiction
      intro z
      have : m.pp[k]? = some r := h
      rw [List.getElem?_eq_none (Nat.le_of_not_lt z)] at this
      cases this
    cases o' with
    | s i => rw [if_neg (fun z => nomatch z)]; rfl
    | p j =>
      show (m.pp.set k s)[j]? = _
      by_cases e : j = k
      · subst e; rw [if_pos rfl, List.getElem?_set_self hk]
      · rw [if_neg (fun z => e (Ow.p.inj z)), List.getElem?_set_ne (Ne.symm e)]; rfl
/-- an owned thing is changed as a whole: its content, the heap at its own parts -/
theorem StF.change (S : StF K F0 G π m σ F H fp) {o : Ow} {r s : SV} (hg : get m o = some r) {v : V} (hv : refO σ π o = some v) {F' H' : Hp} {q : List Addr} (eF : Same F F') (sub : Same F' H') (new : ∀ a, F' a ≠ none → F0 a ≠ none ∨ G a = none)
    (k : ∀ a x, H a = some x → a ∉ fp o → H' a = some x) (ho : Own K F' H' s v q) (nd : q.Nodup) (fr : ∀ a ∈ q, a ∈ fp o ∨ (G a = none ∧ ∀ o', a ∉ fp o')) (fr2 : ∀ a ∈ q, F' a = none) (fr3 : ∀ o' a, o' ≠ o → a ∈ fp o' → F' a = none) :
    StF K F0 G π (setO m o s) σ F' H' (fun o' => if o' = o then q else fp o') := by
  have hne : ∀ o', o' ≠ o → ∀ a ∈ fp o', H' a = H a := fun o' ne a ha => by
    cases e : H a with
    | none => exact absurd e (S.there ha)
    | some x => exact k a x e fun z => ne (S.dj o' o a ha z)
  refine ⟨?_, ?_, sub, fun a x e => k a x (S.base a x e) fun z => ?_, S.mono.trans eF, new, fun o' s' e => ?_, fun o' e => ?_, fun i j e => ?_, fun o' => ?_, fun o1 o2 a h1 h2 => ?_, fun o' a h => ?_⟩
  · cases o <;> simp [setO, S.len]
  · cases o <;> simp [setO, S.plen]
  · rw [(S.fr o a z).2] at e; cases e
  · rw [get_setO hg] at e
    by_cases eo : o' = o
    · rw [if_pos eo] at e ⊢
      cases e
      subst eo
      exact ⟨v, hv, ho⟩
    · rw [if_neg eo] at e ⊢
      obtain ⟨w, e1, e2⟩ := S.own o' s' e
      exact ⟨w, e1, e2.keep eF _ _ _ fun a ha => hne o' eo a ha⟩
  · rw [get_setO hg] at e
    by_cases eo : o' = o
    · rw [if_pos eo] at e; cases e
    · rw [if_neg eo] at e ⊢
      exact S.non o' e
  · refine S.ali i j ?_
    cases o with
    | p k => exact e
    | s i' =>
      have e' : (m.sl.set i' (some (Sl.sv s)))[i]? = some (some (Sl.pa j)) := e
      by_cases z : i = i'
      · subst z
        have hi : i < m.sl.length := by
          apply Decidable.byContradiction
          intro z
          rw [List.getElem?_eq_none (by simpa using Nat.le_of_not_lt z)] at e'
          cases e'
        rw [List.getElem?_set_self hi] at e'
        cases e'
      · rw [List.getElem?_set_ne (Ne.symm z)] at e'
        exact e'
  · by_cases eo : o' = o
    · rw [if_pos eo]; exact nd
    · rw [if_neg eo]; exact S.nd o'
  · by_cases e1 : o1 = o
    · rw [if_pos e1] at h1
      by_cases e2 : o2 = o
      · rw [e1, e2]
      · rw [if_neg e2] at h2
        rcases fr a h1 with z | z
        · exact absurd (S.dj o2 o a h2 z) e2
        · exact absurd h2 (z.2 o2)
    · rw [if_neg e1] at h1
      by_cases e2 : o2 = o
      · rw [if_pos e2] at h2
        rcases fr a h2 with z | z
        · exact absurd (S.dj o1 o a h1 z) e1
        · exact absurd h1 (z.2 o1)
      · rw [if_neg e2] at h2
        exact S.dj o1 o2 a h1 h2
  · by_cases e1 : o' = o
    · rw [if_pos e1] at h
      refine ⟨fr2 a h, ?_⟩
      rcases fr a h with z | z
      · exact (S.fr o a z).2
      · exact z.1
    · rw [if_neg e1] at h
      exact ⟨fr3 o' a e1 h, (S.fr o' a h).2⟩
end
end PD
namespace PD
open PySem PySem.Spec PyProof.Rows L2
/-! ## judgements: a reading and its denotation -/
def frE : EV → EV
  | .fr s => .v (frz s)
  | e => e
/-- an operand: what is new is frozen -/
def opd (g : M → Out EV) (m : M) : Out EV := (g m).bind fun ev m' => .ok (frE ev) m'
/-- a wish for exceptions, by the slots -/
abbrev XS := L2.St → XK
abbrev XS0 : XS := fun _ _ _ _ => False
def ExcW (K : Kf) (mg : Str → Option Value) (F0 G : Hp) (π : List V) (E : XS) (σ : L2.St) (c : Str) (d : D) (m' : M) : Prop :=
  ∀ C dx v F' H' fp', mg c = some (.ref C) → StF K F0 G π m' σ F' H' fp' → H' dx = some (.xd [(("thing" : Str), v)]) → Rep K F' d v → E σ (.ref C) (some dx) H'
structure Ch (pu : Bool) (m m' : M) (F H F' H' : Hp) (fp fp' : Ow → List Addr) : Prop where
  ext : Same F F'
  pure : pu = true → m' = m ∧ fp' = fp ∧ Same H H' ∧ ∀ a, F' a ≠ none → F a ≠ none ∨ H a = none
theorem Ch.refl {pu : Bool} {m : M} {F H : Hp} {fp : Ow → List Addr} : Ch pu m m F H F H fp fp := ⟨Same.refl F, fun _ => ⟨rfl, rfl, Same.refl H, fun _ h => .inl h⟩⟩
theorem Ch.trans {p q : Bool} {m m1 m2 : M} {F H F1 H1 F2 H2 : Hp} {fp fp1 fp2 : Ow → List Addr} (a : Ch p m m1 F H F1 H1 fp fp1) (b : Ch q m1 m2 F1 H1 F2 H2 fp1 fp2) : Ch (p && q) m m2 F H F2 H2 fp fp2 := by
  refine ⟨a.ext.trans b.ext, fun h => ?_⟩
  rw [Bool.and_eq_true] at h
  obtain ⟨a1, a2, a3, a4⟩ := a.pure h.1
  obtain ⟨b1, b2, b3, b4⟩ := b.pure h.2
  refine ⟨b1.trans a1, b2.trans a2, a3.trans b3, fun x hx => ?_⟩
  rcases b4 x hx with z | z
  · exact a4 x z
  · exact .inr (same_none a3 z)
theorem Ch.mono {p q : Bool} {m m1 : M} {F H F1 H1 : Hp} {fp fp1 : Ow → List Addr} (a : Ch p m m1 F H F1 H1 fp fp1) (h : q = true → p = true) : Ch q m m1 F H F1 H1 fp fp1 := ⟨a.ext, fun z => a.pure (h z)⟩
def NewA (pu : Bool) (H : Hp) : Addr → Prop := fun a => pu = true → H a = none
def PostE (K : Kf) (mg : Str → Option Value) (E : XS) (pu : Bool) (F0 G : Hp) (π : List V) (m : M) (σ : L2.St) (F H : Hp) (fp : Ow → List Addr) (Q : VK) : Out EV → Prop
  | .ok ev m' => ∀ v F' H' fp', StF K F0 G π m' σ F' H' fp' → Ch pu m m' F H F' H' fp fp' → EvF K G π σ F' H' fp' (NewA pu H) v ev → Q v H'
  | .exc c d m' => ExcW K mg F0 G π E σ c d m'
  | .bad => False
def TEok (K : Kf) (mg : Str → Option Value) (E : XS) (pu : Bool) (t : TE) (g : M → Out EV) : Prop :=
  ∀ F0 G π m σ F H fp (Q : VK), StF K F0 G π m σ F H fp → PostE K mg E pu F0 G π m σ F H fp Q (g m) → t σ H Q
inductive EvFs (K : Kf) (G : Hp) (π : List V) (σ : L2.St) (F H : Hp) (fp : Ow → List Addr) (N : Addr → Prop) : List V → List EV → Prop
  | nil : EvFs K G π σ F H fp N [] []
  | cons {v : V} {vs : List V} {e : EV} {es : List EV} : EvF K G π σ F H fp N v e → EvFs K G π σ F H fp N vs es → EvFs K G π σ F H fp N (v :: vs) (e :: es)
def PostA (K : Kf) (mg : Str → Option Value) (E : XS) (pu : Bool) (F0 G : Hp) (π : List V) (m : M) (σ : L2.St) (F H : Hp) (fp : Ow → List Addr) (Q : List V → Hp → Prop) : Out (List EV) → Prop
  | .ok evs m' => ∀ vs F' H' fp', StF K F0 G π m' σ F' H' fp' → Ch pu m m' F H F' H' fp fp' → EvFs K G π σ F' H' fp' (fun _ => False) vs evs → Q vs H'
  | .exc c d m' => ExcW K mg F0 G π E σ c d m'
  | .bad => False
def TAok (K : Kf) (mg : Str → Option Value) (E : XS) (pu : Bool) (t : TA) (g : M → Out (List EV)) : Prop :=
  ∀ F0 G π m σ F H fp (Q : List V → Hp → Prop), StF K F0 G π m σ F H fp → PostA K mg E pu F0 G π m σ F H fp Q (g m) → t σ H Q
def PostT (K : Kf) (mg : Str → Option Value) (E : XS) (pu : Bool) (F0 G : Hp) (π : List V) (m : M) (σ : L2.St) (F H : Hp) (fp : Ow → List Addr) (Q : Bool → Hp → Prop) : Out Bool → Prop
  | .ok b m' => ∀ F' H' fp', StF K F0 G π m' σ F' H' fp' → Ch pu m m' F H F' H' fp fp' → Q b H'
  | .exc c d m' => ExcW K mg F0 G π E σ c d m'
  | .bad => False
def TTok (K : Kf) (mg : Str → Option Value) (E : XS) (pu : Bool) (t : TT) (g : M → Out Bool) : Prop :=
  ∀ F0 G π m σ F H fp (Q : Bool → Hp → Prop), StF K F0 G π m σ F H fp → PostT K mg E pu F0 G π m σ F H fp Q (g m) → t σ H Q
inductive Ctl where
  | nx | rt (s : SV) | bk | ct
def PostS (K : Kf) (mg : Str → Option Value) (E : XS) (F0 G : Hp) (π : List V) (Dn : Ends) : Out Ctl → Prop
  | .ok .nx m' => ∀ σ' F' H' fp', StF K F0 G π m' σ' F' H' fp' → Dn.nx σ' H'
  | .ok (.rt s) m' => ∀ v σ' F' H' fp', StF K F0 G π m' σ' F' H' fp' → EvF K G π σ' F' H' fp' (fun _ => True) v (.fr s) → Dn.rt v H'
  | .ok .bk m' => ∀ σ' F' H' fp', StF K F0 G π m' σ' F' H' fp' → Dn.bk σ' H'
  | .ok .ct m' => ∀ σ' F' H' fp', StF K F0 G π m' σ' F' H' fp' → Dn.ct σ' H'
  | .exc c d m' => ∀ σ', ExcW K mg F0 G π E σ' c d m'
  | .bad => False
def TSok (K : Kf) (mg : Str → Option Value) (E : XS) (t : TS) (g : M → Out Ctl) : Prop :=
  ∀ F0 G π m σ F H fp (Dn : Ends), StF K F0 G π m σ F H fp → PostS K mg E F0 G π Dn (g m) → t Dn σ H
section
variable {K : Kf} {mg : Str → Option Value} {E : XS} {pa pb pc pu : Bool} {ta tb : TE} {ga gb : M → Out EV}
theorem TEok.opd (h : TEok K mg E pu ta ga) : TEok K mg E pu ta (opd ga) := fun F0 G π m σ F H fp Q S p => by
  refine h F0 G π m σ F H fp Q S ?_
  unfold PD.opd Out.bind at p
  cases e : ga m with
  | bad => rw [e] at p; exact p
  | exc c d m' => rw [e] at p; exact p
  | ok ev m' =>
    rw [e] at p
    intro v F' H' fp' S' c ev'
    cases ev with
    | v d => exact p v F' H' fp' S' c ev'
    | br o q => exact p v F' H' fp' S' c ev'
    | fr s =>
      obtain ⟨F2, S2, r, e2, n2⟩ := S'.freeze ev'
      refine p v F2 H' fp' S2 ⟨c.ext.trans e2, fun z => ?_⟩ r
      obtain ⟨c1, c2, c3, c4⟩ := c.pure z
      refine ⟨c1, c2, c3, fun a ha => ?_⟩
      rcases n2 a ha with w | w
      · exact c4 a w
      · exact .inr (w z)
def stable (pb : Bool) : EV → Bool
  | .br _ (_ :: _) => pb
  | _ => true
def nofr : EV → Bool
  | .fr _ => false
  | _ => true
theorem opd_nofr {m m' : M} {ev : EV} (h : opd ga m = .ok ev m') : nofr ev = true := by
  unfold opd Out.bind at h
  cases e : ga m with
  | bad => rw [e] at h; cases h
  | exc c d m' => rw [e] at h; cases h
  | ok ev' m1 =>
    rw [e] at h
    cases h
    cases ev' <;> rfl
/-- an operand stays while others are evaluated -/
theorem EvF.carry {G : Hp} {π : List V} {m m' : M} {σ : L2.St} {F H F' H' : Hp} {fp fp' : Ow → List Addr} {N N' : Addr → Prop} {v : V} {ev : EV} (h : EvF K G π σ F H fp N v ev) (n : nofr ev = true) (c : Ch pb m m' F H F' H' fp fp') (s : stable pb ev = true) : EvF K G π σ F' H' fp' N' v ev := by
  cases ev with
  | v d => exact Rep.mono c.ext d v h
  | fr s => cases n
  | br o p =>
    obtain ⟨w, h1, h2⟩ := h
    refine ⟨w, h1, ?_⟩
    cases p with
    | nil => exact h2
    | cons x p => exact h2.mono (c.pure s).2.2.1
/-- two operands and what is done with them -/
def dBin (pb : Bool) (ga gb : M → Out EV) (k : M → EV → EV → Out EV) (m : M) : Out EV :=
  (opd ga m).bind fun x m1 => (opd gb m1).bind fun y m2 => if stable pb x = true then k m2 x y else .bad
/-- r does what k tells, on two operands -/
def KOk2 (K : Kf) (mg : Str → Option Value) (E : XS) (pk : Bool) (r : R2) (k : M → EV → EV → Out EV) : Prop :=
  ∀ F0 G π m σ F H fp (Q : VK) x y ex ey, StF K F0 G π m σ F H fp → EvF K G π σ F H fp (fun _ => False) x ex → EvF K G π σ F H fp (fun _ => False) y ey → PostE K mg E pk F0 G π m σ F H fp Q (k m ex ey) → r x y H Q
theorem EvF.plain {G : Hp} {π : List V} {σ : L2.St} {F H : Hp} {fp : Ow → List Addr} {N N' : Addr → Prop} {v : V} {ev : EV} (h : EvF K G π σ F H fp N v ev) (n : nofr ev = true) : EvF K G π σ F H fp N' v ev := by
  cases ev with
  | v d => exact h
  | fr s => cases n
  | br o p => exact h
/-- what comes behind further steps -/
theorem PostE.weak {F0 G : Hp} {π : List V} {m m1 : M} {σ : L2.St} {F H F1 H1 : Hp} {fp fp1 : Ow → List Addr} {Q : VK} {r : Out EV} (c : Ch pa m m1 F H F1 H1 fp fp1) (p : PostE K mg E (pa && pb) F0 G π m σ F H fp Q r) : PostE K mg E pb F0 G π m1 σ F1 H1 fp1 Q r := by
  cases r with
  | bad => exact p
  | exc c d m' => exact p
  | ok ev m' =>
    intro v F' H' fp' S' c' e'
    refine p v F' H' fp' S' (c.trans c') (e'.imp fun a ha z => ?_)
    rw [Bool.and_eq_true] at z
    exact same_none (c.pure z.1).2.2.1 (ha z.2)
theorem te_op {r : R2} {k : M → EV → EV → Out EV} (ha : TEok K mg E pa ta ga) (hb : TEok K mg E pb tb gb) (hr : KOk2 K mg E pc r k) : TEok K mg E (pa && (pb && pc)) (tOp r ta tb) (dBin pb ga gb k) := fun F0 G π m σ F H fp Q S p => by
  refine ha.opd F0 G π m σ F H fp _ S ?_
  unfold dBin at p
  cases e : opd ga m with
  | bad => rw [e] at p; exact p
  | exc c d m' => rw [e] at p; exact p
  | ok ex m1 =>
    rw [e] at p
    intro x F1 H1 fp1 S1 c1 e1
    refine hb.opd F0 G π m1 σ F1 H1 fp1 _ S1 ?_
    have p : PostE K mg E _ F0 G π m σ F H fp Q ((opd gb m1).bind fun y m2 => if stable pb ex = true then k m2 ex y else .bad) := p
    cases e2 : opd gb m1 with
    | bad => rw [e2] at p; exact p
    | exc c d m' => rw [e2] at p; exact p
    | ok ey m2 =>
      rw [e2] at p
      intro y F2 H2 fp2 S2 c2 e3
      have p : PostE K mg E _ F0 G π m σ F H fp Q (if stable pb ex = true then k m2 ex ey else .bad) := p
      by_cases st : stable pb ex = true
      · rw [if_pos st] at p
        have p1 := PostE.weak (pa := pa && pb) (pb := pc) (c1.trans c2) (by rw [Bool.and_assoc]; exact p)
        exact hr F0 G π m2 σ F2 H2 fp2 Q x y ex ey S2 (e1.carry (opd_nofr e) c2 st) (e3.plain (opd_nofr e2)) p1
      · rw [if_neg st] at p; exact p.elim
/-- one operand -/
def dUn (ga : M → Out EV) (k : M → EV → Out EV) (m : M) : Out EV := (opd ga m).bind fun x m1 => k m1 x
def KOk1 (K : Kf) (mg : Str → Option Value) (E : XS) (pk : Bool) (r : V → Hp → VK → Prop) (k : M → EV → Out EV) : Prop :=
  ∀ F0 G π m σ F H fp (Q : VK) x ex, StF K F0 G π m σ F H fp → EvF K G π σ F H fp (fun _ => False) x ex → PostE K mg E pk F0 G π m σ F H fp Q (k m ex) → r x H Q
theorem te_un1 {r : V → Hp → VK → Prop} {k : M → EV → Out EV} (ha : TEok K mg E pa ta ga) (hr : KOk1 K mg E pc r k) : TEok K mg E (pa && pc) (fun σ H Q => ta σ H fun x H1 => r x H1 Q) (dUn ga k) := fun F0 G π m σ F H fp Q S p => by
  refine ha.opd F0 G π m σ F H fp _ S ?_
  unfold dUn at p
  cases e : opd ga m with
  | bad => rw [e] at p; exact p
  | exc c d m' => rw [e] at p; exact p
  | ok ex m1 =>
    rw [e] at p
    intro x F1 H1 fp1 S1 c1 e1
    exact hr F0 G π m1 σ F1 H1 fp1 Q x ex S1 (e1.plain (opd_nofr e)) (PostE.weak c1 p)
/-- argument lists -/
def dNil (m : M) : Out (List EV) := .ok [] m
def dCons (pb : Bool) (ga : M → Out EV) (gs : M → Out (List EV)) (m : M) : Out (List EV) :=
  (opd ga m).bind fun x m1 => (gs m1).bind fun xs m2 => if stable pb x = true then .ok (x :: xs) m2 else .bad
theorem ta_nil : TAok K mg E true tNil dNil := fun F0 G π m σ F H fp Q S p => p [] F H fp S Ch.refl .nil
theorem ta_cons {ts : TA} {gs : M → Out (List EV)} (ha : TEok K mg E pa ta ga) (hb : TAok K mg E pb ts gs) : TAok K mg E (pa && pb) (tCons ta ts) (dCons pb ga gs) := fun F0 G π m σ F H fp Q S p => by
  refine ha.opd F0 G π m σ F H fp _ S ?_
  unfold dCons at p
  cases e : opd ga m with
  | bad => rw [e] at p; exact p
  | exc c d m' => rw [e] at p; exact p
  | ok ex m1 =>
    rw [e] at p
    intro x F1 H1 fp1 S1 c1 e1
    refine hb F0 G π m1 σ F1 H1 fp1 _ S1 ?_
    have p : PostA K mg E _ F0 G π m σ F H fp Q ((gs m1).bind fun xs m2 => if stable pb ex = true then .ok (ex :: xs) m2 else .bad) := p
    cases e2 : gs m1 with
    | bad => rw [e2] at p; exact p
    | exc c d m' => rw [e2] at p; exact p
    | ok es m2 =>
      rw [e2] at p
      have p : PostA K mg E _ F0 G π m σ F H fp Q (if stable pb ex = true then .ok (ex :: es) m2 else .bad) := p
      intro vs F2 H2 fp2 S2 c2 e3
      by_cases st : stable pb ex = true
      · rw [if_pos st] at p
        exact p (x :: vs) F2 H2 fp2 S2 (c1.trans c2) (.cons (e1.carry (opd_nofr e) c2 st) e3)
      · rw [if_neg st] at p; exact p.elim
def KOkN (K : Kf) (mg : Str → Option Value) (E : XS) (pk : Bool) (r : L2.St → List V → Hp → VK → Prop) (k : M → List EV → Out EV) : Prop :=
  ∀ F0 G π m σ F H fp (Q : VK) xs es, StF K F0 G π m σ F H fp → EvFs K G π σ F H fp (fun _ => False) xs es → PostE K mg E pk F0 G π m σ F H fp Q (k m es) → r σ xs H Q
def dApp (gs : M → Out (List EV)) (k : M → List EV → Out EV) (m : M) : Out EV := (gs m).bind fun xs m1 => k m1 xs
theorem te_app {r : L2.St → List V → Hp → VK → Prop} {k : M → List EV → Out EV} {ts : TA} {gs : M → Out (List EV)} (hb : TAok K mg E pb ts gs) (hr : KOkN K mg E pc r k) : TEok K mg E (pb && pc) (fun σ H Q => ts σ H fun vs H1 => r σ vs H1 Q) (dApp gs k) := fun F0 G π m σ F H fp Q S p => by
  refine hb F0 G π m σ F H fp _ S ?_
  unfold dApp at p
  cases e : gs m with
  | bad => rw [e] at p; exact p
  | exc c d m' => rw [e] at p; exact p
  | ok es m1 =>
    rw [e] at p
    intro xs F1 H1 fp1 S1 c1 e1
    exact hr F0 G π m1 σ F1 H1 fp1 Q xs es S1 e1 (PostE.weak c1 p)
/-! ### names and constants -/
def dVar (i : Nat) (m : M) : Out EV := match m.sl[i]? with
  | some (some (.sv (.fz d))) => .ok (.v d) m
  | some (some (.sv _)) => .ok (.br (.s i) []) m
  | some (some (.pa k)) => .ok (.br (.p k) []) m
  | _ => .bad
theorem refO_some {σ : L2.St} {π : List V} {i : Nat} {v : V} (h : refO σ π (.s i) = some v) : σ[i]? = some (some v) := by
  unfold refO at h
  cases e : σ[i]? with
  | none => simp [e] at h
  | some x =>
    cases x with
    | none => simp [e] at h
    | some y => simp [e] at h; rw [h]
theorem te_var {i : Nat} : TEok K mg E true (tVar i) (dVar i) := fun F0 G π m σ F H fp Q S p => by
  unfold dVar at p
  cases e : m.sl[i]? with
  | none => rw [e] at p; exact p.elim
  | some x =>
    rw [e] at p
    cases x with
    | none => exact p.elim
    | some y =>
      cases y with
      | pa k =>
        obtain ⟨v, h1, h2⟩ := S.ali i k e
        exact ⟨v, h2, p v F H fp S Ch.refl ⟨v, h1, rfl⟩⟩
      | sv s =>
        have hg : get m (.s i) = some s := by simp [get, e]
        obtain ⟨v, h1, h2⟩ := S.own _ _ hg
        refine ⟨v, refO_some h1, ?_⟩
        cases s with
        | fz d => exact p v F H fp S Ch.refl h2.1
        | ol _ => exact p v F H fp S Ch.refl ⟨v, h1, rfl⟩
        | ok _ => exact p v F H fp S Ch.refl ⟨v, h1, rfl⟩
        | ot _ => exact p v F H fp S Ch.refl ⟨v, h1, rfl⟩
def dC (d : D) (m : M) : Out EV := .ok (.v d) m
theorem te_c {d : D} {v : V} (h : ∀ F, Rep K F d v) : TEok K mg E true (tC v) (dC d) := fun F0 G π m σ F H fp Q S p => p v F H fp S Ch.refl (h F)
/-! ### tests -/
def dTest (g : M → Out EV) (m : M) : Out Bool := (g m).bind fun ev m' => match ev with
  | .v (.bl b) => .ok b m'
  | _ => .bad
theorem tt_test (ha : TEok K mg E pa ta ga) : TTok K mg E pa (tTest ta) (dTest ga) := fun F0 G π m σ F H fp Q S p => by
  refine ha F0 G π m σ F H fp _ S ?_
  unfold dTest at p
  cases e : ga m with
  | bad => rw [e] at p; exact p
  | exc c d m' => rw [e] at p; exact p
  | ok ev m1 =>
    rw [e] at p
    intro v F1 H1 fp1 S1 c1 e1
    cases ev with
    | br o q => exact p.elim
    | fr s => exact p.elim
    | v d =>
      cases d with
      | bl b => exact ⟨b, e1, p F1 H1 fp1 S1 c1⟩
      | _ => exact p.elim
def dAndT (ga gb : M → Out Bool) (m : M) : Out Bool := (ga m).bind fun b m1 => if b = true then gb m1 else .ok false m1
def dOrT (ga gb : M → Out Bool) (m : M) : Out Bool := (ga m).bind fun b m1 => if b = true then .ok true m1 else gb m1
def dNotT (ga : M → Out Bool) (m : M) : Out Bool := (ga m).bind fun b m1 => .ok (!b) m1
theorem PostT.weak {F0 G : Hp} {π : List V} {m m1 : M} {σ : L2.St} {F H F1 H1 : Hp} {fp fp1 : Ow → List Addr} {Q : Bool → Hp → Prop} {r : Out Bool} (c : Ch pa m m1 F H F1 H1 fp fp1) (p : PostT K mg E (pa && pb) F0 G π m σ F H fp Q r) : PostT K mg E pb F0 G π m1 σ F1 H1 fp1 Q r := by
  cases r with
  | bad => exact p
  | exc c d m' => exact p
  | ok ev m' => exact fun F' H' fp' S' c' => p F' H' fp' S' (c.trans c')
variable {tta ttb : TT} {gta gtb : M → Out Bool}
theorem tt_and (ha : TTok K mg E pa tta gta) (hb : TTok K mg E pb ttb gtb) : TTok K mg E (pa && pb) (tAnd tta ttb) (dAndT gta gtb) := fun F0 G π m σ F H fp Q S p => by
  refine ha F0 G π m σ F H fp _ S ?_
  unfold dAndT at p
  cases e : gta m with
  | bad => rw [e] at p; exact p
  | exc c d m' => rw [e] at p; exact p
  | ok b m1 =>
    rw [e] at p
    intro F1 H1 fp1 S1 c1
    have p : PostT K mg E (pa && pb) F0 G π m σ F H fp Q (if b = true then gtb m1 else .ok false m1) := p
    cases b with
    | true => exact hb F0 G π m1 σ F1 H1 fp1 _ S1 (PostT.weak c1 p)
    | false => exact p F1 H1 fp1 S1 (c1.mono fun z => (Bool.and_eq_true _ _ ▸ z).1)
theorem tt_or (ha : TTok K mg E pa tta gta) (hb : TTok K mg E pb ttb gtb) : TTok K mg E (pa && pb) (tOr tta ttb) (dOrT gta gtb) := fun F0 G π m σ F H fp Q S p => by
  refine ha F0 G π m σ F H fp _ S ?_
  unfold dOrT at p
  cases e : gta m with
  | bad => rw [e] at p; exact p
  | exc c d m' => rw [e] at p; exact p
  | ok b m1 =>
    rw [e] at p
    intro F1 H1 fp1 S1 c1
    have p : PostT K mg E (pa && pb) F0 G π m σ F H fp Q (if b = true then .ok true m1 else gtb m1) := p
    cases b with
    | false => exact hb F0 G π m1 σ F1 H1 fp1 _ S1 (PostT.weak c1 p)
    | true => exact p F1 H1 fp1 S1 (c1.mono fun z => (Bool.and_eq_true _ _ ▸ z).1)
theorem tt_not (ha : TTok K mg E pa tta gta) : TTok K mg E pa (tNot tta) (dNotT gta) := fun F0 G π m σ F H fp Q S p => by
  refine ha F0 G π m σ F H fp _ S ?_
  unfold dNotT at p
  cases e : gta m with
  | bad => rw [e] at p; exact p
  | exc c d m' => rw [e] at p; exact p
  | ok b m1 =>
    rw [e] at p
    intro F1 H1 fp1 S1 c1
    exact p F1 H1 fp1 S1 c1
/-! ### and, or, not, if-else as values -/
def dBoolV (m : M) : EV → Out EV
  | .v (.bl b) => .ok (.v (.bl b)) m
  | _ => .bad
def dAndV (ga gb : M → Out EV) (m : M) : Out EV := (ga m).bind fun ev m1 => match ev with
  | .v (.bl true) => gb m1
  | .v (.bl false) => .ok (.v (.bl false)) m1
  | _ => .bad
def dOrV (ga gb : M → Out EV) (m : M) : Out EV := (ga m).bind fun ev m1 => match ev with
  | .v (.bl true) => .ok (.v (.bl true)) m1
  | .v (.bl false) => gb m1
  | _ => .bad
def dNotV (ga : M → Out EV) (m : M) : Out EV := (ga m).bind fun ev m1 => match ev with
  | .v (.bl b) => .ok (.v (.bl (!b))) m1
  | _ => .bad
theorem te_and (ha : TEok K mg E pa ta ga) (hb : TEok K mg E pb tb gb) : TEok K mg E (pa && pb) (tAndV ta tb) (dAndV ga gb) := fun F0 G π m σ F H fp Q S p => by
  refine ha F0 G π m σ F H fp _ S ?_
  unfold dAndV at p
  cases e : ga m with
  | bad => rw [e] at p; exact p
  | exc c d m' => rw [e] at p; exact p
  | ok ev m1 =>
    rw [e] at p
    intro v F1 H1 fp1 S1 c1 e1
    cases ev with
    | br o q => exact p.elim
    | fr s => exact p.elim
    | v d =>
      cases d with
      | bl b =>
        refine ⟨b, e1, ?_⟩
        cases b with
        | true => exact hb F0 G π m1 σ F1 H1 fp1 _ S1 (PostE.weak c1 p)
        | false => exact p _ F1 H1 fp1 S1 (c1.mono fun z => (Bool.and_eq_true _ _ ▸ z).1) rfl
      | _ => exact p.elim
theorem te_or (ha : TEok K mg E pa ta ga) (hb : TEok K mg E pb tb gb) : TEok K mg E (pa && pb) (tOrV ta tb) (dOrV ga gb) := fun F0 G π m σ F H fp Q S p => by
  refine ha F0 G π m σ F H fp _ S ?_
  unfold dOrV at p
  cases e : ga m with
  | bad => rw [e] at p; exact p
  | exc c d m' => rw [e] at p; exact p
  | ok ev m1 =>
    rw [e] at p
    intro v F1 H1 fp1 S1 c1 e1
    cases ev with
    | br o q => exact p.elim
    | fr s => exact p.elim
    | v d =>
      cases d with
      | bl b =>
        refine ⟨b, e1, ?_⟩
        cases b with
        | false => exact hb F0 G π m1 σ F1 H1 fp1 _ S1 (PostE.weak c1 p)
        | true => exact p _ F1 H1 fp1 S1 (c1.mono fun z => (Bool.and_eq_true _ _ ▸ z).1) rfl
      | _ => exact p.elim
theorem te_not (ha : TEok K mg E pa ta ga) : TEok K mg E pa (tNotV ta) (dNotV ga) := fun F0 G π m σ F H fp Q S p => by
  refine ha F0 G π m σ F H fp _ S ?_
  unfold dNotV at p
  cases e : ga m with
  | bad => rw [e] at p; exact p
  | exc c d m' => rw [e] at p; exact p
  | ok ev m1 =>
    rw [e] at p
    intro v F1 H1 fp1 S1 c1 e1
    cases ev with
    | br o q => exact p.elim
    | fr s => exact p.elim
    | v d =>
      cases d with
      | bl b => exact ⟨b, e1, p _ F1 H1 fp1 S1 c1 rfl⟩
      | _ => exact p.elim
def dIfE (gt : M → Out Bool) (ga gb : M → Out EV) (m : M) : Out EV := (gt m).bind fun b m1 => if b = true then ga m1 else gb m1
theorem te_if (ht : TTok K mg E pc tta gta) (ha : TEok K mg E pa ta ga) (hb : TEok K mg E pb tb gb) : TEok K mg E (pc && (pa && pb)) (tIf tta ta tb) (dIfE gta ga gb) := fun F0 G π m σ F H fp Q S p => by
  refine ht F0 G π m σ F H fp _ S ?_
  unfold dIfE at p
  cases e : gta m with
  | bad => rw [e] at p; exact p
  | exc c d m' => rw [e] at p; exact p
  | ok b m1 =>
    rw [e] at p
    intro F1 H1 fp1 S1 c1
    have p : PostE K mg E (pc && (pa && pb)) F0 G π m σ F H fp Q (if b = true then ga m1 else gb m1) := p
    have q := PostE.weak (pb := pa && pb) c1 p
    have imp : ∀ (px : Bool) (r : Out EV), ((pa && pb) = true → px = true) → PostE K mg E (pa && pb) F0 G π m1 σ F1 H1 fp1 Q r → PostE K mg E px F0 G π m1 σ F1 H1 fp1 Q r := fun px r hx hr => by
      cases r with
      | bad => exact hr
      | exc c d m' => exact hr
      | ok ev m' => exact fun v F' H' fp' S' c' e' => hr v F' H' fp' S' (c'.mono hx) (e'.imp fun a ha z => ha (hx z))
    cases b with
    | true => exact ha F0 G π m1 σ F1 H1 fp1 _ S1 (imp pa _ (fun z => (Bool.and_eq_true _ _ ▸ z).1) q)
    | false => exact hb F0 G π m1 σ F1 H1 fp1 _ S1 (imp pb _ (fun z => (Bool.and_eq_true _ _ ▸ z).2) q)
end
end PD
namespace PD
open PySem PySem.Spec PyProof.Rows L2
section
variable {K : Kf} {F0 G : Hp} {π : List V} {m : M} {σ : L2.St} {F H : Hp} {fp : Ow → List Addr}
/-! ## bases -/
theorem StF.rebase (S : StF K F0 G π m σ F H fp) : StF K F G π m σ F H fp := ⟨S.len, S.plen, S.sub, S.base, Same.refl F, fun _ h => .inl h, S.own, S.non, S.ali, S.nd, S.dj, S.fr⟩
theorem StF.unbase (S : StF K F0 G π m σ F H fp) {m' : M} {σ' : L2.St} {F' H' : Hp} {fp' : Ow → List Addr} (T : StF K F G π m' σ' F' H' fp') : StF K F0 G π m' σ' F' H' fp' :=
  ⟨T.len, T.plen, T.sub, T.base, S.mono.trans T.mono, fun a h => by
    rcases T.new a h with z | z
    · exact S.new a z
    · exact .inr z, T.own, T.non, T.ali, T.nd, T.dj, T.fr⟩
/-- what stands at q is kept by whoever keeps G -/
theorem StF.protect (S : StF K F0 G π m σ F H fp) {q : List Addr} (h : ∀ a ∈ q, F a = none ∧ ∀ o, a ∉ fp o) : StF K F0 (addF G H q) π m σ F H fp := by
  refine ⟨S.len, S.plen, S.sub, addF_sub S.base, S.mono, fun a ha => ?_, S.own, S.non, S.ali, S.nd, S.dj, fun o a ha => ⟨(S.fr o a ha).1, ?_⟩⟩
  · by_cases z : a ∈ q
    · exact absurd (h a z).1 ha
    · rw [addF_out z]; exact S.new a ha
  · rw [addF_out fun z => (h a z).2 o ha]
    exact (S.fr o a ha).2
theorem StF.unprotect (S : StF K F0 G π m σ F H fp) {q : List Addr} (h : ∀ a ∈ q, F a = none ∧ H a ≠ none) {m' : M} {σ' : L2.St} {F' H' : Hp} {fp' : Ow → List Addr} (T : StF K F0 (addF G H q) π m' σ' F' H' fp') :
    StF K F0 G π m' σ' F' H' fp' ∧ ∀ a ∈ q, H' a = H a ∧ F' a = none ∧ ∀ o, a ∉ fp' o := by
  have sG : Same G (addF G H q) := fun a x e => by
    by_cases z : a ∈ q
    · rw [addF_in z]; exact S.base a x e
    · rw [addF_out z]; exact e
  refine ⟨⟨T.len, T.plen, T.sub, sG.trans T.base, T.mono, fun a ha => ?_, T.own, T.non, T.ali, T.nd, T.dj, fun o a ha => ⟨(T.fr o a ha).1, same_none sG (T.fr o a ha).2⟩⟩, fun a ha => ?_⟩
  · rcases T.new a ha with z | z
    · exact .inl z
    · exact .inr (same_none sG z)
  · have e1 : addF G H q a = H a := addF_in ha
    have e2 : addF G H q a ≠ none := by rw [e1]; exact (h a ha).2
    refine ⟨(same_of T.base e2).trans e1, ?_, fun o z => e2 (T.fr o a z).2⟩
    cases e : F' a with
    | none => rfl
    | some x =>
      rcases T.new a (by rw [e]; exact Option.some_ne_none _) with z | z
      · exact absurd (same_none S.mono (h a ha).1) z
      · exact absurd z e2
/-- a part is frozen where it stands -/
theorem StF.freezeAt (S : StF K F0 G π m σ F H fp) {o : Ow} {r s : SV} {p : List Pth} (hg : get m o = some r) (hs : PD.sub r p = some s) {v w : V} (hw : refO σ π o = some w) (hp : PathH H w p v) :
    ∃ F' fp', StF K F0 G π (setO m o (put r p (.fz (frz s)))) σ F' H fp' ∧ Rep K F' (frz s) v ∧ Same F F' := by
  obtain ⟨w', h1, h2⟩ := S.own o r hg
  rw [hw] at h1; cases h1
  obtain ⟨u, g, pu, ou, ng, mg, re⟩ := own_put p h2 (S.nd o) hs
  obtain rfl : v = u := PathH.fun p _ _ _ hp pu
  have eF : Same F (addF F H g) := addF_same fun a ha => (S.fr o a (mg a ha)).1
  have hr : Rep K (addF F H g) (frz s) v := ou.frz eF _ _ _ fun a ha => addF_in ha
  obtain ⟨q', oq, nq, hq, _⟩ := re (addF F H g) H (.fz (frz s)) [] eF ⟨hr, rfl⟩ List.nodup_nil (fun _ _ _ => rfl) (fun a ha => by cases ha)
  have hq' : ∀ a ∈ q', a ∈ fp o ∧ a ∉ g := fun a ha => by
    rcases hq a ha with z | z
    · cases z
    · exact z
  refine ⟨addF F H g, _, S.change hg hw eF (addF_sub S.sub) (fun a ha => ?_) (fun a x e _ => e) oq nq (fun a ha => .inl (hq' a ha).1) (fun a ha => ?_) (fun o' a ne ha => ?_), hr, eF⟩
  · by_cases z : a ∈ g
    · exact .inr (S.fr o a (mg a z)).2
    · rw [addF_out z] at ha; exact S.new a ha
  · rw [addF_out (hq' a ha).2]
    exact (S.fr o a (hq' a ha).1).1
  · rw [addF_out fun z => ne (S.dj o' o a ha (mg a z))]
    exact (S.fr o' a ha).1
end
/-! ## targets -/
/-- freeze in place what is evaluated -/
def dFzE (m : M) : EV → Out D
  | .v d => .ok d m
  | .fr s => .ok (frz s) m
  | .br o p => match get m o with
    | some r => match sub r p with
      | some s => .ok (frz s) (setO m o (put r p (.fz (frz s))))
      | none => .bad
    | none => .bad
def PostG (K : Kf) (F0 G : Hp) (π : List V) (Q : L2.St → Hp → Prop) : Out Unit → Prop
  | .ok _ m' => ∀ σ' F' H' fp', StF K F0 G π m' σ' F' H' fp' → Q σ' H'
  | _ => False
def TGok (K : Kf) (g : TG) (b : EV → M → Out Unit) : Prop :=
  ∀ F0 G π m σ F H fp (Q : L2.St → Hp → Prop) v ev, StF K F0 G π m σ F H fp → EvF K G π σ F H fp (fun _ => True) v ev → PostG K F0 G π Q (b ev m) → g v σ H Q
/-- a name: what is new is owned by it, what is owned elsewhere is frozen, an argument is named again -/
def bName (i : Nat) (ev : EV) (m : M) : Out Unit := match ev with
  | .v d => .ok () { m with sl := m.sl.set i (some (.sv (.fz d))) }
  | .fr s => if i < m.sl.length then .ok () { m with sl := m.sl.set i (some (.sv s)) } else .bad
  | .br (.p k) [] => .ok () { m with sl := m.sl.set i (some (.pa k)) }
  | .br o p => (dFzE m (.br o p)).bind fun d m1 => .ok () { m1 with sl := m1.sl.set i (some (.sv (.fz d))) }
section
variable {K : Kf} {mg : Str → Option Value} {E : XS} {pa pb pc pu : Bool}
theorem fzE_ok {F0 G : Hp} {π : List V} {m m' : M} {σ : L2.St} {F H : Hp} {fp : Ow → List Addr} {N : Addr → Prop} {v : V} {ev : EV} {d : D} (S : StF K F0 G π m σ F H fp) (h : EvF K G π σ F H fp N v ev) (e : dFzE m ev = .ok d m') :
    ∃ F' fp', StF K F0 G π m' σ F' H fp' ∧ Rep K F' d v ∧ Same F F' := by
  cases ev with
  | v d' => cases e; exact ⟨F, fp, S, h, Same.refl F⟩
  | fr s =>
    cases e
    obtain ⟨F', S', r, eF, _⟩ := S.freeze h
    exact ⟨F', fp, S', r, eF⟩
  | br o p =>
    obtain ⟨w, hw, hp⟩ := h
    unfold dFzE at e
    cases eg : get m o with
    | none => simp [eg] at e
    | some r =>
      cases es : sub r p with
      | none => simp [eg, es] at e
      | some s =>
        simp [eg, es] at e
        obtain ⟨e1, e2⟩ := e
        subst e1 e2
        exact S.freezeAt eg es hw hp
theorem tg_name {i : Nat} : TGok K (gName i) (bName i) := fun F0 G π m σ F H fp Q v ev S h p => by
  show Q (σ.set i (some v)) H
  have key : ∀ m', (∃ F' fp' d, StF K F0 G π m' σ F' H fp' ∧ Rep K F' d v ∧ PostG K F0 G π Q (.ok () { m' with sl := m'.sl.set i (some (.sv (.fz d))) })) → Q (σ.set i (some v)) H := fun m' ⟨F', fp', d, S', r, p'⟩ => by
    obtain ⟨fp2, S2⟩ := S'.storeF i r
    exact p' _ F' H fp2 S2
  have gen : ∀ o q, EvF K G π σ F H fp (fun _ => True) v (.br o q) → PostG K F0 G π Q ((dFzE m (.br o q)).bind fun d m1 => .ok () { m1 with sl := m1.sl.set i (some (.sv (.fz d))) }) → Q (σ.set i (some v)) H := fun o q h p => by
    cases e : dFzE m (.br o q) with
    | bad => rw [e] at p; exact p.elim
    | exc c d m' => rw [e] at p; exact p.elim
    | ok d m1 =>
      rw [e] at p
      obtain ⟨F', fp', S', r, _⟩ := fzE_ok S h e
      exact key m1 ⟨F', fp', d, S', r, p⟩
  cases ev with
  | v d => exact key m ⟨F, fp, d, S, h, p⟩
  | fr s =>
    have p : PostG K F0 G π Q (if i < m.sl.length then .ok () { m with sl := m.sl.set i (some (Sl.sv s)) } else .bad) := p
    by_cases hi : i < m.sl.length
    · rw [if_pos hi] at p
      obtain ⟨fp2, S2⟩ := S.storeO hi h
      exact p _ F H fp2 S2
    · rw [if_neg hi] at p; exact p.elim
  | br o q =>
    cases o with
    | s j => exact gen _ _ h p
    | p k =>
      cases q with
      | cons x q => exact gen _ _ h p
      | nil =>
        obtain ⟨w, h1, h2⟩ := h
        have h2 : v = w := h2
        subst h2
        obtain ⟨fp2, S2⟩ := S.storeA i (k := k) h1
        exact p _ F H fp2 S2
/-- a, b, .. of a tuple -/
def TGsok (K : Kf) (g : TGs) (b : List D → M → Out Unit) : Prop :=
  ∀ F0 G π m σ F H fp (Q : L2.St → Hp → Prop) vs ds, StF K F0 G π m σ F H fp → RepAll K F ds vs → PostG K F0 G π Q (b ds m) → g vs σ H Q
def bNil (ds : List D) (m : M) : Out Unit := match ds with
  | [] => .ok () m
  | _ => .bad
def bCons (b : EV → M → Out Unit) (bs : List D → M → Out Unit) (ds : List D) (m : M) : Out Unit := match ds with
  | d :: r => (b (.v d) m).bind fun _ m1 => bs r m1
  | [] => .bad
theorem tgs_nil : TGsok K gNil bNil := fun F0 G π m σ F H fp Q vs ds S h p => by
  cases ds with
  | cons _ _ => exact p.elim
  | nil =>
    have h : vs = [] := h
    subst h
    exact ⟨rfl, p σ F H fp S⟩
theorem tgs_cons {g : TG} {gs : TGs} {b : EV → M → Out Unit} {bs : List D → M → Out Unit} (h1 : TGok K g b) (h2 : TGsok K gs bs) : TGsok K (gCons g gs) (bCons b bs) := fun F0 G π m σ F H fp Q vs ds S h p => by
  cases ds with
  | nil => exact p.elim
  | cons d r =>
    obtain ⟨v, vr, ev, hd, hr⟩ := h
    subst ev
    refine ⟨v, vr, rfl, h1 F G π m σ F H fp _ v (.v d) S.rebase hd ?_⟩
    unfold bCons at p
    have p : PostG K F0 G π Q ((b (.v d) m).bind fun _ m1 => bs r m1) := p
    cases e : b (.v d) m with
    | bad => rw [e] at p; exact p.elim
    | exc c d' m' => rw [e] at p; exact p.elim
    | ok u m1 =>
      rw [e] at p
      intro σ1 F1 H1 fp1 S1
      exact h2 F0 G π m1 σ1 F1 H1 fp1 Q vr r (S.unbase S1) (RepAll.mono S1.mono _ _ hr) p
def bTup (n : Nat) (bs : List D → M → Out Unit) (ev : EV) (m : M) : Out Unit := match ev with
  | .v (.tup ds) => if ds.length = n then bs ds m else .bad
  | _ => .bad
theorem repAll_len {F : Hp} : ∀ {ds : List D} {vs : List V}, RepAll K F ds vs → vs.length = ds.length
  | [], _, h => by cases h; rfl
  | d :: ds, _, ⟨v, r, e, _, h⟩ => by subst e; simp [repAll_len h]
theorem tg_tup {KX : Kf} (up : Up K KX) {n : Nat} {gs : TGs} {bs : List D → M → Out Unit} (h2 : TGsok K gs bs) : TGok K (gTup KX n gs) (bTup n bs) := fun F0 G π m σ F H fp Q v ev S h p => by
  cases ev with
  | br o q => exact p.elim
  | fr s => exact p.elim
  | v d =>
    cases d with
    | tup ds =>
      obtain ⟨a, vs, ev, hs, hr⟩ := h
      unfold bTup at p
      by_cases e : ds.length = n
      · have p : PostG K F0 G π Q (if ds.length = n then bs ds m else .bad) := p
        rw [if_pos e] at p
        exact ⟨a, vs, ev, (same_t S.sub hs).sq, (repAll_len hr).trans e, h2 F0 G π m σ F H fp Q vs ds S hr p⟩
      · have p : PostG K F0 G π Q (if ds.length = n then bs ds m else .bad) := p
        rw [if_neg e] at p
        exact p.elim
    | _ => exact p.elim
/-! ## statements -/
variable {ta tb : TE} {ga gb : M → Out EV} {t u : TS} {g1 g2 : M → Out Ctl} {tt : TT} {gt : M → Out Bool}
def dSkip (m : M) : Out Ctl := .ok .nx m
theorem ts_skip : TSok K mg E tNext dSkip := fun F0 G π m σ F H fp Dn S p => p σ F H fp S
def dSeq (g1 g2 : M → Out Ctl) (m : M) : Out Ctl := (g1 m).bind fun c m1 => match c with
  | .nx => g2 m1
  | c => .ok c m1
theorem ts_seq (h1 : TSok K mg E t g1) (h2 : TSok K mg E u g2) : TSok K mg E (tSeq t u) (dSeq g1 g2) := fun F0 G π m σ F H fp Dn S p => by
  refine h1 F0 G π m σ F H fp _ S ?_
  unfold dSeq at p
  cases e : g1 m with
  | bad => rw [e] at p; exact p
  | exc c d m' => rw [e] at p; exact p
  | ok c m1 =>
    rw [e] at p
    cases c with
    | nx => exact fun σ' F' H' fp' S' => h2 F0 G π m1 σ' F' H' fp' Dn S' p
    | rt s => exact p
    | bk => exact p
    | ct => exact p
def dBreak (m : M) : Out Ctl := .ok .bk m
def dCont (m : M) : Out Ctl := .ok .ct m
theorem ts_break : TSok K mg E tBreak dBreak := fun F0 G π m σ F H fp Dn S p => p σ F H fp S
theorem ts_cont : TSok K mg E tCont dCont := fun F0 G π m σ F H fp Dn S p => p σ F H fp S
def dDrop (g : M → Out EV) (m : M) : Out Ctl := (g m).bind fun _ m1 => .ok .nx m1
theorem ts_drop (h : TEok K mg E pa ta ga) : TSok K mg E (tDrop ta) (dDrop ga) := fun F0 G π m σ F H fp Dn S p => by
  refine h F0 G π m σ F H fp _ S ?_
  unfold dDrop at p
  cases e : ga m with
  | bad => rw [e] at p; exact p
  | exc c d m' => rw [e] at p; exact p σ
  | ok ev m1 =>
    rw [e] at p
    exact fun v F' H' fp' S' _ _ => p σ F' H' fp' S'
def dAsg (g : M → Out EV) (b : EV → M → Out Unit) (m : M) : Out Ctl := (g m).bind fun ev m1 => match b ev m1 with
  | .ok _ m2 => .ok .nx m2
  | _ => .bad
theorem ts_asg {tg : TG} {b : EV → M → Out Unit} (h : TEok K mg E pa ta ga) (hg : TGok K tg b) : TSok K mg E (tAsg ta tg) (dAsg ga b) := fun F0 G π m σ F H fp Dn S p => by
  refine h F0 G π m σ F H fp _ S ?_
  unfold dAsg at p
  cases e : ga m with
  | bad => rw [e] at p; exact p
  | exc c d m' => rw [e] at p; exact p σ
  | ok ev m1 =>
    rw [e] at p
    intro v F' H' fp' S' _ ev'
    refine hg F0 G π m1 σ F' H' fp' _ v ev S' (ev'.imp fun _ _ => trivial) ?_
    have p : PostS K mg E F0 G π Dn (match b ev m1 with
      | .ok _ m2 => .ok .nx m2
      | _ => .bad) := p
    cases e2 : b ev m1 with
    | bad => rw [e2] at p; exact p.elim
    | exc c d m' => rw [e2] at p; exact p.elim
    | ok u m2 => rw [e2] at p; exact p
def dIf (gt : M → Out Bool) (g1 g2 : M → Out Ctl) (m : M) : Out Ctl := (gt m).bind fun b m1 => if b = true then g1 m1 else g2 m1
theorem ts_if (ht : TTok K mg E pa tt gt) (h1 : TSok K mg E t g1) (h2 : TSok K mg E u g2) : TSok K mg E (tIfS tt t u) (dIf gt g1 g2) := fun F0 G π m σ F H fp Dn S p => by
  refine ht F0 G π m σ F H fp _ S ?_
  unfold dIf at p
  cases e : gt m with
  | bad => rw [e] at p; exact p
  | exc c d m' => rw [e] at p; exact p σ
  | ok b m1 =>
    rw [e] at p
    intro F1 H1 fp1 S1 _
    have p : PostS K mg E F0 G π Dn (if b = true then g1 m1 else g2 m1) := p
    cases b with
    | true => exact h1 F0 G π m1 σ F1 H1 fp1 Dn S1 p
    | false => exact h2 F0 G π m1 σ F1 H1 fp1 Dn S1 p
/-- a result: an own thing leaves its slot, another part is frozen -/
def dRet (g : M → Out EV) (m : M) : Out Ctl := (g m).bind fun ev m1 => match ev with
  | .v d => .ok (.rt (.fz d)) m1
  | .fr s => .ok (.rt s) m1
  | .br (.s i) [] => match get m1 (.s i) with
    | some s => .ok (.rt s) { m1 with sl := m1.sl.set i none }
    | none => .bad
  | ev => (dFzE m1 ev).bind fun d m2 => .ok (.rt (.fz d)) m2
theorem ts_ret (h : TEok K mg E pa ta ga) : TSok K mg E (tRet ta) (dRet ga) := fun F0 G π m σ F H fp Dn S p => by
  refine h F0 G π m σ F H fp _ S ?_
  unfold dRet at p
  cases e : ga m with
  | bad => rw [e] at p; exact p
  | exc c d m' => rw [e] at p; exact p σ
  | ok ev m1 =>
    rw [e] at p
    intro v F' H' fp' S' _ ev'
    have gen : ∀ o q, ev = .br o q → PostS K mg E F0 G π Dn ((dFzE m1 ev).bind fun d m2 => .ok (.rt (.fz d)) m2) → Dn.rt v H' := fun o q eq p => by
      cases e2 : dFzE m1 ev with
      | bad => rw [e2] at p; exact p.elim
      | exc c d m' =>
        subst eq
        unfold dFzE at e2
        cases eg : get m1 o with
        | none => simp [eg] at e2
        | some r =>
          cases es : sub r q with
          | none => simp [eg, es] at e2
          | some s => simp [eg, es] at e2
      | ok d m2 =>
        rw [e2] at p
        obtain ⟨F2, fp2, S2, r, _⟩ := fzE_ok S' ev' e2
        exact p v σ F2 H' fp2 S2 ⟨[], ⟨r, rfl⟩, List.nodup_nil, fun a h => by cases h⟩
    cases ev with
    | v d => exact p v σ F' H' fp' S' ⟨[], ⟨ev', rfl⟩, List.nodup_nil, fun a h => by cases h⟩
    | fr s => exact p v σ F' H' fp' S' (ev'.imp fun _ _ => trivial)
    | br o q =>
      cases o with
      | p k => exact gen _ _ rfl p
      | s i =>
        cases q with
        | cons x q => exact gen _ _ rfl p
        | nil =>
          have p : PostS K mg E F0 G π Dn (match get m1 (.s i) with
            | some s => .ok (.rt s) { m1 with sl := m1.sl.set i none }
            | none => .bad) := p
          cases eg : get m1 (.s i) with
          | none => rw [eg] at p; exact p.elim
          | some s =>
            rw [eg] at p
            obtain ⟨w, h1, h2⟩ := ev'
            have h2 : v = w := h2
            subst h2
            obtain ⟨w', e1, o1⟩ := S'.own _ _ eg
            rw [h1] at e1; cases e1
            have T := S'.store i none none [] (fun s e => by cases e) (fun h => rfl) (fun k e => by cases e) List.nodup_nil (fun a h => by cases h) (.inr rfl)
            refine p v _ F' H' _ T ⟨fp' (.s i), o1, S'.nd _, fun a ha => ⟨(S'.fr _ a ha).1, (S'.fr _ a ha).2, fun o z => ?_, trivial⟩⟩
            have z : a ∈ (if o = Ow.s i then if i < m1.sl.length then [] else [] else fp' o) := z
            by_cases eo : o = .s i
            · rw [if_pos eo] at z
              by_cases hl : i < m1.sl.length
              · rw [if_pos hl] at z; cases z
              · rw [if_neg hl] at z; cases z
            · rw [if_neg eo] at z
              exact eo (S'.dj o (.s i) a z ha)
def dRetN (m : M) : Out Ctl := .ok (.rt (.fz .non)) m
theorem ts_retN : TSok K mg E tRetN dRetN := fun F0 G π m σ F H fp Dn S p => p .non σ F H fp S ⟨[], ⟨rfl, rfl⟩, List.nodup_nil, fun a h => by cases h⟩
end
end PD
namespace PD
open PySem PySem.Spec PyProof.Rows L2
/-! ## while -/
def iterW (st : M → Out Ctl) : Nat → M → Out Ctl
  | 0, _ => .bad
  | n + 1, m => match st m with
    | .ok .nx m' => iterW st n m'
    | .ok .ct m' => iterW st n m'
    | .ok .bk m' => .ok .nx m'
    | .ok (.rt s) m' => .ok (.rt s) m'
    | .exc c d m' => .exc c d m'
    | .bad => .bad
open Classical in
noncomputable def loopW (st : M → Out Ctl) (m : M) : Out Ctl := if h : ∃ n, iterW st n m ≠ .bad then iterW st (choose h) m else .bad
theorem iterW_add (st : M → Out Ctl) : ∀ (n k : Nat) (m : M), iterW st n m ≠ .bad → iterW st (n + k) m = iterW st n m
  | 0, _, _, h => absurd rfl h
  | n + 1, k, m, h => by
    rw [Nat.add_right_comm]
    unfold iterW at h ⊢
    cases e : st m with
    | bad => rfl
    | exc c d m' => rfl
    | ok c m' =>
      rw [e] at h
      cases c with
      | nx => exact iterW_add st n k m' h
      | ct => exact iterW_add st n k m' h
      | bk => rfl
      | rt s => rfl
theorem iterW_two {st : M → Out Ctl} {n k : Nat} {m : M} (h : iterW st n m ≠ .bad) (h' : iterW st k m ≠ .bad) : iterW st n m = iterW st k m := by
  rw [← iterW_add st n k m h, Nat.add_comm, iterW_add st k n m h']
theorem loopW_of {st : M → Out Ctl} {n : Nat} {m : M} (h : iterW st n m ≠ .bad) : loopW st m = iterW st n m := by
  unfold loopW
  have ex : ∃ n, iterW st n m ≠ .bad := ⟨n, h⟩
  rw [dif_pos ex]
  exact iterW_two (Classical.choose_spec ex) h
theorem loopW_ex {st : M → Out Ctl} {m : M} (h : loopW st m ≠ .bad) : ∃ n, iterW st n m = loopW st m := by
  unfold loopW at h ⊢
  by_cases ex : ∃ n, iterW st n m ≠ .bad
  · exact ⟨Classical.choose ex, by rw [dif_pos ex]⟩
  · rw [dif_neg ex] at h; exact absurd rfl h
/-- one turn, then the rest -/
theorem loopW_eq (st : M → Out Ctl) (m : M) : loopW st m = match st m with
    | .ok .nx m' => loopW st m'
    | .ok .ct m' => loopW st m'
    | .ok .bk m' => .ok .nx m'
    | .ok (.rt s) m' => .ok (.rt s) m'
    | .exc c d m' => .exc c d m'
    | .bad => .bad := by
  have key : ∀ m', (st m = .ok .nx m' ∨ st m = .ok .ct m') → loopW st m = loopW st m' := fun m' h => by
    have step : ∀ n, iterW st (n + 1) m = iterW st n m' := fun n => by
      rcases h with h | h <;> (rw [iterW, h])
    by_cases ex : ∃ n, iterW st n m' ≠ .bad
    · obtain ⟨n, hn⟩ := ex
      have h1 : iterW st (n + 1) m ≠ .bad := by rw [step]; exact hn
      rw [loopW_of h1, loopW_of hn, step]
    · have ex' : ¬ ∃ n, iterW st n m ≠ .bad := fun ⟨n, hn⟩ => by
        cases n with
        | zero => exact hn rfl
        | succ n => exact ex ⟨n, by rw [← step]; exact hn⟩
      unfold loopW
      rw [dif_neg ex, dif_neg ex']
  have key2 : ∀ o, o ≠ .bad → iterW st 1 m = o → loopW st m = o := fun o ho h => by
    have := loopW_of (st := st) (n := 1) (m := m) (by rw [h]; exact ho)
    rw [this, h]
  cases e : st m with
  | bad =>
    unfold loopW
    rw [dif_neg]
    rintro ⟨n, hn⟩
    cases n with
    | zero => exact hn rfl
    | succ n => exact hn (by rw [iterW, e])
  | exc c d m' => exact key2 _ (fun z => nomatch z) (by rw [iterW, e])
  | ok c m' =>
    cases c with
    | nx => exact key m' (.inl e)
    | ct => exact key m' (.inr e)
    | bk => exact key2 _ (fun z => nomatch z) (by rw [iterW, e])
    | rt s => exact key2 _ (fun z => nomatch z) (by rw [iterW, e])
def stepW (gt : M → Out Bool) (gb : M → Out Ctl) (m : M) : Out Ctl := (gt m).bind fun b m1 => if b = true then gb m1 else .ok .bk m1
noncomputable def dWhile (gt : M → Out Bool) (gb : M → Out Ctl) (m : M) : Out Ctl := loopW (stepW gt gb) m
section
variable {K : Kf} {mg : Str → Option Value} {E : XS} {pa pb pc pu : Bool} {t u : TS} {g1 g2 : M → Out Ctl} {tt : TT} {gt : M → Out Bool}
theorem ts_while (ht : TTok K mg E pa tt gt) (h1 : TSok K mg E t g1) : TSok K mg E (tWhile tt t) (dWhile gt g1) := fun F0 G π m σ F H fp Dn S p => by
  generalize hr : dWhile gt g1 m = r at p
  have nb : r ≠ .bad := fun z => by rw [z] at p; exact p
  obtain ⟨n0, hn0⟩ := loopW_ex (st := stepW gt g1) (m := m) (by show dWhile gt g1 m ≠ _; rw [hr]; exact nb)
  have hn0 : iterW (stepW gt g1) n0 m = r := hn0.trans hr
  refine ⟨fun k σ H => ∃ m F fp, StF K F0 G π m σ F H fp ∧ iterW (stepW gt g1) k m = r, ⟨n0, m, F, fp, S, hn0⟩, ?_⟩
  rintro k σ1 H1 ⟨m1, F1, fp1, S1, e1⟩
  cases k with
  | zero => exact absurd e1.symm nb
  | succ k =>
    refine ht F0 G π m1 σ1 F1 H1 fp1 _ S1 ?_
    rw [iterW] at e1
    unfold stepW at e1
    cases e : gt m1 with
    | bad => rw [e] at e1; exact absurd e1.symm nb
    | exc c d m' =>
      rw [e] at e1
      subst e1
      exact p σ1
    | ok b m2 =>
      rw [e] at e1
      intro F2 H2 fp2 S2 _
      cases b with
      | false =>
        have e1 : Out.ok Ctl.nx m2 = r := e1
        subst e1
        exact p σ1 F2 H2 fp2 S2
      | true =>
        have e1 : (match g1 m2 with
          | .ok .nx m' => iterW (stepW gt g1) k m'
          | .ok .ct m' => iterW (stepW gt g1) k m'
          | .ok .bk m' => .ok .nx m'
          | .ok (.rt s) m' => .ok (.rt s) m'
          | .exc c d m' => .exc c d m'
          | .bad => .bad) = r := e1
        refine ⟨fun σ' H' => ∃ m F fp, StF K F0 G π m σ' F H' fp ∧ iterW (stepW gt g1) k m = r, fun σ' H' hN => ⟨k, Nat.lt_succ_self k, hN⟩, h1 F0 G π m2 σ1 F2 H2 fp2 _ S2 ?_⟩
        cases e3 : g1 m2 with
        | bad => rw [e3] at e1; exact absurd e1.symm nb
        | exc c d m' =>
          rw [e3] at e1
          subst e1
          exact p
        | ok c m3 =>
          rw [e3] at e1
          cases c with
          | nx => exact fun σ' F' H' fp' S' => ⟨m3, F', fp', S', e1⟩
          | ct => exact fun σ' F' H' fp' S' => ⟨m3, F', fp', S', e1⟩
          | bk =>
            have e1 : Out.ok Ctl.nx m3 = r := e1
            subst e1
            exact p
          | rt s =>
            have e1 : Out.ok (Ctl.rt s) m3 = r := e1
            subst e1
            exact p
/-! ## for -/
/-- a walk: its items, as long as live holds -/
structure Wk where
  items : List D
  live : M → Prop
def ItOk (K : Kf) (F0 G : Hp) (π : List V) (J : It) (F1 : Hp) (w : Wk) : Prop :=
  ∀ m σ F H fp, StF K F0 G π m σ F H fp → Same F1 F → w.live m → (∀ i d, w.items[i]? = some d → J.go i H ∧ ∀ x H2, J.yld i H x H2 → ∃ F2, StF K F0 G π m σ F2 H2 fp ∧ Same F F2 ∧ Same H H2 ∧ (∀ a, F2 a ≠ none → F a ≠ none ∨ H a = none) ∧ Rep K F2 d x) ∧ J.stop w.items.length H
def PostI (K : Kf) (mg : Str → Option Value) (E : XS) (F0 G : Hp) (π : List V) (σ : L2.St) (F : Hp) (R : It → Hp → Prop) : Out Wk → Prop
  | .ok w m' => ∀ J F' H' fp', StF K F0 G π m' σ F' H' fp' → Same F F' → (∀ F0' G', Same G G' → Same F0 F0' → ItOk K F0' G' π J F' w) → R J H'
  | .exc c d m' => ExcW K mg F0 G π E σ c d m'
  | .bad => False
def TIok (K : Kf) (mg : Str → Option Value) (E : XS) (wi : TI) (gi : M → Out Wk) : Prop :=
  ∀ F0 G π m σ F H fp (R : It → Hp → Prop), StF K F0 G π m σ F H fp → PostI K mg E F0 G π σ F R (gi m) → wi σ H R
open Classical in
noncomputable def forI (live : M → Prop) (tg : EV → M → Out Unit) (gb : M → Out Ctl) : List D → M → Out Ctl
  | [], m => if live m then .ok .nx m else .bad
  | d :: r, m => if live m then (match tg (.v d) m with
      | .ok _ m1 => (match gb m1 with
        | .ok .nx m2 => forI live tg gb r m2
        | .ok .ct m2 => forI live tg gb r m2
        | .ok .bk m2 => .ok .nx m2
        | .ok (.rt s) m2 => .ok (.rt s) m2
        | .exc c d m2 => .exc c d m2
        | .bad => .bad)
      | _ => .bad) else .bad
noncomputable def dFor (gi : M → Out Wk) (tg : EV → M → Out Unit) (gb : M → Out Ctl) (m : M) : Out Ctl := (gi m).bind fun w m1 => forI w.live tg gb w.items m1
theorem ts_for {wi : TI} {gi : M → Out Wk} {tg : TG} {b : EV → M → Out Unit} (hi : TIok K mg E wi gi) (hg : TGok K tg b) (h1 : TSok K mg E t g1) : TSok K mg E (tFor wi tg t) (dFor gi b g1) := fun F0 G π m σ F H fp Dn S p => by
  refine hi F0 G π m σ F H fp _ S ?_
  unfold dFor at p
  cases e : gi m with
  | bad => rw [e] at p; exact p
  | exc c d m' => rw [e] at p; exact p σ
  | ok w m1 =>
    rw [e] at p
    intro J F1 H1 fp1 S1 _ hJ
    have p : PostS K mg E F0 G π Dn (forI w.live b g1 w.items m1) := p
    generalize hr : forI w.live b g1 w.items m1 = r at p
    have nb : r ≠ .bad := fun z => by rw [z] at p; exact p
    refine ⟨fun i k σ H => ∃ m F fp, StF K F0 G π m σ F H fp ∧ Same F1 F ∧ i + k = w.items.length ∧ forI w.live b g1 (w.items.drop i) m = r, ⟨w.items.length, m1, F1, fp1, S1, Same.refl _, Nat.zero_add _, hr⟩, ?_⟩
    rintro i k σ2 H2 ⟨m2, F2, fp2, S2, s2, el, e2⟩
    have hlv : w.live m2 := by
      apply Classical.byContradiction
      intro hl
      cases el2 : w.items.drop i with
      | nil => rw [el2, forI, if_neg hl] at e2; exact nb e2.symm
      | cons d r' => rw [el2, forI, if_neg hl] at e2; exact nb e2.symm
    have jj := hJ F0 G (Same.refl _) (Same.refl _) m2 σ2 F2 H2 fp2 S2 s2 hlv
    cases ed : w.items.drop i with
    | nil =>
      left
      rw [ed, forI, if_pos hlv] at e2
      have hlen : w.items.length ≤ i := List.drop_eq_nil_iff.mp ed
      have hi' : i = w.items.length := by omega
      subst hi'
      refine ⟨jj.2, ?_⟩
      subst e2
      exact p σ2 F2 H2 fp2 S2
    | cons d r' =>
      right
      have hd : w.items[i]? = some d := by
        have := List.getElem?_drop (xs := w.items) (i := i) (j := 0)
        rw [ed] at this
        simpa using this.symm
      have hr' : w.items.drop (i + 1) = r' := by
        rw [← List.drop_drop, ed]
        rfl
      have hlt : i < w.items.length := by
        rcases Nat.lt_or_ge i w.items.length with z | z
        · exact z
        · rw [List.drop_eq_nil_of_le z] at ed; cases ed
      obtain ⟨j1, j2⟩ := jj.1 i d hd
      refine ⟨j1, fun σ' H' => ∃ m F fp, StF K F0 G π m σ' F H' fp ∧ Same F1 F ∧ forI w.live b g1 (w.items.drop (i + 1)) m = r, ?_, ?_⟩
      · rintro σ' H' ⟨m3, F3, fp3, S3, s3, e3⟩
        exact ⟨k - 1, by omega, m3, F3, fp3, S3, s3, by omega, e3⟩
      · intro x H3 hy
        obtain ⟨F3, S3, s3, _, _, hx⟩ := j2 x H3 hy
        rw [ed, forI, if_pos hlv] at e2
        refine hg F3 G π m2 σ2 F3 H3 fp2 _ x (.v d) S3.rebase hx ?_
        cases eb : b (.v d) m2 with
        | bad => rw [eb] at e2; exact absurd e2.symm nb
        | exc c d' m' => rw [eb] at e2; exact absurd e2.symm nb
        | ok u m3 =>
          rw [eb] at e2
          intro σ4 F4 H4 fp4 S4
          have e2 : (match g1 m3 with
            | .ok .nx m2 => forI w.live b g1 r' m2
            | .ok .ct m2 => forI w.live b g1 r' m2
            | .ok .bk m2 => .ok .nx m2
            | .ok (.rt s) m2 => .ok (.rt s) m2
            | .exc c d m2 => .exc c d m2
            | .bad => .bad) = r := e2
          have U : ∀ {m' : M} {σ' : L2.St} {F' H' : Hp} {fp' : Ow → List Addr}, StF K F4 G π m' σ' F' H' fp' → StF K F0 G π m' σ' F' H' fp' := fun T => S3.unbase (S4.unbase T)
          refine h1 F4 G π m3 σ4 F4 H4 fp4 _ S4.rebase ?_
          have fin : ∀ m4, forI w.live b g1 r' m4 = r → ∀ σ' F' H' fp', StF K F4 G π m4 σ' F' H' fp' → ∃ m F fp, StF K F0 G π m σ' F H' fp ∧ Same F1 F ∧ forI w.live b g1 (w.items.drop (i + 1)) m = r := fun m4 e4 σ' F' H' fp' S5 =>
            ⟨m4, F', fp', U S5, ((s2.trans s3).trans S4.mono).trans S5.mono, by rw [hr']; exact e4⟩
          cases ec : g1 m3 with
          | bad => rw [ec] at e2; exact absurd e2.symm nb
          | exc c d' m' =>
            rw [ec] at e2
            subst e2
            exact fun σ' C dx v F' H' fp' hC T hd hr => p σ' C dx v F' H' fp' hC (U T) hd hr
          | ok c m4 =>
            rw [ec] at e2
            cases c with
            | nx => exact fin m4 e2
            | ct => exact fin m4 e2
            | bk =>
              have e2 : Out.ok Ctl.nx m4 = r := e2
              subst e2
              exact fun σ' F' H' fp' T => p σ' F' H' fp' (U T)
            | rt s =>
              have e2 : Out.ok (Ctl.rt s) m4 = r := e2
              subst e2
              exact fun v σ' F' H' fp' T ev => p v σ' F' H' fp' (U T) ev
/-! ### what is walked -/
def allFz : List SV → Option (List D)
  | [] => some []
  | .fz d :: r => (allFz r).map (d :: ·)
  | _ :: _ => none
/-- freeze in place, an operand -/
def dFz (g : M → Out EV) (m : M) : Out EV := (g m).bind fun ev m1 => (dFzE m1 ev).bind fun d m2 => .ok (.v d) m2
theorem te_fz {ta : TE} {ga : M → Out EV} (h : TEok K mg E pa ta ga) : TEok K mg E false ta (dFz ga) := fun F0 G π m σ F H fp Q S p => by
  refine h F0 G π m σ F H fp _ S ?_
  unfold dFz at p
  cases e : ga m with
  | bad => rw [e] at p; exact p
  | exc c d m' => rw [e] at p; exact p
  | ok ev m1 =>
    rw [e] at p
    intro v F1 H1 fp1 S1 c1 e1
    have p : PostE K mg E false F0 G π m σ F H fp Q ((dFzE m1 ev).bind fun d m2 => .ok (.v d) m2) := p
    cases e2 : dFzE m1 ev with
    | bad => rw [e2] at p; exact p.elim
    | exc c d m' =>
      exfalso
      cases ev with
      | v d => cases e2
      | fr s => cases e2
      | br o q =>
        unfold dFzE at e2
        cases eg : get m1 o with
        | none => simp [eg] at e2
        | some r =>
          cases es : sub r q with
          | none => simp [eg, es] at e2
          | some s => simp [eg, es] at e2
    | ok d m2 =>
      rw [e2] at p
      obtain ⟨F2, fp2, S2, r, s2⟩ := fzE_ok S1 e1 e2
      exact p v F2 H1 fp2 S2 ⟨c1.ext.trans s2, fun z => by cases z⟩ r
/-- the items of a frozen list or tuple -/
def seqOf : EV → Option (List D)
  | .v (.tup ds) => some ds
  | .v (.lst ds) => some ds
  | _ => none
def dISeq (g : M → Out EV) (m : M) : Out Wk := (dFz g m).bind fun ev m1 => match seqOf ev with
  | some ds => .ok ⟨ds, fun _ => True⟩ m1
  | none => .bad
theorem repAll_get {F : Hp} : ∀ {ds : List D} {vs : List V}, RepAll K F ds vs → ∀ {i : Nat} {d : D}, ds[i]? = some d → ∃ v, vs[i]? = some v ∧ Rep K F d v
  | [], _, _, _, _, h => by simp at h
  | x :: ds, _, ⟨v, r, e, h1, h2⟩, 0, d, h => by
    subst e
    simp at h; subst h
    exact ⟨v, by simp, h1⟩
  | x :: ds, _, ⟨v, r, e, h1, h2⟩, i + 1, d, h => by
    subst e
    obtain ⟨w, e, hw⟩ := repAll_get h2 (i := i) (d := d) (by simpa using h)
    exact ⟨w, by simpa using e, hw⟩
def iSeq (K : Kf) (tl : TE) : TI := fun σ H R => iList K tl σ H R ∨ iTup K tl σ H R
theorem pi_or {X : Cx} {tg iter : Expr} {w1 w2 : TI} (h1 : PI X tg iter w1) (h2 : PI X tg iter w2) : PI X tg iter (fun σ H R => w1 σ H R ∨ w2 σ H R) :=
  ⟨fun pins s σ H R I h => h.elim (h1.run pins s σ H R I) (h2.run pins s σ H R I)⟩
theorem itt_ok {KX : Kf} (up : Up K KX) {F0 G F1 : Hp} {π : List V} {a : Addr} {vs : List V} {ds : List D} (hs : TupAt K F1 a vs) (hr : RepAll K F1 ds vs) : ItOk K F0 G π (Itt KX a) F1 ⟨ds, fun _ => True⟩ :=
  fun m σ F H fp S s _ => by
    have hH : SqT KX H a vs := (same_t S.sub (same_t s hs)).sq
    refine ⟨fun i d e => ?_, ⟨vs, hH, Nat.le_of_eq (repAll_len hr)⟩⟩
    obtain ⟨v, ev, rv⟩ := repAll_get hr e
    refine ⟨⟨vs, v, hH, ev⟩, fun x H2 hy => ?_⟩
    obtain ⟨rfl, hx⟩ := hy
    have := hx vs hH
    rw [ev] at this
    cases this
    exact ⟨F, S, Same.refl _, Same.refl _, fun _ h => .inl h, rv.mono s _ _⟩
theorem ti_seq {KX : Kf} (up : Up K KX) {ta : TE} {ga : M → Out EV} (h : TEok K mg E pa ta ga) : TIok K mg E (iSeq KX ta) (dISeq ga) := fun F0 G π m σ F H fp R S p => by
  unfold dISeq at p
  cases e : dFz ga m with
  | bad => rw [e] at p; exact p.elim
  | exc c d m' =>
    rw [e] at p
    refine .inl (te_fz h F0 G π m σ F H fp _ S ?_)
    rw [e]; exact p
  | ok ev m1 =>
    rw [e] at p
    cases ev with
    | br o q => exact p.elim
    | fr s => exact p.elim
    | v d =>
      cases d with
      | tup ds =>
        refine .inr (te_fz h F0 G π m σ F H fp _ S ?_)
        rw [e]
        intro v F1 H1 fp1 S1 c1 e1
        obtain ⟨a, vs, ev, hs, hr⟩ := e1
        exact ⟨a, ev, ⟨vs, (same_t S1.sub hs).sq⟩, p (Itt KX a) F1 H1 fp1 S1 c1.ext fun _ _ _ _ => itt_ok up hs hr⟩
      | lst ds =>
        refine .inl (te_fz h F0 G π m σ F H fp _ S ?_)
        rw [e]
        intro v F1 H1 fp1 S1 c1 e1
        obtain ⟨a, vs, ev, hs, hr⟩ := e1
        refine ⟨a, ev, ⟨vs, (same_l S1.sub hs).sq⟩, p (Itl KX a) F1 H1 fp1 S1 c1.ext fun F0' G' _ _ => ?_⟩
        intro m2 σ2 F2 H2 fp2 S2 s2 _
        have hH : SqL KX H2 a vs := (same_l S2.sub (same_l s2 hs)).sq
        refine ⟨fun i d e => ?_, ⟨vs, hH, Nat.le_of_eq (repAll_len hr)⟩⟩
        obtain ⟨v, ev, rv⟩ := repAll_get hr e
        refine ⟨⟨vs, v, hH, ev⟩, fun x H3 hy => ?_⟩
        obtain ⟨rfl, hx⟩ := hy
        have := hx vs hH
        rw [ev] at this
        cases this
        exact ⟨F2, S2, Same.refl _, Same.refl _, fun _ h => .inl h, rv.mono s2 _ _⟩
      | _ => exact p.elim
end
end PD
namespace PD
open PySem PySem.Spec PyProof.Rows L2
/-! ## comprehensions -/
def bigLen : Nat := 1000000
theorem big_lt {n : Nat} (h : n < bigLen) : n < sizeLine := Nat.lt_of_lt_of_le h (by decide)
theorem big_le {n : Nat} (h : n ≤ bigLen) : n ≤ sizeLine := Nat.le_trans h (by decide)
def wipeM (m : M) : List Nat → M
  | [] => m
  | v :: vs => let r := wipeM m vs; { r with sl := r.sl.set v none }
def restM (m m0 : M) : List Nat → M
  | [] => m
  | v :: vs => restM { m with sl := m.sl.set v (m0.sl[v]?.join) } m0 vs
def plainSl : Option Sl → Bool
  | none => true
  | some (.sv (.fz _)) => true
  | _ => false
/-- an item that is kept: new things are owned by the list -/
def elem (m : M) : EV → Out SV
  | .v d => .ok (.fz d) m
  | .fr s => .ok s m
  | .br o p => (dFzE m (.br o p)).bind fun d m1 => .ok (.fz d) m1
open Classical in
noncomputable def compI (live : M → Prop) (vs : List Nat) (b : EV → M → Out Unit) (gt : M → Out Bool) (ge : M → Out EV) : List D → List SV → M → Out (List SV)
  | [], acc, m => if live m then .ok acc m else .bad
  | d :: r, acc, m => if live m then (match b (.v d) m with
      | .ok _ m1 => (match gt m1 with
        | .ok true m2 => (match ge m2 with
          | .ok ev m3 => (match elem m3 ev with
            | .ok s m4 => if acc.length < bigLen then compI live vs b gt ge r (acc ++ [s]) (wipeM m4 vs) else .bad
            | _ => .bad)
          | _ => .bad)
        | .ok false m2 => compI live vs b gt ge r acc (wipeM m2 vs)
        | _ => .bad)
      | _ => .bad) else .bad
noncomputable def dComp (gi : M → Out Wk) (vs : List Nat) (b : EV → M → Out Unit) (gt : M → Out Bool) (ge : M → Out EV) (m : M) : Out EV :=
  (gi m).bind fun w m1 => if vs.all (fun v => plainSl (m1.sl[v]?.join)) = true then
    (match compI w.live vs b gt ge w.items [] (wipeM m1 vs) with
      | .ok xs m2 => .ok (.fr (.ol xs)) (restM m2 m1 vs)
      | _ => .bad) else .bad
section
variable {K : Kf} {mg : Str → Option Value} {E : XS} {pa pb pc pu : Bool}
section
variable {F0 G : Hp} {π : List V} {m : M} {σ : L2.St} {F H : Hp} {fp : Ow → List Addr}
theorem StF.wipe (S : StF K F0 G π m σ F H fp) : ∀ vs : List Nat, ∃ fp', StF K F0 G π (wipeM m vs) (L2.wipe σ vs) F H fp' ∧ ∀ o a, a ∈ fp' o → a ∈ fp o
  | [] => ⟨fp, S, fun _ _ h => h⟩
  | v :: vs => by
    obtain ⟨fp1, S1, h1⟩ := StF.wipe S vs
    refine ⟨_, S1.store v none none [] (fun s e => by cases e) (fun h => rfl) (fun k e => by cases e) List.nodup_nil (fun a h => by cases h) (.inr rfl), fun o a h => ?_⟩
    have h : a ∈ (if o = Ow.s v then if v < (wipeM m vs).sl.length then [] else [] else fp1 o) := h
    by_cases eo : o = .s v
    · rw [if_pos eo] at h
      by_cases hl : v < (wipeM m vs).sl.length
      · rw [if_pos hl] at h; cases h
      · rw [if_neg hl] at h; cases h
    · rw [if_neg eo] at h; exact h1 o a h
theorem wipe_get {σ : L2.St} {j : Nat} : ∀ {vs : List Nat}, j ∉ vs → (L2.wipe σ vs)[j]? = σ[j]?
  | [], _ => rfl
  | v :: vs, h => by
    rw [List.mem_cons, not_or] at h
    unfold L2.wipe
    rw [List.getElem?_set_ne (Ne.symm h.1)]
    exact wipe_get h.2
theorem wipe_back {σ : L2.St} {v : Nat} {vs : List Nat} (h : v ∉ vs) : (L2.wipe σ (v :: vs)).set v (σ[v]?.join) = L2.wipe σ vs := by
  apply List.ext_getElem?
  intro j
  show (((L2.wipe σ vs).set v none).set v (σ[v]?.join))[j]? = _
  rw [List.set_set]
  by_cases e : v = j
  · subst e
    by_cases hl : v < (L2.wipe σ vs).length
    · rw [List.getElem?_set_self hl, wipe_get h]
      have hs : v < σ.length := by rw [wipe_length] at hl; exact hl
      rw [List.getElem?_eq_getElem hs]
      rfl
    · rw [List.getElem?_eq_none (by simpa using Nat.le_of_not_lt hl), List.getElem?_eq_none (Nat.le_of_not_lt hl)]
  · rw [List.getElem?_set_ne e]
theorem join_get {α : Type} {l : List (Option α)} {i : Nat} {x : α} (h : l[i]?.join = some x) : l[i]? = some (some x) := by
  cases e : l[i]? with
  | none => rw [e] at h; cases h
  | some y => rw [e] at h; cases y with
    | none => cases h
    | some z => cases h; rfl
/-- the block's own slots get back what they had -/
theorem StF.restore {m0 : M} {F1 H1 : Hp} {fp1 : Ow → List Addr} {G1 : Hp} (S0 : StF K F0 G1 π m0 σ F1 H1 fp1) : ∀ (vs : List Nat) {m : M} {F H : Hp} {fp : Ow → List Addr}, vs.Nodup → StF K F0 G π m (L2.wipe σ vs) F H fp → Same F1 F → vs.all (fun v => plainSl (m0.sl[v]?.join)) = true → ∃ fp', StF K F0 G π (restM m m0 vs) σ F H fp' ∧ ∀ o a, a ∈ fp' o → a ∈ fp o
  | [], m, F, H, fp, _, S, _, _ => ⟨fp, S, fun _ _ h => h⟩
  | v :: vs, m, F, H, fp, nd, S, s, al => by
    rw [List.nodup_cons] at nd
    rw [List.all_cons, Bool.and_eq_true] at al
    have fin : ∀ x w, StF K F0 G π { m with sl := m.sl.set v x } ((L2.wipe σ (v :: vs)).set v w) F H (fun o => if o = .s v then (if v < m.sl.length then [] else []) else fp o) → x = m0.sl[v]?.join → w = σ[v]?.join → ∃ fp', StF K F0 G π (restM m m0 (v :: vs)) σ F H fp' ∧ ∀ o a, a ∈ fp' o → a ∈ fp o := fun x w T hx hw => by
      subst hx hw
      rw [wipe_back nd.1] at T
      obtain ⟨fp2, T2, h2⟩ := StF.restore S0 vs nd.2 T s al.2
      refine ⟨fp2, T2, fun o a h => ?_⟩
      have h := h2 o a h
      have h : a ∈ (if o = Ow.s v then (if v < m.sl.length then [] else []) else fp o) := h
      by_cases eo : o = .s v
      · rw [if_pos eo] at h
        by_cases hl : v < m.sl.length
        · rw [if_pos hl] at h; cases h
        · rw [if_neg hl] at h; cases h
      · rw [if_neg eo] at h; exact h
    cases e : m0.sl[v]?.join with
    | none =>
      refine fin none (σ[v]?.join) ?_ e.symm rfl
      exact S.store v none _ [] (fun s e => by cases e) (fun h => rfl) (fun k e => by cases e) List.nodup_nil (fun a h => by cases h) (.inr rfl)
    | some y =>
      rw [e] at al
      cases y with
      | pa k => cases al.1
      | sv r =>
        cases r with
        | fz d =>
          have hg : get m0 (.s v) = some (.fz d) := by simp [get, join_get e]
          obtain ⟨w, h1, h2⟩ := S0.own _ _ hg
          have hw := refO_some h1
          refine fin _ (some w) (S.store v _ _ [] (fun s e => by cases e; exact ⟨w, rfl, h2.1.mono s _ _, rfl⟩) (fun h => rfl) (fun k e => by cases e) List.nodup_nil (fun a h => by cases h) (.inr rfl)) e.symm (by rw [hw]; rfl)
        | ol _ => cases al.1
        | ok _ => cases al.1
        | ot _ => cases al.1
/-- an object that nobody owns is changed -/
theorem StF.poke (S : StF K F0 G π m σ F H fp) {D : Addr} (o : HO) (h1 : F D = none) (h2 : G D = none) (h3 : ∀ o, D ∉ fp o) : StF K F0 G π m σ F (upd H D o) fp := by
  have ne : ∀ (A : Hp) a x, A D = none → A a = some x → upd H D o a = H a := fun A a x n e => upd_ne fun z => by rw [z, n] at e; cases e
  refine ⟨S.len, S.plen, fun a x e => by rw [ne F a x h1 e]; exact S.sub a x e, fun a x e => by rw [ne G a x h2 e]; exact S.base a x e, S.mono, S.new, fun o' s e => ?_, S.non, S.ali, S.nd, S.dj, S.fr⟩
  obtain ⟨v, e1, e2⟩ := S.own o' s e
  exact ⟨v, e1, e2.keep (Same.refl F) _ _ _ fun a ha => upd_ne fun z => h3 o' (z ▸ ha)⟩
end
/-- a target that stores into the block's own slots alone -/
def OwnT' (g : TG) (vs : List Nat) : Prop := ∀ (v : V) (σ : L2.St) (H : Hp) (Q : L2.St → Hp → Prop), g v σ H (fun σ' H' => L2.wipe σ' vs = L2.wipe σ vs → Q σ' H') → g v σ H Q
def OwnTs' (g : TGs) (vs : List Nat) : Prop := ∀ (v : List V) (σ : L2.St) (H : Hp) (Q : L2.St → Hp → Prop), g v σ H (fun σ' H' => L2.wipe σ' vs = L2.wipe σ vs → Q σ' H') → g v σ H Q
theorem wipe_set {σ : L2.St} {i : Nat} {x : Option V} : ∀ {vs : List Nat}, i ∈ vs → L2.wipe (σ.set i x) vs = L2.wipe σ vs
  | v :: vs, h => by
    unfold L2.wipe
    by_cases hi : i ∈ vs
    · rw [wipe_set hi]
    · have e : i = v := by
        rcases List.mem_cons.mp h with z | z
        · exact z
        · exact absurd z hi
      subst e
      have : ∀ (ws : List Nat), i ∉ ws → (L2.wipe (σ.set i x) ws).set i none = (L2.wipe σ ws).set i none := by
        intro ws
        induction ws with
        | nil => intro _; show (σ.set i x).set i none = σ.set i none; rw [List.set_set]
        | cons w ws ih =>
          intro hw
          rw [List.mem_cons, not_or] at hw
          unfold L2.wipe
          rw [List.set_comm _ _ (Ne.symm hw.1), ih hw.2, List.set_comm _ _ hw.1]
      exact this vs hi
theorem wipe_wipe {σ : L2.St} : ∀ vs : List Nat, L2.wipe (L2.wipe σ vs) vs = L2.wipe σ vs
  | [] => rfl
  | v :: vs => by
    have e : L2.wipe ((L2.wipe σ vs).set v none) (v :: vs) = L2.wipe (L2.wipe σ vs) (v :: vs) := wipe_set List.mem_cons_self
    show L2.wipe ((L2.wipe σ vs).set v none) (v :: vs) = _
    rw [e]
    show (L2.wipe (L2.wipe σ vs) vs).set v none = (L2.wipe σ vs).set v none
    rw [wipe_wipe vs]
theorem ownT_name {i : Nat} {vs : List Nat} (h : i ∈ vs) : OwnT' (gName i) vs := fun v σ H Q q => q (wipe_set h)
theorem ownTs_nil {vs : List Nat} : OwnTs' gNil vs := fun v σ H Q q => ⟨q.1, q.2 rfl⟩
/-- targets that hand on what is wanted -/
def MonT (g : TG) : Prop := ∀ (v : V) (σ : L2.St) (H : Hp) (Q Q' : L2.St → Hp → Prop), g v σ H Q → (∀ σ' H', Q σ' H' → Q' σ' H') → g v σ H Q'
theorem mon_name {i : Nat} : MonT (gName i) := fun v σ H Q Q' h k => k _ _ h
theorem ownTs_cons {g : TG} {gs : TGs} {vs : List Nat} (hm : MonT g) (h1 : OwnT' g vs) (h2 : OwnTs' gs vs) : OwnTs' (gCons g gs) vs := fun v σ H Q q => by
  obtain ⟨x, r, e, q⟩ := q
  refine ⟨x, r, e, h1 x σ H _ (hm x σ H _ _ q fun σ' H' q' hw => h2 r σ' H' _ ?_)⟩
  rw [hw]
  exact q'
theorem ownT_tup {KX : Kf} {n : Nat} {gs : TGs} {vs : List Nat} (h : OwnTs' gs vs) : OwnT' (gTup KX n gs) vs := fun v σ H Q q => by
  obtain ⟨a, xs, e, hs, hl, q⟩ := q
  exact ⟨a, xs, e, hs, hl, h xs σ H Q q⟩
/-- an item as it is kept -/
theorem elem_ok {F0 G : Hp} {π : List V} {m m' : M} {σ : L2.St} {F H : Hp} {fp : Ow → List Addr} {N : Addr → Prop} {v : V} {ev : EV} {s : SV} (S : StF K F0 G π m σ F H fp) (h : EvF K G π σ F H fp N v ev) (e : elem m ev = .ok s m') :
    ∃ F' fp' q, StF K F0 G π m' σ F' H fp' ∧ Same F F' ∧ Own K F' H s v q ∧ q.Nodup ∧ ∀ a ∈ q, F' a = none ∧ G a = none ∧ ∀ o, a ∉ fp' o := by
  cases ev with
  | v d => cases e; exact ⟨F, fp, [], S, Same.refl F, ⟨h, rfl⟩, List.nodup_nil, fun a h => by cases h⟩
  | fr s =>
    cases e
    obtain ⟨q, h1, h2, h3⟩ := h
    exact ⟨F, fp, q, S, Same.refl F, h1, h2, fun a ha => ⟨(h3 a ha).1, (h3 a ha).2.1, (h3 a ha).2.2.1⟩⟩
  | br o p =>
    have e : (dFzE m (.br o p)).bind (fun d m1 => Out.ok (SV.fz d) m1) = .ok s m' := e
    cases e2 : dFzE m (.br o p) with
    | bad => rw [e2] at e; cases e
    | exc c d m' => rw [e2] at e; cases e
    | ok d m1 =>
      rw [e2] at e
      cases e
      obtain ⟨F', fp', S', r, s'⟩ := fzE_ok S h e2
      exact ⟨F', fp', [], S', s', ⟨r, rfl⟩, List.nodup_nil, fun a h => by cases h⟩
theorem ownL_app {F H : Hp} : ∀ {xs : List SV} {vs : List V} {q : List Addr} {x : SV} {v : V} {r : List Addr}, OwnL K F H xs vs q → Own K F H x v r → OwnL K F H (xs ++ [x]) (vs ++ [v]) (q ++ r)
  | [], vs, q, x, v, r, ⟨h1, h2⟩, h => by
    subst h1 h2
    exact ⟨v, [], r, [], rfl, h, ⟨rfl, rfl⟩, by simp⟩
  | y :: xs, vs, q, x, v, r, ⟨w, ws, q1, q2, e1, o1, o2, e2⟩, h => by
    subst e1 e2
    exact ⟨w, ws ++ [v], q1, q2 ++ r, rfl, o1, ownL_app o2 h, by rw [List.append_assoc]⟩
theorem ownL_len {F H : Hp} : ∀ {xs : List SV} {vs : List V} {q : List Addr}, OwnL K F H xs vs q → vs.length = xs.length
  | [], _, _, ⟨h, _⟩ => by subst h; rfl
  | _ :: xs, _, _, ⟨_, _, _, _, h, _, h2, _⟩ => by subst h; simp [ownL_len h2]
theorem te_comp {wi : TI} {gi : M → Out Wk} {g : TG} {b : EV → M → Out Unit} {tt : TT} {gt : M → Out Bool} {te : TE} {ge : M → Out EV} {vs : List Nat} (hi : TIok K mg E wi gi) (hg : TGok K g b) (ho : OwnT' g vs) (ht : TTok K mg XS0 pb tt gt) (he : TEok K mg XS0 pc te ge) (nd : vs.Nodup) :
    TEok K mg E false (tLc wi g tt te vs) (dComp gi vs b gt ge) := fun F0 G π m σ F H fp Q S p => by
  refine hi F0 G π m σ F H fp _ S ?_
  unfold dComp at p
  cases e : gi m with
  | bad => rw [e] at p; exact p
  | exc c d m' => rw [e] at p; exact p
  | ok w m1 =>
    rw [e] at p
    intro J F1 H1 fp1 S1 sF hJ D hD
    have p : PostE K mg E false F0 G π m σ F H fp Q (if vs.all (fun v => plainSl (m1.sl[v]?.join)) = true then
      (match compI w.live vs b gt ge w.items [] (wipeM m1 vs) with
        | .ok xs m2 => .ok (.fr (.ol xs)) (restM m2 m1 vs)
        | _ => .bad) else .bad) := p
    by_cases al : vs.all (fun v => plainSl (m1.sl[v]?.join)) = true
    · rw [if_pos al] at p
      generalize hr : compI w.live vs b gt ge w.items [] (wipeM m1 vs) = r at p
      have nb : ∃ xs m2, r = .ok xs m2 := by
        cases r with
        | ok xs m2 => exact ⟨xs, m2, rfl⟩
        | exc c d m' => exact p.elim
        | bad => exact p.elim
      obtain ⟨xs, mE, er⟩ := nb
      subst er
      obtain ⟨fpw, Sw, hw⟩ := S1.wipe vs
      have dF := S1.freshG hD
      have SD : StF K F0 G π (wipeM m1 vs) (L2.wipe σ vs) F1 (upd H1 D (.lst [])) fpw := Sw.allocO (.lst []) hD
      refine ⟨fun i k H => ∃ m F fp acc svs q, StF K F0 G π m (L2.wipe σ vs) F H fp ∧ Same F1 F ∧ H D = some (.lst acc) ∧ OwnL K F H svs acc q ∧ (D :: q).Nodup ∧ (∀ a ∈ D :: q, F a = none ∧ G a = none ∧ ∀ o, a ∉ fp o) ∧ i + k = w.items.length ∧ compI w.live vs b gt ge (w.items.drop i) svs m = .ok xs mE,
        ⟨w.items.length, _, F1, fpw, [], [], [], SD, Same.refl _, upd_same, ⟨rfl, rfl⟩, List.nodup_cons.mpr ⟨by simp, List.nodup_nil⟩, fun a ha => ?_, Nat.zero_add _, hr⟩, ?_⟩
      · have e : a = D := by simpa using ha
        subst e
        exact ⟨dF.1, dF.2.1, fun o z => dF.2.2 o (hw o _ z)⟩
      rintro i k H2 ⟨m2, F2, fp2, acc, svs, q, S2, s2, hacc, own, ndq, frq, el, e2⟩
      have hlv : w.live m2 := by
        apply Classical.byContradiction
        intro hl
        cases el2 : w.items.drop i with
        | nil => rw [el2, compI, if_neg hl] at e2; cases e2
        | cons d r' => rw [el2, compI, if_neg hl] at e2; cases e2
      have jj := hJ F0 G (Same.refl _) (Same.refl _) m2 _ F2 H2 fp2 S2 s2 hlv
      have hne : ∀ a ∈ D :: q, H2 a ≠ none := fun a ha => by
        rcases List.mem_cons.mp ha with rfl | ha
        · rw [hacc]; exact Option.some_ne_none _
        · exact own.there _ _ _ a ha
      cases ed : w.items.drop i with
      | nil =>
        left
        rw [ed, compI, if_pos hlv] at e2
        cases e2
        have hlen : w.items.length ≤ i := List.drop_eq_nil_iff.mp ed
        have hi' : i = w.items.length := by omega
        subst hi'
        refine ⟨jj.2, ?_⟩
        obtain ⟨fp3, S3, ap⟩ := StF.restore S1 vs nd S2 s2 al
        exact p (.ref D) F2 H2 fp3 S3 ⟨sF.trans s2, fun z => by cases z⟩ ⟨D :: q, ⟨D, acc, q, rfl, hacc, own, rfl⟩, ndq, fun a ha => ⟨(frq a ha).1, (frq a ha).2.1, fun o z => (frq a ha).2.2 o (ap o a z), fun z => by cases z⟩⟩
      | cons d r' =>
        right
        have hd : w.items[i]? = some d := by
          have := List.getElem?_drop (xs := w.items) (i := i) (j := 0)
          rw [ed] at this
          simpa using this.symm
        have hr' : w.items.drop (i + 1) = r' := by
          rw [← List.drop_drop, ed]
          rfl
        have hlt : i < w.items.length := by
          rcases Nat.lt_or_ge i w.items.length with z | z
          · exact z
          · rw [List.drop_eq_nil_of_le z] at ed; cases ed
        obtain ⟨j1, j2⟩ := jj.1 i d hd
        refine ⟨j1, fun H => ∃ m F fp acc svs q, StF K F0 G π m (L2.wipe σ vs) F H fp ∧ Same F1 F ∧ H D = some (.lst acc) ∧ OwnL K F H svs acc q ∧ (D :: q).Nodup ∧ (∀ a ∈ D :: q, F a = none ∧ G a = none ∧ ∀ o, a ∉ fp o) ∧ compI w.live vs b gt ge (w.items.drop (i + 1)) svs m = .ok xs mE, ?_, ?_⟩
        · rintro H' ⟨m3, F3, fp3, acc3, svs3, q3, h1, h2, h3, h4, h5, h6, h7⟩
          exact ⟨k - 1, by omega, m3, F3, fp3, acc3, svs3, q3, h1, h2, h3, h4, h5, h6, by omega, h7⟩
        · intro x H3 hy
          obtain ⟨F3, S3, s3, sH, new3, hx⟩ := j2 x H3 hy
          rw [ed, compI, if_pos hlv] at e2
          have keep3 : ∀ a ∈ D :: q, H3 a = H2 a := fun a ha => same_of sH (hne a ha)
          have F3n : ∀ a ∈ D :: q, F3 a = none := fun a ha => by
            cases e : F3 a with
            | none => rfl
            | some y =>
              rcases new3 a (by rw [e]; exact Option.some_ne_none _) with z | z
              · exact absurd (frq a ha).1 z
              · exact absurd z (hne a ha)
          have SP : StF K F0 (addF G H3 (D :: q)) π m2 (L2.wipe σ vs) F3 H3 fp2 := S3.protect fun a ha => ⟨F3n a ha, (frq a ha).2.2⟩
          refine ho x _ H3 _ (hg F3 _ π m2 _ F3 H3 fp2 _ x (.v d) SP.rebase hx ?_)
          cases eb : b (.v d) m2 with
          | bad => rw [eb] at e2; cases e2
          | exc c d' m' => rw [eb] at e2; cases e2
          | ok u m3 =>
            rw [eb] at e2
            intro σ4 F4 H4 fp4 S4 hw4
            have hw4 : L2.wipe σ4 vs = L2.wipe σ vs := hw4.trans (wipe_wipe vs)
            refine ⟨hw4, ?_⟩
            refine ht F4 _ π m3 σ4 F4 H4 fp4 _ S4.rebase ?_
            have e2 : (match gt m3 with
              | .ok true m2 => (match ge m2 with
                | .ok ev m3 => (match elem m3 ev with
                  | .ok s m4 => if svs.length < bigLen then compI w.live vs b gt ge r' (svs ++ [s]) (wipeM m4 vs) else .bad
                  | _ => .bad)
                | _ => .bad)
              | .ok false m2 => compI w.live vs b gt ge r' svs (wipeM m2 vs)
              | _ => .bad) = .ok xs mE := e2
            -- a turn's end: the list's parts as they stand
            have fin : ∀ {m5 : M} {F5 H5 : Hp} {fp5 : Ow → List Addr}, StF K F4 (addF G H3 (D :: q)) π m5 σ4 F5 H5 fp5 →
                (∃ fp6, StF K F0 G π (wipeM m5 vs) (L2.wipe σ vs) F5 H5 fp6 ∧ ∀ o a, a ∈ fp6 o → a ∈ fp5 o) ∧ (∀ a ∈ D :: q, H5 a = H2 a ∧ F5 a = none ∧ ∀ o, a ∉ fp5 o) ∧ Same F2 F5 := fun {m5 F5 H5 fp5} S5 => by
              have T5 := SP.unbase (S4.unbase S5)
              obtain ⟨U5, k5⟩ := S3.unprotect (q := D :: q) (fun a ha => ⟨F3n a ha, by rw [keep3 a ha]; exact hne a ha⟩) T5
              obtain ⟨fp6, W6, h6⟩ := U5.wipe vs
              rw [hw4] at W6
              exact ⟨⟨fp6, W6, h6⟩, fun a ha => ⟨(k5 a ha).1.trans (keep3 a ha), (k5 a ha).2⟩, (s3.trans S4.mono).trans S5.mono⟩
            cases et : gt m3 with
            | bad => rw [et] at e2; cases e2
            | exc c d' m' => rw [et] at e2; cases e2
            | ok bb m5 =>
              rw [et] at e2
              intro F5 H5 fp5 S5 _
              cases bb with
              | false =>
                have e2 : compI w.live vs b gt ge r' svs (wipeM m5 vs) = .ok xs mE := e2
                rw [if_neg Bool.false_ne_true]
                obtain ⟨⟨fp6, W6, h6⟩, k5, s5⟩ := fin S5
                refine ⟨_, F5, fp6, acc, svs, q, W6, s2.trans s5, (k5 D List.mem_cons_self).1.trans hacc, own.keep s5 _ _ _ fun a ha => (k5 a (List.mem_cons_of_mem _ ha)).1, ndq, fun a ha => ⟨(k5 a ha).2.1, (frq a ha).2.1, fun o z => (k5 a ha).2.2 o (h6 o a z)⟩, by rw [hr']; exact e2⟩
              | true =>
                have e2 : (match ge m5 with
                  | .ok ev m3 => (match elem m3 ev with
                    | .ok s m4 => if svs.length < bigLen then compI w.live vs b gt ge r' (svs ++ [s]) (wipeM m4 vs) else .bad
                    | _ => .bad)
                  | _ => .bad) = .ok xs mE := e2
                rw [if_pos rfl]
                refine he F4 _ π m5 σ4 F5 H5 fp5 _ S5 ?_
                cases ee : ge m5 with
                | bad => rw [ee] at e2; cases e2
                | exc c d' m' => rw [ee] at e2; cases e2
                | ok ev m6 =>
                  rw [ee] at e2
                  intro y F6 H6 fp6 S6 _ e6
                  have e2 : (match elem m6 ev with
                    | .ok s m4 => if svs.length < bigLen then compI w.live vs b gt ge r' (svs ++ [s]) (wipeM m4 vs) else .bad
                    | _ => .bad) = .ok xs mE := e2
                  cases el : elem m6 ev with
                  | bad => rw [el] at e2; cases e2
                  | exc c d' m' => rw [el] at e2; cases e2
                  | ok sv m7 =>
                    rw [el] at e2
                    have e2 : (if svs.length < bigLen then compI w.live vs b gt ge r' (svs ++ [sv]) (wipeM m7 vs) else .bad) = .ok xs mE := e2
                    by_cases hb : svs.length < bigLen
                    · rw [if_pos hb] at e2
                      obtain ⟨F7, fp7, q7, S7, s7, o7, n7, f7⟩ := elem_ok S6 e6 el
                      obtain ⟨⟨fp8, W8, h8⟩, k7, s27⟩ := fin S7
                      have dq : ∀ a ∈ q7, a ∉ D :: q := fun a ha z => by
                        have := (f7 a ha).2.1
                        rw [addF_in z, keep3 a z] at this
                        exact hne a z this
                      have kD := k7 D List.mem_cons_self
                      have gq : ∀ a ∈ q7, G a = none := fun a ha => by
                        have := (f7 a ha).2.1
                        rw [addF_out (dq a ha)] at this
                        exact this
                      have ndq' := List.nodup_cons.mp ndq
                      refine ⟨acc, kD.1.trans hacc, by rw [ownL_len own]; exact big_lt hb, _, F7, fp8, acc ++ [y], svs ++ [sv], q ++ q7, W8.poke _ kD.2.1 (frq D List.mem_cons_self).2.1 (fun o z => kD.2.2 o (h8 o D z)), s2.trans s27, upd_same, ?_, ?_, ?_, by rw [hr']; exact e2⟩
                      · refine ownL_app (own.keep s27 _ _ _ fun a ha => ?_) (o7.keep (Same.refl _) _ _ _ fun a ha => ?_)
                        · rw [upd_ne (fun z : a = D => ndq'.1 (by rw [← z]; exact ha))]
                          exact (k7 a (List.mem_cons_of_mem _ ha)).1
                        · exact upd_ne fun z => dq a ha (z ▸ List.mem_cons_self)
                      · refine List.nodup_cons.mpr ⟨fun z => ?_, nodup_mk ndq'.2 n7 fun a ha hb => dq a hb (List.mem_cons_of_mem _ ha)⟩
                        rcases List.mem_append.mp z with z | z
                        · exact ndq'.1 z
                        · exact dq D z List.mem_cons_self
                      · intro a ha
                        have : a ∈ D :: q ∨ a ∈ q7 := by
                          rcases List.mem_cons.mp ha with z | z
                          · exact .inl (z ▸ List.mem_cons_self)
                          · rcases List.mem_append.mp z with z | z
                            · exact .inl (List.mem_cons_of_mem _ z)
                            · exact .inr z
                        rcases this with z | z
                        · exact ⟨(k7 a z).2.1, (frq a z).2.1, fun o w => (k7 a z).2.2 o (h8 o a w)⟩
                        · exact ⟨(f7 a z).1, gq a z, fun o w => (f7 a z).2.2 o (h8 o a w)⟩
                    · rw [if_neg hb] at e2; cases e2
    · rw [if_neg al] at p
      exact p.elim
end
end PD
namespace PD
open PySem PySem.Spec PyProof.Rows L2
/-! ## a piece of syntax with its reading and its denotation -/
structure DE (X : Cx) (K : Kf) (mg : Str → Option Value) (E : XS) (e : Expr) (pu : Bool) (t : TE) (g : M → Out EV) : Prop where
  pe : PE X e t
  ok : TEok K mg E pu t g
structure DT (X : Cx) (K : Kf) (mg : Str → Option Value) (E : XS) (e : Expr) (pu : Bool) (t : TT) (g : M → Out Bool) : Prop where
  pe : PT X e t
  ok : TTok K mg E pu t g
structure DW (X : Cx) (K : Kf) (mg : Str → Option Value) (E : XS) (e : Expr) (pu : Bool) (t : TT) (g : M → Out Bool) : Prop where
  pe : PW X e t
  ok : TTok K mg E pu t g
structure DA (X : Cx) (K : Kf) (mg : Str → Option Value) (E : XS) (es : List Expr) (pu : Bool) (t : TA) (g : M → Out (List EV)) : Prop where
  pe : PA X es t
  ok : TAok K mg E pu t g
structure DK (X : Cx) (K : Kf) (mg : Str → Option Value) (E : XS) (es : List Keyword) (pu : Bool) (t : TA) (g : M → Out (List EV)) : Prop where
  pe : PK X es t
  ok : TAok K mg E pu t g
structure DS (X : Cx) (K : Kf) (mg : Str → Option Value) (E : XS) (s : Stmt) (t : TS) (g : M → Out Ctl) : Prop where
  pe : PS X s t
  ok : TSok K mg E t g
structure DSs (X : Cx) (K : Kf) (mg : Str → Option Value) (E : XS) (s : List Stmt) (t : TS) (g : M → Out Ctl) : Prop where
  pe : PSs X s t
  ok : TSok K mg E t g
structure DG (X : Cx) (K : Kf) (e : Expr) (t : TG) (b : EV → M → Out Unit) : Prop where
  pe : PG X e t
  ok : TGok K t b
structure DGs (X : Cx) (K : Kf) (e : List Expr) (t : TGs) (b : List D → M → Out Unit) : Prop where
  pe : PGs X e t
  ok : TGsok K t b
structure DI (X : Cx) (K : Kf) (mg : Str → Option Value) (E : XS) (tg iter : Expr) (wi : TI) (g : M → Out Wk) : Prop where
  pe : PI X tg iter wi
  ok : TIok K mg E wi g
structure DTs (X : Cx) (K : Kf) (mg : Str → Option Value) (E : XS) (e : List Expr) (pu : Bool) (t : TT) (g : M → Out Bool) : Prop where
  pe : PTs X e t
  ok : TTok K mg E pu t g
/-- where a piece stands -/
structure Cxt (X : Cx) (P : Program) (w : World) (KX K : Kf) (mg : Str → Option Value) (base : Heap) (n : Nat) (E : XS) : Prop where
  hP : X.prog = P
  hw : X.w = w
  hK : X.K = KX
  up : Up K KX
  hm : X.mg = mg
  hb : X.base = base
  room : Room n X.A
  calm : X.calm = true
  nd : X.N.Nodup
  hx : ∀ σ, PassesAt (L2.CX P w) X σ (E σ)
  pown : PassesOwn (model X.prog X.w) X.A X.env X.xe
  tk : Takes X (fun cls d σ H => E σ cls d H)
section
variable {X : Cx} {P : Program} {w : World} {KX K : Kf} {mg : Str → Option Value} {base : Heap} {n : Nat} {E : XS} {pa pb pc pu : Bool} {ta tb tc : TE} {ga gb gc : M → Out EV} {a b c e : Expr} {es : List Expr} {pos p : Pos} {x : Str}
theorem Cxt.hu1 (C : Cxt X P w KX K mg base n E) : X.A.units + 1 < cLine := hu_of C.room
theorem Cxt.hu64 (C : Cxt X P w KX K mg base n E) : X.A.units + 64 < cLine := C.room.units
theorem Cxt.blk (C : Cxt X P w KX K mg base n E) (s : Shared) (H : Hp) (scope : Scope) (cenv : Env) (fp : List Addr) : Cxt (X.blk s H scope cenv fp) P w KX K mg base n XS0 where
  hP := C.hP
  hw := C.hw
  hK := C.hK
  up := C.up
  hm := C.hm
  hb := C.hb
  room := C.room
  calm := C.calm
  nd := C.nd
  hx := fun σ pins H s e s' I h => by
    obtain ⟨_, _, _, _, _, _, _, _, _, _, _, _, z⟩ := h
    exact z.elim
  pown := PassesOwn.never
  tk := fun u s' z => by
    obtain ⟨_, _, _, _, _, _, _, _, _, _, _, _, _, _, _, _, w⟩ := z
    exact w.elim
theorem de_var (i : Nat) {x : Str} {pos : Pos} (hN : X.N[i]? = some x := by rfl) (hv : Vis X.env.scope x := by first | exact Or.inl rfl | exact Or.inr (Or.inl rfl) | exact Or.inr (Or.inr rfl)) (hd : (x == ("__debug__" : Str)) = false := by decide)
    (hcd : (x == ("__classdict__" : Str)) = false := by decide) : DE X K mg E (.Name x pos) true (tVar i) (dVar i) := ⟨pe_var hN hv hd hcd, te_var⟩
theorem de_int {i : Int} {j pos} : DE X K mg E (.Constant (.int i) j pos) true (tC (.int i)) (dC (.int i)) := ⟨pe_int, te_c fun _ => rfl⟩
theorem de_bl {b : Bool} {j pos} : DE X K mg E (.Constant (.bool b) j pos) true (tC (.bl b)) (dC (.bl b)) := ⟨pe_bl, te_c fun _ => rfl⟩
theorem de_non {j pos} : DE X K mg E (.Constant .none j pos) true (tC .non) (dC .non) := ⟨pe_non, te_c fun _ => rfl⟩
theorem de_str {z : Str} {j pos} : DE X K mg E (.Constant (.str z) j pos) true (tC (.str z)) (dC (.str z)) := ⟨pe_str, te_c fun _ => rfl⟩
/-- a module's constant -/
theorem de_glob (C : Cxt X P w KX K mg base n E) {u : Value} {v : V} {d : D} (hg : Gl X x) (hm : mg x = some u) (r : RelV v u) (hd : ∀ F, Rep K F d v) (hdb : (x == ("__debug__" : Str)) = false := by decide) : DE X K mg E (.Name x pos) true (tC v) (dC d) := ⟨pe_glob hg (by rw [C.hm]; exact hm) r hdb, te_c hd⟩
/-! ### tests -/
theorem dt_val (h : DE X K mg E e pa ta ga) (he : ∀ whole, isTrue e X.env whole = (do let v ← whole; standAt e.pos; holding [v] (truthy v)) := by intro _; rfl) : DT X K mg E e pa (tB ta) (dTest ga) := ⟨pt_val h.pe he, tt_test h.ok⟩
theorem dt_w {t : TT} {g : M → Out Bool} (h : DW X K mg E e pa t g) : DT X K mg E e pa t g := ⟨h.pe.pt, h.ok⟩
variable {t1 t2 : TT} {g1 g2 : M → Out Bool} {rest : List Expr}
theorem dw_and1 (h : DT X K mg E a pa t1 g1) : DW X K mg E (.BoolOp .And [a] pos) pa t1 g1 := ⟨pw_and1 h.pe, h.ok⟩
theorem dw_or1 (h : DT X K mg E a pa t1 g1) : DW X K mg E (.BoolOp .Or [a] pos) pa t1 g1 := ⟨pw_or1 h.pe, h.ok⟩
theorem dw_and (h : DT X K mg E a pa t1 g1) (h2 : DW X K mg E (.BoolOp .And (b :: rest) pos) pb t2 g2) : DW X K mg E (.BoolOp .And (a :: b :: rest) pos) (pa && pb) (tAnd t1 t2) (dAndT g1 g2) := ⟨pw_and h.pe h2.pe, tt_and h.ok h2.ok⟩
theorem dw_or (h : DT X K mg E a pa t1 g1) (h2 : DW X K mg E (.BoolOp .Or (b :: rest) pos) pb t2 g2) : DW X K mg E (.BoolOp .Or (a :: b :: rest) pos) (pa && pb) (tOr t1 t2) (dOrT g1 g2) := ⟨pw_or h.pe h2.pe, tt_or h.ok h2.ok⟩
theorem dt_not (h : DT X K mg E a pa t1 g1) : DT X K mg E (.UnaryOp .Not a pos) pa (tNot t1) (dNotT g1) := ⟨pt_not h.pe, tt_not h.ok⟩
/-! ### values -/
theorem de_one (h : DE X K mg E a pa ta ga) {op : BoolOp} : DE X K mg E (.BoolOp op [a] pos) pa ta ga := ⟨pe_one h.pe, h.ok⟩
theorem de_and (h : DE X K mg E a pa ta ga) (h2 : DE X K mg E (.BoolOp .And (b :: rest) pos) pb tb gb) : DE X K mg E (.BoolOp .And (a :: b :: rest) pos) (pa && pb) (tAndV ta tb) (dAndV ga gb) := ⟨pe_and h.pe h2.pe, te_and h.ok h2.ok⟩
theorem de_or (h : DE X K mg E a pa ta ga) (h2 : DE X K mg E (.BoolOp .Or (b :: rest) pos) pb tb gb) : DE X K mg E (.BoolOp .Or (a :: b :: rest) pos) (pa && pb) (tOrV ta tb) (dOrV ga gb) := ⟨pe_or h.pe h2.pe, te_or h.ok h2.ok⟩
theorem de_not (h : DE X K mg E a pa ta ga) : DE X K mg E (.UnaryOp .Not a pos) pa (tNotV ta) (dNotV ga) := ⟨pe_not h.pe, te_not h.ok⟩
theorem de_if (h : DT X K mg E c pc t1 g1) (h1 : DE X K mg E a pa ta ga) (h2 : DE X K mg E b pb tb gb) : DE X K mg E (.IfExp c a b pos) (pc && (pa && pb)) (tIf t1 ta tb) (dIfE g1 ga gb) := ⟨pe_ifExp h.pe h1.pe h2.pe, te_if h.ok h1.ok h2.ok⟩
theorem de_fz (h : DE X K mg E a pa ta ga) : DE X K mg E a false ta (dFz ga) := ⟨h.pe, te_fz h.ok⟩
/-! ### arguments -/
theorem da_nil : DA X K mg E [] true tNil dNil := ⟨pa_nil, ta_nil⟩
theorem da_cons {ts : TA} {gs : M → Out (List EV)} (h : DE X K mg E a pa ta ga) (h2 : DA X K mg E es pb ts gs) (he : starEach (a :: es) X.env = (false, eval a X.env) :: starEach es X.env := by rfl) : DA X K mg E (a :: es) (pa && pb) (tCons ta ts) (dCons pb ga gs) := ⟨pa_cons h.pe h2.pe he, ta_cons h.ok h2.ok⟩
theorem dk_nil : DK X K mg E [] true tNil dNil := ⟨pk_nil, ta_nil⟩
theorem dk_cons {ts : TA} {gs : M → Out (List EV)} {kws : List Keyword} {nm : Option Str} (h : DE X K mg E a pa ta ga) (h2 : DK X K mg E kws pb ts gs) : DK X K mg E (⟨nm, a, p⟩ :: kws) (pa && pb) (tCons ta ts) (dCons pb ga gs) := ⟨pk_cons h.pe h2.pe, ta_cons h.ok h2.ok⟩
/-! ### operators -/
theorem de_op {op : Operator} {r : R2} {k : M → EV → EV → Out EV} (ho : OpR X (binaryOp op) r) (hk : KOk2 K mg E pc r k) (h1 : DE X K mg E a pa ta ga) (h2 : DE X K mg E b pb tb gb) : DE X K mg E (.BinOp a op b pos) (pa && (pb && pc)) (tOp r ta tb) (dBin pb ga gb k) := ⟨pe_op ho h1.pe h2.pe, te_op h1.ok h2.ok hk⟩
theorem nomark' (op : CmpOp) (b : Expr) : True := trivial
theorem de_cmp {op : CmpOp} {r : R2} {k : M → EV → EV → Out EV} (ho : OpR X (compareOp op) r) (hk : KOk2 K mg E pc r k) (h1 : DE X K mg E a pa ta ga) (h2 : DE X K mg E b pb tb gb) (hm : behindInMarks op b = false := by rfl) : DE X K mg E (.Compare a [op] [b] pos) (pa && (pb && pc)) (tOp r ta tb) (dBin pb ga gb k) := ⟨pe_cmpR ho h1.pe h2.pe hm, te_op h1.ok h2.ok hk⟩
theorem dt_cmp {op : CmpOp} {r : R2} {k : M → EV → EV → Out EV} (ho : OpR X (compareOp op) r) (hk : KOk2 K mg E pc r k) (h1 : DE X K mg E a pa ta ga) (h2 : DE X K mg E b pb tb gb) (hm : behindInMarks op b = false := by rfl) : DT X K mg E (.Compare a [op] [b] pos) (pa && (pb && pc)) (tTest (tOp r ta tb)) (dTest (dBin pb ga gb k)) := ⟨pt_cmpR ho h1.pe h2.pe hm, tt_test (te_op h1.ok h2.ok hk)⟩
theorem de_un {op : UnaryOp} {r : V → Hp → VK → Prop} {k : M → EV → Out EV} (ho : UnR X (unaryOp op) r) (hk : KOk1 K mg E pc r k) (h1 : DE X K mg E a pa ta ga) : DE X K mg E (.UnaryOp op a pos) (pa && pc) (tUn r ta) (dUn ga k) := ⟨pe_un ho h1.pe, (te_un1 h1.ok hk : TEok K mg E _ (fun σ H Q => ta σ H fun x H1 => r x H1 Q) _)⟩
theorem de_ix {r : R2} {k : M → EV → EV → Out EV} (ho : IxR X r) (hk : KOk2 K mg E pc r k) (h1 : DE X K mg E a pa ta ga) (h2 : DE X K mg E b pb tb gb) (hs : PlainIx b := by exact fun _ _ => rfl) : DE X K mg E (.Subscript a b pos) (pa && (pb && pc)) (tOp r ta tb) (dBin pb ga gb k) := ⟨pe_ix ho h1.pe h2.pe hs, te_op h1.ok h2.ok hk⟩
/-! ### displays -/
def sizeOk (n : Nat) : Bool := decide (n ≤ bigLen)
/-- (a, b, ..): the items are frozen -/
def evD (m : M) : List EV → Out (List D)
  | [] => .ok [] m
  | ev :: r => (dFzE m ev).bind fun d m1 => (evD m1 r).bind fun ds m2 => .ok (d :: ds) m2
def kTup (m : M) (es : List EV) : Out EV := if es.length ≤ bigLen then (evD m es).bind fun ds m1 => .ok (.v (.tup ds)) m1 else .bad
theorem EvFs.grow {G : Hp} {π : List V} {m : M} {σ : L2.St} {F H F' H' : Hp} {fp fp' : Ow → List Addr} {N : Addr → Prop} (c : Ch true m m F H F' H' fp fp') : ∀ {vs : List V} {es : List EV}, EvFs K G π σ F H fp (fun _ => False) vs es → EvFs K G π σ F' H' fp' N vs es
  | _, _, .nil => .nil
  | _, _, .cons h r => by
    refine .cons ?_ (EvFs.grow c r)
    rename_i v vs ev es
    cases ev with
    | v d => exact Rep.mono c.ext d v h
    | br o p => exact let ⟨w, h1, h2⟩ := h; ⟨w, h1, h2.mono (c.pure rfl).2.2.1⟩
    | fr s =>
      obtain ⟨q, h1, h2, h3⟩ := h
      cases q with
      | cons a q => exact (h3 a List.mem_cons_self).2.2.2.elim
      | nil =>
        refine ⟨[], ?_, List.nodup_nil, fun a h => by cases h⟩
        refine h1.keep c.ext _ _ _ fun a h => by cases h
/-- freezing keeps the ways: a place that is frozen later still stands where it stood -/
theorem evD_ok {F0 G : Hp} {π : List V} {σ : L2.St} {H : Hp} : ∀ (es : List EV) (vs : List V) (m m' : M) (F : Hp) (fp : Ow → List Addr) (ds : List D), StF K F0 G π m σ F H fp → EvFs K G π σ F H fp (fun _ => False) vs es → evD m es = .ok ds m' →
    ∃ F' fp', StF K F0 G π m' σ F' H fp' ∧ RepAll K F' ds vs ∧ Same F F'
  | [], vs, m, m', F, fp, ds, S, h, e => by
    cases h
    cases e
    exact ⟨F, fp, S, rfl, Same.refl F⟩
  | ev :: es, vs, m, m', F, fp, ds, S, h, e => by
    cases h with
    | @cons v vs _ _ h1 h2 =>
      unfold evD at e
      cases e1 : dFzE m ev with
      | bad => rw [e1] at e; cases e
      | exc c d m1 => rw [e1] at e; cases e
      | ok d m1 =>
        rw [e1] at e
        have e : ((evD m1 es).bind fun ds m2 => Out.ok (d :: ds) m2) = .ok ds m' := e
        obtain ⟨F1, fp1, S1, r1, s1⟩ := fzE_ok S h1 e1
        have h2' : EvFs K G π σ F1 H fp1 (fun _ => False) vs es := by
          have : ∀ {vs : List V} {es : List EV}, EvFs K G π σ F H fp (fun _ => False) vs es → EvFs K G π σ F1 H fp1 (fun _ => False) vs es := by
            intro vs es h
            induction h with
            | nil => exact .nil
            | @cons v vs ev es h _ ih =>
              refine .cons ?_ ih
              cases ev with
              | v d => exact Rep.mono s1 d v h
              | br o p => exact h
              | fr s =>
                obtain ⟨q, h1, h2, h3⟩ := h
                cases q with
                | cons a q => exact (h3 a List.mem_cons_self).2.2.2.elim
                | nil => exact ⟨[], h1.keep s1 _ _ _ (fun a h => by cases h), List.nodup_nil, fun a h => by cases h⟩
          exact this h2
        cases e2 : evD m1 es with
        | bad => rw [e2] at e; cases e
        | exc c d m1 => rw [e2] at e; cases e
        | ok ds' m2 =>
          rw [e2] at e
          cases e
          obtain ⟨F2, fp2, S2, r2, s2⟩ := evD_ok es vs m1 _ F1 fp1 ds' S1 h2' e2
          exact ⟨F2, fp2, S2, ⟨v, vs, rfl, r1.mono s2 _ _, r2⟩, s1.trans s2⟩
theorem evFs_len {G : Hp} {π : List V} {σ : L2.St} {F H : Hp} {fp : Ow → List Addr} {N : Addr → Prop} {vs : List V} {es : List EV} (h : EvFs K G π σ F H fp N vs es) : vs.length = es.length := by
  induction h with
  | nil => rfl
  | cons _ _ ih => simp [ih]
theorem evD_exc {c : Str} {d : D} : ∀ (es : List EV) (m m' : M), evD m es ≠ .exc c d m'
  | [], m, m', e => by cases e
  | ev :: es, m, m', e => by
    unfold evD at e
    cases e1 : dFzE m ev with
    | bad => rw [e1] at e; cases e
    | exc c d m1 =>
      cases ev with
      | v d => cases e1
      | fr s => cases e1
      | br o q =>
        unfold dFzE at e1
        cases eg : get m o with
        | none => simp [eg] at e1
        | some r =>
          cases es : sub r q with
          | none => simp [eg, es] at e1
          | some s => simp [eg, es] at e1
    | ok d m1 =>
      rw [e1] at e
      have e : ((evD m1 es).bind fun ds m2 => Out.ok (d :: ds) m2) = .exc c _ m' := e
      cases e2 : evD m1 es with
      | bad => rw [e2] at e; cases e
      | exc c d m2 => exact evD_exc es m1 m2 e2
      | ok ds' m2 => rw [e2] at e; cases e
theorem k_tup : KOkN K mg E false (fun _ xs H Q => xs.length ≤ sizeLine ∧ ∀ p, H p = none → Q (.ref p) (upd H p (.tup xs))) kTup := fun F0 G π m σ F H fp Q xs es S h p => by
  unfold kTup at p
  by_cases hl : es.length ≤ bigLen
  · rw [if_pos hl] at p
    cases e : evD m es with
    | bad => rw [e] at p; exact p.elim
    | exc c d m' => exact (evD_exc es m m' e).elim
    | ok ds m1 =>
      rw [e] at p
      obtain ⟨F1, fp1, S1, r, s1⟩ := evD_ok es xs m m1 F fp ds S h e
      refine ⟨by rw [evFs_len h]; exact big_le hl, fun q hq => ?_⟩
      refine p (.ref q) _ _ fp1 (S1.allocF (.tup xs) hq) ⟨s1.trans (same_new (same_none S1.sub hq)), fun z => by cases z⟩ ⟨q, xs, rfl, upd_same, r.mono (same_new (same_none S1.sub hq)) _ _⟩
  · rw [if_neg hl] at p; exact p.elim
theorem de_tup {ts : TA} {gs : M → Out (List EV)} {j} (h : DA X K mg E es pb ts gs) : DE X K mg E (.Tuple es j pos) false (tTup ts) (dApp gs kTup) := ⟨pe_tup h.pe, by
  have := te_app h.ok (k_tup (K := K) (mg := mg) (E := E))
  rw [Bool.and_false] at this
  exact this⟩
/-- [a, b, ..]: a new list of frozen things -/
def kLst (m : M) (es : List EV) : Out EV := if es.length ≤ bigLen then (evD m es).bind fun ds m1 => .ok (.fr (.ol (ds.map .fz))) m1 else .bad
theorem ownL_fz {F H : Hp} : ∀ {ds : List D} {vs : List V}, RepAll K F ds vs → OwnL K F H (ds.map .fz) vs []
  | [], _, h => ⟨h, rfl⟩
  | d :: ds, _, ⟨v, r, e, h1, h2⟩ => ⟨v, r, [], [], e, ⟨h1, rfl⟩, ownL_fz h2, rfl⟩
theorem k_lst : KOkN K mg E false (fun _ xs H Q => xs.length ≤ sizeLine ∧ ∀ p, H p = none → Q (.ref p) (upd H p (.lst xs))) kLst := fun F0 G π m σ F H fp Q xs es S h p => by
  unfold kLst at p
  by_cases hl : es.length ≤ bigLen
  · rw [if_pos hl] at p
    cases e : evD m es with
    | bad => rw [e] at p; exact p.elim
    | exc c d m' => exact (evD_exc es m m' e).elim
    | ok ds m1 =>
      rw [e] at p
      obtain ⟨F1, fp1, S1, r, s1⟩ := evD_ok es xs m m1 F fp ds S h e
      refine ⟨by rw [evFs_len h]; exact big_le hl, fun q hq => ?_⟩
      have f := S1.freshG hq
      refine p (.ref q) _ _ fp1 (S1.allocO (.lst xs) hq) ⟨s1, fun z => by cases z⟩ ⟨[q], ⟨q, xs, [], rfl, upd_same, ownL_fz r, rfl⟩, List.nodup_cons.mpr ⟨by simp, List.nodup_nil⟩, fun a ha => ?_⟩
      have : a = q := by simpa using ha
      subst this
      exact ⟨f.1, f.2.1, f.2.2, fun z => by cases z⟩
  · rw [if_neg hl] at p; exact p.elim
theorem de_lst {ts : TA} {gs : M → Out (List EV)} (h : DA X K mg E es pb ts gs) : DE X K mg E (.List es pos) false (tLst ts) (dApp gs kLst) := ⟨pe_lst h.pe, by
  have := te_app h.ok (k_lst (K := K) (mg := mg) (E := E))
  rw [Bool.and_false] at this
  exact this⟩
/-! ### targets, statements -/
theorem dg_name (C : Cxt X P w KX K mg base n E) (i : Nat) (hi : X.N[i]? = some x := by rfl) (hx : Loc X.env.scope x := by first | exact Or.inl rfl | exact Or.inr rfl) (hf : X.fn x = true ∨ X.env.scope.names.lookup x = some .local := by first | exact .inl rfl | exact .inr rfl) : DG X K (.Name x pos) (gName i) (bName i) := ⟨pg_name C.nd hi hx hf, tg_name⟩
theorem dgs_nil : DGs X K [] gNil bNil := ⟨pgs_nil, tgs_nil⟩
theorem dgs_cons {t : TG} {ts : TGs} {b : EV → M → Out Unit} {bs : List D → M → Out Unit} (h1 : DG X K e t b) (h2 : DGs X K es ts bs) (hs : (assignEach (e :: es) X.env).map (·.2) = assign e X.env :: (assignEach es X.env).map (·.2) := by rfl) : DGs X K (e :: es) (gCons t ts) (bCons b bs) := ⟨pgs_cons h1.pe h2.pe hs, tgs_cons h1.ok h2.ok⟩
theorem ds_skip : DSs X K mg E [] tNext dSkip := ⟨pss_nil, ts_skip⟩
variable {st : Stmt} {sts : List Stmt} {t u : TS} {s1 s2 : M → Out Ctl}
theorem ds_cons (h1 : DS X K mg E st t s1) (h2 : DSs X K mg E sts u s2) : DSs X K mg E (st :: sts) (tSeq t u) (dSeq s1 s2) := ⟨pss_cons h1.pe h2.pe, ts_seq h1.ok h2.ok⟩
theorem ds_one (h1 : DS X K mg E st t s1) : DSs X K mg E [st] t s1 := ⟨pss_one h1.pe, h1.ok⟩
theorem ds_pass : DS X K mg E (.Pass pos) tNext dSkip := ⟨ps_pass, ts_skip⟩
theorem ds_break : DS X K mg E (.Break pos) tBreak dBreak := ⟨ps_break, ts_break⟩
theorem ds_cont : DS X K mg E (.Continue pos) tCont dCont := ⟨ps_continue, ts_cont⟩
theorem ds_expr (h : DE X K mg E e pa ta ga) (hs : swapsWith e none pos.line X.env = pure false := by rfl) : DS X K mg E (.Expr e pos) (tDrop ta) (dDrop ga) := ⟨ps_expr h.pe hs, ts_drop h.ok⟩
theorem ds_ret (h : DE X K mg E e pa ta ga) : DS X K mg E (.Return (some e) pos) (tRet ta) (dRet ga) := ⟨ps_ret h.pe, ts_ret h.ok⟩
theorem ds_retN : DS X K mg E (.Return none pos) tRetN dRetN := ⟨ps_retN, ts_retN⟩
theorem ds_if {c : Expr} {A B : List Stmt} (hc : DT X K mg E c pa t1 g1) (ha : DSs X K mg E A t s1) (hb : DSs X K mg E B u s2) : DS X K mg E (.If c A B pos) (tIfS t1 t u) (dIf g1 s1 s2) := ⟨ps_if hc.pe ha.pe hb.pe, ts_if hc.ok ha.ok hb.ok⟩
theorem ds_set (C : Cxt X P w KX K mg base n E) (i : Nat) {pos' : Pos} (h : DE X K mg E e pa ta ga) (hi : X.N[i]? = some x := by rfl) (hx : Loc X.env.scope x := by first | exact Or.inl rfl | exact Or.inr rfl) (hs : swapsWith e (some (.Name x pos')) pos.line X.env = pure false := by rfl)
    (hf : X.fn x = true ∨ X.env.scope.names.lookup x = some .local := by first | exact .inl rfl | exact .inr rfl) : DS X K mg E (.Assign [.Name x pos'] e pos) (tAsg ta (gName i)) (dAsg ga (bName i)) := ⟨ps_set C.nd hi hx h.pe hs hf, ts_asg h.ok tg_name⟩
theorem ds_asg {tg : TG} {b : EV → M → Out Unit} {T : Expr} (h : DE X K mg E e pa ta ga) (hg : DG X K T tg b) (hs : swapsWithSole [T] e pos.line X.env = pure false := by rfl) (hw : swappedStores [T] e X.env = pure none := by rfl)
    (h1 : (assignEach [T] X.env).map (·.2) = [assign T X.env] := by rfl) : DS X K mg E (.Assign [T] e pos) (tAsg ta tg) (dAsg ga b) := ⟨ps_asg h.pe hg.pe hs hw h1, ts_asg h.ok hg.ok⟩
theorem ds_while (C : Cxt X P w KX K mg base n E) {c : Expr} {body : List Stmt} (hc : DT X K mg E c pa t1 g1) (hb : DSs X K mg E body t s1) : DS X K mg E (.While c body [] pos) (tWhile t1 t) (dWhile g1 s1) := ⟨ps_while C.pown hc.pe hb.pe, ts_while hc.ok hb.ok⟩
theorem ds_for (C : Cxt X P w KX K mg base n E) {T iter : Expr} {body : List Stmt} {wi : TI} {gi : M → Out Wk} {tg : TG} {b : EV → M → Out Unit} (hi : DI X K mg E T iter wi gi) (hg : DG X K T tg b) (hb : DSs X K mg E body t s1) (hs : ∀ x, foldedSetIterable iter X.env x = pure x := by intro _; rfl) : DS X K mg E (.For T iter body [] pos) (tFor wi tg t) (dFor gi b s1) :=
  ⟨ps_for C.pown C.calm hi.pe hg.pe hb.pe hs, ts_for hi.ok hg.ok hb.ok⟩
end
end PD
namespace PD
open PySem PySem.Spec PyProof.Rows L2
/-! ## defs -/
inductive Ar where
  | fz (d : D) | pin (j : Nat)
abbrev Den := List Ar → List SV → Out SV
def ArgF (K : Kf) (F : Hp) (π : List V) : Ar → V → Prop
  | .fz d, v => Rep K F d v
  | .pin j, v => π[j]? = some v
def ArgsF (K : Kf) (F : Hp) (π : List V) : List Ar → List V → Prop
  | [], vs => vs = []
  | a :: as, vs => ∃ v r, vs = v :: r ∧ ArgF K F π a v ∧ ArgsF K F π as r
def PostF (K : Kf) (mg : Str → Option Value) (F G : Hp) (π : List V) (Q : VK) (E : XK) : Out SV → Prop
  | .ok s m' => ∀ v F' H' fp', StF K F G π ⟨[], m'.pp⟩ [] F' H' fp' → EvF K G π [] F' H' fp' (fun _ => True) v (.fr s) → Q v H'
  | .exc c d m' => ∀ C dx v F' H' fp', mg c = some (.ref C) → StF K F G π ⟨[], m'.pp⟩ [] F' H' fp' → H' dx = some (.xd [(("thing" : Str), v)]) → Rep K F' d v → E (.ref C) (some dx) H'
  | .bad => False
/-- a def's promise by its denotation; np: how many parameters -/
def spF (K : Kf) (mg : Str → Option Value) (np : Nat) (f : Den) : Sp := fun vs H Q E => vs.length = np ∧ ∃ F G π pins fp as, StF K F G π ⟨[], pins⟩ [] F H fp ∧ ArgsF K F π as vs ∧ PostF K mg F G π Q E (f as pins)
def arSl : Ar → Option Sl
  | .fz d => some (.sv (.fz d))
  | .pin j => some (.pa j)
def enter (n : Nat) (as : List Ar) (pins : List SV) : M := ⟨as.map arSl ++ List.replicate (n - as.length) none, pins⟩
/-- a def of n slots with this body -/
def dDef (n : Nat) (body : M → Out Ctl) : Den := fun as pins => match body (enter n as pins) with
  | .ok (.rt s) m => .ok s m
  | .ok .nx m => .ok (.fz .non) m
  | .exc c d m => .exc c d m
  | _ => .bad
theorem argsF_len {K : Kf} {F : Hp} {π : List V} : ∀ {as : List Ar} {vs : List V}, ArgsF K F π as vs → vs.length = as.length
  | [], _, h => by cases h; rfl
  | _ :: as, _, ⟨v, r, e, _, h⟩ => by subst e; simp [argsF_len h]
theorem argsF_get {K : Kf} {F : Hp} {π : List V} : ∀ {as : List Ar} {vs : List V}, ArgsF K F π as vs → ∀ {i : Nat} {a : Ar}, as[i]? = some a → ∃ v, vs[i]? = some v ∧ ArgF K F π a v
  | [], _, _, _, _, h => by simp at h
  | x :: as, _, ⟨v, r, e, h1, h2⟩, 0, a, h => by
    subst e
    simp at h; subst h
    exact ⟨v, by simp, h1⟩
  | x :: as, _, ⟨v, r, e, h1, h2⟩, i + 1, a, h => by
    subst e
    obtain ⟨w, e, hw⟩ := argsF_get h2 (i := i) (a := a) (by simpa using h)
    exact ⟨w, by simpa using e, hw⟩
/-- a def's entry -/
theorem StF.enter {K : Kf} {F0 G : Hp} {π : List V} {pins : List SV} {F H : Hp} {fp : Ow → List Addr} (S : StF K F0 G π ⟨[], pins⟩ [] F H fp) {as : List Ar} {vs : List V} (h : ArgsF K F π as vs) {N : List Str} (hl : vs.length ≤ N.length) :
    StF K F0 G π (PD.enter N.length as pins) (L2.start N vs) F H fp := by
  have hlen := argsF_len h
  have hg : ∀ i, (PD.enter N.length as pins).sl[i]? = if i < as.length then (as[i]?).map arSl else if i < N.length then some none else none := fun i => by
    unfold PD.enter
    by_cases hi : i < as.length
    · rw [if_pos hi, List.getElem?_append_left (by simpa using hi), List.getElem?_map]
    · rw [if_neg hi, List.getElem?_append_right (by simpa using Nat.le_of_not_lt hi), List.getElem?_replicate, List.length_map]
      by_cases h2 : i < N.length
      · rw [if_pos h2, if_pos (by omega)]
      · rw [if_neg h2, if_neg (by omega)]
  have hs : ∀ i v, vs[i]? = some v → (L2.start N vs)[i]? = some (some v) := fun i v e => by
    unfold L2.start
    have hi : i < vs.length := by
      rcases Nat.lt_or_ge i vs.length with z | z
      · exact z
      · rw [List.getElem?_eq_none z] at e; cases e
    rw [List.getElem?_append_left (by simpa using hi), List.getElem?_map, e]
    rfl
  refine ⟨?_, S.plen, S.sub, S.base, S.mono, S.new, fun o s e => ?_, fun o e => ?_, fun i k e => ?_, S.nd, S.dj, S.fr⟩
  · unfold PD.enter L2.start
    simp [hlen]
  · cases o with
    | p k => exact S.own (.p k) s e
    | s i =>
      have n1 : fp (.s i) = [] := S.non (.s i) (by simp [get])
      have e' := e
      unfold get at e'
      simp only [hg] at e'
      by_cases hi : i < as.length
      · rw [if_pos hi] at e'
        cases ea : as[i]? with
        | none => simp [ea] at e'
        | some a =>
          cases a with
          | pin j => simp [ea, arSl] at e'
          | fz d =>
            simp [ea, arSl] at e'
            subst e'
            obtain ⟨v, h1, h2⟩ := argsF_get h ea
            refine ⟨v, ?_, h2, n1⟩
            unfold refO
            simp [hs i v h1]
      · rw [if_neg hi] at e'
        by_cases h2 : i < N.length
        · simp [h2] at e'
        · simp [h2] at e'
  · cases o with
    | p k => exact S.non (.p k) e
    | s i => exact S.non (.s i) (by simp [get])
  · rw [hg] at e
    by_cases hi : i < as.length
    · rw [if_pos hi] at e
      cases ea : as[i]? with
      | none => simp [ea] at e
      | some a =>
        cases a with
        | fz d => simp [ea, arSl] at e
        | pin j =>
          simp [ea, arSl] at e
          subst e
          obtain ⟨v, h1, h2⟩ := argsF_get h ea
          exact ⟨v, h2, hs i v h1⟩
    · rw [if_neg hi] at e
      by_cases h2 : i < N.length
      · simp [h2] at e
      · simp [h2] at e
/-- .. and its end: the slots are gone -/
theorem StF.leave {K : Kf} {F0 G : Hp} {π : List V} {m : M} {σ : L2.St} {F H : Hp} {fp : Ow → List Addr} (S : StF K F0 G π m σ F H fp) :
    StF K F0 G π ⟨[], m.pp⟩ [] F H (fun o => match o with
      | .s _ => []
      | .p k => fp (.p k)) := by
  refine ⟨rfl, S.plen, S.sub, S.base, S.mono, S.new, fun o s e => ?_, fun o e => ?_, fun i k e => by simp at e, fun o => ?_, fun o o' a h h' => ?_, fun o a h => ?_⟩
  · cases o with
    | s i => simp [get] at e
    | p k => exact S.own (.p k) s e
  · cases o with
    | s i => rfl
    | p k => exact S.non (.p k) e
  · cases o with
    | s i => exact List.nodup_nil
    | p k => exact S.nd (.p k)
  · cases o with
    | s i => cases h
    | p k =>
      cases o' with
      | s i => cases h'
      | p k' => exact S.dj _ _ a h h'
  · cases o with
    | s i => cases h
    | p k => exact S.fr (.p k) a h
theorem EvF.leave {K : Kf} {G : Hp} {π : List V} {σ : L2.St} {F H : Hp} {fp : Ow → List Addr} {N : Addr → Prop} {v : V} {s : SV} (h : EvF K G π σ F H fp N v (.fr s)) :
    EvF K G π [] F H (fun o => match o with
      | .s _ => []
      | .p k => fp (.p k)) N v (.fr s) := by
  obtain ⟨q, h1, h2, h3⟩ := h
  refine ⟨q, h1, h2, fun a ha => ⟨(h3 a ha).1, (h3 a ha).2.1, fun o z => ?_, (h3 a ha).2.2.2⟩⟩
  cases o with
  | s i => cases z
  | p k => exact (h3 a ha).2.2.1 _ z
section
variable {P : Program} {w : World} {KX K : Kf} {mg : Str → Option Value} {base : Heap}
/-- THE RULE for a def: its body's denotation is its own -/
theorem fn_den {x qual : Str} {st : Stmt} {f : Addr} {fd : FuncData} {N ps : List Str} {k : Nat} {g : M → Out Ctl} (up : Up K KX) (Fn : Fun KX x qual st f fd) (S : FnScope N ps (defScope st))
    (h : ∀ (cdv : Value) (A : Around) (outer : List Env) (s : Shared) (H : Hp) (E : XK), Cxt (cxOf (L2.CX P w) P w KX mg base N qual (defScope st) f cdv A outer s H E) P w KX K mg base k (fun _ => E) →
      ∃ t, DSs (cxOf (L2.CX P w) P w KX mg base N qual (defScope st) f cdv A outer s H E) K mg (fun _ => E) (defBody st) t g) :
    FnOk P w KX mg base (L2.CX P w) (k + 1) f fd ps (spF K mg ps.length (dDef N.length g)) := by
  refine Fn.okX S (fun vs H Q E h => h.1) fun cdv A outer s H vs Q E hr hsp => ?_
  obtain ⟨hl, F, G, π, pins, fp, as, SF, ha, post⟩ := hsp
  have tk : Takes (cxOf (L2.CX P w) P w KX mg base N qual (defScope st) f cdv A outer s H E) (fun cls d _ H => E cls d H) := takes_of rfl rfl rfl rfl
  have C : Cxt (cxOf (L2.CX P w) P w KX mg base N qual (defScope st) f cdv A outer s H E) P w KX K mg base k (fun _ => E) :=
    ⟨rfl, rfl, rfl, up, rfl, rfl, hr, rfl, S.nd, fun σ => passAt tk σ, passes_of rfl, tk⟩
  obtain ⟨t, d⟩ := h cdv A outer s H E C
  refine ⟨t, d.pe, ?_⟩
  have hN : vs.length ≤ N.length := by
    have e := congrArg List.length S.pre
    rw [List.length_take] at e
    omega
  refine d.ok F G π _ _ F H fp _ (SF.enter ha hN) ?_
  unfold dDef at post
  cases e : g (PD.enter N.length as pins) with
  | bad => rw [e] at post; exact post.elim
  | exc c dd m' =>
    rw [e] at post
    exact fun σ' C dx v F' H' fp' hC T hd hr => post C dx v F' H' _ hC T.leave hd hr
  | ok c m' =>
    rw [e] at post
    cases c with
    | bk => exact post.elim
    | ct => exact post.elim
    | nx => exact fun σ' F' H' fp' T => post .non F' H' _ T.leave ⟨[], ⟨rfl, rfl⟩, List.nodup_nil, fun a h => by cases h⟩
    | rt s => exact fun v σ' F' H' fp' T ev => post v F' H' _ T.leave ev.leave
/-- a def of the text with its denotation -/
structure FnD (P : Program) (w : World) (KX K : Kf) (mg : Str → Option Value) (base : Heap) (x : Str) (st : Stmt) (k : Nat) (ps : List Str) (f : Den) : Prop where
  ex : ∃ (a : Addr) (fd : FuncData), Fun KX x x st a fd ∧ mg x = some (.ref a) ∧ Binds KX fd ps [] ∧ FnOk P w KX mg base (L2.CX P w) k a fd ps (spF K mg ps.length f)
theorem FnD.mono {x : Str} {st : Stmt} {j k : Nat} {ps : List Str} {f : Den} (F : FnD P w KX K mg base x st j ps f) (h : j ≤ k) : FnD P w KX K mg base x st k ps f :=
  let ⟨a, fd, h1, h2, h3, h4⟩ := F.ex
  ⟨a, fd, h1, h2, h3, h4.mono h⟩
/-! ## calls -/
/-- owners of the arguments that are handed on as they stand -/
def mkArgs (m : M) : List EV → List Ow → Option (List Ar × List Ow)
  | [], os => some ([], os)
  | .v d :: r, os => (mkArgs m r os).map fun x => (.fz d :: x.1, x.2)
  | .br o [] :: r, os => if o ∈ os then none else (mkArgs m r (os ++ [o])).map fun x => (.pin os.length :: x.1, x.2)
  | _ :: _, _ => none
def pinsOf (m : M) : List Ow → Option (List SV)
  | [] => some []
  | o :: r => match get m o, pinsOf m r with
    | some s, some ss => some (s :: ss)
    | _, _ => none
def setAll (m : M) : List Ow → List SV → M
  | o :: os, s :: ss => setAll (setO m o s) os ss
  | _, _ => m
def resE : SV → EV
  | .fz d => .v d
  | s => .fr s
def callK (np : Nat) (f : Den) (m : M) (es : List EV) : Out EV := if es.length ≠ np then .bad else match mkArgs m es [] with
  | none => .bad
  | some (as, os) => match pinsOf m os with
    | none => .bad
    | some pins => match f as pins with
      | .ok s m' => .ok (resE s) (setAll m os m'.pp)
      | .exc c d m' => .exc c d (setAll m os m'.pp)
      | .bad => .bad
theorem mkArgs_ok {m : M} : ∀ {es : List EV} {os os' : List Ow} {as : List Ar}, mkArgs m es os = some (as, os') → os.Nodup → os'.Nodup ∧ ∃ t, os' = os ++ t
  | [], os, os', as, h, nd => by
    simp [mkArgs] at h
    obtain ⟨_, rfl⟩ := h
    exact ⟨nd, [], by simp⟩
  | .v d :: r, os, os', as, h, nd => by
    simp only [mkArgs, Option.map_eq_some_iff] at h
    obtain ⟨⟨a, o⟩, h1, h2⟩ := h
    cases h2
    exact mkArgs_ok h1 nd
  | .br o [] :: r, os, os', as, h, nd => by
    simp only [mkArgs] at h
    by_cases ho : o ∈ os
    · rw [if_pos ho] at h; cases h
    · rw [if_neg ho, Option.map_eq_some_iff] at h
      obtain ⟨⟨a, o'⟩, h1, h2⟩ := h
      cases h2
      obtain ⟨n1, t, e⟩ := mkArgs_ok h1 (nodup_mk nd (List.nodup_cons.mpr ⟨by simp, List.nodup_nil⟩) fun x hx hy => by
        have : x = o := by simpa using hy
        subst this
        exact ho hx)
      exact ⟨n1, [o] ++ t, by rw [e, List.append_assoc]⟩
  | .br o (_ :: _) :: r, os, os', as, h, nd => by simp [mkArgs] at h
  | .fr s :: r, os, os', as, h, nd => by simp [mkArgs] at h
theorem pinsOf_get {m : M} : ∀ {os : List Ow} {ps : List SV}, pinsOf m os = some ps → ps.length = os.length ∧ ∀ (j : Nat) (o : Ow), os[j]? = some o → ∃ s, ps[j]? = some s ∧ get m o = some s
  | [], ps, h => by
    simp [pinsOf] at h
    subst h
    exact ⟨rfl, fun j o e => by simp at e⟩
  | o :: r, ps, h => by
    unfold pinsOf at h
    cases e1 : get m o with
    | none => simp [e1] at h
    | some s =>
      cases e2 : pinsOf m r with
      | none => simp [e1, e2] at h
      | some ss =>
        simp [e1, e2] at h
        subst h
        obtain ⟨h1, h2⟩ := pinsOf_get e2
        refine ⟨by simp [h1], fun j o' e => ?_⟩
        cases j with
        | zero => simp at e; subst e; exact ⟨s, by simp, e1⟩
        | succ j => simpa using h2 j o' (by simpa using e)
section
variable {F0 G : Hp} {π : List V} {m : M} {σ : L2.St} {F H : Hp} {fp : Ow → List Addr}
theorem mkArgs_args (S : StF K F0 G π m σ F H fp) : ∀ {es : List EV} {vs : List V} {os os' : List Ow} {as : List Ar} {π' : List V}, mkArgs m es os = some (as, os') → EvFs K G π σ F H fp (fun _ => False) vs es →
    (∀ (j : Nat) (o : Ow), os'[j]? = some o → ∃ v, refO σ π o = some v ∧ π'[j]? = some v) → os.Nodup → ArgsF K F π' as vs
  | [], vs, os, os', as, π', h, e, k, _ => by
    cases e
    simp [mkArgs] at h
    obtain ⟨rfl, rfl⟩ := h
    rfl
  | .v d :: r, vs, os, os', as, π', h, e, k, nd => by
    cases e with
    | @cons v vs _ _ e1 e2 =>
      simp only [mkArgs, Option.map_eq_some_iff] at h
      obtain ⟨⟨a, o⟩, h1, h2⟩ := h
      cases h2
      exact ⟨v, vs, rfl, e1, mkArgs_args S h1 e2 k nd⟩
  | .br o [] :: r, vs, os, os', as, π', h, e, k, nd => by
    cases e with
    | @cons v vs _ _ e1 e2 =>
      simp only [mkArgs] at h
      by_cases ho : o ∈ os
      · rw [if_pos ho] at h; cases h
      · rw [if_neg ho, Option.map_eq_some_iff] at h
        obtain ⟨⟨a, o'⟩, h1, h2⟩ := h
        cases h2
        have nd' : (os ++ [o]).Nodup := nodup_mk nd (List.nodup_cons.mpr ⟨by simp, List.nodup_nil⟩) fun x hx hy => by
          have : x = o := by simpa using hy
          subst this
          exact ho hx
        obtain ⟨_, t, et⟩ := mkArgs_ok h1 nd'
        obtain ⟨w, hw, hp⟩ := e1
        have hp : v = w := hp
        subst hp
        obtain ⟨v', h3, h4⟩ := k os.length o (by rw [et]; simp)
        rw [hw] at h3; cases h3
        exact ⟨v, vs, rfl, h4, mkArgs_args S h1 e2 k nd'⟩
  | .br o (_ :: _) :: r, vs, os, os', as, π', h, e, k, nd => by simp [mkArgs] at h
  | .fr s :: r, vs, os, os', as, π', h, e, k, nd => by simp [mkArgs] at h
theorem setAll_get : ∀ {os : List Ow} {ss : List SV} {m : M}, os.Nodup → ss.length = os.length → (∀ o ∈ os, ∃ s, get m o = some s) → ∀ o, get (setAll m os ss) o = if o ∈ os then ss[os.idxOf o]? else get m o
  | [], ss, m, _, _, _, o => by cases ss <;> simp [setAll]
  | a :: os, [], m, _, h, _, o => by simp at h
  | a :: os, s :: ss, m, nd, hl, hg, o => by
    rw [List.nodup_cons] at nd
    obtain ⟨r, hr⟩ := hg a List.mem_cons_self
    have g1 := fun o' => get_setO (s := s) hr o'
    have ih := setAll_get (os := os) (ss := ss) (m := setO m a s) nd.2 (by simpa using hl) (fun o' ho' => by
      obtain ⟨s', e'⟩ := hg o' (List.mem_cons_of_mem _ ho')
      refine ⟨s', ?_⟩
      rw [g1, if_neg fun z : o' = a => nd.1 (by rw [← z]; exact ho')]
      exact e') o
    show get (setAll (setO m a s) os ss) o = _
    rw [ih]
    by_cases e : o = a
    · subst e
      rw [if_neg nd.1, g1, if_pos rfl, if_pos List.mem_cons_self, List.idxOf_cons_self]
      rfl
    · by_cases ho : o ∈ os
      · rw [if_pos ho, if_pos (List.mem_cons_of_mem _ ho), List.idxOf_cons, show (a == o) = false by simpa using Ne.symm e]
        rfl
      · rw [if_neg ho, g1, if_neg e, if_neg (by simp [e, ho])]
theorem setAll_len : ∀ (os : List Ow) (ss : List SV) (m : M), (setAll m os ss).sl.length = m.sl.length ∧ (setAll m os ss).pp.length = m.pp.length
  | [], ss, m => by cases ss <;> simp [setAll]
  | a :: os, [], m => by simp [setAll]
  | a :: os, s :: ss, m => by
    have h := setAll_len os ss (setO m a s)
    have h2 : (setO m a s).sl.length = m.sl.length ∧ (setO m a s).pp.length = m.pp.length := by cases a <;> simp [setO]
    exact ⟨h.1.trans h2.1, h.2.trans h2.2⟩
theorem setAll_ali {i k : Nat} : ∀ {os : List Ow} {ss : List SV} {m : M}, (setAll m os ss).sl[i]? = some (some (Sl.pa k)) → m.sl[i]? = some (some (Sl.pa k))
  | [], ss, m, h => by cases ss <;> simpa [setAll] using h
  | a :: os, [], m, h => by simpa [setAll] using h
  | a :: os, s :: ss, m, h => by
    have h := setAll_ali (os := os) (ss := ss) h
    cases a with
    | p j => exact h
    | s j =>
      have h : (m.sl.set j (some (.sv s)))[i]? = some (some (Sl.pa k)) := h
      by_cases e : j = i
      · subst e
        by_cases hj : j < m.sl.length
        · rw [List.getElem?_set_self hj] at h; cases h
        · rw [List.getElem?_eq_none (by simpa using Nat.le_of_not_lt hj)] at h; cases h
      · rw [List.getElem?_set_ne e] at h
        exact h
open Classical in
/-- H without what stands at q -/
noncomputable def cutH (H : Hp) (q : Addr → Prop) : Hp := fun a => if q a then none else H a
theorem k_call {np : Nat} {f : Den} (E : XS) : KOkN K mg E false (fun σ vs H Q => spF K mg np f vs H Q (E σ)) (callK np f) := fun F0 G π m σ F H fp Q vs es S ev p => by
  unfold callK at p
  by_cases hlen : es.length ≠ np
  · rw [if_pos hlen] at p; exact p.elim
  rw [if_neg hlen] at p
  refine ⟨(evFs_len ev).trans (Classical.not_not.mp hlen), ?_⟩
  cases e1 : mkArgs m es [] with
  | none => rw [e1] at p; exact p.elim
  | some x =>
    obtain ⟨as, os⟩ := x
    rw [e1] at p
    have p : PostE K mg E false F0 G π m σ F H fp Q (match pinsOf m os with
      | none => .bad
      | some pins => match f as pins with
        | .ok s m' => .ok (resE s) (setAll m os m'.pp)
        | .exc c d m' => .exc c d (setAll m os m'.pp)
        | .bad => .bad) := p
    cases e2 : pinsOf m os with
    | none => rw [e2] at p; exact p.elim
    | some pins =>
      rw [e2] at p
      have p : PostE K mg E false F0 G π m σ F H fp Q (match f as pins with
        | .ok s m' => .ok (resE s) (setAll m os m'.pp)
        | .exc c d m' => .exc c d (setAll m os m'.pp)
        | .bad => .bad) := p
      obtain ⟨nd, _⟩ := mkArgs_ok e1 List.nodup_nil
      obtain ⟨pl, pg⟩ := pinsOf_get e2
      have hget : ∀ o ∈ os, ∃ s, get m o = some s := fun o ho => by
        obtain ⟨j, hj⟩ := List.getElem?_of_mem ho
        obtain ⟨s, _, h2⟩ := pg j o hj
        exact ⟨s, h2⟩
      -- the references of what is handed on
      have hπ : ∃ π' : List V, π'.length = os.length ∧ ∀ (j : Nat) (o : Ow), os[j]? = some o → ∃ v, refO σ π o = some v ∧ π'[j]? = some v := by
        have : ∀ os : List Ow, (∀ o ∈ os, ∃ s, get m o = some s) → ∃ π' : List V, π'.length = os.length ∧ ∀ (j : Nat) (o : Ow), os[j]? = some o → ∃ v, refO σ π o = some v ∧ π'[j]? = some v := by
          intro os
          induction os with
          | nil => exact fun _ => ⟨[], rfl, fun j o e => by simp at e⟩
          | cons a os ih =>
            intro hg
            obtain ⟨π', h1, h2⟩ := ih fun o ho => hg o (List.mem_cons_of_mem _ ho)
            obtain ⟨s, hs⟩ := hg a List.mem_cons_self
            obtain ⟨v, hv, _⟩ := S.own a s hs
            refine ⟨v :: π', by simp [h1], fun j o e => ?_⟩
            cases j with
            | zero => simp at e; subst e; exact ⟨v, hv, by simp⟩
            | succ j => simpa using h2 j o (by simpa using e)
        exact this os hget
      obtain ⟨π', pl', pr⟩ := hπ
      let inP : Addr → Prop := fun a => ∃ o ∈ os, a ∈ fp o
      let fpc : Ow → List Addr := fun o => match o with
        | .s _ => []
        | .p j => match os[j]? with
          | some o => fp o
          | none => []
      have fpc_p : ∀ j o, os[j]? = some o → fpc (.p j) = fp o := fun j o e => by show (match os[j]? with | some o => fp o | none => []) = _; rw [e]
      have fpc_in : ∀ o a, a ∈ fpc o → ∃ j o', o = .p j ∧ os[j]? = some o' ∧ a ∈ fp o' := fun o a h => by
        cases o with
        | s i => cases h
        | p j =>
          cases e : os[j]? with
          | none =>
            have : fpc (.p j) = [] := by show (match os[j]? with | some o => fp o | none => []) = _; rw [e]
            rw [this] at h; cases h
          | some o' => exact ⟨j, o', rfl, e, by rw [← fpc_p j o' e]; exact h⟩
      have nin : ∀ a, F a ≠ none → ¬ inP a := fun a ha ⟨o, _, h⟩ => ha (S.fr o a h).1
      have Sc : StF K F (cutH H inP) π' ⟨[], pins⟩ [] F H fpc := by
        refine ⟨rfl, pl.trans pl'.symm, S.sub, fun a x e => ?_, Same.refl F, fun _ h => .inl h, fun o s e => ?_, fun o e => ?_, fun i k e => by simp at e, fun o => ?_, fun o o' a h h' => ?_, fun o a h => ?_⟩
        · unfold cutH at e
          by_cases z : inP a
          · rw [if_pos z] at e; cases e
          · rw [if_neg z] at e; exact e
        · cases o with
          | s i => simp [get] at e
          | p j =>
            have e : pins[j]? = some s := e
            have hj : j < os.length := by
              rw [← pl]
              rcases Nat.lt_or_ge j pins.length with z | z
              · exact z
              · rw [List.getElem?_eq_none z] at e; cases e
            obtain ⟨s', h1, h2⟩ := pg j os[j] (List.getElem?_eq_getElem hj)
            rw [e] at h1; cases h1
            obtain ⟨v, h3, h4⟩ := pr j os[j] (List.getElem?_eq_getElem hj)
            obtain ⟨v', h5, h6⟩ := S.own _ _ h2
            rw [h3] at h5; cases h5
            exact ⟨v, h4, by rw [fpc_p j _ (List.getElem?_eq_getElem hj)]; exact h6⟩
        · cases o with
          | s i => rfl
          | p j =>
            have e : pins[j]? = none := e
            have hj : os[j]? = none := by
              rw [List.getElem?_eq_none_iff] at e ⊢
              omega
            show (match os[j]? with | some o => fp o | none => []) = _
            rw [hj]
        · cases o with
          | s i => exact List.nodup_nil
          | p j =>
            cases e : os[j]? with
            | none =>
              have : fpc (.p j) = [] := by show (match os[j]? with | some o => fp o | none => []) = _; rw [e]
              rw [this]; exact List.nodup_nil
            | some o' => rw [fpc_p j o' e]; exact S.nd o'
        · obtain ⟨j, a1, rfl, e1, h1⟩ := fpc_in o a h
          obtain ⟨j', a2, rfl, e2, h2⟩ := fpc_in o' a h'
          have := S.dj a1 a2 a h1 h2
          subst this
          have := (List.getElem?_inj (by
            rcases Nat.lt_or_ge j os.length with z | z
            · exact z
            · rw [List.getElem?_eq_none z] at e1; cases e1) nd).mp (e1.trans e2.symm)
          rw [this]
        · obtain ⟨j, a1, rfl, e1, h1⟩ := fpc_in o a h
          refine ⟨(S.fr a1 a h1).1, ?_⟩
          unfold cutH
          rw [if_pos ⟨a1, List.mem_of_getElem? e1, h1⟩]
      refine ⟨F, cutH H inP, π', pins, fpc, as, Sc, mkArgs_args S e1 ev pr List.nodup_nil, ?_⟩
      -- behind the call
      have back : ∀ {pp' : List SV} {F' H' : Hp} {fp' : Ow → List Addr}, StF K F (cutH H inP) π' ⟨[], pp'⟩ [] F' H' fp' → StF K F0 G π (setAll m os pp') σ F' H' (fun o => if o ∈ os then fp' (.p (os.idxOf o)) else fp o) := fun {pp' F' H' fp'} T => by
        have ppl : pp'.length = os.length := T.plen.trans pl'
        have gs := setAll_get nd ppl hget
        have idx : ∀ o ∈ os, os[os.idxOf o]? = some o := fun o ho => by
          rw [List.getElem?_eq_getElem (List.idxOf_lt_length_of_mem ho), List.getElem_idxOf]
        have keepN : ∀ o, o ∉ os → ∀ a ∈ fp o, ¬ inP a := fun o ho a ha ⟨o', h1, h2⟩ => ho (S.dj o o' a ha h2 ▸ h1)
        have cutk : ∀ a, ¬ inP a → cutH H inP a = H a := fun a h => if_neg h
        have hk : ∀ o, o ∉ os → ∀ a ∈ fp o, H' a = H a := fun o ho a ha => by
          have z := keepN o ho a ha
          have e := cutk a z
          exact (same_of T.base (by rw [e]; exact S.there ha)).trans e
        have hF' : ∀ o, o ∉ os → ∀ a ∈ fp o, F' a = none := fun o ho a ha => by
          cases e : F' a with
          | none => rfl
          | some x =>
            rcases T.new a (by rw [e]; exact Option.some_ne_none _) with z | z
            · exact absurd (S.fr o a ha).1 z
            · rw [cutk a (keepN o ho a ha)] at z
              exact absurd z (S.there ha)
        have hG : ∀ o a, a ∈ fp' o → G a = none ∧ ∀ o', o' ∉ os → a ∉ fp o' := fun o a h => by
          have z := (T.fr o a h).2
          refine ⟨?_, fun o' ho' ha => ?_⟩
          · by_cases y : inP a
            · obtain ⟨o2, _, h2⟩ := y
              exact (S.fr o2 a h2).2
            · rw [cutk a y] at z
              exact same_none S.base z
          · rw [cutk a (keepN o' ho' a ha)] at z
            exact S.there ha z
        refine ⟨(setAll_len os pp' m).1.trans S.len, (setAll_len os pp' m).2.trans S.plen, T.sub, fun a x e => ?_, S.mono.trans T.mono, fun a h => ?_, fun o s e => ?_, fun o e => ?_, fun i k e => S.ali i k (setAll_ali e), fun o => ?_, fun o o' a h h' => ?_, fun o a h => ?_⟩
        · have ni : ¬ inP a := fun ⟨o, _, h⟩ => by
            rw [(S.fr o a h).2] at e; cases e
          exact T.base a x ((cutk a ni).trans (S.base a x e))
        · rcases T.new a h with z | z
          · exact S.new a z
          · by_cases y : inP a
            · obtain ⟨o2, _, h2⟩ := y
              exact .inr (S.fr o2 a h2).2
            · rw [cutk a y] at z
              exact .inr (same_none S.base z)
        · rw [gs] at e
          by_cases ho : o ∈ os
          · rw [if_pos ho] at e ⊢
            obtain ⟨v, h1, h2⟩ := T.own (.p (os.idxOf o)) s e
            obtain ⟨v', h3, h4⟩ := pr _ o (idx o ho)
            have h1 : π'[os.idxOf o]? = some v := h1
            rw [h1] at h4; cases h4
            exact ⟨v, h3, h2⟩
          · rw [if_neg ho] at e ⊢
            obtain ⟨v, h1, h2⟩ := S.own o s e
            exact ⟨v, h1, h2.keep T.mono _ _ _ fun a ha => hk o ho a ha⟩
        · rw [gs] at e
          by_cases ho : o ∈ os
          · rw [if_pos ho] at e ⊢
            exact T.non (.p (os.idxOf o)) e
          · rw [if_neg ho] at e ⊢
            exact S.non o e
        · by_cases ho : o ∈ os
          · rw [if_pos ho]; exact T.nd _
          · rw [if_neg ho]; exact S.nd o
        · by_cases ho : o ∈ os
          · rw [if_pos ho] at h
            by_cases ho' : o' ∈ os
            · rw [if_pos ho'] at h'
              have := T.dj _ _ a h h'
              have e : os.idxOf o = os.idxOf o' := Ow.p.inj this
              have e1 := idx o ho
              rw [e, idx o' ho'] at e1
              cases e1; rfl
            · rw [if_neg ho'] at h'
              exact absurd h' ((hG _ a h).2 o' ho')
          · rw [if_neg ho] at h
            by_cases ho' : o' ∈ os
            · rw [if_pos ho'] at h'
              exact absurd h ((hG _ a h').2 o ho)
            · rw [if_neg ho'] at h'
              exact S.dj o o' a h h'
        · by_cases ho : o ∈ os
          · rw [if_pos ho] at h
            exact ⟨(T.fr _ a h).1, (hG _ a h).1⟩
          · rw [if_neg ho] at h
            exact ⟨hF' o ho a h, (S.fr o a h).2⟩
      cases e3 : f as pins with
      | bad => rw [e3] at p; exact p.elim
      | exc c d m' =>
        rw [e3] at p
        exact fun C dx v F' H' fp' hC T hd hr => p C dx v F' H' _ hC (back T) hd hr
      | ok s m' =>
        rw [e3] at p
        intro v F' H' fp' T ev'
        have B := back T
        refine p v F' H' _ B ⟨T.mono, fun z => by cases z⟩ ?_
        obtain ⟨q, h1, h2, h3⟩ := ev'
        have fin : EvF K G π σ F' H' (fun o => if o ∈ os then fp' (.p (os.idxOf o)) else fp o) (NewA false H) v (.fr s) := by
          refine ⟨q, h1, h2, fun a ha => ?_⟩
          obtain ⟨g1, g2, g3, _⟩ := h3 a ha
          refine ⟨g1, ?_, fun o z => ?_, fun z => by cases z⟩
          · by_cases y : inP a
            · obtain ⟨o2, _, h2⟩ := y
              exact (S.fr o2 a h2).2
            · have : cutH H inP a = H a := if_neg y
              rw [this] at g2
              exact same_none S.base g2
          · have z : a ∈ (if o ∈ os then fp' (.p (os.idxOf o)) else fp o) := z
            by_cases ho : o ∈ os
            · rw [if_pos ho] at z
              exact g3 _ z
            · rw [if_neg ho] at z
              have ni : ¬ inP a := fun ⟨o', h1, h2⟩ => ho (S.dj o o' a z h2 ▸ h1)
              have : cutH H inP a = H a := if_neg ni
              rw [this] at g2
              exact S.there z g2
        cases s with
        | fz d => exact h1.1
        | ol _ => exact fin
        | ok _ => exact fin
        | ot _ => exact fin
end
end
end PD
namespace PD
open PySem PySem.Spec PyProof.Rows L2
section
variable {X : Cx} {P : Program} {w : World} {KX K : Kf} {mg : Str → Option Value} {base : Heap} {n : Nat} {E : XS} {pa pb pc pu : Bool} {ta tb tc te : TE} {ga gb gc ge : M → Out EV} {a b c e : Expr} {es : List Expr} {pos p : Pos} {x : Str}
/-! ## calls of defs -/
theorem de_call (C : Cxt X P w KX K mg base n E) {st : Stmt} {k : Nat} {ps : List Str} {f : Den} {t : TA} {gs : M → Out (List EV)} (Fd : FnD P w KX K mg base x st k ps f) (ha : DA X K mg E (e :: es) pb t gs) (hk : k ≤ n := by decide) (hg : Gl X x := by rfl)
    (hdb : (x == ("__debug__" : Str)) = false := by decide) (he : starEach (e :: es) X.env = (false, eval e X.env) :: starEach es X.env := by rfl) (hpl : (backTo pos (starEach es X.env)).any (·.1) = false := by rfl) :
    DE X K mg E (.Call (.Name x p) (e :: es) [] pos) false (tCallS (spF K mg ps.length f) E t) (dApp gs (callK ps.length f)) := by
  obtain ⟨ad, fd, h1, h2, h3, h4⟩ := Fd.ex
  obtain ⟨rfl, rfl, rfl, up, rfl, rfl, room, calm, nd, hx, _⟩ := C
  refine ⟨pe_callS h4 (room.mono hk) hg h2 h1.kp h3 hx ha.pe hdb he hpl, ?_⟩
  have := te_app ha.ok (k_call (np := ps.length) (f := f) E)
  rw [Bool.and_false] at this
  exact this
/-- a def without parameters -/
theorem de_call0 (C : Cxt X P w KX K mg base n XS0) {st : Stmt} {k : Nat} {f : Den} (Fd : FnD P w KX K mg base x st k [] f) (hk : k ≤ n := by decide) (hg : Gl X x := by rfl) (hdb : (x == ("__debug__" : Str)) = false := by decide) :
    DE X K mg XS0 (.Call (.Name x p) [] [] pos) false (tCall (spF K mg 0 f) [] E0 tNil) (dApp dNil (callK 0 f)) := by
  obtain ⟨ad, fd, h1, h2, h3, h4⟩ := Fd.ex
  obtain ⟨rfl, rfl, rfl, up, rfl, rfl, room, calm, nd, hx, _⟩ := C
  refine ⟨pe_call0 h4 (room.mono hk) hg h2 h1.kp h3 .nil (passL (X := X)) hdb, ?_⟩
  have := te_app (E := XS0) ta_nil (k_call (K := K) (mg := X.mg) (np := 0) (f := f) XS0)
  rw [Bool.and_false] at this
  exact this
/-! ### by keywords -/
def perm {α : Type} (ix : List Nat) (l : List α) : List α := ix.filterMap fun i => l[i]?
theorem vals_perm {vs : List V} {us : List Value} (r : Vals vs us) : ∀ ix : List Nat, Vals (perm ix vs) (perm ix us)
  | [] => .nil
  | i :: ix => by
    have ih := vals_perm r ix
    unfold perm at ih ⊢
    cases e : vs[i]? with
    | none => rw [List.filterMap_cons_none (by exact e), List.filterMap_cons_none (by exact r.none_of e)]; exact ih
    | some v =>
      obtain ⟨u, h1, h2⟩ := r.get e
      rw [List.filterMap_cons_some (by exact e), List.filterMap_cons_some (by exact h1)]
      exact .cons h2 ih
theorem evFs_get {G : Hp} {π : List V} {σ : L2.St} {F H : Hp} {fp : Ow → List Addr} {N : Addr → Prop} {vs : List V} {es : List EV} (h : EvFs K G π σ F H fp N vs es) : ∀ i : Nat, (vs[i]? = none ∧ es[i]? = none) ∨ ∃ v e, vs[i]? = some v ∧ es[i]? = some e ∧ EvF K G π σ F H fp N v e := by
  induction h with
  | nil => exact fun i => .inl ⟨by simp, by simp⟩
  | @cons v vs e es h1 _ ih =>
    intro i
    cases i with
    | zero => exact .inr ⟨v, e, by simp, by simp, h1⟩
    | succ i => simpa using ih i
theorem evFs_perm {G : Hp} {π : List V} {σ : L2.St} {F H : Hp} {fp : Ow → List Addr} {N : Addr → Prop} {vs : List V} {es : List EV} (h : EvFs K G π σ F H fp N vs es) : ∀ ix : List Nat, EvFs K G π σ F H fp N (perm ix vs) (perm ix es)
  | [] => .nil
  | i :: ix => by
    have ih := evFs_perm h ix
    unfold perm at ih ⊢
    rcases evFs_get h i with ⟨h1, h2⟩ | ⟨v, e, h1, h2, h3⟩
    · rw [List.filterMap_cons_none (by exact h1), List.filterMap_cons_none (by exact h2)]; exact ih
    · rw [List.filterMap_cons_some (by exact h1), List.filterMap_cons_some (by exact h2)]
      exact .cons h3 ih
theorem perm_evFs {G : Hp} {π : List V} {σ : L2.St} {F H : Hp} {fp : Ow → List Addr} {N : Addr → Prop} {vs : List V} {es : List EV} (h : EvFs K G π σ F H fp N vs es) : EvFs K G π σ F H fp N vs es := h
/-- the call itself, its arguments bound -/
theorem run_fnP {CX : CXT} {k : Nat} {f : Addr} {fd : FuncData} {ps : List Str} {sp : Sp} {pins : List (Addr × Obj)} {σ : L2.St} {H : Hp} {s : Shared} {Q : VK} {us : List Value} {vs : List V} {args : Args} (F : FnOk X.prog X.w X.K X.mg X.base CX k f fd ps sp) (hr : Room k X.A)
    (hb : BindsTo s fd args (ps.zip us)) (hx : PassesAt CX X σ (E σ)) (I : Inv X pins σ H s) (r : Vals vs us) (h : sp vs H Q (E σ)) : wpAny (model X.prog X.w) X.A (call (.ref f) args.pos args.kw) (EP X pins σ Q) X.xe s := by
  refine wpAny_call (codeAny_mono (F.run X.A X.stack s H args us vs Q (E σ) hr I.env0 hb r h) fun r s' hq => ?_)
  cases r with
  | error e => exact hx pins H s e s' I hq
  | ok fl =>
    cases fl with
    | ret u => exact I.after hq
    | next => exact False.elim hq
    | brk => exact False.elim hq
    | cont => exact False.elim hq
def tCallW (sp : Sp) (E : XS) (ix : List Nat) (tk : TA) : TE := fun σ H Q => tk σ H fun zs H1 => zs.length = ix.length ∧ sp (perm ix zs) H1 Q (E σ)
/-- f(k = v, ..): all arguments by keywords; ix puts them in the parameters' order -/
theorem pe_callW {CX : CXT} {k : Nat} {f : Addr} {fd : FuncData} {ps ks : List Str} {sp : Sp} {ix : List Nat} {kws : List Keyword} {tk : TA} (F : FnOk X.prog X.w X.K X.mg X.base CX k f fd ps sp) (hr : Room k X.A) (hg : Gl X x) (hm : X.mg x = some (.ref f)) (hk : PySem.W.keepIn X.K (.ref f) = true)
    (hb : ∀ (s : Shared) (ws : List Value), ws.length = ix.length → BindsTo s fd ⟨[], ks.zip ws⟩ (ps.zip (perm ix ws))) (hx : ∀ σ, PassesAt CX X σ (E σ)) (hkw : PK X kws tk)
    (hall : (backToKw pos (keywordEach kws X.env)).all (·.1.isSome) = true := by rfl) (hks : (backToKw pos (keywordEach kws X.env)).filterMap (·.1) = ks := by rfl)
    (hdb : (x == ("__debug__" : Str)) = false := by decide) (hpl : (backToKw pos (keywordEach kws X.env)).any (·.1.isNone) = false := by rfl) :
    PE X (.Call (.Name x p) [] kws pos) (tCallW sp E ix tk) := by
  refine ⟨fun pins s σ H Q I h => ?_⟩
  refine wpAny_Call_Name_kw (ld_glob I hg hm ?_ hdb)
  refine PySem.W.callWith_KW0 (h₀ := X.base) I.ok.mod.kin hk hall (thn (hkw.run pos pins s σ H _ I h) fun ws s2 ⟨zs, H2, I2, rz, hl, q2⟩ => ⟨I2.kIn, ?_⟩) hpl
  rw [hks]
  exact run_fnP (args := ⟨[], ks.zip ws⟩) F hr (hb s2 ws (by rw [← rz.length]; exact hl)) (hx σ) I2 (vals_perm rz ix) q2
def callP (np : Nat) (f : Den) (ix : List Nat) (m : M) (es : List EV) : Out EV := if es.length = ix.length then callK np f m (perm ix es) else .bad
theorem de_callW (C : Cxt X P w KX K mg base n E) {st : Stmt} {k : Nat} {ps : List Str} {f : Den} {kws : List Keyword} {tk : TA} {gs : M → Out (List EV)} (Fd : FnD P w KX K mg base x st k ps f) (ix : List Nat) (ks : List Str)
    (hb : ∀ (kV doc pm : Value) (an : Option Addr) (cdv ct : Value) (ws : List Value), ws.length = ix.length → bindArgs (PySem.W.fnOf x x (defArgs st) (defBody st) (defScope st) .none kV doc pm an cdv ct) ⟨[], ks.zip ws⟩ = pure (ps.zip (perm ix ws)))
    (hkw : DK X K mg E kws pb tk gs) (hl : kws.length = ix.length := by rfl) (hk : k ≤ n := by decide) (hg : Gl X x := by rfl)
    (hall : (backToKw pos (keywordEach kws X.env)).all (·.1.isSome) = true := by rfl) (hks : (backToKw pos (keywordEach kws X.env)).filterMap (·.1) = ks := by rfl)
    (hdb : (x == ("__debug__" : Str)) = false := by decide) (hpl : (backToKw pos (keywordEach kws X.env)).any (·.1.isNone) = false := by rfl) :
    DE X K mg E (.Call (.Name x p) [] kws pos) false (tCallW (spF K mg ps.length f) E ix tk) (dApp gs (callP ps.length f ix)) := by
  obtain ⟨ad, fd, h1, h2, h3, h4⟩ := Fd.ex
  obtain ⟨rfl, rfl, rfl, up, rfl, rfl, room, calm, nd, hx, _⟩ := C
  obtain ⟨oc, od, kV, doc, pm, an, cdv, ct, osl, rfl, lk, hcd⟩ := h1.ex
  refine ⟨pe_callW h4 (room.mono hk) hg h2 h1.kp (fun s ws hl => .of_eq (hb kV doc pm an cdv ct ws hl)) hx hkw.pe hall hks hdb hpl, ?_⟩
  have hK : KOkN K X.mg E false (fun σ zs H Q => zs.length = ix.length ∧ spF K X.mg ps.length f (perm ix zs) H Q (E σ)) (callP ps.length f ix) := fun F0 G π m σ F H fp Q vs es S ev p => by
    unfold callP at p
    by_cases hl : es.length = ix.length
    · rw [if_pos hl] at p
      exact ⟨(evFs_len ev).trans hl, k_call (np := ps.length) (f := f) E F0 G π m σ F H fp Q _ _ S (evFs_perm ev ix) p⟩
    · rw [if_neg hl] at p; exact p.elim
  have := te_app hkw.ok hK
  rw [Bool.and_false] at this
  exact this
/-! ## walks -/
theorem di_seq (C : Cxt X P w KX K mg base n E) {tg : Expr} (h : DE X K mg E e pa ta ga) : DI X K mg E tg e (iSeq KX ta) (dISeq ga) := by
  obtain ⟨rfl, rfl, rfl, up, rfl, rfl, _, _, _, _, _⟩ := C
  exact ⟨pi_or (pi_list h.pe) (pi_tup h.pe), ti_seq up h.ok⟩
theorem dg_tup (C : Cxt X P w KX K mg base n E) {t : TGs} {bs : List D → M → Out Unit} {j nn : Nat} (h : DGs X K es t bs) (hn : (assignEach es X.env).length = nn := by rfl) (hst : (assignEach es X.env).findIdx? (·.1) = none := by rfl) : DG X K (.Tuple es j pos) (gTup KX nn t) (bTup nn bs) := by
  obtain ⟨rfl, rfl, rfl, up, rfl, rfl, _, calm, _, _, _⟩ := C
  exact ⟨pg_tup calm h.pe hn hst, tg_tup up h.ok⟩
/-! ### range -/
def kRange1 (m : M) (es : List EV) : Out Wk := match es with
  | [.v (.int j)] => if -(2 ^ 62) ≤ j ∧ j < 2 ^ 62 then .ok ⟨(List.range j.toNat).map fun i => .int (i : Nat), fun _ => True⟩ m else .bad
  | _ => .bad
def kRange2 (m : M) (es : List EV) : Out Wk := match es with
  | [.v (.int i), .v (.int j)] => if -(2 ^ 62) ≤ i ∧ i < 2 ^ 62 ∧ -(2 ^ 62) ≤ j ∧ j < 2 ^ 62 then .ok ⟨(List.range (j - i).toNat).map fun k => .int (i + (k : Nat)), fun _ => True⟩ m else .bad
  | _ => .bad
def dIter (gs : M → Out (List EV)) (k : M → List EV → Out Wk) (m : M) : Out Wk := (gs m).bind fun xs m1 => k m1 xs
def KOkI (K : Kf) (r : List V → Hp → (It → Hp → Prop) → Prop) (k : M → List EV → Out Wk) : Prop :=
  ∀ F0 G π m σ F H fp (R : It → Hp → Prop) xs es, StF K F0 G π m σ F H fp → EvFs K G π σ F H fp (fun _ => False) xs es → PostI K (fun _ => none) XS0 F0 G π σ F R (k m es) → r xs H R
theorem ti_app {r : List V → Hp → (It → Hp → Prop) → Prop} {k : M → List EV → Out Wk} {ts : TA} {gs : M → Out (List EV)} (hb : TAok K mg E pb ts gs) (hr : KOkI K r k) (hx : ∀ m es c d m', k m es ≠ .exc c d m') : TIok K mg E (fun σ H R => ts σ H fun vs H1 => r vs H1 R) (dIter gs k) := fun F0 G π m σ F H fp R S p => by
  refine hb F0 G π m σ F H fp _ S ?_
  unfold dIter at p
  cases e : gs m with
  | bad => rw [e] at p; exact p
  | exc c d m' => rw [e] at p; exact p
  | ok es m1 =>
    rw [e] at p
    have p : PostI K mg E F0 G π σ F R (k m1 es) := p
    intro xs F1 H1 fp1 S1 c1 e1
    refine hr F0 G π m1 σ F1 H1 fp1 R xs es S1 e1 ?_
    cases e2 : k m1 es with
    | bad => rw [e2] at p; exact p
    | exc c d m' => exact (hx _ _ _ _ _ e2).elim
    | ok w m2 =>
      rw [e2] at p
      exact fun J F' H' fp' S' s' hJ => p J F' H' fp' S' (c1.ext.trans s') hJ
theorem itr_ok {F0 G F1 : Hp} {π : List V} {lo : Int} {n : Nat} : ItOk K F0 G π (Itr lo n) F1 ⟨(List.range n).map fun k => .int (lo + (k : Nat)), fun _ => True⟩ := fun m σ F H fp S s _ => by
  refine ⟨fun i d e => ?_, by show n ≤ _; simp⟩
  have hi : i < n := by
    rcases Nat.lt_or_ge i n with z | z
    · exact z
    · rw [List.getElem?_eq_none (by simpa using z)] at e; cases e
  have ed : d = .int (lo + (i : Nat)) := by
    rw [List.getElem?_map, List.getElem?_range hi] at e
    exact (Option.some.inj e).symm
  subst ed
  refine ⟨hi, fun x H2 hy => ?_⟩
  obtain ⟨rfl, rfl⟩ := hy
  exact ⟨F, S, Same.refl _, Same.refl _, fun _ h => .inl h, rfl⟩
theorem k_range1 : KOkI K (fun vs H1 R => ∃ j : Int, vs = [.int j] ∧ -(2 ^ 62) ≤ j ∧ j < 2 ^ 62 ∧ R (Itr 0 j.toNat) H1) kRange1 := fun F0 G π m σ F H fp R xs es S h p => by
  unfold kRange1 at p
  split at p
  · rename_i j
    cases h with
    | @cons v vs _ _ h1 h2 =>
      cases h2
      have h1 : v = .int j := h1
      subst h1
      by_cases hj : -(2 ^ 62) ≤ j ∧ j < 2 ^ 62
      · rw [if_pos hj] at p
        refine ⟨j, rfl, hj.1, hj.2, p _ F H fp S (Same.refl _) fun F0' G' _ _ => ?_⟩
        have := itr_ok (K := K) (F0 := F0') (G := G') (F1 := F) (π := π) (lo := 0) (n := j.toNat)
        simpa using this
      · rw [if_neg hj] at p; exact p.elim
  · exact p.elim
theorem k_range2 : KOkI K (fun vs H1 R => ∃ i j : Int, vs = [.int i, .int j] ∧ (-(2 ^ 62) ≤ i ∧ i < 2 ^ 62 ∧ -(2 ^ 62) ≤ j ∧ j < 2 ^ 62) ∧ R (Itr i (j - i).toNat) H1) kRange2 := fun F0 G π m σ F H fp R xs es S h p => by
  unfold kRange2 at p
  split at p
  · rename_i i j
    cases h with
    | @cons v vs _ _ h1 h2 =>
      cases h2 with
      | @cons v2 vs2 _ _ h2 h3 =>
        cases h3
        have h1 : v = .int i := h1
        have h2 : v2 = .int j := h2
        subst h1 h2
        by_cases hj : -(2 ^ 62) ≤ i ∧ i < 2 ^ 62 ∧ -(2 ^ 62) ≤ j ∧ j < 2 ^ 62
        · rw [if_pos hj] at p
          exact ⟨i, j, rfl, hj, p _ F H fp S (Same.refl _) fun F0' G' _ _ => itr_ok⟩
        · rw [if_neg hj] at p; exact p.elim
  · exact p.elim
theorem di_range1 (C : Cxt X P w KX K mg base n E) {tg : Expr} {ts : TA} {gs : M → Out (List EV)} (hm : mg "range" = none) (h : DA X K mg E [a] pb ts gs) (hg : Gl X "range" := by rfl) (hs : starEach [a] X.env = [(false, eval a X.env)] := by rfl) : DI X K mg E tg (.Call (.Name "range" p) [a] [] pos) (iRng1 ts) (dIter gs kRange1) := by
  obtain ⟨rfl, rfl, rfl, up, rfl, rfl, _, _, _, _, _⟩ := C
  exact ⟨pi_range1 hg hm h.pe hs, ti_app h.ok k_range1 fun m es c d m' e => by
    unfold kRange1 at e
    split at e
    · split at e <;> cases e
    · cases e⟩
theorem di_range2 (C : Cxt X P w KX K mg base n E) {tg : Expr} {ts : TA} {gs : M → Out (List EV)} (hm : mg "range" = none) (h : DA X K mg E [a, b] pb ts gs) (hg : Gl X "range" := by rfl) (hs : starEach [a, b] X.env = [(false, eval a X.env), (false, eval b X.env)] := by rfl) (hs2 : starEach [b] X.env = [(false, eval b X.env)] := by rfl) : DI X K mg E tg (.Call (.Name "range" p) [a, b] [] pos) (iRng2 ts) (dIter gs kRange2) := by
  obtain ⟨rfl, rfl, rfl, up, rfl, rfl, _, _, _, _, _⟩ := C
  exact ⟨pi_range2 hg hm h.pe hs hs2, ti_app h.ok k_range2 fun m es c d m' e => by
    unfold kRange2 at e
    split at e
    · split at e <;> cases e
    · cases e⟩
/-! ## comprehensions -/
theorem dts_nil : DTs X K mg E [] true tYes (fun m => .ok true m) := ⟨pts_nil, fun F0 G π m σ F H fp Q S p => p F H fp S Ch.refl⟩
theorem dts_one {t : TT} {g : M → Out Bool} (h : DT X K mg E c pa t g) : DTs X K mg E [c] pa t g := ⟨pts_one h.pe, h.ok⟩
theorem de_lc (C : Cxt X P w KX K mg base n E) {elt tg iter : Expr} {ifs : List Expr} {scope : Scope} (own : List (Str × Nat)) {wi : TI} {gi : M → Out Wk} {g : TG} {bg : EV → M → Out Unit} {tt : TT} {gt : M → Out Bool} (hi : DI X K mg E tg iter wi gi) (ok : BlkOk X.N X.env.scope scope own)
    (hg : ∀ (s : Shared) (H : Hp) (Ca : Addr) (cl : List (Str × Addr)) (fp : List Addr), Cxt (X.blk s H scope (compEnvC scope cl Ca X.env) fp) P w KX K mg base n XS0 → DG (X.blk s H scope (compEnvC scope cl Ca X.env) fp) K tg g bg) (ho : OwnT' g (own.map (·.2)))
    (ht : ∀ (s : Shared) (H : Hp) (Ca : Addr) (cl : List (Str × Addr)) (fp : List Addr), Cxt (X.blk s H scope (compEnvC scope cl Ca X.env) fp) P w KX K mg base n XS0 → DTs (X.blk s H scope (compEnvC scope cl Ca X.env) fp) K mg XS0 ifs pb tt gt)
    (he : ∀ (s : Shared) (H : Hp) (Ca : Addr) (cl : List (Str × Addr)) (fp : List Addr), Cxt (X.blk s H scope (compEnvC scope cl Ca X.env) fp) P w KX K mg base n XS0 → DE (X.blk s H scope (compEnvC scope cl Ca X.env) fp) K mg XS0 elt pc te ge)
    (nd : (own.map (·.2)).Nodup := by decide) (hs : ∀ x, foldedSetIterable iter X.env x = pure x := by intro _; rfl) :
    DE X K mg E (.ListComp elt [⟨tg, iter, ifs, 0⟩] scope pos) false (tLc wi g tt te (own.map (·.2))) (dComp gi (own.map (·.2)) bg gt ge) := by
  have s0 : Shared := {}
  have Cb := fun (s : Shared) (H : Hp) (Ca : Addr) (cl : List (Str × Addr)) (fp : List Addr) => C.blk s H scope (compEnvC scope cl Ca X.env) fp
  refine ⟨pe_lc C.calm C.nd hi.pe ok (fun s H Ca cl fp => (hg s H Ca cl fp (Cb s H Ca cl fp)).pe) (fun s H Ca cl fp => (ht s H Ca cl fp (Cb s H Ca cl fp)).pe) (fun s H Ca cl fp => (he s H Ca cl fp (Cb s H Ca cl fp)).pe) hs, ?_⟩
  exact te_comp hi.ok (hg s0 (fun _ => none) 0 [] [] (Cb _ _ _ _ _)).ok ho (ht s0 (fun _ => none) 0 [] [] (Cb _ _ _ _ _)).ok (he s0 (fun _ => none) 0 [] [] (Cb _ _ _ _ _)).ok nd
end
end PD
namespace PD
open PySem PySem.Spec PyProof.Rows L2
/-! ## values as plain data of the library -/
mutual
def toPy : D → Option PyData
  | .non => some .none
  | .bl b => some (.bool b)
  | .int i => some (.int i)
  | .str x => some (.str x)
  | .tup ds => (toPyL ds).map .tuple
  | .lst ds => (toPyL ds).map .list
  | .dk _ => none
  | .dt _ => none
  | .fn _ => none
  | .scr _ => none
def toPyL : List D → Option (List PyData)
  | [] => some []
  | d :: ds => match toPy d, toPyL ds with
    | some p, some ps => some (p :: ps)
    | _, _ => none
end
mutual
def toPyS : SV → Option PyData
  | .fz d => toPy d
  | .ol xs => (toPySL xs).map .list
  | .ok _ => none
  | .ot _ => none
def toPySL : List SV → Option (List PyData)
  | [] => some []
  | d :: ds => match toPyS d, toPySL ds with
    | some p, some ps => some (p :: ps)
    | _, _ => none
end
section
variable {K : Kf} {F H : Hp}
mutual
theorem rep_dp (e : Same F H) : ∀ (d : D) (v : V) (p : PyData), Rep K F d v → toPy d = some p → Dp K H v p
  | .non, v, p, h, q => by have h : v = _ := h; subst h; cases q; exact .non
  | .bl b, v, p, h, q => by have h : v = _ := h; subst h; cases q; exact .bl b
  | .int i, v, p, h, q => by have h : v = _ := h; subst h; cases q; exact .int i
  | .str x, v, p, h, q => by have h : v = _ := h; subst h; cases q; exact .str x
  | .fn a, v, p, h, q => by cases q
  | .scr a, v, p, h, q => by cases q
  | .dk _, v, p, h, q => by cases q
  | .dt _, v, p, h, q => by cases q
  | .tup ds, v, p, ⟨a, vs, hv, hs, hr⟩, q => by
    subst hv
    rw [toPy, Option.map_eq_some_iff] at q
    obtain ⟨ps, h1, rfl⟩ := q
    exact .tup (same_t e hs).sq (repAll_dp e ds vs ps hr h1)
  | .lst ds, v, p, ⟨a, vs, hv, hs, hr⟩, q => by
    subst hv
    rw [toPy, Option.map_eq_some_iff] at q
    obtain ⟨ps, h1, rfl⟩ := q
    exact .lst (same_l e hs).sq (repAll_dp e ds vs ps hr h1)
theorem repAll_dp (e : Same F H) : ∀ (d : List D) (v : List V) (p : List PyData), RepAll K F d v → toPyL d = some p → DpAll K H v p
  | [], v, p, h, q => by have h : v = [] := h; subst h; rw [toPyL] at q; cases q; exact .nil
  | d :: ds, vs, p, ⟨v, r, hv, h1, h2⟩, q => by
    subst hv
    rw [toPyL] at q
    cases e1 : toPy d with
    | none => rw [e1] at q; cases q
    | some p1 =>
      cases e2 : toPyL ds with
      | none => rw [e1, e2] at q; cases q
      | some p2 =>
        rw [e1, e2] at q
        cases q
        exact .cons (rep_dp e d v p1 h1 e1) (repAll_dp e ds r p2 h2 e2)
end
mutual
theorem own_dp (e : Same F H) : ∀ (s : SV) (v : V) (q : List Addr) (p : PyData), Own K F H s v q → toPyS s = some p → Dp K H v p
  | .fz d, v, q, p, h, z => rep_dp e d v p h.1 z
  | .ok _, v, q, p, h, z => by cases z
  | .ot _, v, q, p, h, z => by cases z
  | .ol xs, v, q, p, ⟨a, vs, r, hv, ha, hr, hq⟩, z => by
    subst hv
    rw [toPyS, Option.map_eq_some_iff] at z
    obtain ⟨ps, h1, rfl⟩ := z
    exact .lst (SqL.of ha) (ownL_dp e xs vs r ps hr h1)
theorem ownL_dp (e : Same F H) : ∀ (s : List SV) (v : List V) (q : List Addr) (p : List PyData), OwnL K F H s v q → toPySL s = some p → DpAll K H v p
  | [], v, q, p, h, z => by have h : v = [] := h.1; subst h; rw [toPySL] at z; cases z; exact .nil
  | d :: ds, vs, q, p, ⟨v, r, q1, q2, hv, h1, h2, hq⟩, z => by
    subst hv
    rw [toPySL] at z
    cases e1 : toPyS d with
    | none => rw [e1] at z; cases z
    | some p1 =>
      cases e2 : toPySL ds with
      | none => rw [e1, e2] at z; cases z
      | some p2 =>
        rw [e1, e2] at z
        cases z
        exact .cons (own_dp e d v q1 p1 h1 e1) (ownL_dp e ds r q2 p2 h2 e2)
end
theorem cont_dp (e : Same F H) {s : SV} {v : V} {p : PyData} (h : Cont K F H s v) (z : toPyS s = some p) : Dp K H v p := let ⟨q, o⟩ := h; own_dp e s v q p o z
/-! ### what holds of views -/
theorem cont_fz {d : D} {v : V} (h : Cont K F H (.fz d) v) : Rep K F d v := let ⟨_, o⟩ := h; o.1
/-- the frozen items of a list -/
def lstD : SV → Option (List D)
  | .fz (.lst ds) => some ds
  | .ol xs => allFz xs
  | _ => none
def tupD : SV → Option (List D)
  | .fz (.tup ds) => some ds
  | _ => none
theorem ownL_all : ∀ {xs : List SV} {ds : List D} {vs : List V} {q : List Addr}, OwnL K F H xs vs q → allFz xs = some ds → RepAll K F ds vs
  | [], ds, vs, q, h, e => by cases e; exact h.1
  | .fz d :: xs, ds, vs, q, ⟨v, r, q1, q2, hv, h1, h2, hq⟩, e => by
    rw [allFz, Option.map_eq_some_iff] at e
    obtain ⟨ds', h3, rfl⟩ := e
    exact ⟨v, r, hv, h1.1, ownL_all h2 h3⟩
  | .ol _ :: xs, ds, vs, q, h, e => by cases e
  | .ok _ :: xs, ds, vs, q, h, e => by cases e
  | .ot _ :: xs, ds, vs, q, h, e => by cases e
theorem cont_lst (e : Same F H) {s : SV} {ds : List D} {v : V} (h : Cont K F H s v) (hd : lstD s = some ds) : ∃ a vs, v = .ref a ∧ LstAt K H a vs ∧ RepAll K F ds vs := by
  cases s with
  | fz d =>
    cases d with
    | lst xs =>
      cases hd
      obtain ⟨a, vs, h1, h2, h3⟩ := cont_fz h
      exact ⟨a, vs, h1, same_l e h2, h3⟩
    | _ => cases hd
  | ol xs =>
    obtain ⟨q, a, vs, r, h1, h2, h3, _⟩ := h
    exact ⟨a, vs, h1, h2, ownL_all h3 hd⟩
  | ok _ => cases hd
  | ot _ => cases hd
theorem cont_tup (e : Same F H) {s : SV} {ds : List D} {v : V} (h : Cont K F H s v) (hd : tupD s = some ds) : ∃ a vs, v = .ref a ∧ TupAt K H a vs ∧ RepAll K F ds vs := by
  cases s with
  | fz d =>
    cases d with
    | tup xs =>
      cases hd
      obtain ⟨a, vs, h1, h2, h3⟩ := cont_fz h
      exact ⟨a, vs, h1, same_t e h2, h3⟩
    | _ => cases hd
  | ol xs => cases hd
  | ok _ => cases hd
  | ot _ => cases hd
/-! ### what an operation leaves -/
structure ResOk (K : Kf) (F H F' H' : Hp) (ev : EV) (v : V) : Prop where
  sF : Same F F'
  sH : Same H H'
  sub : Same F' H'
  new : ∀ a, F' a ≠ none → F a ≠ none ∨ H a = none
  val : match ev with
    | .v d => Rep K F' d v
    | .fr s => ∃ q, Own K F' H' s v q ∧ q.Nodup ∧ ∀ a ∈ q, H a = none ∧ F' a = none
    | .br _ _ => False
theorem ResOk.val0 (e : Same F H) {d : D} {v : V} (h : Rep K F d v) : ResOk K F H F H (.v d) v := ⟨Same.refl F, Same.refl H, e, fun _ h => .inl h, h⟩
theorem ResOk.tup0 (e : Same F H) {p : Addr} (hp : H p = none) {ds : List D} {vs : List V} (h : RepAll K F ds vs) : ResOk K F H (upd F p (.tup vs)) (upd H p (.tup vs)) (.v (.tup ds)) (.ref p) := by
  have s1 : Same F (upd F p (.tup vs)) := same_new (same_none e hp)
  refine ⟨s1, same_new hp, fun a x q => ?_, fun a q => ?_, p, vs, rfl, upd_same, RepAll.mono s1 _ _ h⟩
  · by_cases z : a = p
    · subst z; rw [upd_same] at q ⊢; exact q
    · rw [upd_ne z] at q ⊢; exact e a x q
  · by_cases z : a = p
    · subst z; exact .inr hp
    · rw [upd_ne z] at q; exact .inl q
theorem ResOk.lst0 (e : Same F H) {p : Addr} (hp : H p = none) {xs : List SV} {vs : List V} (h : OwnL K F H xs vs []) : ResOk K F H F (upd H p (.lst vs)) (.fr (.ol xs)) (.ref p) := by
  refine ⟨Same.refl F, same_new hp, e.trans (same_new hp), fun _ h => .inl h, [p], ⟨p, vs, [], rfl, upd_same, h.keep (Same.refl F) _ _ _ (fun a z => by cases z), rfl⟩, List.nodup_cons.mpr ⟨by simp, List.nodup_nil⟩, fun a ha => ?_⟩
  have : a = p := by simpa using ha
  subst this
  exact ⟨hp, same_none e hp⟩
variable {mg : Str → Option Value} {E : XS}
theorem StF.res {F0 G : Hp} {π : List V} {m : M} {σ : L2.St} {fp : Ow → List Addr} {Q : VK} {ev : EV} (S : StF K F0 G π m σ F H fp) (p : PostE K mg E true F0 G π m σ F H fp Q (.ok ev m)) {v : V} {F' H' : Hp} (r : ResOk K F H F' H' ev v) : Q v H' := by
  refine p v F' H' fp (S.grow r.sF r.sH r.sub r.new) ⟨r.sF, fun _ => ⟨rfl, rfl, r.sH, r.new⟩⟩ ?_
  have z := r.val
  cases ev with
  | v d => exact z
  | br o q => exact z.elim
  | fr s =>
    obtain ⟨q, h1, h2, h3⟩ := z
    exact ⟨q, h1, h2, fun a ha => ⟨(h3 a ha).2, same_none S.base (h3 a ha).1, (S.freshG (h3 a ha).1).2.2, fun _ => (h3 a ha).1⟩⟩
/-- a plain operation on two views -/
def kV2 (op : SV → SV → Option EV) (m : M) (x y : EV) : Out EV := match view m x, view m y with
  | some a, some b => match op a b with
    | some ev => .ok ev m
    | none => .bad
  | _, _ => .bad
def OpOk2 (K : Kf) (r : R2) (op : SV → SV → Option EV) : Prop := ∀ F H x y a b ev (Q : VK), Same F H → Cont K F H a x → Cont K F H b y → op a b = some ev → (∀ v F' H', ResOk K F H F' H' ev v → Q v H') → r x y H Q
theorem k_v2 {r : R2} {op : SV → SV → Option EV} (h : OpOk2 K r op) : KOk2 K mg E true r (kV2 op) := fun F0 G π m σ F H fp Q x y ex ey S hx hy p => by
  unfold kV2 at p
  cases e1 : view m ex with
  | none => simp only [e1] at p; exact p.elim
  | some a =>
    cases e2 : view m ey with
    | none => simp only [e1, e2] at p; exact p.elim
    | some b =>
      cases e3 : op a b with
      | none => simp only [e1, e2, e3] at p; exact p.elim
      | some ev =>
        simp only [e1, e2, e3] at p
        exact h F H x y a b ev Q S.sub (S.view hx e1) (S.view hy e2) e3 fun v F' H' r => S.res p r
def kV1 (op : SV → Option EV) (m : M) (x : EV) : Out EV := match view m x with
  | some a => match op a with
    | some ev => .ok ev m
    | none => .bad
  | none => .bad
def OpOk1 (K : Kf) (r : V → Hp → VK → Prop) (op : SV → Option EV) : Prop := ∀ F H x a ev (Q : VK), Same F H → Cont K F H a x → op a = some ev → (∀ v F' H', ResOk K F H F' H' ev v → Q v H') → r x H Q
theorem k_v1 {r : V → Hp → VK → Prop} {op : SV → Option EV} (h : OpOk1 K r op) : KOk1 K mg E true r (kV1 op) := fun F0 G π m σ F H fp Q x ex S hx p => by
  unfold kV1 at p
  cases e1 : view m ex with
  | none => simp only [e1] at p; exact p.elim
  | some a =>
    cases e3 : op a with
    | none => simp only [e1, e3] at p; exact p.elim
    | some ev =>
      simp only [e1, e3] at p
      exact h F H x a ev Q S.sub (S.view hx e1) e3 fun v F' H' r => S.res p r
def views (m : M) : List EV → Option (List SV)
  | [] => some []
  | e :: r => match view m e, views m r with
    | some a, some as => some (a :: as)
    | _, _ => none
def kVN (op : List SV → Option EV) (m : M) (xs : List EV) : Out EV := match views m xs with
  | some as => match op as with
    | some ev => .ok ev m
    | none => .bad
  | none => .bad
inductive Conts (K : Kf) (F H : Hp) : List SV → List V → Prop
  | nil : Conts K F H [] []
  | cons {a : SV} {as : List SV} {v : V} {vs : List V} : Cont K F H a v → Conts K F H as vs → Conts K F H (a :: as) (v :: vs)
def OpOkN (K : Kf) (r : List V → Hp → VK → Prop) (op : List SV → Option EV) : Prop := ∀ F H xs as ev (Q : VK), Same F H → Conts K F H as xs → op as = some ev → (∀ v F' H', ResOk K F H F' H' ev v → Q v H') → r xs H Q
theorem views_ok {F0 G : Hp} {π : List V} {m : M} {σ : L2.St} {fp : Ow → List Addr} (S : StF K F0 G π m σ F H fp) : ∀ {es : List EV} {vs : List V} {as : List SV}, EvFs K G π σ F H fp (fun _ => False) vs es → views m es = some as → Conts K F H as vs
  | [], vs, as, h, e => by cases h; cases e; exact .nil
  | ev :: es, vs, as, h, e => by
    cases h with
    | cons h1 h2 =>
      unfold views at e
      cases e1 : view m ev with
      | none => simp [e1] at e
      | some a =>
        cases e2 : views m es with
        | none => simp [e1, e2] at e
        | some as' =>
          simp [e1, e2] at e
          subst e
          exact .cons (S.view h1 e1) (views_ok S h2 e2)
theorem k_vn {r : List V → Hp → VK → Prop} {op : List SV → Option EV} (h : OpOkN K r op) : KOkN K mg E true (fun _ => r) (kVN op) := fun F0 G π m σ F H fp Q xs es S hx p => by
  unfold kVN at p
  cases e1 : views m es with
  | none => simp only [e1] at p; exact p.elim
  | some as =>
    cases e3 : op as with
    | none => simp only [e1, e3] at p; exact p.elim
    | some ev =>
      simp only [e1, e3] at p
      exact h F H xs as ev Q S.sub (views_ok S hx e1) e3 fun v F' H' r => S.res p r
end
/-! ### rules that are told by alternatives -/
theorem opR_or {X : Cx} {f : Value → Value → Sem Value} {r r' : R2} (h : OpR X f r) (h' : OpR X f r') : OpR X f (fun x y H Q => r x y H Q ∨ r' x y H Q) := fun pins s σ H x y v u Q I rx ry q => q.elim (h pins s σ H x y v u Q I rx ry) (h' pins s σ H x y v u Q I rx ry)
theorem callR_or {X : Cx} {f : Value} {r r' : List V → Hp → VK → Prop} (h : CallR X f r) (h' : CallR X f r') : CallR X f (fun xs H Q => r xs H Q ∨ r' xs H Q) := fun pins s σ H xs us Q I rx q => q.elim (h pins s σ H xs us Q I rx) (h' pins s σ H xs us Q I rx)
theorem mtR_or {X : Cx} {id : String} {r r' : V → List V → Hp → VK → Prop} (h : MtR X id r) (h' : MtR X id r') : MtR X id (fun x xs H Q => r x xs H Q ∨ r' x xs H Q) := fun pins s σ H x xs v us Q I rx rxs q => q.elim (h pins s σ H x xs v us Q I rx rxs) (h' pins s σ H x xs v us Q I rx rxs)
end PD
namespace PD
open PySem PySem.Spec PyProof.Rows L2
/-! ## operations by data -/
mutual
theorem plain_toPy : ∀ (d : D) (p : PyData), toPy d = some p → p.plain = true
  | .non, p, h => by cases h; rfl
  | .bl b, p, h => by cases h; rfl
  | .int i, p, h => by cases h; rfl
  | .str x, p, h => by cases h; rfl
  | .fn a, p, h => by cases h
  | .scr a, p, h => by cases h
  | .dk _, p, h => by cases h
  | .dt _, p, h => by cases h
  | .tup ds, p, h => by
    rw [toPy, Option.map_eq_some_iff] at h
    obtain ⟨ps, h1, rfl⟩ := h
    simp only [PyData.plain]; exact plain_toPyL ds ps h1
  | .lst ds, p, h => by
    rw [toPy, Option.map_eq_some_iff] at h
    obtain ⟨ps, h1, rfl⟩ := h
    simp only [PyData.plain]; exact plain_toPyL ds ps h1
theorem plain_toPyL : ∀ (d : List D) (p : List PyData), toPyL d = some p → PyData.plainAll p = true
  | [], p, h => by rw [toPyL] at h; cases h; rfl
  | d :: ds, p, h => by
    rw [toPyL] at h
    cases e1 : toPy d with
    | none => rw [e1] at h; cases h
    | some p1 =>
      cases e2 : toPyL ds with
      | none => rw [e1, e2] at h; cases h
      | some p2 =>
        rw [e1, e2] at h
        cases h
        simp only [PyData.plainAll, plain_toPy d p1 e1, plain_toPyL ds p2 e2, Bool.and_self]
end
mutual
theorem plain_toPyS : ∀ (d : SV) (p : PyData), toPyS d = some p → p.plain = true
  | .fz d, p, h => plain_toPy d p h
  | .ok _, p, h => by cases h
  | .ot _, p, h => by cases h
  | .ol ds, p, h => by
    rw [toPyS, Option.map_eq_some_iff] at h
    obtain ⟨ps, h1, rfl⟩ := h
    simp only [PyData.plain]; exact plain_toPySL ds ps h1
theorem plain_toPySL : ∀ (d : List SV) (p : List PyData), toPySL d = some p → PyData.plainAll p = true
  | [], p, h => by rw [toPySL] at h; cases h; rfl
  | d :: ds, p, h => by
    rw [toPySL] at h
    cases e1 : toPyS d with
    | none => rw [e1] at h; cases h
    | some p1 =>
      cases e2 : toPySL ds with
      | none => rw [e1, e2] at h; cases h
      | some p2 =>
        rw [e1, e2] at h
        cases h
        simp only [PyData.plainAll, plain_toPyS d p1 e1, plain_toPySL ds p2 e2, Bool.and_self]
end
/-! Dp with another frame of written objects -/
mutual
theorem dp_up {K KX : Kf} (u : Up K KX) {H : Hp} : ∀ (p : PyData) (v : V), Dp K H v p → Dp KX H v p
  | .none, _, h => by cases h; exact .non
  | .bool b, _, h => by cases h; exact .bl b
  | .int i, _, h => by cases h; exact .int i
  | .str x, _, h => by cases h; exact .str x
  | .list ds, _, h => by cases h with | lst hs ha => exact .lst (up_l u hs) (dpAll_up u ds _ ha)
  | .tuple ds, _, h => by cases h with | tup hs ha => exact .tup (up_t u hs) (dpAll_up u ds _ ha)
  | .dict _, _, h => by cases h
theorem dpAll_up {K KX : Kf} (u : Up K KX) {H : Hp} : ∀ (p : List PyData) (v : List V), DpAll K H v p → DpAll KX H v p
  | [], _, h => by cases h; exact .nil
  | d :: ds, _, h => by cases h with | cons h1 h2 => exact .cons (dp_up u d _ h1) (dpAll_up u ds _ h2)
end
def dMin (p q : PyData) : Nat := min p.depth q.depth
section
variable {X : Cx} {K : Kf}
/-- == and != of data -/
def rEqP (K : Kf) (neg : Bool) : R2 := fun x y H Q => ∃ p q, Dp K H x p ∧ Dp K H y q ∧ p.plain = true ∧ q.plain = true ∧ dMin p q ≤ 100 ∧ Q (.bl (if neg then !PyData.eqv p q else PyData.eqv p q)) H
theorem op_eqP (hu : X.A.units + 200 < cLine) : OpR X (compareOp .Eq) (rEqP X.K false) := by
  intro pins s σ H x y v u Q I rx ry ⟨p, q, h1, h2, p1, p2, hd, z⟩
  obtain ⟨as, r1⟩ := Dp.reads I p x v h1 rx
  obtain ⟨bs, r2⟩ := Dp.reads I q y u h2 ry
  exact PySem.SeqAt.eq_plain r1 r2 p1 p2 (by unfold dMin at hd; omega) ⟨.bl _, H, I, rfl, z⟩
theorem op_neP (hu : X.A.units + 200 < cLine) : OpR X (compareOp .NotEq) (rEqP X.K true) := by
  intro pins s σ H x y v u Q I rx ry ⟨p, q, h1, h2, p1, p2, hd, z⟩
  obtain ⟨as, r1⟩ := Dp.reads I p x v h1 rx
  obtain ⟨bs, r2⟩ := Dp.reads I q y u h2 ry
  exact PySem.SeqAt.ne_plain r1 r2 p1 p2 (by unfold dMin at hd; omega) ⟨.bl _, H, I, rfl, z⟩
/-- <, <=, >, >= of data that are alike -/
def rOrdP (K : Kf) (f : PyData → PyData → Bool) : R2 := fun x y H Q => ∃ p q, Dp K H x p ∧ Dp K H y q ∧ PySem.W.alike p q = true ∧ p ≠ .none ∧ dMin p q ≤ 100 ∧ Q (.bl (f p q)) H
theorem op_ltP (hu : X.A.units + 200 < cLine) : OpR X (compareOp .Lt) (rOrdP X.K PySem.W.dataLt) := by
  intro pins s σ H x y v u Q I rx ry ⟨p, q, h1, h2, p1, p2, hd, z⟩
  obtain ⟨as, r1⟩ := Dp.reads I p x v h1 rx
  obtain ⟨bs, r2⟩ := Dp.reads I q y u h2 ry
  exact PySem.W.lt_data r1 r2 p1 p2 (by unfold dMin at hd; omega) ⟨.bl _, H, I, rfl, z⟩
theorem op_gtP (hu : X.A.units + 200 < cLine) : OpR X (compareOp .Gt) (rOrdP X.K fun p q => PySem.W.dataLt q p) := by
  intro pins s σ H x y v u Q I rx ry ⟨p, q, h1, h2, p1, p2, hd, z⟩
  obtain ⟨as, r1⟩ := Dp.reads I p x v h1 rx
  obtain ⟨bs, r2⟩ := Dp.reads I q y u h2 ry
  exact PySem.W.gt_data r1 r2 p1 p2 (by unfold dMin at hd; omega) ⟨.bl _, H, I, rfl, z⟩
theorem op_leP (hu : X.A.units + 200 < cLine) : OpR X (compareOp .LtE) (rOrdP X.K fun p q => !PySem.W.dataLt q p) := by
  intro pins s σ H x y v u Q I rx ry ⟨p, q, h1, h2, p1, p2, hd, z⟩
  obtain ⟨as, r1⟩ := Dp.reads I p x v h1 rx
  obtain ⟨bs, r2⟩ := Dp.reads I q y u h2 ry
  exact PySem.W.le_data r1 r2 p1 p2 (by unfold dMin at hd; omega) ⟨.bl _, H, I, rfl, z⟩
theorem op_geP (hu : X.A.units + 200 < cLine) : OpR X (compareOp .GtE) (rOrdP X.K fun p q => !PySem.W.dataLt p q) := by
  intro pins s σ H x y v u Q I rx ry ⟨p, q, h1, h2, p1, p2, hd, z⟩
  obtain ⟨as, r1⟩ := Dp.reads I p x v h1 rx
  obtain ⟨bs, r2⟩ := Dp.reads I q y u h2 ry
  exact PySem.W.ge_data r1 r2 p1 p2 (by unfold dMin at hd; omega) ⟨.bl _, H, I, rfl, z⟩
/-- in, not in: a list or tuple of data -/
def seqP : PyData → Option (List PyData)
  | .list xs => some xs
  | .tuple xs => some xs
  | _ => none
def rInP (K : Kf) (neg : Bool) : R2 := fun x y H Q => ∃ p q xs, Dp K H x p ∧ Dp K H y q ∧ seqP q = some xs ∧ p.plain = true ∧ q.plain = true ∧ min (PyData.depthAll xs) p.depth ≤ 100 ∧ Q (.bl (if neg then !(xs.any fun z => PyData.eqv z p) else xs.any fun z => PyData.eqv z p)) H
theorem op_inP (hu : X.A.units + 200 < cLine) : OpR X (compareOp .In) (rInP X.K false) := by
  intro pins s σ H x y v u Q I rx ry ⟨p, q, xs, h1, h2, e, p1, p2, hd, z⟩
  obtain ⟨as, r1⟩ := Dp.reads I p x v h1 rx
  obtain ⟨bs, r2⟩ := Dp.reads I q y u h2 ry
  cases q with
  | list ys => cases e; exact PySem.SeqAt.in_list_data r2 r1 (by simpa only [PyData.plain] using p2) p1 (by omega) ⟨.bl _, H, I, rfl, z⟩
  | tuple ys => cases e; exact PySem.SeqAt.in_tuple_data r2 r1 (by simpa only [PyData.plain] using p2) p1 (by omega) ⟨.bl _, H, I, rfl, z⟩
  | _ => cases e
theorem op_notInP (hu : X.A.units + 200 < cLine) : OpR X (compareOp .NotIn) (rInP X.K true) := by
  intro pins s σ H x y v u Q I rx ry ⟨p, q, xs, h1, h2, e, p1, p2, hd, z⟩
  obtain ⟨as, r1⟩ := Dp.reads I p x v h1 rx
  obtain ⟨bs, r2⟩ := Dp.reads I q y u h2 ry
  cases q with
  | list ys => cases e; exact PySem.SeqAt.notIn_list_data r2 r1 (by simpa only [PyData.plain] using p2) p1 (by omega) ⟨.bl _, H, I, rfl, z⟩
  | tuple ys => cases e; exact PySem.SeqAt.notIn_tuple_data r2 r1 (by simpa only [PyData.plain] using p2) p1 (by omega) ⟨.bl _, H, I, rfl, z⟩
  | _ => cases e
end
/-! ### their denotations -/
def bin2 (f : PyData → PyData → Option EV) (a b : SV) : Option EV := match toPyS a, toPyS b with
  | some p, some q => f p q
  | _, _ => none
def pEq (p q : PyData) : Option EV := if dMin p q ≤ 100 then some (.v (.bl (PyData.eqv p q))) else none
def pNe (p q : PyData) : Option EV := if dMin p q ≤ 100 then some (.v (.bl (!PyData.eqv p q))) else none
def notNone : PyData → Bool
  | .none => false
  | _ => true
def pOrd (f : PyData → PyData → Bool) (p q : PyData) : Option EV := if PySem.W.alike p q = true ∧ notNone p = true ∧ dMin p q ≤ 100 then some (.v (.bl (f p q))) else none
def pIn (p q : PyData) : Option EV := match seqP q with
  | some xs => if min (PyData.depthAll xs) p.depth ≤ 100 then some (.v (.bl (xs.any fun z => PyData.eqv z p))) else none
  | none => none
def pNotIn (p q : PyData) : Option EV := match seqP q with
  | some xs => if min (PyData.depthAll xs) p.depth ≤ 100 then some (.v (.bl (!(xs.any fun z => PyData.eqv z p)))) else none
  | none => none
section
variable {K KX : Kf}
theorem bin2_ok {r : R2} {f : PyData → PyData → Option EV} (up : Up K KX) (h : ∀ (H : Hp) x y p q (Q : VK) ev, Dp KX H x p → Dp KX H y q → p.plain = true → q.plain = true → f p q = some ev → (∃ b, ev = .v (.bl b)) ∧ ((∀ b, ev = .v (.bl b) → Q (.bl b) H) → r x y H Q)) : OpOk2 K r (bin2 f) := fun F H x y a b ev Q e hx hy z k => by
  unfold bin2 at z
  cases e1 : toPyS a with
  | none => simp [e1] at z
  | some p =>
    cases e2 : toPyS b with
    | none => simp [e1, e2] at z
    | some q =>
      simp only [e1, e2] at z
      obtain ⟨⟨c, rfl⟩, g⟩ := h H x y p q Q ev (dp_up up _ _ (cont_dp e hx e1)) (dp_up up _ _ (cont_dp e hy e2)) (plain_toPyS a p e1) (plain_toPyS b q e2) z
      exact g fun b' eb => by cases eb; exact k _ F H (ResOk.val0 e rfl)
theorem ok_eqP (up : Up K KX) : OpOk2 K (rEqP KX false) (bin2 pEq) := bin2_ok up fun H x y p q Q ev h1 h2 p1 p2 z => by
  unfold pEq at z
  by_cases hd : dMin p q ≤ 100
  · rw [if_pos hd] at z; cases z; exact ⟨⟨_, rfl⟩, fun k => ⟨p, q, h1, h2, p1, p2, hd, k _ rfl⟩⟩
  · rw [if_neg hd] at z; cases z
theorem ok_neP (up : Up K KX) : OpOk2 K (rEqP KX true) (bin2 pNe) := bin2_ok up fun H x y p q Q ev h1 h2 p1 p2 z => by
  unfold pNe at z
  by_cases hd : dMin p q ≤ 100
  · rw [if_pos hd] at z; cases z; exact ⟨⟨_, rfl⟩, fun k => ⟨p, q, h1, h2, p1, p2, hd, k _ rfl⟩⟩
  · rw [if_neg hd] at z; cases z
theorem ok_ordP (up : Up K KX) (f : PyData → PyData → Bool) : OpOk2 K (rOrdP KX f) (bin2 (pOrd f)) := bin2_ok up fun H x y p q Q ev h1 h2 p1 p2 z => by
  unfold pOrd at z
  by_cases hd : PySem.W.alike p q = true ∧ notNone p = true ∧ dMin p q ≤ 100
  · rw [if_pos hd] at z; cases z
    exact ⟨⟨_, rfl⟩, fun k => ⟨p, q, h1, h2, hd.1, fun e => by subst e; exact absurd hd.2.1 (by decide), hd.2.2, k _ rfl⟩⟩
  · rw [if_neg hd] at z; cases z
theorem ok_inP (up : Up K KX) : OpOk2 K (rInP KX false) (bin2 pIn) := bin2_ok up fun H x y p q Q ev h1 h2 p1 p2 z => by
  unfold pIn at z
  cases e : seqP q with
  | none => simp [e] at z
  | some xs =>
    simp only [e] at z
    by_cases hd : min (PyData.depthAll xs) p.depth ≤ 100
    · rw [if_pos hd] at z; cases z; exact ⟨⟨_, rfl⟩, fun k => ⟨p, q, xs, h1, h2, e, p1, p2, hd, k _ rfl⟩⟩
    · rw [if_neg hd] at z; cases z
theorem ok_notInP (up : Up K KX) : OpOk2 K (rInP KX true) (bin2 pNotIn) := bin2_ok up fun H x y p q Q ev h1 h2 p1 p2 z => by
  unfold pNotIn at z
  cases e : seqP q with
  | none => simp [e] at z
  | some xs =>
    simp only [e] at z
    by_cases hd : min (PyData.depthAll xs) p.depth ≤ 100
    · rw [if_pos hd] at z; cases z; exact ⟨⟨_, rfl⟩, fun k => ⟨p, q, xs, h1, h2, e, p1, p2, hd, k _ rfl⟩⟩
    · rw [if_neg hd] at z; cases z
/-! ### ints -/
def int2 (c : Int → Int → Prop) [DecidableRel c] (f : Int → Int → D) (a b : SV) : Option EV := match a, b with
  | .fz (.int i), .fz (.int j) => if c i j then some (.v (f i j)) else none
  | _, _ => none
theorem ok_int2 {c : Int → Int → Prop} [DecidableRel c] {f : Int → Int → D} {g : Int → Int → V} (h : ∀ i j F, Rep K F (f i j) (g i j)) : OpOk2 K (rI c g) (int2 c f) := fun F H x y a b ev Q e hx hy z k => by
  unfold int2 at z
  split at z
  · rename_i i j
    have h1 : x = .int i := cont_fz hx
    have h2 : y = .int j := cont_fz hy
    subst h1 h2
    split at z
    · rename_i hc
      cases z
      exact ⟨i, j, rfl, rfl, hc, k _ F H (ResOk.val0 e (h i j F))⟩
    · cases z
  · cases z
def tt2 (_ _ : Int) : Prop := True
instance : DecidableRel tt2 := fun _ _ => isTrue trivial
theorem ok_int20 {f : Int → Int → D} {g : Int → Int → V} (h : ∀ i j F, Rep K F (f i j) (g i j)) : OpOk2 K (rI0 g) (int2 tt2 f) := fun F H x y a b ev Q e hx hy z k =>
  let ⟨i, j, h1, h2, _, h3⟩ := ok_int2 (c := tt2) (g := g) h F H x y a b ev Q e hx hy z k
  ⟨i, j, h1, h2, h3⟩
/-- one operation or another -/
def orOp (f g : SV → SV → Option EV) (a b : SV) : Option EV := match f a b with
  | some ev => some ev
  | none => g a b
theorem ok_or {r r' : R2} {f g : SV → SV → Option EV} (h : OpOk2 K r f) (h' : OpOk2 K r' g) : OpOk2 K (fun x y H Q => r x y H Q ∨ r' x y H Q) (orOp f g) := fun F H x y a b ev Q e hx hy z k => by
  unfold orOp at z
  cases e1 : f a b with
  | some ev' => simp only [e1] at z; cases z; exact .inl (h F H x y a b _ Q e hx hy e1 k)
  | none => simp only [e1] at z; exact .inr (h' F H x y a b ev Q e hx hy z k)
end
end PD
namespace PD
open PySem PySem.Spec PyProof.Rows L2
variable {K : Kf}
/-! ## plain operations, by words -/
instance : DecidableRel CMul := fun i j => inferInstanceAs (Decidable (_ ∨ _))
instance : DecidableRel CDiv := fun i j => inferInstanceAs (Decidable (_ ∧ _))
instance : DecidableRel CDivN := fun i j => inferInstanceAs (Decidable (_ ∧ _))
instance : DecidableRel CPow := fun i j => inferInstanceAs (Decidable (_ ∧ _))
theorem big_line {n : Nat} (h : n ≤ bigLen) : n ≤ sizeLine := big_le h
/-! ### + -/
def pCatS (a b : SV) : Option EV := match a, b with
  | .fz (.str i), .fz (.str j) => if i.length + j.length ≤ bigLen then some (.v (.str (i ++ j))) else none
  | _, _ => none
def pCatT (a b : SV) : Option EV := match tupD a, tupD b with
  | some xs, some ys => if xs.length + ys.length ≤ bigLen then some (.v (.tup (xs ++ ys))) else none
  | _, _ => none
def pCatL (a b : SV) : Option EV := match lstD a, lstD b with
  | some xs, some ys => if xs.length + ys.length ≤ bigLen then some (.fr (.ol ((xs ++ ys).map .fz))) else none
  | _, _ => none
abbrev pAddI := int2 tt2 fun i j => D.int (i + j)
def pPlus := orOp pAddI (orOp pCatS (orOp pCatT pCatL))
abbrev rStrCat : R2 := fun x y H Q => ∃ i j, x = .str i ∧ y = .str j ∧ i.length + j.length ≤ sizeLine ∧ Q (.str (i ++ j)) H
def rPlus (K : Kf) : R2 := fun x y H Q => (rI0 fun i j => .int (i + j)) x y H Q ∨ (rStrCat x y H Q ∨ (rCatA K x y H Q ∨ rCat x y H Q))
theorem op_plus {X : Cx} : OpR X (binaryOp .Add) (rPlus X.K) := opR_or op_add (opR_or op_add_str (opR_or op_catA op_cat))
theorem repAll_app {K : Kf} {F : Hp} : ∀ {xs ys : List D} {vs ws : List V}, RepAll K F xs vs → RepAll K F ys ws → RepAll K F (xs ++ ys) (vs ++ ws)
  | [], ys, vs, ws, h, h2 => by have h : vs = [] := h; subst h; exact h2
  | x :: xs, ys, vs, ws, ⟨v, r, e, h1, h3⟩, h2 => by subst e; exact ⟨v, r ++ ws, rfl, h1, repAll_app h3 h2⟩
theorem repAll_take {K : Kf} {F : Hp} : ∀ (n : Nat) {xs : List D} {vs : List V}, RepAll K F xs vs → RepAll K F (xs.take n) (vs.take n)
  | 0, _, _, _ => rfl
  | n + 1, [], vs, h => by have h : vs = [] := h; subst h; rfl
  | n + 1, x :: xs, vs, ⟨v, r, e, h1, h3⟩ => by subst e; exact ⟨v, r.take n, rfl, h1, repAll_take n h3⟩
theorem repAll_drop {K : Kf} {F : Hp} : ∀ (n : Nat) {xs : List D} {vs : List V}, RepAll K F xs vs → RepAll K F (xs.drop n) (vs.drop n)
  | 0, _, _, h => h
  | n + 1, [], vs, h => by have h : vs = [] := h; subst h; rfl
  | n + 1, x :: xs, vs, ⟨v, r, e, h1, h3⟩ => by subst e; exact repAll_drop n h3
theorem repAll_rev {K : Kf} {F : Hp} : ∀ {xs : List D} {vs : List V}, RepAll K F xs vs → RepAll K F xs.reverse vs.reverse
  | [], vs, h => by have h : vs = [] := h; subst h; rfl
  | x :: xs, vs, ⟨v, r, e, h1, h3⟩ => by
    subst e
    rw [List.reverse_cons, List.reverse_cons]
    exact repAll_app (repAll_rev h3) ⟨v, [], rfl, h1, rfl⟩
theorem ok_catS {K : Kf} : OpOk2 K rStrCat pCatS := fun F H x y a b ev Q e hx hy z k => by
  unfold pCatS at z
  split at z
  · rename_i i j
    have h1 : x = .str i := cont_fz hx
    have h2 : y = .str j := cont_fz hy
    subst h1 h2
    split at z
    · rename_i hc
      cases z
      exact ⟨i, j, rfl, rfl, big_le hc, k _ F H (ResOk.val0 e rfl)⟩
    · cases z
  · cases z
theorem ok_catT {KX : Kf} : OpOk2 K (rCatA KX) pCatT := fun F H x y a b ev Q e hx hy z k => by
  unfold pCatT at z
  cases e1 : tupD a with
  | none => simp [e1] at z
  | some xs =>
    cases e2 : tupD b with
    | none => simp [e1, e2] at z
    | some ys =>
      simp only [e1, e2] at z
      split at z
      · rename_i hc
        cases z
        obtain ⟨p, vs, rfl, h1, r1⟩ := cont_tup e hx e1
        obtain ⟨q, ws, rfl, h2, r2⟩ := cont_tup e hy e2
        have ra := repAll_app r1 r2
        have l1 := repAll_len r1
        have l2 := repAll_len r2
        have hF : ∀ {c : Addr} {us : List V} {s : SV} {zs : List D}, Cont K F H s (.ref c) → tupD s = some zs → ∃ us, Rep K F (.tup zs) (.ref c) := fun {c us s zs} hc hz => by
          cases s with
          | fz d => cases d <;> cases hz; exact ⟨us, cont_fz hc⟩
          | _ => cases hz
        refine ⟨p, q, vs, ws, rfl, rfl, .inl (.inl h1.at), .inl (.inl h2.at), by rw [l1, l2]; exact big_le hc, fun z => ?_, fun _ z => ?_, fun _ _ t ht => k _ _ _ (ResOk.tup0 e ht ra)⟩
        · subst z
          have : xs = [] := by cases xs with | nil => rfl | cons _ _ => obtain ⟨_, _, h, _⟩ := r1; cases h
          subst this
          obtain ⟨_, h⟩ := hF (us := ws) hy e2
          exact k _ F H (ResOk.val0 e h)
        · subst z
          have : ys = [] := by cases ys with | nil => rfl | cons _ _ => obtain ⟨_, _, h, _⟩ := r2; cases h
          subst this
          obtain ⟨_, h⟩ := hF (us := vs) hx e1
          rw [List.append_nil] at *
          exact k _ F H (ResOk.val0 e h)
      · cases z
theorem ok_catL : OpOk2 K rCat pCatL := fun F H x y a b ev Q e hx hy z k => by
  unfold pCatL at z
  cases e1 : lstD a with
  | none => simp [e1] at z
  | some xs =>
    cases e2 : lstD b with
    | none => simp [e1, e2] at z
    | some ys =>
      simp only [e1, e2] at z
      split at z
      · rename_i hc
        cases z
        obtain ⟨p, vs, rfl, h1, r1⟩ := cont_lst e hx e1
        obtain ⟨q, ws, rfl, h2, r2⟩ := cont_lst e hy e2
        exact ⟨p, q, vs, ws, rfl, rfl, h1.at, h2.at, by rw [repAll_len r1, repAll_len r2]; exact big_le hc, fun t ht => k _ _ _ (ResOk.lst0 e ht (ownL_fz (repAll_app r1 r2)))⟩
      · cases z
theorem ok_plus {KX : Kf} : OpOk2 K (rPlus KX) pPlus := ok_or (ok_int20 fun _ _ _ => rfl) (ok_or ok_catS (ok_or ok_catT ok_catL))
/-! ### * -/
def pRep (a b : SV) : Option EV := match lstD a, b with
  | some xs, .fz (.int k) => if -(2 ^ 62) ≤ k ∧ k < 2 ^ 62 ∧ xs.length * k.toNat ≤ bigLen then some (.fr (.ol ((List.replicate k.toNat xs).flatten.map .fz))) else none
  | _, _ => none
def pMul := orOp (int2 CMul fun i j => D.int (i * j)) pRep
def rMulR : R2 := fun x y H Q => (rI CMul fun i j => .int (i * j)) x y H Q ∨ rRep x y H Q
theorem op_mulR {X : Cx} : OpR X (binaryOp .Mult) rMulR := opR_or op_mul op_rep
theorem repAll_flat {K : Kf} {F : Hp} {xs : List D} {vs : List V} (h : RepAll K F xs vs) : ∀ n : Nat, RepAll K F (List.replicate n xs).flatten (List.replicate n vs).flatten
  | 0 => rfl
  | n + 1 => by
    rw [List.replicate_succ, List.replicate_succ, List.flatten_cons, List.flatten_cons]
    exact repAll_app h (repAll_flat h n)
theorem ok_rep : OpOk2 K rRep pRep := fun F H x y a b ev Q e hx hy z k => by
  unfold pRep at z
  split at z
  · rename_i xs j e1
    split at z
    · rename_i hc
      cases z
      obtain ⟨p, vs, rfl, h1, r1⟩ := cont_lst e hx e1
      have h2 : y = .int j := cont_fz hy
      subst h2
      exact ⟨p, j, vs, rfl, rfl, h1.at, by omega, by omega, by rw [repAll_len r1]; exact big_le hc.2.2, fun t ht => k _ _ _ (ResOk.lst0 e ht (ownL_fz (repAll_flat r1 _)))⟩
    · cases z
  · cases z
theorem ok_mul : OpOk2 K rMulR pMul := ok_or (ok_int2 fun _ _ _ => rfl) ok_rep
/-! ### -, //, %, **, bits -/
abbrev pSub := int2 tt2 fun i j => D.int (i - j)
abbrev pDiv := int2 CDiv fun i j => D.int (i / j)
abbrev pMod := int2 (fun _ j => 0 < j) fun i j => D.int (i % j)
abbrev pPow := int2 CPow fun i j => D.int (i ^ j.toNat)
abbrev pShl := int2 CPow fun i j => D.int (i * 2 ^ j.toNat)
abbrev pShr := int2 (fun _ j => 0 ≤ j) fun i j => D.int (i / 2 ^ j.toNat)
abbrev pAnd := int2 tt2 fun i j => D.int (Builtin.bitAnd i j)
abbrev pOr := int2 tt2 fun i j => D.int (Builtin.bitOr i j)
abbrev pXor := int2 tt2 fun i j => D.int (Builtin.bitXor i j)
/-! ### comparisons -/
abbrev pLt := orOp (int2 tt2 fun i j => D.bl (decide (i < j))) (bin2 (pOrd PySem.W.dataLt))
abbrev pLe := orOp (int2 tt2 fun i j => D.bl (decide (i ≤ j))) (bin2 (pOrd fun p q => !PySem.W.dataLt q p))
abbrev pGt := orOp (int2 tt2 fun i j => D.bl (decide (j < i))) (bin2 (pOrd fun p q => PySem.W.dataLt q p))
abbrev pGe := orOp (int2 tt2 fun i j => D.bl (decide (j ≤ i))) (bin2 (pOrd fun p q => !PySem.W.dataLt p q))
theorem op_ltR {X : Cx} (hu : X.A.units + 200 < cLine) : OpR X (compareOp .Lt) (fun x y H Q => (rI0 fun i j => .bl (decide (i < j))) x y H Q ∨ rOrdP X.K PySem.W.dataLt x y H Q) := opR_or op_lt (op_ltP hu)
theorem op_leR {X : Cx} (hu : X.A.units + 200 < cLine) : OpR X (compareOp .LtE) (fun x y H Q => (rI0 fun i j => .bl (decide (i ≤ j))) x y H Q ∨ rOrdP X.K (fun p q => !PySem.W.dataLt q p) x y H Q) := opR_or op_le (op_leP hu)
theorem op_gtR {X : Cx} (hu : X.A.units + 200 < cLine) : OpR X (compareOp .Gt) (fun x y H Q => (rI0 fun i j => .bl (decide (j < i))) x y H Q ∨ rOrdP X.K (fun p q => PySem.W.dataLt q p) x y H Q) := opR_or op_gt (op_gtP hu)
theorem op_geR {X : Cx} (hu : X.A.units + 200 < cLine) : OpR X (compareOp .GtE) (fun x y H Q => (rI0 fun i j => .bl (decide (j ≤ i))) x y H Q ∨ rOrdP X.K (fun p q => !PySem.W.dataLt p q) x y H Q) := opR_or op_ge (op_geP hu)
/-! ### is None -/
abbrev rIsN : R2 := fun x y H Q => y = .non ∧ Q (.bl (decide (x = .non))) H
abbrev rNotN : R2 := fun x y H Q => y = .non ∧ Q (.bl (!decide (x = .non))) H
def isNonS : SV → Bool
  | .fz .non => true
  | _ => false
theorem isNon_of {K : Kf} {F H : Hp} : ∀ {s : SV} {v : V}, Cont K F H s v → decide (v = .non) = isNonS s
  | .fz .non, v, h => by have h : v = .non := cont_fz h; subst h; rfl
  | .fz (.bl b), v, h => by have h : v = .bl b := cont_fz h; subst h; rfl
  | .fz (.int b), v, h => by have h : v = .int b := cont_fz h; subst h; rfl
  | .fz (.str b), v, h => by have h : v = .str b := cont_fz h; subst h; rfl
  | .fz (.fn b), v, h => by have h : v = .ref b := cont_fz h; subst h; rfl
  | .fz (.scr b), v, h => by obtain ⟨a, h, _⟩ := cont_fz h; subst h; rfl
  | .fz (.tup b), v, h => by obtain ⟨a, vs, h, _⟩ := cont_fz h; subst h; rfl
  | .fz (.lst b), v, h => by obtain ⟨a, vs, h, _⟩ := cont_fz h; subst h; rfl
  | .fz (.dk b), v, h => by obtain ⟨a, vs, h, _⟩ := cont_fz h; subst h; rfl
  | .fz (.dt b), v, h => by obtain ⟨a, vs, h, _⟩ := cont_fz h; subst h; rfl
  | .ol _, v, h => by obtain ⟨_, a, vs, _, h, _⟩ := h; subst h; rfl
  | .ok _, v, h => by obtain ⟨_, a, vs, _, h, _⟩ := h; subst h; rfl
  | .ot _, v, h => by obtain ⟨_, a, vs, _, h, _⟩ := h; subst h; rfl
def pIsN (neg : Bool) (a b : SV) : Option EV := match b with
  | .fz .non => some (.v (.bl (if neg then !isNonS a else isNonS a)))
  | _ => none
theorem ok_isN {K : Kf} : OpOk2 K rIsN (pIsN false) := fun F H x y a b ev Q e hx hy z k => by
  unfold pIsN at z
  split at z
  · cases z
    exact ⟨cont_fz hy, by rw [isNon_of hx]; exact k _ F H (ResOk.val0 e rfl)⟩
  · cases z
theorem ok_notN {K : Kf} : OpOk2 K rNotN (pIsN true) := fun F H x y a b ev Q e hx hy z k => by
  unfold pIsN at z
  split at z
  · cases z
    exact ⟨cont_fz hy, by rw [isNon_of hx]; exact k _ F H (ResOk.val0 e rfl)⟩
  · cases z
/-! ### in: text, list or tuple, dict -/
def pInS (neg : Bool) (a b : SV) : Option EV := match a, b with
  | .fz (.str i), .fz (.str j) => some (.v (.bl (if neg then !(!(Builtin.Str.occurrences j i 0 j.length 1).isEmpty) else !(Builtin.Str.occurrences j i 0 j.length 1).isEmpty)))
  | _, _ => none
abbrev rInS : R2 := fun x y H Q => ∃ i j, x = .str i ∧ y = .str j ∧ Q (.bl (!(Builtin.Str.occurrences j i 0 j.length 1).isEmpty)) H
abbrev rNotInS : R2 := fun x y H Q => ∃ i j, x = .str i ∧ y = .str j ∧ Q (.bl (!(!(Builtin.Str.occurrences j i 0 j.length 1).isEmpty))) H
theorem ok_inS {K : Kf} : OpOk2 K rInS (pInS false) := fun F H x y a b ev Q e hx hy z k => by
  unfold pInS at z
  split at z
  · cases z; exact ⟨_, _, cont_fz hx, cont_fz hy, k _ F H (ResOk.val0 e rfl)⟩
  · cases z
theorem ok_notInS {K : Kf} : OpOk2 K rNotInS (pInS true) := fun F H x y a b ev Q e hx hy z k => by
  unfold pInS at z
  split at z
  · cases z; exact ⟨_, _, cont_fz hx, cont_fz hy, k _ F H (ResOk.val0 e rfl)⟩
  · cases z
/-- a key: an int or a text; a tuple of such -/
def keyD : D → Option Key
  | .int i => some (.inl i)
  | .str x => some (.inr x)
  | _ => none
def keysD : List D → Option (List Key)
  | [] => some []
  | d :: r => match keyD d, keysD r with
    | some k, some ks => some (k :: ks)
    | _, _ => none
theorem keyD_v {K : Kf} {F : Hp} {d : D} {v : V} {k : Key} (h : Rep K F d v) (e : keyD d = some k) : v = kV k := by
  cases d <;> cases e <;> exact h
theorem keysD_v {K : Kf} {F : Hp} : ∀ {ds : List D} {vs : List V} {ks : List Key}, RepAll K F ds vs → keysD ds = some ks → vs = ks.map kV
  | [], vs, ks, h, e => by cases e; exact h
  | d :: ds, vs, ks, ⟨v, r, hv, h1, h2⟩, e => by
    subst hv
    unfold keysD at e
    cases e1 : keyD d with
    | none => rw [e1] at e; cases e
    | some k =>
      cases e2 : keysD ds with
      | none => rw [e1, e2] at e; cases e
      | some ks' =>
        rw [e1, e2] at e
        cases e
        rw [keyD_v h1 e1, keysD_v h2 e2]
        rfl
/-- what a dict holds at a key: none, frozen, or a part -/
inductive Dct where
  | k (key : Key) (o : Option SV) | t (key : List Key) (o : Option SV)
def dctK : SV → Option (List (Key × SV))
  | .ok kvs => some kvs
  | .fz (.dk kvs) => some (kvs.map fun kv => (kv.1, .fz kv.2))
  | _ => none
def dctT : SV → Option (List (List Key × SV))
  | .ot kvs => some kvs
  | .fz (.dt kvs) => some (kvs.map fun kv => (kv.1, .fz kv.2))
  | _ => none
def keyOf (s : SV) : Option (Key ⊕ List Key) := match s with
  | .fz (.tup ds) => (keysD ds).map .inr
  | .fz d => (keyD d).map .inl
  | _ => none
/-- what stands at the key -/
def dlook (d s : SV) : Option (Option SV) := match keyOf s with
  | some (.inl k) => (dctK d).map fun kvs => look kvs k
  | some (.inr k) => (dctT d).map fun kvs => look kvs k
  | none => none
theorem look_val {κ : Type} [DecidableEq κ] (kvs : List (κ × V)) (k : κ) : look kvs k = valV kvs k := rfl
theorem repK_look {K : Kf} {F : Hp} : ∀ {kvs : List (Key × D)} {ws : List (Key × V)}, RepK K F kvs ws → ∀ k : Key, (look kvs k = none ∧ look ws k = none) ∨ ∃ d v, look kvs k = some d ∧ look ws k = some v ∧ Rep K F d v
  | [], ws, h, k => by have h : ws = [] := h; subst h; exact .inl ⟨rfl, rfl⟩
  | (k', d) :: r, ws, ⟨v, s, e, h1, h2⟩, k => by
    subst e
    by_cases z : k' = k
    · exact .inr ⟨d, v, by simp [look, z], by simp [look, z], h1⟩
    · simpa [look, z] using repK_look h2 k
theorem repT_look {K : Kf} {F : Hp} : ∀ {kvs : List (List Key × D)} {ws : List (List Key × V)}, RepT K F kvs ws → ∀ k : List Key, (look kvs k = none ∧ look ws k = none) ∨ ∃ d v, look kvs k = some d ∧ look ws k = some v ∧ Rep K F d v
  | [], ws, h, k => by have h : ws = [] := h; subst h; exact .inl ⟨rfl, rfl⟩
  | (k', d) :: r, ws, ⟨v, s, e, h1, h2⟩, k => by
    subst e
    by_cases z : k' = k
    · exact .inr ⟨d, v, by simp [look, z], by simp [look, z], h1⟩
    · simpa [look, z] using repT_look h2 k
theorem ownK_look {K : Kf} {F H : Hp} : ∀ {kvs : List (Key × SV)} {ws : List (Key × V)} {q : List Addr}, OwnK K F H kvs ws q → ∀ k : Key, (look kvs k = none ∧ look ws k = none) ∨ ∃ s v, look kvs k = some s ∧ look ws k = some v ∧ Cont K F H s v
  | [], ws, q, h, k => by have h : ws = [] := h.1; subst h; exact .inl ⟨rfl, rfl⟩
  | (k', d) :: r, ws, q, ⟨v, s, q1, q2, e, h1, h2, _⟩, k => by
    subst e
    by_cases z : k' = k
    · exact .inr ⟨d, v, by simp [look, z], by simp [look, z], q1, h1⟩
    · simpa [look, z] using ownK_look h2 k
theorem ownT_look {K : Kf} {F H : Hp} : ∀ {kvs : List (List Key × SV)} {ws : List (List Key × V)} {q : List Addr}, OwnT K F H kvs ws q → ∀ k : List Key, (look kvs k = none ∧ look ws k = none) ∨ ∃ s v, look kvs k = some s ∧ look ws k = some v ∧ Cont K F H s v
  | [], ws, q, h, k => by have h : ws = [] := h.1; subst h; exact .inl ⟨rfl, rfl⟩
  | (k', d) :: r, ws, q, ⟨v, s, q1, q2, e, h1, h2, _⟩, k => by
    subst e
    by_cases z : k' = k
    · exact .inr ⟨d, v, by simp [look, z], by simp [look, z], q1, h1⟩
    · simpa [look, z] using ownT_look h2 k
theorem look_map {κ : Type} [DecidableEq κ] {α β : Type} (f : α → β) : ∀ (kvs : List (κ × α)) (k : κ), look (kvs.map fun kv => (kv.1, f kv.2)) k = (look kvs k).map f
  | [], k => rfl
  | (k', d) :: r, k => by
    by_cases z : k' = k
    · simp [look, z]
    · simpa [look, z] using look_map f r k
theorem key_cases {H F : Hp} (e : Same F H) {s : SV} {v : V} (h : Cont K F H s v) {k : Key ⊕ List Key} (z : keyOf s = some k) : (∃ j, k = .inl j ∧ v = kV j) ∨ ∃ j b, k = .inr j ∧ v = .ref b ∧ H b = some (.tup (j.map kV)) := by
  cases s with
  | fz d =>
    cases d with
    | tup ds =>
      simp only [keyOf, Option.map_eq_some_iff] at z
      obtain ⟨j, z, rfl⟩ := z
      obtain ⟨b, vs, rfl, h1, r⟩ := cont_fz h
      rw [keysD_v r z] at h1
      exact .inr ⟨j, b, rfl, rfl, e _ _ h1.at⟩
    | int i =>
      simp only [keyOf, Option.map_eq_some_iff] at z
      obtain ⟨j, z, rfl⟩ := z
      exact .inl ⟨j, rfl, keyD_v (cont_fz h) z⟩
    | str i =>
      simp only [keyOf, Option.map_eq_some_iff] at z
      obtain ⟨j, z, rfl⟩ := z
      exact .inl ⟨j, rfl, keyD_v (cont_fz h) z⟩
    | _ => cases z
  | _ => cases z
/-- the dict's answer, in the heap -/
theorem dlook_ok {F H : Hp} (e : Same F H) {d s : SV} {x y : V} (hd : Cont K F H d x) (hs : Cont K F H s y) {o : Option SV} (z : dlook d s = some o) :
    ∃ a r, x = .ref a ∧ DGet H a y r ∧ ((o = none ∧ r = none) ∨ ∃ s' v, o = some s' ∧ r = some v ∧ Cont K F H s' v) := by
  unfold dlook at z
  cases ek : keyOf s with
  | none => rw [ek] at z; cases z
  | some k =>
    rw [ek] at z
    rcases key_cases e hs ek with ⟨j, rfl, rfl⟩ | ⟨j, b, rfl, rfl, hb⟩
    · simp only [Option.map_eq_some_iff] at z
      obtain ⟨kvs, z, rfl⟩ := z
      cases d with
      | ok ks =>
        cases z
        obtain ⟨q, a, vs, r, rfl, ha, hr, _⟩ := hd
        refine ⟨a, valV vs j, rfl, .inl ⟨vs, j, .inl ha, rfl, rfl⟩, ?_⟩
        rcases ownK_look hr j with ⟨h1, h2⟩ | ⟨s', v, h1, h2, h3⟩
        · exact .inl ⟨h1, h2⟩
        · exact .inr ⟨s', v, h1, h2, h3⟩
      | fz d =>
        cases d with
        | dk ks =>
          cases z
          obtain ⟨a, vs, rfl, ha, hr⟩ := cont_fz hd
          refine ⟨a, valV vs j, rfl, .inl ⟨vs, j, .inl (e _ _ ha), rfl, rfl⟩, ?_⟩
          rcases repK_look hr j with ⟨h1, h2⟩ | ⟨s', v, h1, h2, h3⟩
          · exact .inl ⟨by rw [look_map, h1]; rfl, h2⟩
          · exact .inr ⟨.fz s', v, by rw [look_map, h1]; rfl, h2, [], h3, rfl⟩
        | _ => cases z
      | _ => cases z
    · simp only [Option.map_eq_some_iff] at z
      obtain ⟨kvs, z, rfl⟩ := z
      cases d with
      | ot ks =>
        cases z
        obtain ⟨q, a, vs, r, rfl, ha, hr, _⟩ := hd
        refine ⟨a, valV vs j, rfl, .inr ⟨vs, j, b, .inl ha, rfl, hb, rfl⟩, ?_⟩
        rcases ownT_look hr j with ⟨h1, h2⟩ | ⟨s', v, h1, h2, h3⟩
        · exact .inl ⟨h1, h2⟩
        · exact .inr ⟨s', v, h1, h2, h3⟩
      | fz d =>
        cases d with
        | dt ks =>
          cases z
          obtain ⟨a, vs, rfl, ha, hr⟩ := cont_fz hd
          refine ⟨a, valV vs j, rfl, .inr ⟨vs, j, b, .inl (e _ _ ha), rfl, hb, rfl⟩, ?_⟩
          rcases repT_look hr j with ⟨h1, h2⟩ | ⟨s', v, h1, h2, h3⟩
          · exact .inl ⟨by rw [look_map, h1]; rfl, h2⟩
          · exact .inr ⟨.fz s', v, by rw [look_map, h1]; rfl, h2, [], h3, rfl⟩
        | _ => cases z
      | _ => cases z
def rInDict (neg : Bool) : R2 := fun y x H Q => ∃ a o, x = .ref a ∧ DGet H a y o ∧ Q (.bl (if neg then !o.isSome else o.isSome)) H
theorem op_inDict {X : Cx} (hu : X.A.units + 1 < cLine) : OpR X (compareOp .In) (rInDict false) := by
  intro pins s σ H x y v u Q I rx ry ⟨a, o, ey, g, q⟩
  subst ey
  obtain rfl : u = Value.ref a := ry
  exact d_in hu I g rx fun s3 I3 => ⟨.bl o.isSome, H, I3, rfl, q⟩
theorem op_notInDict {X : Cx} (hu : X.A.units + 1 < cLine) : OpR X (compareOp .NotIn) (rInDict true) := by
  intro pins s σ H x y v u Q I rx ry ⟨a, o, ey, g, q⟩
  subst ey
  obtain rfl : u = Value.ref a := ry
  exact d_notIn hu I g rx fun s3 I3 => ⟨.bl (!o.isSome), H, I3, rfl, q⟩
def pInDict (neg : Bool) (a b : SV) : Option EV := (dlook b a).map fun o => .v (.bl (if neg then !o.isSome else o.isSome))
theorem ok_inDict {neg : Bool} : OpOk2 K (rInDict neg) (pInDict neg) := fun F H x y a b ev Q e hx hy z k => by
  unfold pInDict at z
  rw [Option.map_eq_some_iff] at z
  obtain ⟨o, z, rfl⟩ := z
  obtain ⟨c, r, rfl, g, h⟩ := dlook_ok e hy hx z
  refine ⟨c, r, rfl, g, ?_⟩
  have : r.isSome = o.isSome := by
    rcases h with ⟨rfl, rfl⟩ | ⟨s', v, rfl, rfl, _⟩ <;> rfl
  rw [this]
  exact k _ F H (ResOk.val0 e rfl)
def pInA := orOp (pInS false) (orOp (bin2 pIn) (pInDict false))
def pNotInA := orOp (pInS true) (orOp (bin2 pNotIn) (pInDict true))
def rInA (K : Kf) : R2 := fun x y H Q => rInS x y H Q ∨ (rInP K false x y H Q ∨ rInDict false x y H Q)
def rNotInA (K : Kf) : R2 := fun x y H Q => rNotInS x y H Q ∨ (rInP K true x y H Q ∨ rInDict true x y H Q)
theorem op_inA {X : Cx} (hu : X.A.units + 200 < cLine) : OpR X (compareOp .In) (rInA X.K) := opR_or op_in_str (opR_or (op_inP hu) (op_inDict (by omega)))
theorem op_notInA {X : Cx} (hu : X.A.units + 200 < cLine) : OpR X (compareOp .NotIn) (rNotInA X.K) := opR_or op_notin_str (opR_or (op_notInP hu) (op_notInDict (by omega)))
theorem ok_inA {KX : Kf} (up : Up K KX) : OpOk2 K (rInA KX) pInA := ok_or ok_inS (ok_or (ok_inP up) ok_inDict)
theorem ok_notInA {KX : Kf} (up : Up K KX) : OpOk2 K (rNotInA KX) pNotInA := ok_or ok_notInS (ok_or (ok_notInP up) ok_inDict)
end PD
namespace PD
open PySem PySem.Spec PyProof.Rows L2
variable {K : Kf}
/-! ## subscripts, slices -/
theorem PathH.app {H : Hp} : ∀ (p : List Pth) {q : List Pth} {w v u : V}, PathH H w p v → PathH H v q u → PathH H w (p ++ q) u
  | [], q, w, v, u, h, h2 => by have h : v = w := h; subst h; exact h2
  | .i k :: p, q, w, v, u, ⟨a, vs, x, hw, ha, hk, hp⟩, h2 => ⟨a, vs, x, hw, ha, hk, PathH.app p hp h2⟩
  | .k k :: p, q, w, v, u, ⟨a, vs, x, hw, ha, hk, hp⟩, h2 => ⟨a, vs, x, hw, ha, hk, PathH.app p hp h2⟩
  | .t k :: p, q, w, v, u, ⟨a, vs, x, hw, ha, hk, hp⟩, h2 => ⟨a, vs, x, hw, ha, hk, PathH.app p hp h2⟩
/-- one step into a value: the part, the way -/
def stepIx (s key : SV) : Option (SV × Pth) := match s, key with
  | .ol xs, .fz (.int i) => (ixN xs.length i).bind fun j => (xs[j]?).map fun x => (x, .i j)
  | .fz (.lst xs), .fz (.int i) => (ixN xs.length i).bind fun j => (xs[j]?).map fun x => (.fz x, .i j)
  | .fz (.tup xs), .fz (.int i) => (ixN xs.length i).bind fun j => (xs[j]?).map fun x => (.fz x, .i j)
  | .fz (.str z), .fz (.int i) => if z.length ≤ bigLen then (atI z.cps.toList i).map fun c => (.fz (.str ⟨#[c]⟩), .i 0) else none
  | s, key => match dlook s key with
    | some (some x) => some (x, match keyOf key with
      | some (.inl k) => .k k
      | some (.inr k) => .t k
      | none => .i 0)
    | _ => none
def kIx (m : M) (x y : EV) : Out EV := match view m x, view m y with
  | some s, some k => match stepIx s k with
    | some (.fz d, _) => .ok (.v d) m
    | some (_, p') => match x with
      | .br o p => .ok (.br o (p ++ [p'])) m
      | _ => .bad
    | none => .bad
  | _, _ => .bad
def rIxDct : R2 := fun x y H Q => ∃ a v, x = .ref a ∧ DGet H a y (some v) ∧ Q v H
theorem ix_dct {X : Cx} (hu : X.A.units + 1 < cLine) : IxR X rIxDct := by
  intro value slice pins s σ H x y v u Q I rx ry h hs
  obtain ⟨a, w, rfl, g, q⟩ := h
  obtain rfl : v = Value.ref a := rx
  exact tail_any (dict_typeIs I g) PySem.F.slot_dict_getitem.lookup (d_getItem hu I g ry fun w' s3 I3 rw' => ⟨w, H, I3, rw', q⟩) hs
def rIxA (K : Kf) : R2 := fun x y H Q => rIx K x y H Q ∨ rIxDct x y H Q
theorem ix_any {X : Cx} (hu : X.A.units + 1 < cLine) : IxR X (rIxA X.K) := ix_seq.or (ix_dct hu)
/-- the step in the heap: the value v of the part; the way, if the whole is owned -/
theorem stepIx_ok {KX : Kf} {F H : Hp} (e : Same F H) {s k : SV} {x y : V} (hx : Cont K F H s x) (hy : Cont K F H k y) {s' : SV} {p' : Pth} (z : stepIx s k = some (s', p')) :
    ∃ v, Cont K F H s' v ∧ (∀ Q : VK, Q v H → rIxA KX x y H Q) ∧ ((∃ d, s' = .fz d) ∨ PathH H x [p'] v) := by
  have dct : (match dlook s k with
    | some (some x) => some (x, match keyOf k with
      | some (.inl k) => Pth.k k
      | some (.inr k) => .t k
      | none => .i 0)
    | _ => none) = some (s', p') → ∃ v, Cont K F H s' v ∧ (∀ Q : VK, Q v H → rIxA KX x y H Q) ∧ ((∃ d, s' = .fz d) ∨ PathH H x [p'] v) := fun z => by
    cases e1 : dlook s k with
    | none => rw [e1] at z; cases z
    | some o =>
      cases o with
      | none => rw [e1] at z; cases z
      | some s1 =>
        rw [e1] at z
        cases z
        obtain ⟨a, r, rfl, g, h⟩ := dlook_ok e hx hy e1
        rcases h with ⟨h, _⟩ | ⟨s2, v, h1, rfl, h3⟩
        · cases h
        · cases h1
          refine ⟨v, h3, fun Q q => .inr ⟨a, v, rfl, g, q⟩, ?_⟩
          unfold dlook at e1
          cases ek : keyOf k with
          | none => rw [ek] at e1; cases e1
          | some kk =>
            rw [ek] at e1
            rcases key_cases e hy ek with ⟨j, rfl, rfl⟩ | ⟨j, b, rfl, rfl, hb⟩
            · simp only [Option.map_eq_some_iff] at e1
              obtain ⟨kvs, e1, e2⟩ := e1
              cases s with
              | ok ks =>
                cases e1
                obtain ⟨q, a', vs, rr, ea, ha, hr, _⟩ := hx
                cases ea
                rcases ownK_look hr j with ⟨h1, h2⟩ | ⟨s'', v', h1, h2, h3'⟩
                · rw [h1] at e2; cases e2
                · refine .inr ⟨a, vs, v', rfl, ha, h2, ?_⟩
                  rcases g with ⟨kvs, k', e5, e6, e7⟩ | ⟨kvs, k', b, e5, e6, e7, e8⟩
                  · rcases e5 with e5 | ⟨o, e5⟩
                    · rw [ha] at e5; cases e5
                      have : j = k' := by cases j <;> cases k' <;> cases e6 <;> rfl
                      subst this
                      have h2 : valV vs j = some v' := h2
                      rw [h2] at e7; cases e7; rfl
                    · rw [ha] at e5; cases e5
                  · cases j <;> cases e6
              | fz d =>
                cases d with
                | dk ks =>
                  cases e1
                  rw [look_map] at e2
                  cases e9 : look ks j with
                  | none => rw [e9] at e2; cases e2
                  | some d => rw [e9] at e2; cases e2; exact .inl ⟨d, rfl⟩
                | _ => cases e1
              | _ => cases e1
            · simp only [Option.map_eq_some_iff] at e1
              obtain ⟨kvs, e1, e2⟩ := e1
              cases s with
              | ot ks =>
                cases e1
                obtain ⟨q, a', vs, rr, ea, ha, hr, _⟩ := hx
                cases ea
                rcases ownT_look hr j with ⟨h1, h2⟩ | ⟨s'', v', h1, h2, h3'⟩
                · rw [h1] at e2; cases e2
                · refine .inr ⟨a, vs, v', rfl, ha, h2, ?_⟩
                  rcases g with ⟨kvs, k', e5, e6, e7⟩ | ⟨kvs, k', b', e5, e6, e7, e8⟩
                  · cases k' <;> cases e6
                  · rcases e5 with e5 | ⟨o, e5⟩
                    · rw [ha] at e5; cases e5
                      cases e6
                      rw [hb] at e7
                      have e7 : j.map kV = k'.map kV := by injection e7 with e7; injection e7
                      have inj : ∀ (l l' : List Key), l.map kV = l'.map kV → l = l' := by
                        intro l
                        induction l with
                        | nil => intro l' h; cases l' with | nil => rfl | cons _ _ => cases h
                        | cons a l ih =>
                          intro l' h
                          cases l' with
                          | nil => cases h
                          | cons b l' =>
                            injection h with h1 h2
                            have : a = b := by cases a <;> cases b <;> cases h1 <;> rfl
                            rw [this, ih l' h2]
                      have := inj _ _ e7
                      subst this
                      have h2 : valV vs j = some v' := h2
                      rw [h2] at e8; cases e8; rfl
                    · rw [ha] at e5; cases e5
              | fz d =>
                cases d with
                | dt ks =>
                  cases e1
                  rw [look_map] at e2
                  cases e9 : look ks j with
                  | none => rw [e9] at e2; cases e2
                  | some d => rw [e9] at e2; cases e2; exact .inl ⟨d, rfl⟩
                | _ => cases e1
              | _ => cases e1
  unfold stepIx at z
  split at z
  · rename_i xs i
    have hy : y = .int i := cont_fz hy
    subst hy
    rw [Option.bind_eq_some_iff] at z
    obtain ⟨j, ej, z⟩ := z
    rw [Option.map_eq_some_iff] at z
    obtain ⟨x0, ex, z⟩ := z
    cases z
    obtain ⟨q, a, vs, r, rfl, ha, hr, _⟩ := hx
    obtain ⟨v, g, ev, ov, _⟩ := ownL_get hr ex
    have hl : vs.length = xs.length := by
      have : ∀ {xs : List SV} {vs : List V} {q : List Addr}, OwnL K F H xs vs q → vs.length = xs.length := by
        intro xs
        induction xs with
        | nil => intro vs q h; have := h.1; subst this; rfl
        | cons x xs ih => intro vs q ⟨v, r, q1, q2, h, _, h2, _⟩; subst h; simp [ih h2]
      exact this hr
    refine ⟨v, ⟨g, ov⟩, fun Q q => .inl (.inl ⟨a, vs, i, v, rfl, rfl, SqL.of ha, ?_, q⟩), .inr ⟨a, vs, v, rfl, ha, ev, rfl⟩⟩
    unfold atI
    rw [hl, ej]
    exact ev
  · rename_i xs i
    have hy : y = .int i := cont_fz hy
    subst hy
    rw [Option.bind_eq_some_iff] at z
    obtain ⟨j, ej, z⟩ := z
    rw [Option.map_eq_some_iff] at z
    obtain ⟨x0, ex, z⟩ := z
    cases z
    obtain ⟨a, vs, rfl, ha, hr⟩ := cont_fz hx
    obtain ⟨v, ev, rv⟩ := repAll_get hr ex
    refine ⟨v, ⟨[], rv, rfl⟩, fun Q q => .inl (.inl ⟨a, vs, i, v, rfl, rfl, SqL.of (e _ _ ha.at), ?_, q⟩), .inl ⟨_, rfl⟩⟩
    unfold atI
    rw [repAll_len hr, ej]
    exact ev
  · rename_i xs i
    have hy : y = .int i := cont_fz hy
    subst hy
    rw [Option.bind_eq_some_iff] at z
    obtain ⟨j, ej, z⟩ := z
    rw [Option.map_eq_some_iff] at z
    obtain ⟨x0, ex, z⟩ := z
    cases z
    obtain ⟨a, vs, rfl, ha, hr⟩ := cont_fz hx
    obtain ⟨v, ev, rv⟩ := repAll_get hr ex
    refine ⟨v, ⟨[], rv, rfl⟩, fun Q q => .inl (.inr (.inl ⟨a, vs, i, v, rfl, rfl, SqT.of (e _ _ ha.at), ?_, q⟩)), .inl ⟨_, rfl⟩⟩
    unfold atI
    rw [repAll_len hr, ej]
    exact ev
  · rename_i t i
    have hy : y = .int i := cont_fz hy
    subst hy
    have hx : x = .str t := cont_fz hx
    subst hx
    split at z
    · rename_i hl
      rw [Option.map_eq_some_iff] at z
      obtain ⟨c, ex, z⟩ := z
      cases z
      exact ⟨.str ⟨#[c]⟩, ⟨[], rfl, rfl⟩, fun Q q => .inl (.inr (.inr ⟨t, i, c, rfl, rfl, big_le hl, ex, q⟩)), .inl ⟨_, rfl⟩⟩
    · cases z
  · exact dct z
section
variable {K : Kf} {mg : Str → Option Value} {E : XS} {pa pb pc pu pl ph : Bool} {ta tb te : TE} {ga gb ge : M → Out EV}
theorem k_ix {KX : Kf} : KOk2 K mg E true (rIxA KX) kIx := fun F0 G π m σ F H fp Q x y ex ey S hx hy p => by
  unfold kIx at p
  cases e1 : view m ex with
  | none => simp only [e1] at p; exact p.elim
  | some s =>
    cases e2 : view m ey with
    | none => simp only [e1, e2] at p; exact p.elim
    | some k =>
      simp only [e1, e2] at p
      cases e3 : stepIx s k with
      | none => simp only [e3] at p; exact p.elim
      | some z =>
        obtain ⟨s', p'⟩ := z
        obtain ⟨v, cv, run, way⟩ := stepIx_ok (KX := KX) S.sub (S.view hx e1) (S.view hy e2) e3
        refine run Q ?_
        simp only [e3] at p
        have br : ∀ o q, ex = .br o q → (∀ d, s' ≠ .fz d) → PostE K mg E true F0 G π m σ F H fp Q (.ok (.br o (q ++ [p'])) m) → Q v H := fun o q eq n pp => by
          subst eq
          obtain ⟨w, h1, h2⟩ := hx
          rcases way with ⟨d, hd⟩ | way
          · exact absurd hd (n d)
          · exact pp v F H fp S Ch.refl ⟨w, h1, h2.app _ way⟩
        cases s' with
        | fz d => exact p v F H fp S Ch.refl (cont_fz cv)
        | ol _ =>
          cases ex with
          | br o q => exact br o q rfl (fun _ h => by cases h) p
          | _ => exact p.elim
        | ok _ =>
          cases ex with
          | br o q => exact br o q rfl (fun _ h => by cases h) p
          | _ => exact p.elim
        | ot _ =>
          cases ex with
          | br o q => exact br o q rfl (fun _ h => by cases h) p
          | _ => exact p.elim
/-! ### slices -/
def PostO (K : Kf) (mg : Str → Option Value) (E : XS) (pu : Bool) (F0 G : Hp) (π : List V) (m : M) (σ : L2.St) (F H : Hp) (fp : Ow → List Addr) (Q : Option Int → Hp → Prop) : Out (Option Int) → Prop
  | .ok b m' => ∀ F' H' fp', StF K F0 G π m' σ F' H' fp' → Ch pu m m' F H F' H' fp fp' → Q b H'
  | .exc c d m' => ExcW K mg F0 G π E σ c d m'
  | .bad => False
def TOok (K : Kf) (mg : Str → Option Value) (E : XS) (pu : Bool) (t : TO) (g : M → Out (Option Int)) : Prop :=
  ∀ F0 G π m σ F H fp (Q : Option Int → Hp → Prop), StF K F0 G π m σ F H fp → PostO K mg E pu F0 G π m σ F H fp Q (g m) → t σ H Q
def dNoPart (m : M) : Out (Option Int) := .ok none m
def dPart (g : M → Out EV) (m : M) : Out (Option Int) := (g m).bind fun ev m1 => match ev with
  | .v (.int i) => .ok (some i) m1
  | _ => .bad
theorem to_none : TOok K mg E true tNoPart dNoPart := fun F0 G π m σ F H fp Q S p => p F H fp S Ch.refl
theorem to_some (h : TEok K mg E pa ta ga) : TOok K mg E pa (tPart ta) (dPart ga) := fun F0 G π m σ F H fp Q S p => by
  refine h F0 G π m σ F H fp _ S ?_
  unfold dPart at p
  cases e : ga m with
  | bad => rw [e] at p; exact p
  | exc c d m' => rw [e] at p; exact p
  | ok ev m1 =>
    rw [e] at p
    intro v F1 H1 fp1 S1 c1 e1
    cases ev with
    | br o q => exact p.elim
    | fr s => exact p.elim
    | v d =>
      cases d with
      | int i => exact ⟨i, e1, p F1 H1 fp1 S1 c1⟩
      | _ => exact p.elim
def cutD {α : Type} (xs : List α) (lo hi : Option Int) : List α := (xs.drop (HT.sIx xs.length 0 lo)).take (HT.sIx xs.length xs.length hi - HT.sIx xs.length 0 lo)
/-- a slice: of a list, of a tuple, of a text -/
def pSl (s : SV) (lo hi : Option Int) : Option EV := match lstD s with
  | some ds => some (.fr (.ol ((cutD ds lo hi).map .fz)))
  | none => match s with
    | .fz (.tup ds) => some (.v (.tup (cutD ds lo hi)))
    | .fz (.scr ns) => some (.fr (.ol ((cutD ns lo hi).map fun i => .fz (.int i))))
    | .fz (.str z) => if z.length ≤ bigLen then some (.v (.str (cutS z lo hi))) else none
    | _ => none
theorem repAll_cut {F : Hp} {ds : List D} {vs : List V} (h : RepAll K F ds vs) (lo hi : Option Int) : RepAll K F (cutD ds lo hi) (cutV vs lo hi) := by
  unfold cutD cutV
  rw [repAll_len h]
  exact repAll_take _ (repAll_drop _ h)
def rSlAll (KX : Kf) : V → Option Int → Option Int → Hp → VK → Prop := fun x lo hi H Q => rSlL KX x lo hi H Q ∨ (rSlA KX x lo hi H Q ∨ rSlS x lo hi H Q)
theorem sl_all {X : Cx} : SlR X (rSlAll X.K) := sl_list.or (sl_tupA.or sl_str)
theorem cutD_all {α : Type} {xs : List α} {lo hi : Option Int} (h : HT.sIx xs.length 0 lo = 0 ∧ HT.sIx xs.length xs.length hi = xs.length) : cutD xs lo hi = xs := by
  unfold cutD
  rw [h.1, h.2]
  simp
theorem pSl_ok {KX : Kf} (up : Up K KX) {F H : Hp} {x : V} {s : SV} {lo hi : Option Int} {ev : EV} {Q : VK} (e : Same F H) (hx : Cont K F H s x) (z : pSl s lo hi = some ev) (k : ∀ v F' H', ResOk K F H F' H' ev v → Q v H') : rSlAll KX x lo hi H Q := by
  unfold pSl at z
  cases e1 : lstD s with
  | some ds =>
    simp only [e1] at z
    cases z
    obtain ⟨a, vs, rfl, h1, r1⟩ := cont_lst e hx e1
    exact .inl ⟨a, vs, rfl, SqL.of h1.at, fun p hp => k _ _ _ (ResOk.lst0 e hp (ownL_fz (repAll_cut r1 lo hi)))⟩
  | none =>
    simp only [e1] at z
    split at z
    · rename_i ds
      cases z
      obtain ⟨a, vs, rfl, h1, r1⟩ := cont_fz hx
      refine .inr (.inl ⟨a, vs, rfl, SqT.of (e _ _ h1.at), fun h => ?_, fun _ p hp => k _ _ _ (ResOk.tup0 e hp (repAll_cut r1 lo hi))⟩)
      rw [repAll_len r1] at h
      rw [cutD_all h] at k
      exact k _ F H (ResOk.val0 e (cont_fz hx))
    · rename_i ns
      cases z
      obtain ⟨a, rfl, h1⟩ := cont_fz hx
      refine .inl ⟨a, ns.map V.int, rfl, up_l up (e.seq h1), fun p hp => ?_⟩
      have ec : cutV (ns.map V.int) lo hi = (cutD ns lo hi).map V.int := by
        unfold cutV cutD
        rw [List.length_map, List.map_take, List.map_drop]
      rw [ec]
      have : ∀ ns : List Int, RepAll K F (ns.map D.int) (ns.map V.int) := by
        intro ns
        induction ns with
        | nil => rfl
        | cons n ns ih => exact ⟨_, _, rfl, rfl, ih⟩
      have r := ResOk.lst0 e hp (ownL_fz (H := H) (this (cutD ns lo hi)))
      rw [List.map_map] at r
      exact k _ _ _ r
    · rename_i t
      split at z
      · rename_i hl
        cases z
        exact .inr (.inr ⟨t, cont_fz hx, big_le hl, k _ F H (ResOk.val0 e rfl)⟩)
      · cases z
    · cases z
def dSl (pl ph : Bool) (ga : M → Out EV) (gl gh : M → Out (Option Int)) (m : M) : Out EV :=
  (opd ga m).bind fun x m1 => (gl m1).bind fun l m2 => (gh m2).bind fun h m3 => if stable (pl && ph) x = true then (match view m3 x with
    | some s => match pSl s l h with
      | some ev => .ok ev m3
      | none => .bad
    | none => .bad) else .bad
theorem te_sl {KX : Kf} (up : Up K KX) {tl th : TO} {gl gh : M → Out (Option Int)} (ha : TEok K mg E pa ta ga) (hl : TOok K mg E pl tl gl) (hh : TOok K mg E ph th gh) : TEok K mg E (pa && (pl && ph)) (tSl (rSlAll KX) ta tl th) (dSl pl ph ga gl gh) := fun F0 G π m σ F H fp Q S p => by
  refine ha.opd F0 G π m σ F H fp _ S ?_
  unfold dSl at p
  cases e : opd ga m with
  | bad => rw [e] at p; exact p
  | exc c d m' => rw [e] at p; exact p
  | ok ex m1 =>
    rw [e] at p
    intro x F1 H1 fp1 S1 c1 e1
    refine hl F0 G π m1 σ F1 H1 fp1 _ S1 ?_
    have p : PostE K mg E _ F0 G π m σ F H fp Q ((gl m1).bind fun l m2 => (gh m2).bind fun h m3 => if stable (pl && ph) ex = true then (match view m3 ex with
      | some s => match pSl s l h with
        | some ev => .ok ev m3
        | none => .bad
      | none => .bad) else .bad) := p
    cases e2 : gl m1 with
    | bad => rw [e2] at p; exact p
    | exc c d m' => rw [e2] at p; exact p
    | ok l m2 =>
      rw [e2] at p
      intro F2 H2 fp2 S2 c2
      refine hh F0 G π m2 σ F2 H2 fp2 _ S2 ?_
      have p : PostE K mg E _ F0 G π m σ F H fp Q ((gh m2).bind fun h m3 => if stable (pl && ph) ex = true then (match view m3 ex with
        | some s => match pSl s l h with
          | some ev => .ok ev m3
          | none => .bad
        | none => .bad) else .bad) := p
      cases e3 : gh m2 with
      | bad => rw [e3] at p; exact p
      | exc c d m' => rw [e3] at p; exact p
      | ok h m3 =>
        rw [e3] at p
        intro F3 H3 fp3 S3 c3
        have p : PostE K mg E _ F0 G π m σ F H fp Q (if stable (pl && ph) ex = true then (match view m3 ex with
          | some s => match pSl s l h with
            | some ev => .ok ev m3
            | none => .bad
          | none => .bad) else .bad) := p
        by_cases st : stable (pl && ph) ex = true
        · rw [if_pos st] at p
          have e4 := e1.carry (N' := fun _ => False) (opd_nofr e) (c2.trans c3) st
          cases ev : view m3 ex with
          | none => simp only [ev] at p; exact p.elim
          | some s =>
            cases es : pSl s l h with
            | none => simp only [ev, es] at p; exact p.elim
            | some r =>
              simp only [ev, es] at p
              have p1 := PostE.weak (pa := pa && (pl && ph)) (pb := true) (c1.trans (c2.trans c3)) (by rw [Bool.and_true]; exact p)
              exact pSl_ok up S3.sub (S3.view e4 ev) es fun v F' H' r => S3.res p1 r
        · rw [if_neg st] at p; exact p.elim
/-- xs[::-1] -/
def pRev (s : SV) : Option EV := (lstD s).map fun ds => .fr (.ol (ds.reverse.map .fz))
theorem ok_rev {KX : Kf} : OpOk1 K (fun x H1 Q => ∃ a xs, x = .ref a ∧ SqL KX H1 a xs ∧ ∀ p, H1 p = none → Q (.ref p) (upd H1 p (.lst xs.reverse))) pRev := fun F H x a ev Q e hx z k => by
  unfold pRev at z
  rw [Option.map_eq_some_iff] at z
  obtain ⟨ds, z, rfl⟩ := z
  obtain ⟨b, vs, rfl, h1, r1⟩ := cont_lst e hx z
  exact ⟨b, vs, rfl, SqL.of h1.at, fun p hp => k _ _ _ (ResOk.lst0 e hp (ownL_fz (repAll_rev r1)))⟩
end
/-! ## as pieces -/
structure DO (X : Cx) (K : Kf) (mg : Str → Option Value) (E : XS) (e : Option Expr) (pu : Bool) (t : TO) (g : M → Out (Option Int)) : Prop where
  pe : PO X e t
  ok : TOok K mg E pu t g
section
variable {X : Cx} {P : Program} {w : World} {KX K : Kf} {mg : Str → Option Value} {base : Heap} {n : Nat} {E : XS} {pa pb pc pu pl ph : Bool} {ta tb tc te : TE} {ga gb gc ge : M → Out EV} {a b c e : Expr} {es : List Expr} {pos p p2 : Pos} {x : Str}
theorem do_none : DO X K mg E none true tNoPart dNoPart := ⟨po_none, to_none⟩
theorem do_some (h : DE X K mg E e pa ta ga) : DO X K mg E (some e) pa (tPart ta) (dPart ga) := ⟨po_some h.pe, to_some h.ok⟩
theorem de_sl (C : Cxt X P w KX K mg base n E) {lo hi : Option Expr} {tl th : TO} {gl gh : M → Out (Option Int)} (h : DE X K mg E e pa ta ga) (hl : DO X K mg E lo pl tl gl) (hh : DO X K mg E hi ph th gh) : DE X K mg E (.Subscript e (.Slice lo hi none p2) pos) (pa && (pl && ph)) (tSl (rSlAll KX) ta tl th) (dSl pl ph ga gl gh) := by
  rw [← C.hK]
  exact ⟨pe_slice sl_all h.pe hl.pe hh.pe, te_sl (KX := X.K) (by rw [C.hK]; exact C.up) h.ok hl.ok hh.ok⟩
theorem de_rev (C : Cxt X P w KX K mg base n E) {k : Nat} {p1 p2 p3 : Pos} (h : DE X K mg E e pa ta ga) : DE X K mg E (.Subscript e (.Slice none none (some (.UnaryOp .USub (.Constant (.int 1) k p1) p2)) p3) pos) (pa && true) (tRevL KX ta) (dUn ga (kV1 pRev)) := by
  rw [← C.hK]
  exact ⟨pe_revL h.pe, (te_un1 h.ok (k_v1 ok_rev) : TEok K mg E _ (fun σ H Q => ta σ H fun x H1 => ∃ a xs, x = .ref a ∧ SqL X.K H1 a xs ∧ ∀ p, H1 p = none → Q (.ref p) (upd H1 p (.lst xs.reverse))) _)⟩
theorem de_sub (C : Cxt X P w KX K mg base n E) (h1 : DE X K mg E a pa ta ga) (h2 : DE X K mg E b pb tb gb) (hs : PlainIx b := by exact fun _ _ => rfl) : DE X K mg E (.Subscript a b pos) (pa && (pb && true)) (tOp (rIxA KX) ta tb) (dBin pb ga gb kIx) := by
  rw [← C.hK]
  exact de_ix (ix_any C.hu1) k_ix h1 h2 hs
end
end PD
namespace PD
open PySem PySem.Spec PyProof.Rows L2
variable {K : Kf}
/-! ## owned objects are changed -/
section
variable {K : Kf} {F0 G : Hp} {π : List V} {m : M} {σ : L2.St} {F H : Hp} {fp : Ow → List Addr}
theorem StF.mutate (S : StF K F0 G π m σ F H fp) {o : Ow} {r s : SV} {p : List Pth} {w v : V} (hg : get m o = some r) (hs : PD.sub r p = some s) (hw : refO σ π o = some w) (hp : PathH H w p v) :
    ∃ g, Own K F H s v g ∧ g.Nodup ∧ (∀ a ∈ g, a ∈ fp o) ∧ ∀ (H' : Hp) (s' : SV) (g' : List Addr), Own K F H' s' v g' → g'.Nodup → (∀ a x, H a = some x → a ∉ g → H' a = some x) →
      (∀ a ∈ g', a ∈ g ∨ (G a = none ∧ F a = none ∧ ∀ o', a ∉ fp o')) → ∃ fp', StF K F0 G π (setO m o (put r p s')) σ F H' fp' := by
  obtain ⟨w', h1, h2⟩ := S.own o r hg
  rw [hw] at h1; cases h1
  obtain ⟨u, g, pu, ou, ng, mg, re⟩ := own_put p h2 (S.nd o) hs
  obtain rfl : v = u := PathH.fun p _ _ _ hp pu
  refine ⟨g, ou, ng, mg, fun H' s' g' ho nd k f => ?_⟩
  obtain ⟨q', oq, nq, hq, _⟩ := re F H' s' g' (Same.refl F) ho nd (fun a ha na => by
    cases e : H a with
    | none => exact absurd e (S.there ha)
    | some x => exact k a x e na) (fun a ha => (f a ha).imp id fun z => z.2.2 o)
  refine ⟨_, S.change hg hw (Same.refl F) (fun a x e => k a x (S.sub a x e) fun z => by rw [(S.fr o a (mg a z)).1] at e; cases e) S.new (fun a x e n => k a x e fun z => n (mg a z)) oq nq (fun a ha => ?_) (fun a ha => ?_) (fun o' a ne ha => (S.fr o' a ha).1)⟩
  · rcases hq a ha with z | z
    · rcases f a z with y | y
      · exact .inl (mg a y)
      · exact .inr ⟨y.1, y.2.2⟩
    · exact .inl z.1
  · rcases hq a ha with z | z
    · rcases f a z with y | y
      · exact (S.fr o a (mg a y)).1
      · exact y.2.1
    · exact (S.fr o a z.1).1
/-- as an own thing, what may be owned as it is -/
def ownE (m : M) : EV → Out SV
  | .v d => .ok (.fz d) m
  | .fr s => .ok s m
  | .br o p => (dFzE m (.br o p)).bind fun d m1 => .ok (.fz d) m1
theorem ownE_ok {m' : M} {v : V} {ev : EV} {s : SV} {N : Addr → Prop} (S : StF K F0 G π m σ F H fp) (h : EvF K G π σ F H fp N v ev) (e : ownE m ev = .ok s m') :
    ∃ F' fp' q, StF K F0 G π m' σ F' H fp' ∧ Own K F' H s v q ∧ q.Nodup ∧ (∀ a ∈ q, F' a = none ∧ G a = none ∧ ∀ o, a ∉ fp' o) ∧ Same F F' := by
  cases ev with
  | v d => cases e; exact ⟨F, fp, [], S, ⟨h, rfl⟩, List.nodup_nil, fun a h => (by cases h), Same.refl F⟩
  | fr s' =>
    cases e
    obtain ⟨q, h1, h2, h3⟩ := h
    exact ⟨F, fp, q, S, h1, h2, fun a ha => ⟨(h3 a ha).1, (h3 a ha).2.1, (h3 a ha).2.2.1⟩, Same.refl F⟩
  | br o p =>
    have e : ((dFzE m (.br o p)).bind fun d m1 => Out.ok (SV.fz d) m1) = .ok s m' := e
    cases e1 : dFzE m (.br o p) with
    | bad => rw [e1] at e; cases e
    | exc c d m1 => rw [e1] at e; cases e
    | ok d m1 =>
      rw [e1] at e
      cases e
      obtain ⟨F', fp', S', r, s'⟩ := fzE_ok S h e1
      exact ⟨F', fp', [], S', ⟨r, rfl⟩, List.nodup_nil, fun a h => (by cases h), s'⟩
theorem fzE_exc {c : Str} {d : D} {m1 : M} {ev : EV} : dFzE m ev ≠ .exc c d m1 := fun e1 => by
  cases ev with
  | v d => cases e1
  | fr s => cases e1
  | br o q =>
    unfold dFzE at e1
    cases eg : get m o with
    | none => simp [eg] at e1
    | some r =>
      cases es : sub r q with
      | none => simp [eg, es] at e1
      | some s => simp [eg, es] at e1
theorem ownE_exc {c : Str} {d : D} {m1 : M} {ev : EV} : ownE m ev ≠ .exc c d m1 := fun e1 => by
  cases ev with
  | v d => cases e1
  | fr s => cases e1
  | br o q =>
    have e1 : ((dFzE m (.br o q)).bind fun d m1 => Out.ok (SV.fz d) m1) = .exc c d m1 := e1
    cases e : dFzE m (.br o q) with
    | bad => rw [e] at e1; cases e1
    | exc c d m2 => exact fzE_exc e
    | ok d m2 => rw [e] at e1; cases e1
end
/-! ### lists that are owned -/
section
variable {K : Kf} {F H H' : Hp}
theorem ownL_cat : ∀ {xs ys : List SV} {vs ws : List V} {q r : List Addr}, OwnL K F H xs vs q → OwnL K F H ys ws r → OwnL K F H (xs ++ ys) (vs ++ ws) (q ++ r)
  | [], ys, vs, ws, q, r, h, h2 => by
    obtain ⟨h, h'⟩ := h
    subst h h'
    exact h2
  | x :: xs, ys, vs, ws, q, r, ⟨v, s, q1, q2, hv, h1, h3, hq⟩, h2 => by
    subst hv hq
    exact ⟨v, s ++ ws, q1, q2 ++ r, rfl, h1, ownL_cat h3 h2, by rw [List.append_assoc]⟩
theorem ownL_one {x : SV} {v : V} {q : List Addr} (h : Own K F H x v q) : OwnL K F H [x] [v] q := ⟨v, [], q, [], rfl, h, ⟨rfl, rfl⟩, by simp⟩
theorem ownL_erase : ∀ {xs : List SV} {vs : List V} {q : List Addr}, OwnL K F H xs vs q → ∀ {j : Nat} {d : D}, xs[j]? = some (.fz d) → ∃ v, vs[j]? = some v ∧ Rep K F d v ∧ OwnL K F H (xs.eraseIdx j) (vs.eraseIdx j) q
  | [], vs, q, h, j, d, e => by simp at e
  | x :: xs, vs, q, ⟨v, r, q1, q2, hv, h1, h2, hq⟩, 0, d, e => by
    subst hv hq
    simp at e; subst e
    refine ⟨v, rfl, h1.1, ?_⟩
    rw [h1.2]
    exact h2
  | x :: xs, vs, q, ⟨v, r, q1, q2, hv, h1, h2, hq⟩, j + 1, d, e => by
    subst hv hq
    obtain ⟨u, e1, e2, e3⟩ := ownL_erase h2 (j := j) (d := d) (by simpa using e)
    exact ⟨u, by simpa using e1, e2, v, r.eraseIdx j, q1, q2, rfl, h1, e3, rfl⟩
theorem nodup_swap {a b c : List Addr} (h : (a ++ (b ++ c)).Nodup) : (a ++ c).Nodup ∧ (b ++ c).Nodup ∧ ∀ x ∈ a, x ∉ b ∧ x ∉ c := by
  obtain ⟨h1, h2, h3⟩ := nodup_app h
  obtain ⟨h4, h5, h6⟩ := nodup_app h2
  exact ⟨nodup_mk h1 h5 fun x hx z => h3 x hx (List.mem_append_right _ z), h2, fun x hx => ⟨fun z => h3 x hx (List.mem_append_left _ z), fun z => h3 x hx (List.mem_append_right _ z)⟩⟩
theorem ownL_setx : ∀ {xs : List SV} {vs : List V} {q q2 : List Addr} {x : SV} {y : V}, OwnL K F H xs vs q → Own K F H x y q2 → (q ++ q2).Nodup → ∀ (j : Nat), j < xs.length → ∃ q', OwnL K F H (xs.set j x) (vs.set j y) q' ∧ q'.Nodup ∧ ∀ a ∈ q', a ∈ q ++ q2
  | [], vs, q, q2, x, y, h, ho, nd, j, hj => by simp at hj
  | x0 :: xs, vs, q, q2, x, y, ⟨v, r, q1, q3, hv, h1, h2, hq⟩, ho, nd, 0, hj => by
    subst hv hq
    rw [List.append_assoc] at nd
    obtain ⟨n1, n2, n3⟩ := nodup_swap nd
    obtain ⟨n4, n5, n6⟩ := nodup_app n2
    refine ⟨q2 ++ q3, ⟨y, r, q2, q3, rfl, ho, h2, rfl⟩, nodup_mk n5 n4 fun a ha hb => n6 a hb ha, fun a ha => ?_⟩
    rcases List.mem_append.mp ha with z | z
    · exact List.mem_append_right _ z
    · exact List.mem_append_left _ (List.mem_append_right _ z)
  | x0 :: xs, vs, q, q2, x, y, ⟨v, r, q1, q3, hv, h1, h2, hq⟩, ho, nd, j + 1, hj => by
    subst hv hq
    rw [List.append_assoc] at nd
    obtain ⟨n1, n2, n3⟩ := nodup_swap nd
    obtain ⟨n0, _, _⟩ := nodup_app nd
    obtain ⟨q', o', nd', h'⟩ := ownL_setx h2 ho n2 j (by simpa using hj)
    refine ⟨q1 ++ q', ⟨v, r.set j y, q1, q', rfl, h1, o', rfl⟩, nodup_mk n0 nd' fun a ha hb => ?_, fun a ha => ?_⟩
    · rcases List.mem_append.mp (h' a hb) with z | z
      · exact (n3 a ha).1 z
      · exact (n3 a ha).2 z
    · rw [List.append_assoc]
      rcases List.mem_append.mp ha with z | z
      · exact List.mem_append_left _ z
      · exact List.mem_append_right _ (h' a z)
def putG {κ β : Type} [DecidableEq κ] (kvs : List (κ × β)) (k : κ) (x : β) : List (κ × β) :=
  if (kvs.any fun kv => decide (kv.1 = k)) = true then kvs.map (fun kv => if kv.1 = k then (kv.1, x) else kv) else kvs ++ [(k, x)]
theorem ownK_len : ∀ {xs : List (Key × SV)} {vs : List (Key × V)} {q : List Addr}, OwnK K F H xs vs q → vs.length = xs.length
  | [], vs, q, h => by have := h.1; subst this; rfl
  | (k, x) :: xs, vs, q, ⟨v, r, q1, q2, h, _, h2, _⟩ => by subst h; simp [ownK_len h2]
theorem ownK_any (k : Key) : ∀ {xs : List (Key × SV)} {vs : List (Key × V)} {q : List Addr}, OwnK K F H xs vs q → (vs.any fun kv => decide (kv.1 = k)) = (xs.any fun kv => decide (kv.1 = k))
  | [], vs, q, h => by have := h.1; subst this; rfl
  | (k', x) :: xs, vs, q, ⟨v, r, q1, q2, h, _, h2, _⟩ => by subst h; simp only [List.any_cons, ownK_any k h2]
theorem ownK_map {k : Key} {d : D} {v : V} (hr : Rep K F d v) : ∀ {xs : List (Key × SV)} {vs : List (Key × V)} {q : List Addr}, OwnK K F H xs vs q → ∃ q', OwnK K F H (xs.map fun kv => if kv.1 = k then (kv.1, .fz d) else kv) (vs.map fun kv => if kv.1 = k then (kv.1, v) else kv) q' ∧ q'.Sublist q
  | [], vs, q, h => by
    obtain ⟨h1, h2⟩ := h
    subst h1 h2
    exact ⟨[], ⟨rfl, rfl⟩, List.Sublist.refl _⟩
  | (k', x) :: xs, vs, q, ⟨u, r, q1, q2, h, h1, h2, hq⟩ => by
    subst h hq
    obtain ⟨q', h3, h4⟩ := ownK_map hr h2
    by_cases z : k' = k
    · refine ⟨q', ?_, h4.trans (List.sublist_append_right _ _)⟩
      rw [List.map_cons, List.map_cons, if_pos z, if_pos z]
      exact ⟨v, _, [], q', rfl, ⟨hr, rfl⟩, h3, rfl⟩
    · refine ⟨q1 ++ q', ?_, (List.Sublist.refl q1).append h4⟩
      rw [List.map_cons, List.map_cons, if_neg z, if_neg z]
      exact ⟨u, _, q1, q', rfl, h1, h3, rfl⟩
theorem ownK_app : ∀ {xs ys : List (Key × SV)} {vs ws : List (Key × V)} {q r : List Addr}, OwnK K F H xs vs q → OwnK K F H ys ws r → OwnK K F H (xs ++ ys) (vs ++ ws) (q ++ r)
  | [], ys, vs, ws, q, r, h, h2 => by
    obtain ⟨h, h'⟩ := h
    subst h h'
    exact h2
  | (k, x) :: xs, ys, vs, ws, q, r, ⟨v, s, q1, q2, hv, h1, h3, hq⟩, h2 => by
    subst hv hq
    exact ⟨v, s ++ ws, q1, q2 ++ r, rfl, h1, ownK_app h3 h2, by rw [List.append_assoc]⟩
theorem ownK_one {k : Key} {x : SV} {v : V} {q : List Addr} (h : Own K F H x v q) : OwnK K F H [(k, x)] [(k, v)] q := ⟨v, [], q, [], rfl, h, ⟨rfl, rfl⟩, by simp⟩
theorem ownK_put {k : Key} {x : SV} {v : V} {q q2 : List Addr} {xs : List (Key × SV)} {vs : List (Key × V)} (h : OwnK K F H xs vs q) (hx : Own K F H x v q2) (nd : (q ++ q2).Nodup) (hz : (∃ d, x = .fz d) ∨ (xs.any fun kv => decide (kv.1 = k)) = false) :
    ∃ q', OwnK K F H (putG xs k x) (putK vs k v) q' ∧ q'.Nodup ∧ ∀ a ∈ q', a ∈ q ++ q2 := by
  unfold putG putK
  rw [ownK_any k h]
  by_cases z : (xs.any fun kv => decide (kv.1 = k)) = true
  · rw [if_pos z, if_pos z]
    rcases hz with ⟨d, rfl⟩ | hz
    · obtain ⟨q', h1, h2⟩ := ownK_map (k := k) hx.1 h
      exact ⟨q', h1, h2.nodup (nodup_app nd).1, fun a ha => List.mem_append_left _ (h2.subset ha)⟩
    · rw [hz] at z; cases z
  · rw [if_neg z, if_neg z]
    exact ⟨q ++ q2, ownK_app h (ownK_one hx), nd, fun a ha => ha⟩
theorem ownT_len : ∀ {xs : List (List Key × SV)} {vs : List (List Key × V)} {q : List Addr}, OwnT K F H xs vs q → vs.length = xs.length
  | [], vs, q, h => by have := h.1; subst this; rfl
  | (k, x) :: xs, vs, q, ⟨v, r, q1, q2, h, _, h2, _⟩ => by subst h; simp [ownT_len h2]
theorem ownT_any (k : List Key) : ∀ {xs : List (List Key × SV)} {vs : List (List Key × V)} {q : List Addr}, OwnT K F H xs vs q → (vs.any fun kv => decide (kv.1 = k)) = (xs.any fun kv => decide (kv.1 = k))
  | [], vs, q, h => by have := h.1; subst this; rfl
  | (k', x) :: xs, vs, q, ⟨v, r, q1, q2, h, _, h2, _⟩ => by subst h; simp only [List.any_cons, ownT_any k h2]
theorem ownT_map {k : List Key} {d : D} {v : V} (hr : Rep K F d v) : ∀ {xs : List (List Key × SV)} {vs : List (List Key × V)} {q : List Addr}, OwnT K F H xs vs q → ∃ q', OwnT K F H (xs.map fun kv => if kv.1 = k then (kv.1, .fz d) else kv) (vs.map fun kv => if kv.1 = k then (kv.1, v) else kv) q' ∧ q'.Sublist q
  | [], vs, q, h => by
    obtain ⟨h1, h2⟩ := h
    subst h1 h2
    exact ⟨[], ⟨rfl, rfl⟩, List.Sublist.refl _⟩
  | (k', x) :: xs, vs, q, ⟨u, r, q1, q2, h, h1, h2, hq⟩ => by
    subst h hq
    obtain ⟨q', h3, h4⟩ := ownT_map hr h2
    by_cases z : k' = k
    · refine ⟨q', ?_, h4.trans (List.sublist_append_right _ _)⟩
      rw [List.map_cons, List.map_cons, if_pos z, if_pos z]
      exact ⟨v, _, [], q', rfl, ⟨hr, rfl⟩, h3, rfl⟩
    · refine ⟨q1 ++ q', ?_, (List.Sublist.refl q1).append h4⟩
      rw [List.map_cons, List.map_cons, if_neg z, if_neg z]
      exact ⟨u, _, q1, q', rfl, h1, h3, rfl⟩
theorem ownT_app : ∀ {xs ys : List (List Key × SV)} {vs ws : List (List Key × V)} {q r : List Addr}, OwnT K F H xs vs q → OwnT K F H ys ws r → OwnT K F H (xs ++ ys) (vs ++ ws) (q ++ r)
  | [], ys, vs, ws, q, r, h, h2 => by
    obtain ⟨h, h'⟩ := h
    subst h h'
    exact h2
  | (k, x) :: xs, ys, vs, ws, q, r, ⟨v, s, q1, q2, hv, h1, h3, hq⟩, h2 => by
    subst hv hq
    exact ⟨v, s ++ ws, q1, q2 ++ r, rfl, h1, ownT_app h3 h2, by rw [List.append_assoc]⟩
theorem ownT_one {k : List Key} {x : SV} {v : V} {q : List Addr} (h : Own K F H x v q) : OwnT K F H [(k, x)] [(k, v)] q := ⟨v, [], q, [], rfl, h, ⟨rfl, rfl⟩, by simp⟩
theorem ownT_put {k : List Key} {x : SV} {v : V} {q q2 : List Addr} {xs : List (List Key × SV)} {vs : List (List Key × V)} (h : OwnT K F H xs vs q) (hx : Own K F H x v q2) (nd : (q ++ q2).Nodup) (hz : (∃ d, x = .fz d) ∨ (xs.any fun kv => decide (kv.1 = k)) = false) :
    ∃ q', OwnT K F H (putG xs k x) (putK vs k v) q' ∧ q'.Nodup ∧ ∀ a ∈ q', a ∈ q ++ q2 := by
  unfold putG putK
  rw [ownT_any k h]
  by_cases z : (xs.any fun kv => decide (kv.1 = k)) = true
  · rw [if_pos z, if_pos z]
    rcases hz with ⟨d, rfl⟩ | hz
    · obtain ⟨q', h1, h2⟩ := ownT_map (k := k) hx.1 h
      exact ⟨q', h1, h2.nodup (nodup_app nd).1, fun a ha => List.mem_append_left _ (h2.subset ha)⟩
    · rw [hz] at z; cases z
  · rw [if_neg z, if_neg z]
    exact ⟨q ++ q2, ownT_app h (ownT_one hx), nd, fun a ha => ha⟩
end
/-! ## methods that change their object -/
section
variable {K : Kf} {mg : Str → Option Value} {E : XS} {pa pb pc pu po : Bool} {ta to : TE} {ga go : M → Out EV}
def kMut (f : SV → List SV → Option (SV × D)) (m : M) (x : EV) (ss : List SV) : Out EV := match x with
  | .br o p => match get m o with
    | some r => match sub r p with
      | some s => match f s ss with
        | some (s', d) => .ok (.v d) (setO m o (put r p s'))
        | none => .bad
      | none => .bad
    | none => .bad
  | _ => .bad
def MutOk (K : Kf) (r : V → List V → Hp → VK → Prop) (f : SV → List SV → Option (SV × D)) : Prop :=
  ∀ F H v s g ss ys q s' d (Q : VK), Same F H → Own K F H s v g → (g ++ q).Nodup → (∀ a ∈ g ++ q, F a = none) → OwnL K F H ss ys q → f s ss = some (s', d) →
    (∀ y H' g', Own K F H' s' v g' → g'.Nodup → (∀ a x, H a = some x → a ∉ g → H' a = some x) → (∀ a ∈ g', a ∈ g ++ q) → Rep K F d y → Q y H') → r v ys H Q
theorem k_mut {r : V → List V → Hp → VK → Prop} {f : SV → List SV → Option (SV × D)} (hf : MutOk K r f) {F0 G : Hp} {π : List V} {m m0 : M} {σ : L2.St} {F F1 H : Hp} {fp fp1 : Ow → List Addr} {Q : VK} {x : EV} {v : V} {ss : List SV} {ys : List V} {q : List Addr} {N : Addr → Prop}
    (S : StF K F0 G π m σ F H fp) (hx : EvF K G π σ F H fp N v x) (ho : OwnL K F H ss ys q) (nd : q.Nodup) (fr : ∀ a ∈ q, F a = none ∧ G a = none ∧ ∀ o, a ∉ fp o) (s1 : Same F1 F) {H1 : Hp} (p : PostE K mg E false F0 G π m0 σ F1 H1 fp1 Q (kMut f m x ss)) : r v ys H Q := by
  unfold kMut at p
  cases x with
  | v d => exact p.elim
  | fr s => exact p.elim
  | br o pt =>
    cases eg : get m o with
    | none => simp only [eg] at p; exact p.elim
    | some rr =>
      cases es : sub rr pt with
      | none => simp only [eg, es] at p; exact p.elim
      | some s =>
        cases ef : f s ss with
        | none => simp only [eg, es, ef] at p; exact p.elim
        | some z =>
          obtain ⟨s', d⟩ := z
          simp only [eg, es, ef] at p
          obtain ⟨w, hw, hp⟩ := hx
          obtain ⟨g, og, ng, mg', re⟩ := S.mutate eg es hw hp
          refine hf F H v s g ss ys q s' d Q S.sub og (nodup_mk ng nd fun a ha hb => (fr a hb).2.2 o (mg' a ha)) (fun a ha => ?_) ho ef fun y H' g' o' n' k' h' ry => ?_
          · rcases List.mem_append.mp ha with z | z
            · exact (S.fr o a (mg' a z)).1
            · exact (fr a z).1
          · obtain ⟨fp', S'⟩ := re H' s' g' o' n' k' fun a ha => by
              rcases List.mem_append.mp (h' a ha) with z | z
              · exact .inl z
              · exact .inr ⟨(fr a z).2.1, (fr a z).1, (fr a z).2.2⟩
            exact p y F H' fp' S' ⟨s1, fun z => by cases z⟩ ry
/-- the type of what a way leads to -/
def tyS (s : SV) (T : String) : Bool := match s with
  | .ol _ => T == "list"
  | .ok _ => T == "dict"
  | .ot _ => T == "dict"
  | _ => false
theorem tyS_ok {KX : Kf} {F H : Hp} {s : SV} {v : V} {T : String} (h : Cont K F H s v) (e : tyS s T = true) : tyV KX T v H := by
  cases s with
  | fz d => cases e
  | ol xs =>
    obtain ⟨q, a, vs, r, rfl, ha, _⟩ := h
    exact .inl ⟨eq_of_beq e, vs, SqL.of ha⟩
  | ok xs =>
    obtain ⟨q, a, vs, r, rfl, ha, _⟩ := h
    exact .inr (.inr (.inl ⟨eq_of_beq e, .inl ⟨vs, ha⟩⟩))
  | ot xs =>
    obtain ⟨q, a, vs, r, rfl, ha, _⟩ := h
    exact .inr (.inr (.inl ⟨eq_of_beq e, .inr ⟨vs, ha⟩⟩))
def isTy (m : M) (x : EV) (T : String) : Bool := match view m x with
  | some s => tyS s T
  | none => false
theorem carryE {G : Hp} {π : List V} {m m' : M} {σ : L2.St} {F H F' H' : Hp} {fp fp' : Ow → List Addr} {N N' : Addr → Prop} {v : V} {ev : EV} (h : EvF K G π σ F H fp N v ev) (n : nofr ev = true) (c : Ch pb m m' F H F' H' fp fp') (s : stable pb ev = true) : EvF K G π σ F' H' fp' N' v ev := h.carry n c s
/-- o.m(a, ..), the arguments frozen -/
def dMt (T : String) (pb : Bool) (go : M → Out EV) (gs : M → Out (List EV)) (f : SV → List SV → Option (SV × D)) (m : M) : Out EV :=
  (go m).bind fun x m1 => if (isTy m1 x T && (nofr x && stable pb x)) = true then (gs m1).bind fun es m2 => (evD m2 es).bind fun ds m3 => kMut f m3 x (ds.map .fz) else .bad
theorem te_mt {KX : Kf} {T : String} {r : V → List V → Hp → VK → Prop} {f : SV → List SV → Option (SV × D)} {ts : TA} {gs : M → Out (List EV)} (hf : MutOk K r f) (h1 : TEok K mg E po to go) (h2 : TAok K mg E pb ts gs) : TEok K mg E false (tBM KX T r to ts) (dMt T pb go gs f) := fun F0 G π m σ F H fp Q S p => by
  refine h1 F0 G π m σ F H fp _ S ?_
  unfold dMt at p
  cases e : go m with
  | bad => rw [e] at p; exact p
  | exc c d m' => rw [e] at p; exact p
  | ok x m1 =>
    rw [e] at p
    intro v F1 H1 fp1 S1 c1 e1
    have p : PostE K mg E false F0 G π m σ F H fp Q (if (isTy m1 x T && (nofr x && stable pb x)) = true then (gs m1).bind fun es m2 => (evD m2 es).bind fun ds m3 => kMut f m3 x (ds.map .fz) else .bad) := p
    by_cases hc : (isTy m1 x T && (nofr x && stable pb x)) = true
    · rw [if_pos hc] at p
      rw [Bool.and_eq_true, Bool.and_eq_true] at hc
      obtain ⟨c2, c3, c4⟩ := hc
      refine ⟨?_, h2 F0 G π m1 σ F1 H1 fp1 _ S1 ?_⟩
      · unfold isTy at c2
        cases ev : view m1 x with
        | none => rw [ev] at c2; cases c2
        | some s => rw [ev] at c2; exact tyS_ok (S1.view e1 ev) c2
      · cases e2 : gs m1 with
        | bad => rw [e2] at p; exact p
        | exc c d m' => rw [e2] at p; exact p
        | ok es m2 =>
          rw [e2] at p
          intro vs F2 H2 fp2 S2 cc e3
          have p : PostE K mg E false F0 G π m σ F H fp Q ((evD m2 es).bind fun ds m3 => kMut f m3 x (ds.map .fz)) := p
          cases e4 : evD m2 es with
          | bad => rw [e4] at p; exact p.elim
          | exc c d m' => exact (evD_exc es m2 m' e4).elim
          | ok ds m3 =>
            rw [e4] at p
            obtain ⟨F3, fp3, S3, r3, s3⟩ := evD_ok es vs m2 m3 F2 fp2 ds S2 e3 e4
            have hx : EvF K G π σ F3 H2 fp3 (fun _ => False) v x := by
              have z := e1.carry (N' := fun _ => False) c3 cc c4
              cases x with
              | v d => exact Rep.mono s3 d v z
              | fr s => cases c3
              | br o q => exact z
            exact k_mut hf S3 hx (ownL_fz r3) List.nodup_nil (fun a h => by cases h) (c1.ext.trans (cc.ext.trans s3)) p
    · rw [if_neg hc] at p; exact p.elim
/-- o.m(a), a as it is -/
def dMt1 (T : String) (pb : Bool) (go ga : M → Out EV) (f : SV → List SV → Option (SV × D)) (m : M) : Out EV :=
  (go m).bind fun x m1 => if (isTy m1 x T && (nofr x && stable pb x)) = true then (ga m1).bind fun ev m2 => (ownE m2 ev).bind fun s m3 => kMut f m3 x [s] else .bad
theorem te_mt1 {KX : Kf} {T : String} {r : V → List V → Hp → VK → Prop} {f : SV → List SV → Option (SV × D)} (hf : MutOk K r f) (h1 : TEok K mg E po to go) (h2 : TEok K mg E pb ta ga) : TEok K mg E false (tBM KX T r to (tCons ta tNil)) (dMt1 T pb go ga f) := fun F0 G π m σ F H fp Q S p => by
  refine h1 F0 G π m σ F H fp _ S ?_
  unfold dMt1 at p
  cases e : go m with
  | bad => rw [e] at p; exact p
  | exc c d m' => rw [e] at p; exact p
  | ok x m1 =>
    rw [e] at p
    intro v F1 H1 fp1 S1 c1 e1
    have p : PostE K mg E false F0 G π m σ F H fp Q (if (isTy m1 x T && (nofr x && stable pb x)) = true then (ga m1).bind fun ev m2 => (ownE m2 ev).bind fun s m3 => kMut f m3 x [s] else .bad) := p
    by_cases hc : (isTy m1 x T && (nofr x && stable pb x)) = true
    · rw [if_pos hc] at p
      rw [Bool.and_eq_true, Bool.and_eq_true] at hc
      obtain ⟨c2, c3, c4⟩ := hc
      refine ⟨?_, h2 F0 G π m1 σ F1 H1 fp1 _ S1 ?_⟩
      · unfold isTy at c2
        cases ev : view m1 x with
        | none => rw [ev] at c2; cases c2
        | some s => rw [ev] at c2; exact tyS_ok (S1.view e1 ev) c2
      · cases e2 : ga m1 with
        | bad => rw [e2] at p; exact p
        | exc c d m' => rw [e2] at p; exact p
        | ok ev m2 =>
          rw [e2] at p
          intro y F2 H2 fp2 S2 cc e3
          have p : PostE K mg E false F0 G π m σ F H fp Q ((ownE m2 ev).bind fun s m3 => kMut f m3 x [s]) := p
          cases e4 : ownE m2 ev with
          | bad => rw [e4] at p; exact p.elim
          | exc c d m' => exact (ownE_exc e4).elim
          | ok s m3 =>
            rw [e4] at p
            obtain ⟨F3, fp3, q3, S3, o3, n3, f3, s3⟩ := ownE_ok S2 e3 e4
            have hx : EvF K G π σ F3 H2 fp3 (fun _ => False) v x := by
              have z := e1.carry (N' := fun _ => False) c3 cc c4
              cases x with
              | v d => exact Rep.mono s3 d v z
              | fr s => cases c3
              | br o q => exact z
            exact k_mut hf S3 hx (ownL_one o3) n3 f3 (c1.ext.trans (cc.ext.trans s3)) p
    · rw [if_neg hc] at p; exact p.elim
/-! ### append, pop -/
theorem upd_keep {H : Hp} {a : Addr} {o : HO} {g : List Addr} (h : a ∈ g) : ∀ b x, H b = some x → b ∉ g → upd H a o b = some x := fun b x e n => by
  rw [upd_ne fun z => n (by rw [z]; exact h)]; exact e
def fAppend (s : SV) (ss : List SV) : Option (SV × D) := match s, ss with
  | .ol xs, [x] => if xs.length < bigLen then some (.ol (xs ++ [x]), .non) else none
  | _, _ => none
theorem ok_append : MutOk K rAppend fAppend := fun F H v s g ss ys q s' d Q e hs nd fr ho z k => by
  unfold fAppend at z
  split at z
  · rename_i xs x
    split at z
    · rename_i hl
      cases z
      obtain ⟨a, vs, r, rfl, ha, hr, rfl⟩ := hs
      obtain ⟨y, t, q1, q2, rfl, h1, ⟨rfl, rfl⟩, rfl⟩ := ho
      rw [List.append_nil] at *
      have na : a ∉ r ++ q1 := by
        have := nd
        rw [List.cons_append, List.nodup_cons] at this
        exact this.1
      have hk : ∀ b ∈ r ++ q1, upd H a (.lst (vs ++ [y])) b = H b := fun b hb => upd_ne fun z => na (by rw [← z]; exact hb)
      refine ⟨a, vs, y, rfl, rfl, ha, by rw [ownL_len hr]; exact Nat.lt_of_lt_of_le hl (big_le (Nat.le_refl _)), k .non _ (a :: (r ++ q1)) ⟨a, vs ++ [y], r ++ q1, rfl, upd_same, ?_, rfl⟩ nd (upd_keep List.mem_cons_self) (fun b hb => hb) rfl⟩
      exact (ownL_cat hr (ownL_one h1)).keep (Same.refl F) _ _ _ hk
    · cases z
  · cases z
def fPopAt (s : SV) (ss : List SV) : Option (SV × D) := match s, ss with
  | .ol xs, [.fz (.int i)] => if -(2 ^ 62) ≤ i ∧ i < 2 ^ 62 then (match seqIndex? i xs.length with
    | some k => match xs[k]? with
      | some (.fz d) => some (.ol (xs.eraseIdx k), d)
      | _ => none
    | none => none) else none
  | _, _ => none
theorem ok_popAt : MutOk K rPopAt fPopAt := fun F H v s g ss ys q s' d Q e hs nd fr ho z k => by
  unfold fPopAt at z
  split at z
  · rename_i xs i
    split at z
    · rename_i hi
      split at z
      · rename_i j ej
        split at z
        · rename_i d' ed
          cases z
          obtain ⟨a, vs, r, rfl, ha, hr, rfl⟩ := hs
          obtain ⟨y, t, q1, q2, rfl, ⟨h1, rfl⟩, ⟨rfl, rfl⟩, rfl⟩ := ho
          have h1 : y = .int i := h1
          subst h1
          simp only [List.append_nil] at *
          obtain ⟨u, eu, ru, hr'⟩ := ownL_erase hr ed
          have na : a ∉ r := (List.nodup_cons.mp nd).1
          refine ⟨a, vs, i, j, u, rfl, rfl, ha, by omega, by omega, by rw [ownL_len hr]; exact ej, eu, k u _ (a :: r) ⟨a, vs.eraseIdx j, r, rfl, upd_same, ?_, rfl⟩ nd (upd_keep List.mem_cons_self) (fun b hb => hb) ru⟩
          exact hr'.keep (Same.refl F) _ _ _ fun b hb => upd_ne fun z => na (by rw [← z]; exact hb)
        · cases z
      · cases z
    · cases z
  · cases z
def fPop (s : SV) (ss : List SV) : Option (SV × D) := match s, ss with
  | .ol xs, [] => match xs[xs.length - 1]? with
    | some (.fz d) => some (.ol (xs.eraseIdx (xs.length - 1)), d)
    | _ => none
  | _, _ => none
theorem ok_pop : MutOk K rPop fPop := fun F H v s g ss ys q s' d Q e hs nd fr ho z k => by
  unfold fPop at z
  split at z
  · rename_i xs
    split at z
    · rename_i d' ed
      cases z
      obtain ⟨a, vs, r, rfl, ha, hr, rfl⟩ := hs
      obtain ⟨rfl, rfl⟩ := ho
      simp only [List.append_nil] at *
      obtain ⟨u, eu, ru, hr'⟩ := ownL_erase hr ed
      have na : a ∉ r := (List.nodup_cons.mp nd).1
      have hl : vs.length - 1 + 1 = vs.length := by
        have : 0 < xs.length := by
          rcases Nat.eq_zero_or_pos xs.length with z | z
          · have : xs = [] := List.length_eq_zero_iff.mp z
            subst this
            simp at ed
          · exact z
        rw [ownL_len hr]; omega
      refine ⟨a, vs, u, rfl, rfl, ha, by rw [ownL_len hr]; exact eu, k u _ (a :: r) ⟨a, vs.dropLast, r, rfl, upd_same, ?_, rfl⟩ nd (upd_keep List.mem_cons_self) (fun b hb => hb) ru⟩
      rw [← List.eraseIdx_eq_dropLast hl, ownL_len hr]
      exact hr'.keep (Same.refl F) _ _ _ fun b hb => upd_ne fun z => na (by rw [← z]; exact hb)
    · cases z
  · cases z
/-! ### stores -/
def keyEq (k : Key ⊕ List Key) : Pth := match k with
  | .inl k => .k k
  | .inr k => .t k
def isFz : SV → Bool
  | .fz _ => true
  | _ => false
def fSet (s : SV) (ss : List SV) : Option (SV × D) := match s, ss with
  | .ol xs, [.fz (.int i), x] => (ixN xs.length i).map fun j => (.ol (xs.set j x), .non)
  | .ok kvs, [k, x] => match keyOf k with
    | some (.inl k) => if kvs.length < bigLen ∧ (isFz x = true ∨ (kvs.any fun kv => decide (kv.1 = k)) = false) then some (.ok (putG kvs k x), .non) else none
    | _ => none
  | .ot kvs, [k, x] => match keyOf k with
    | some (.inr k) => if kvs.length < bigLen ∧ (isFz x = true ∨ (kvs.any fun kv => decide (kv.1 = k)) = false) then some (.ot (putG kvs k x), .non) else none
    | _ => none
  | _, _ => none
def rSetAny : V → List V → Hp → VK → Prop := fun o ys H Q => ∃ i v, ys = [i, v] ∧ (rSetL o i v H (fun H' => Q .non H') ∨ rSetD o i v H (fun H' => Q .non H'))
theorem fzOr {x : SV} {b : Bool} (h : isFz x = true ∨ b = false) : (∃ d, x = .fz d) ∨ b = false := by
  rcases h with h | h
  · cases x with
    | fz d => exact .inl ⟨d, rfl⟩
    | _ => cases h
  · exact .inr h
theorem ok_set : MutOk K rSetAny fSet := fun F H v s g ss ys q s' d Q e hs nd fr ho z k => by
  unfold fSet at z
  split at z
  · rename_i xs i x
    rw [Option.map_eq_some_iff] at z
    obtain ⟨j, ej, z⟩ := z
    cases z
    obtain ⟨a, vs, r, rfl, ha, hr, rfl⟩ := hs
    obtain ⟨y, t, q1, q2, rfl, ⟨h1, rfl⟩, ⟨u, t2, q3, q4, rfl, h2, ⟨rfl, rfl⟩, rfl⟩, rfl⟩ := ho
    have h1 : y = .int i := h1
    subst h1
    simp only [List.append_nil, List.nil_append] at *
    have na : a ∉ r ++ q3 := by
      have := nd
      rw [List.cons_append, List.nodup_cons] at this
      exact this.1
    have nd2 : (r ++ q3).Nodup := by
      have := nd
      rw [List.cons_append, List.nodup_cons] at this
      exact this.2
    have hj : j < xs.length := (ixN_seq ej).2.1
    have hk : ∀ b ∈ r ++ q3, upd H a (.lst (vs.set j u)) b = H b := fun b hb => upd_ne fun z => na (by rw [← z]; exact hb)
    obtain ⟨q', o', n', m'⟩ := ownL_setx hr h2 nd2 j hj
    refine ⟨.int i, u, rfl, .inl ⟨a, vs, i, j, rfl, rfl, ha, by rw [ownL_len hr]; exact ej, k .non _ (a :: q') ⟨a, _, q', rfl, upd_same, o'.keep (Same.refl F) _ _ _ (fun b hb => hk b (m' b hb)), rfl⟩ (List.nodup_cons.mpr ⟨fun z => na (m' a z), n'⟩) (upd_keep List.mem_cons_self) (fun b hb => ?_) rfl⟩⟩
    rcases List.mem_cons.mp hb with rfl | hb
    · exact List.mem_cons_self
    · exact List.mem_cons_of_mem _ (m' b hb)
  · rename_i kvs kk x
    split at z
    · rename_i key ek
      split at z
      · rename_i hl
        cases z
        obtain ⟨a, vs, r, rfl, ha, hr, rfl⟩ := hs
        obtain ⟨y, t, q1, q2, rfl, h1, ⟨u, t2, q3, q4, rfl, h2, ⟨rfl, rfl⟩, rfl⟩, rfl⟩ := ho
        have hq1 : q1 = [] := by
          cases kk with
          | fz d => exact h1.2
          | _ => cases ek
        subst hq1
        rcases key_cases e ⟨[], h1⟩ ek with ⟨j, hj, rfl⟩ | ⟨j, b, hj, rfl, hb⟩
        · cases hj
          simp only [List.append_nil, List.nil_append] at *
          have na : a ∉ r ++ q3 := by
            have := nd
            rw [List.cons_append, List.nodup_cons] at this
            exact this.1
          have nd2 : (r ++ q3).Nodup := by
            have := nd
            rw [List.cons_append, List.nodup_cons] at this
            exact this.2
          obtain ⟨q', o', n', m'⟩ := ownK_put (k := key) hr h2 nd2 (fzOr hl.2)
          have hk : ∀ b ∈ r ++ q3, upd H a (.dK (putK vs key u)) b = H b := fun b hb => upd_ne fun z => na (by rw [← z]; exact hb)
          refine ⟨kV key, u, rfl, .inr ⟨a, _, rfl, .inl ⟨vs, key, ha, rfl, by rw [ownK_len hr]; exact Nat.lt_of_lt_of_le hl.1 (big_le (Nat.le_refl _)), rfl⟩, k .non _ (a :: q') ⟨a, _, q', rfl, upd_same, o'.keep (Same.refl F) _ _ _ (fun b hb => hk b (m' b hb)), rfl⟩ (List.nodup_cons.mpr ⟨fun z => na (m' a z), n'⟩) (upd_keep List.mem_cons_self) (fun b hb => ?_) rfl⟩⟩
          rcases List.mem_cons.mp hb with rfl | hb
          · exact List.mem_cons_self
          · exact List.mem_cons_of_mem _ (m' b hb)
        · cases hj
      · cases z
    · cases z
  · rename_i kvs kk x
    split at z
    · rename_i key ek
      split at z
      · rename_i hl
        cases z
        obtain ⟨a, vs, r, rfl, ha, hr, rfl⟩ := hs
        obtain ⟨y, t, q1, q2, rfl, h1, ⟨u, t2, q3, q4, rfl, h2, ⟨rfl, rfl⟩, rfl⟩, rfl⟩ := ho
        have hq1 : q1 = [] := by
          cases kk with
          | fz d => exact h1.2
          | _ => cases ek
        subst hq1
        rcases key_cases e ⟨[], h1⟩ ek with ⟨j, hj, rfl⟩ | ⟨j, b, hj, rfl, hb⟩
        · cases hj
        · cases hj
          simp only [List.append_nil, List.nil_append] at *
          have na : a ∉ r ++ q3 := by
            have := nd
            rw [List.cons_append, List.nodup_cons] at this
            exact this.1
          have nd2 : (r ++ q3).Nodup := by
            have := nd
            rw [List.cons_append, List.nodup_cons] at this
            exact this.2
          obtain ⟨q', o', n', m'⟩ := ownT_put (k := key) hr h2 nd2 (fzOr hl.2)
          have hk : ∀ b ∈ r ++ q3, upd H a (.dT (putK vs key u)) b = H b := fun b hb => upd_ne fun z => na (by rw [← z]; exact hb)
          refine ⟨.ref b, u, rfl, .inr ⟨a, _, rfl, .inr ⟨vs, key, b, ha, rfl, hb, by rw [ownT_len hr]; exact Nat.lt_of_lt_of_le hl.1 (big_le (Nat.le_refl _)), rfl⟩, k .non _ (a :: q') ⟨a, _, q', rfl, upd_same, o'.keep (Same.refl F) _ _ _ (fun b hb => hk b (m' b hb)), rfl⟩ (List.nodup_cons.mpr ⟨fun z => na (m' a z), n'⟩) (upd_keep List.mem_cons_self) (fun b hb => ?_) rfl⟩⟩
          rcases List.mem_cons.mp hb with rfl | hb
          · exact List.mem_cons_self
          · exact List.mem_cons_of_mem _ (m' b hb)
      · cases z
    · cases z
  · cases z
/-- o[i] as a target; o and i change nothing -/
def bSub (go gi : M → Out EV) (ev : EV) (m : M) : Out Unit := (ownE m ev).bind fun s m1 => (opd go m1).bind fun x _ => (opd gi m1).bind fun y _ => match view m1 y with
  | some k => (kMut fSet m1 x [k, s]).bind fun _ m2 => .ok () m2
  | none => .bad
end
end PD
namespace PD
open PySem PySem.Spec PyProof.Rows L2
variable {K : Kf}
theorem PSet.or {X : Cx} {t t' : TSet} (h : PSet X t) (h' : PSet X t') : PSet X (fun o i v H Q => t o i v H Q ∨ t' o i v H Q) := fun pins s σ H o i v ov iv u Q I r1 r2 r3 q => q.elim (h pins s σ H o i v ov iv u Q I r1 r2 r3) (h' pins s σ H o i v ov iv u Q I r1 r2 r3)
/-! ## o[i] as a target -/
def bSubA (go gi : M → Out EV) (ev : EV) (m : M) : Out Unit := (ownE m ev).bind fun s m1 => (opd go m1).bind fun x _ => (opd gi m1).bind fun y _ => match view m1 y with
  | some (.fz k) => (kMut fSet m1 x [.fz k, s]).bind fun _ m2 => .ok () m2
  | _ => .bad
section
variable {mg : Str → Option Value} {E : XS} {pa pb pc pu po : Bool} {ti to : TE} {gi go : M → Out EV}
theorem tg_sub (h1 : TEok K mg E true to go) (h2 : TEok K mg E true ti gi) : TGok K (gSub to ti fun o i v H Q => rSetL o i v H Q ∨ rSetD o i v H Q) (bSubA go gi) := fun F0 G π m σ F H fp Q v ev S he p => by
  unfold bSubA at p
  cases e0 : ownE m ev with
  | bad => rw [e0] at p; exact p.elim
  | exc c d m' => rw [e0] at p; exact p.elim
  | ok s m1 =>
    rw [e0] at p
    obtain ⟨F1, fp1, q1, S1, o1, n1, f1, s1⟩ := ownE_ok S he e0
    have p : PostG K F0 G π Q ((opd go m1).bind fun x _ => (opd gi m1).bind fun y _ => match view m1 y with
      | some (.fz k) => (kMut fSet m1 x [.fz k, s]).bind fun _ m2 => .ok () m2
      | _ => .bad) := p
    refine h1.opd F0 G π m1 σ F1 H fp1 _ S1 ?_
    cases e1 : opd go m1 with
    | bad => rw [e1] at p; exact p.elim
    | exc c d m' => rw [e1] at p; exact p.elim
    | ok ex m2 =>
      rw [e1] at p
      intro x F2 H2 fp2 S2 c2 ex2
      obtain ⟨em, efp, sH, nw⟩ := c2.pure rfl
      subst em efp
      have p : PostG K F0 G π Q ((opd gi m2).bind fun y _ => match view m2 y with
        | some (.fz k) => (kMut fSet m2 ex [.fz k, s]).bind fun _ m3 => .ok () m3
        | _ => .bad) := p
      refine h2.opd F0 G π m2 σ F2 H2 fp2 _ S2 ?_
      cases e2 : opd gi m2 with
      | bad => rw [e2] at p; exact p.elim
      | exc c d m' => rw [e2] at p; exact p.elim
      | ok ey m3 =>
        rw [e2] at p
        intro y F3 H3 fp3 S3 c3 ey3
        obtain ⟨em, efp, sH3, nw3⟩ := c3.pure rfl
        subst em efp
        have p : PostG K F0 G π Q (match view m3 ey with
          | some (.fz k) => (kMut fSet m3 ex [.fz k, s]).bind fun _ m4 => .ok () m4
          | _ => .bad) := p
        cases e3 : view m3 ey with
        | none => simp only [e3] at p; exact p.elim
        | some k0 =>
          cases k0 with
          | ol _ => simp only [e3] at p; exact p.elim
          | ok _ => simp only [e3] at p; exact p.elim
          | ot _ => simp only [e3] at p; exact p.elim
          | fz k =>
            simp only [e3] at p
            have hk : Rep K F3 k y := cont_fz (S3.view ey3 e3)
            have th : ∀ a ∈ q1, H a ≠ none := fun a ha => o1.there _ _ _ a ha
            have nF : ∀ a ∈ q1, F3 a = none := fun a ha => by
              cases e : F3 a with
              | none => rfl
              | some z =>
                rcases nw3 a (by rw [e]; exact Option.some_ne_none _) with h | h
                · rcases nw a h with h | h
                  · exact absurd (f1 a ha).1 h
                  · exact absurd h (th a ha)
                · exact absurd (same_none sH h) (th a ha)
            have o3 : Own K F3 H3 s v q1 := o1.keep (c2.ext.trans c3.ext) _ _ _ fun a ha => by rw [same_of sH3 (same_ne sH (th a ha)), same_of sH (th a ha)]
            have hx : EvF K G π σ F3 H3 fp3 (fun _ => False) x ex := ex2.carry (opd_nofr e1) c3 (by cases ex with | br o q => cases q <;> rfl | _ => rfl)
            have ho : OwnL K F3 H3 [.fz k, s] [y, v] q1 := ⟨y, [v], [], q1, rfl, ⟨hk, rfl⟩, ownL_one o3, rfl⟩
            have fr : ∀ a ∈ q1, F3 a = none ∧ G a = none ∧ ∀ o, a ∉ fp3 o := fun a ha => ⟨nF a ha, (f1 a ha).2.1, (f1 a ha).2.2⟩
            have pp : PostE K mg E false F0 G π m3 σ F3 H3 fp3 (fun _ H' => Q σ H') (kMut fSet m3 ex [.fz k, s]) := by
              cases e4 : kMut fSet m3 ex [.fz k, s] with
              | bad => rw [e4] at p; exact p.elim
              | exc c d m' => rw [e4] at p; exact p.elim
              | ok r m4 =>
                rw [e4] at p
                exact fun v F' H' fp' S' _ _ => p σ F' H' fp' S'
            have z : rSetAny x [y, v] H3 (fun _ H' => Q σ H') := k_mut ok_set S3 hx ho n1 fr (Same.refl _) pp
            obtain ⟨i', v', e, z⟩ := z
            cases e
            exact z
end
section
variable {X : Cx} {P : Program} {w : World} {KX : Kf} {mg : Str → Option Value} {base : Heap} {n : Nat} {E : XS} {pa pb pc pu pl ph : Bool} {ta tb tc te : TE} {ga gb gc ge : M → Out EV} {a b c e o i : Expr} {es : List Expr} {pos p p2 : Pos} {x : Str}
theorem dg_sub (C : Cxt X P w KX K mg base n E) (h1 : DE X K mg E o true ta ga) (h2 : DE X K mg E i true tb gb) (ha : ∀ v, assign (.Subscript o i pos) X.env v = (do
      let ov ← holding [v] (eval o X.env)
      let iv ← holding [v, ov] (eval i X.env)
      standAt pos
      holding [v, ov, iv] (setItem ov iv v)
      release [v, ov, iv] []) := by intro _; rfl) : DG X K (.Subscript o i pos) (gSub ta tb fun o i v H Q => rSetL o i v H Q ∨ rSetD o i v H Q) (bSubA ga gb) :=
  ⟨pg_sub h1.pe h2.pe (PSet.or set_list (set_dict C.hu1)) ha, tg_sub h1.ok h2.ok⟩
/-! ## builtins -/
theorem de_b (C : Cxt X P w KX K mg base n E) {id : String} {r : List V → Hp → VK → Prop} {op : List SV → Option EV} {t : TA} {gs : M → Out (List EV)} (hc : CallR X (.builtin id) r) (hk : OpOkN K r op) (hm : mg x = none) (hv : bootBuiltins x = some (.builtin id)) (ha : DA X K mg E (e :: es) pb t gs) (hg : Gl X x := by rfl) (hn : x ≠ "__name__" := by decide) (hdb : (x == ("__debug__" : Str)) = false := by decide)
    (he : starEach (e :: es) X.env = (false, eval e X.env) :: starEach es X.env := by rfl) (hpl : (backTo pos (starEach es X.env)).any (·.1) = false := by rfl) : DE X K mg E (.Call (.Name x p) (e :: es) [] pos) (pb && true) (tCB r t) (dApp gs (kVN op)) := by
  obtain ⟨rfl, rfl, rfl, up, rfl, rfl, _, _, _, _, _⟩ := C
  exact ⟨pe_callB hc hg hm hv ha.pe hn hdb he hpl, te_app ha.ok (k_vn hk)⟩
theorem de_bt (C : Cxt X P w KX K mg base n E) {T : String} {r : List V → Hp → VK → Prop} {op : List SV → Option EV} {t : TA} {gs : M → Out (List EV)} (hc : CallR X (.type T) r) (hk : OpOkN K r op) (hm : mg x = none) (hv : bootBuiltins x = some (.type T)) (ha : DA X K mg E (e :: es) pb t gs) (hg : Gl X x := by rfl) (hn : x ≠ "__name__" := by decide) (hdb : (x == ("__debug__" : Str)) = false := by decide)
    (he : starEach (e :: es) X.env = (false, eval e X.env) :: starEach es X.env := by rfl) (hpl : (backTo pos (starEach es X.env)).any (·.1) = false := by rfl) : DE X K mg E (.Call (.Name x p) (e :: es) [] pos) (pb && true) (tCB r t) (dApp gs (kVN op)) := by
  obtain ⟨rfl, rfl, rfl, up, rfl, rfl, _, _, _, _, _⟩ := C
  exact ⟨pe_callTy hc hg hm hv ha.pe hn hdb he hpl, te_app ha.ok (k_vn hk)⟩
end
theorem conts1 {K : Kf} {F H : Hp} {a : SV} {xs : List V} (h : Conts K F H [a] xs) : ∃ v, xs = [v] ∧ Cont K F H a v := by
  cases h with | cons h1 h2 => cases h2; exact ⟨_, rfl, h1⟩
theorem conts2 {K : Kf} {F H : Hp} {a b : SV} {xs : List V} (h : Conts K F H [a, b] xs) : ∃ v u, xs = [v, u] ∧ Cont K F H a v ∧ Cont K F H b u := by
  cases h with | cons h1 h2 => cases h2 with | cons h2 h3 => cases h3; exact ⟨_, _, rfl, h1, h2⟩
/-! ### len -/
def lenS : SV → Option Nat
  | .ol xs => some xs.length
  | .ok xs => some xs.length
  | .ot xs => some xs.length
  | .fz (.lst xs) => some xs.length
  | .fz (.tup xs) => some xs.length
  | .fz (.dk xs) => some xs.length
  | .fz (.dt xs) => some xs.length
  | .fz (.str z) => if z.length ≤ bigLen then some z.length else none
  | _ => none
def pLen : List SV → Option EV
  | [a] => (lenS a).map fun (n : Nat) => .v (.int (n : Int))
  | _ => none
theorem repK_len {K : Kf} {F : Hp} : ∀ {xs : List (Key × D)} {vs : List (Key × V)}, RepK K F xs vs → vs.length = xs.length
  | [], vs, h => by have h : vs = [] := h; subst h; rfl
  | (k, d) :: xs, vs, ⟨v, r, h, _, h2⟩ => by subst h; simp [repK_len h2]
theorem repT_len {K : Kf} {F : Hp} : ∀ {xs : List (List Key × D)} {vs : List (List Key × V)}, RepT K F xs vs → vs.length = xs.length
  | [], vs, h => by have h : vs = [] := h; subst h; rfl
  | (k, d) :: xs, vs, ⟨v, r, h, _, h2⟩ => by subst h; simp [repT_len h2]
def rLenA (KX : Kf) : List V → Hp → VK → Prop := fun xs H Q => (∃ x n, xs = [x] ∧ LenV KX x H n ∧ Q (.int n) H) ∨ ((∃ a kvs, xs = [V.ref a] ∧ H a = some (.dK kvs) ∧ Q (.int kvs.length) H) ∨ rLenT xs H Q)
theorem call_lenA {X : Cx} : CallR X (.builtin "len") (rLenA X.K) := callR_or call_len (callR_or call_lenD call_len_dT)
theorem ok_len {KX : Kf} : OpOkN K (rLenA KX) pLen := fun F H xs as ev Q e hx z k => by
  unfold pLen at z
  split at z
  · rename_i a
    obtain ⟨v, rfl, hv⟩ := conts1 hx
    rw [Option.map_eq_some_iff] at z
    obtain ⟨n, z, rfl⟩ := z
    have k' := k (.int (n : Int)) F H (ResOk.val0 e rfl)
    cases a with
    | ol xs =>
      cases z
      obtain ⟨q, a, vs, r, rfl, ha, hr, _⟩ := hv
      exact .inl ⟨_, xs.length, rfl, .inl ⟨vs, SqL.of ha, (ownL_len hr).symm⟩, k'⟩
    | ok xs =>
      cases z
      obtain ⟨q, a, vs, r, rfl, ha, hr, _⟩ := hv
      exact .inr (.inl ⟨a, vs, rfl, ha, by rw [ownK_len hr]; exact k'⟩)
    | ot xs =>
      cases z
      obtain ⟨q, a, vs, r, rfl, ha, hr, _⟩ := hv
      exact .inr (.inr ⟨a, vs, rfl, ha, by rw [ownT_len hr]; exact k'⟩)
    | fz d =>
      cases d with
      | lst xs =>
        cases z
        obtain ⟨a, vs, rfl, ha, hr⟩ := cont_fz hv
        exact .inl ⟨_, xs.length, rfl, .inl ⟨vs, SqL.of (e _ _ ha.at), (repAll_len hr).symm⟩, k'⟩
      | tup xs =>
        cases z
        obtain ⟨a, vs, rfl, ha, hr⟩ := cont_fz hv
        exact .inl ⟨_, xs.length, rfl, .inr ⟨vs, SqT.of (e _ _ ha.at), (repAll_len hr).symm⟩, k'⟩
      | dk xs =>
        cases z
        obtain ⟨a, vs, rfl, ha, hr⟩ := cont_fz hv
        exact .inr (.inl ⟨a, vs, rfl, e _ _ ha, by rw [repK_len hr]; exact k'⟩)
      | dt xs =>
        cases z
        obtain ⟨a, vs, rfl, ha, hr⟩ := cont_fz hv
        exact .inr (.inr ⟨a, vs, rfl, e _ _ ha, by rw [repT_len hr]; exact k'⟩)
      | str t =>
        have hv : v = .str t := cont_fz hv
        subst hv
        have z : (if t.length ≤ bigLen then some t.length else none) = some n := z
        by_cases hl : t.length ≤ bigLen
        · rw [if_pos hl] at z
          cases z
          exact .inl ⟨_, t.length, rfl, ⟨big_le hl, rfl⟩, k'⟩
        · rw [if_neg hl] at z
          cases z
      | _ => cases z
  · cases z
/-! ### list, tuple -/
def seqS (s : SV) : Option (List D) := match tupD s with
  | some xs => some xs
  | none => lstD s
def pList : List SV → Option EV
  | [a] => (seqS a).map fun ds => .fr (.ol (ds.map .fz))
  | _ => none
abbrev rListOf (KX : Kf) : List V → Hp → VK → Prop := fun xs H Q => ∃ p ys, xs = [.ref p] ∧ (SqL KX H p ys ∨ SqT KX H p ys) ∧ ∀ l, H l = none → Q (.ref l) (upd H l (.lst ys))
theorem cont_seq {F H : Hp} (e : Same F H) {s : SV} {ds : List D} {v : V} (h : Cont K F H s v) (hd : seqS s = some ds) : ∃ a vs, v = .ref a ∧ ((H a = some (.lst vs) ∧ lstD s = some ds) ∨ (H a = some (.tup vs) ∧ tupD s = some ds)) ∧ RepAll K F ds vs := by
  unfold seqS at hd
  cases e1 : tupD s with
  | some xs =>
    simp only [e1] at hd
    cases hd
    obtain ⟨a, vs, h1, h2, h3⟩ := cont_tup e h e1
    exact ⟨a, vs, h1, .inr ⟨h2.at, rfl⟩, h3⟩
  | none =>
    simp only [e1] at hd
    obtain ⟨a, vs, h1, h2, h3⟩ := cont_lst e h hd
    exact ⟨a, vs, h1, .inl ⟨h2.at, hd⟩, h3⟩
theorem ok_list {KX : Kf} : OpOkN K (rListOf KX) pList := fun F H xs as ev Q e hx z k => by
  unfold pList at z
  split at z
  · rename_i a
    obtain ⟨v, rfl, hv⟩ := conts1 hx
    rw [Option.map_eq_some_iff] at z
    obtain ⟨ds, z, rfl⟩ := z
    obtain ⟨p, vs, rfl, h, r⟩ := cont_seq e hv z
    exact ⟨p, vs, rfl, h.imp (fun h => SqL.of h.1) (fun h => SqT.of h.1), fun l hl => k _ _ _ (ResOk.lst0 e hl (ownL_fz r))⟩
  · cases z
def pTuple : List SV → Option EV
  | [a] => (seqS a).map fun ds => .v (.tup ds)
  | _ => none
abbrev rTupleOf (KX : Kf) : List V → Hp → VK → Prop := fun xs H Q => ∃ p ys, xs = [.ref p] ∧ ((SqL KX H p ys ∧ ∀ l, H l = none → Q (.ref l) (upd H l (.tup ys))) ∨ (SqT KX H p ys ∧ Q (.ref p) H))
theorem ok_tuple {KX : Kf} : OpOkN K (rTupleOf KX) pTuple := fun F H xs as ev Q e hx z k => by
  unfold pTuple at z
  split at z
  · rename_i a
    obtain ⟨v, rfl, hv⟩ := conts1 hx
    rw [Option.map_eq_some_iff] at z
    obtain ⟨ds, z, rfl⟩ := z
    obtain ⟨p, vs, rfl, h, r⟩ := cont_seq e hv z
    refine ⟨p, vs, rfl, ?_⟩
    rcases h with ⟨h, _⟩ | ⟨h, h'⟩
    · exact .inl ⟨SqL.of h, fun l hl => k _ _ _ (ResOk.tup0 e hl r)⟩
    · refine .inr ⟨SqT.of h, k _ _ _ (ResOk.val0 e ?_)⟩
      cases a with
      | fz d => cases d <;> cases h'; exact cont_fz hv
      | _ => cases h'
  · cases z
/-! ### any, all, sum, max, min, abs, int -/
def boolsD : List D → Option (List Bool)
  | [] => some []
  | .bl b :: r => (boolsD r).map (b :: ·)
  | _ => none
def intsD : List D → Option (List Int)
  | [] => some []
  | .int b :: r => (intsD r).map (b :: ·)
  | _ => none
theorem boolsD_v {K : Kf} {F : Hp} : ∀ {ds : List D} {vs : List V} {bs : List Bool}, RepAll K F ds vs → boolsD ds = some bs → vs = bs.map V.bl
  | [], vs, bs, h, e => by cases e; exact h
  | d :: ds, vs, bs, ⟨v, r, hv, h1, h2⟩, e => by
    subst hv
    cases d <;> try cases e
    rename_i b
    rw [boolsD, Option.map_eq_some_iff] at e
    obtain ⟨r', e, rfl⟩ := e
    have h1 : v = .bl b := h1
    subst h1
    rw [boolsD_v h2 e]; rfl
theorem intsD_v {K : Kf} {F : Hp} : ∀ {ds : List D} {vs : List V} {bs : List Int}, RepAll K F ds vs → intsD ds = some bs → vs = bs.map V.int
  | [], vs, bs, h, e => by cases e; exact h
  | d :: ds, vs, bs, ⟨v, r, hv, h1, h2⟩, e => by
    subst hv
    cases d <;> try cases e
    rename_i b
    rw [intsD, Option.map_eq_some_iff] at e
    obtain ⟨r', e, rfl⟩ := e
    have h1 : v = .int b := h1
    subst h1
    rw [intsD_v h2 e]; rfl
def pAny : List SV → Option EV
  | [a] => ((lstD a).bind boolsD).map fun bs => .v (.bl (bs.any id))
  | _ => none
def pAll : List SV → Option EV
  | [a] => ((lstD a).bind boolsD).map fun bs => .v (.bl (bs.all id))
  | _ => none
def pSum : List SV → Option EV
  | [a] => ((lstD a).bind intsD).map fun bs => .v (.int bs.sum)
  | _ => none
theorem ok_any {KX : Kf} : OpOkN K (rAny KX) pAny := fun F H xs as ev Q e hx z k => by
  unfold pAny at z
  split at z
  · rename_i a
    obtain ⟨v, rfl, hv⟩ := conts1 hx
    rw [Option.map_eq_some_iff] at z
    obtain ⟨bs, z, rfl⟩ := z
    rw [Option.bind_eq_some_iff] at z
    obtain ⟨ds, z, z2⟩ := z
    obtain ⟨p, vs, rfl, h, r⟩ := cont_lst e hv z
    rw [boolsD_v r z2] at h
    exact ⟨p, bs, rfl, SqL.of h.at, k _ _ _ (ResOk.val0 e rfl)⟩
  · cases z
theorem ok_all {KX : Kf} : OpOkN K (rAll KX) pAll := fun F H xs as ev Q e hx z k => by
  unfold pAll at z
  split at z
  · rename_i a
    obtain ⟨v, rfl, hv⟩ := conts1 hx
    rw [Option.map_eq_some_iff] at z
    obtain ⟨bs, z, rfl⟩ := z
    rw [Option.bind_eq_some_iff] at z
    obtain ⟨ds, z, z2⟩ := z
    obtain ⟨p, vs, rfl, h, r⟩ := cont_lst e hv z
    rw [boolsD_v r z2] at h
    exact ⟨p, bs, rfl, SqL.of h.at, k _ _ _ (ResOk.val0 e rfl)⟩
  · cases z
theorem ok_sum {KX : Kf} : OpOkN K (rSum KX) pSum := fun F H xs as ev Q e hx z k => by
  unfold pSum at z
  split at z
  · rename_i a
    obtain ⟨v, rfl, hv⟩ := conts1 hx
    rw [Option.map_eq_some_iff] at z
    obtain ⟨bs, z, rfl⟩ := z
    rw [Option.bind_eq_some_iff] at z
    obtain ⟨ds, z, z2⟩ := z
    obtain ⟨p, vs, rfl, h, r⟩ := cont_lst e hv z
    rw [intsD_v r z2] at h
    exact ⟨p, bs, rfl, SqL.of h.at, k _ _ _ (ResOk.val0 e rfl)⟩
  · cases z
def pMax2 : List SV → Option EV
  | [.fz (.int i), .fz (.int j)] => some (.v (.int (if j > i then j else i)))
  | _ => none
def pMin2 : List SV → Option EV
  | [.fz (.int i), .fz (.int j)] => some (.v (.int (if j < i then j else i)))
  | _ => none
def pAbs : List SV → Option EV
  | [.fz (.int i)] => some (.v (.int (if i < 0 then -i else i)))
  | _ => none
def pInt : List SV → Option EV
  | [.fz (.int i)] => some (.v (.int i))
  | [.fz (.bl b)] => some (.v (.int (if b then 1 else 0)))
  | _ => none
abbrev rMin2 : List V → Hp → VK → Prop := fun xs H Q => ∃ i j, xs = [.int i, .int j] ∧ Q (.int (if j < i then j else i)) H
theorem ok_max2 : OpOkN K (fun xs H Q => ∃ i j, xs = [V.int i, .int j] ∧ Q (.int (if j > i then j else i)) H) pMax2 := fun F H xs as ev Q e hx z k => by
  unfold pMax2 at z
  split at z
  · cases z
    obtain ⟨v, u, rfl, h1, h2⟩ := conts2 hx
    exact ⟨_, _, by rw [show v = _ from cont_fz h1, show u = _ from cont_fz h2], k _ _ _ (ResOk.val0 e rfl)⟩
  · cases z
theorem ok_min2 : OpOkN K rMin2 pMin2 := fun F H xs as ev Q e hx z k => by
  unfold pMin2 at z
  split at z
  · cases z
    obtain ⟨v, u, rfl, h1, h2⟩ := conts2 hx
    exact ⟨_, _, by rw [show v = _ from cont_fz h1, show u = _ from cont_fz h2], k _ _ _ (ResOk.val0 e rfl)⟩
  · cases z
theorem ok_abs : OpOkN K (fun xs H Q => ∃ i, xs = [V.int i] ∧ Q (.int (if i < 0 then -i else i)) H) pAbs := fun F H xs as ev Q e hx z k => by
  unfold pAbs at z
  split at z
  · cases z
    obtain ⟨v, rfl, h1⟩ := conts1 hx
    exact ⟨_, by rw [show v = _ from cont_fz h1], k _ _ _ (ResOk.val0 e rfl)⟩
  · cases z
theorem ok_int : OpOkN K (fun xs H Q => (∃ i, xs = [V.int i] ∧ Q (.int i) H) ∨ ∃ k, xs = [V.bl k] ∧ Q (.int (if k then 1 else 0)) H) pInt := fun F H xs as ev Q e hx z k => by
  unfold pInt at z
  split at z
  · cases z
    obtain ⟨v, rfl, h1⟩ := conts1 hx
    exact .inl ⟨_, by rw [show v = _ from cont_fz h1], k _ _ _ (ResOk.val0 e rfl)⟩
  · cases z
    obtain ⟨v, rfl, h1⟩ := conts1 hx
    exact .inr ⟨_, by rw [show v = _ from cont_fz h1], k _ _ _ (ResOk.val0 e rfl)⟩
  · cases z
/-! ### max, min of three -/
end PD
namespace PD
open PySem PySem.Spec PyProof.Rows L2
variable {K : Kf}
/-! ### max of three -/
abbrev rMax3 : List V → Hp → VK → Prop := fun xs H Q => ∃ i j k, xs = [.int i, .int j, .int k] ∧ Q (.int (max (max i j) k)) H
theorem call_max3 {X : Cx} (hc : X.calm = true) : CallR X (.builtin "max") rMax3 := by
  intro pins s σ H xs us Q I r h
  obtain ⟨i, j, k, rfl, q⟩ := h
  cases r with
  | cons r1 r =>
    cases r with
    | cons r2 r =>
      cases r with
      | cons r3 r =>
        cases r
        obtain ⟨t1, rfl⟩ := r1
        obtain ⟨t2, rfl⟩ := r2
        obtain ⟨t3, rfl⟩ := r3
        refine max_three_ints (I.ok.hd hc) fun h' tk kk => ⟨_, H, I.kept kk, ?_, q⟩
        by_cases h1 : j > i
        · rw [if_pos h1]
          by_cases h2 : k > j
          · rw [if_pos h2]; exact ⟨t3, by congr 1; omega⟩
          · rw [if_neg h2]; exact ⟨t2, by congr 1; omega⟩
        · rw [if_neg h1]
          by_cases h2 : k > i
          · rw [if_pos h2]; exact ⟨t3, by congr 1; omega⟩
          · rw [if_neg h2]; exact ⟨t1, by congr 1; omega⟩
def pMax3 : List SV → Option EV
  | [.fz (.int i), .fz (.int j), .fz (.int k)] => some (.v (.int (max (max i j) k)))
  | _ => none
theorem conts3 {F H : Hp} {a b c : SV} {xs : List V} (h : Conts K F H [a, b, c] xs) : ∃ v u w, xs = [v, u, w] ∧ Cont K F H a v ∧ Cont K F H b u ∧ Cont K F H c w := by
  cases h with | cons h1 h2 => cases h2 with | cons h2 h3 => cases h3 with | cons h3 h4 => cases h4; exact ⟨_, _, _, rfl, h1, h2, h3⟩
theorem ok_max3 : OpOkN K rMax3 pMax3 := fun F H xs as ev Q e hx z k => by
  unfold pMax3 at z
  split at z
  · cases z
    obtain ⟨v, u, w, rfl, h1, h2, h3⟩ := conts3 hx
    exact ⟨_, _, _, by rw [show v = _ from cont_fz h1, show u = _ from cont_fz h2, show w = _ from cont_fz h3], k _ _ _ (ResOk.val0 e rfl)⟩
  · cases z
/-! ### isinstance of a built-in type -/
def tyOfS : SV → Option String
  | .fz .non => some "NoneType"
  | .fz (.bl _) => some "bool"
  | .fz (.int _) => some "int"
  | .fz (.str _) => some "str"
  | .fz (.tup _) => some "tuple"
  | .fz (.lst _) => some "list"
  | .fz (.dk _) => some "dict"
  | .fz (.dt _) => some "dict"
  | .fz (.fn _) => none
  | .fz (.scr _) => none
  | .ol _ => some "list"
  | .ok _ => some "dict"
  | .ot _ => some "dict"
def tyNames : List String := ["NoneType", "bool", "int", "str", "tuple", "list", "dict"]
theorem tyOfS_in {s : SV} {n : String} (h : tyOfS s = some n) : n ∈ tyNames := by
  cases s with
  | fz d => cases d <;> cases h <;> simp [tyNames]
  | _ => cases h; simp [tyNames]
theorem tyOfS_ok {KX : Kf} {F H : Hp} (e : Same F H) {s : SV} {v : V} {n : String} (h : Cont K F H s v) (z : tyOfS s = some n) : TyX KX H v (.type n) := by
  cases s with
  | fz d =>
    cases d with
    | non => cases z; have h : v = .non := cont_fz h; subst h; exact .base .non
    | bl b => cases z; have h : v = .bl b := cont_fz h; subst h; exact .base (.bl _)
    | int b => cases z; have h : v = .int b := cont_fz h; subst h; exact .base (.int _)
    | str b => cases z; have h : v = .str b := cont_fz h; subst h; exact .base (.str _)
    | fn b => cases z
    | scr b => cases z
    | tup b => cases z; obtain ⟨a, vs, rfl, h, _⟩ := cont_fz h; exact .base (.tup (e _ _ h))
    | lst b => cases z; obtain ⟨a, vs, rfl, h, _⟩ := cont_fz h; exact .base (.lst (e _ _ h))
    | dk b => cases z; obtain ⟨a, vs, rfl, h, _⟩ := cont_fz h; exact .base (.dK (e _ _ h))
    | dt b => cases z; obtain ⟨a, vs, rfl, h, _⟩ := cont_fz h; exact .base (.dT (e _ _ h))
  | ol xs => cases z; obtain ⟨q, a, vs, r, rfl, h, _⟩ := h; exact .base (.lst h)
  | ok xs => cases z; obtain ⟨q, a, vs, r, rfl, h, _⟩ := h; exact .base (.dK h)
  | ot xs => cases z; obtain ⟨q, a, vs, r, rfl, h, _⟩ := h; exact .base (.dT h)
def isB (T n : String) : Bool := n == T || (n == "bool" && T == "int")
def KitAll (T : String) : Prop := ∀ (K : Kf) (n : String), n ∈ tyNames → PySem.W.kitOne K (.type n) (.type T) = some (isB T n)
theorem kit_of_each {T : String} (h : ∀ K : Kf, PySem.W.kitOne K (.type "NoneType") (.type T) = some (isB T "NoneType") ∧ PySem.W.kitOne K (.type "bool") (.type T) = some (isB T "bool") ∧ PySem.W.kitOne K (.type "int") (.type T) = some (isB T "int") ∧ PySem.W.kitOne K (.type "str") (.type T) = some (isB T "str") ∧
    PySem.W.kitOne K (.type "tuple") (.type T) = some (isB T "tuple") ∧ PySem.W.kitOne K (.type "list") (.type T) = some (isB T "list") ∧ PySem.W.kitOne K (.type "dict") (.type T) = some (isB T "dict")) : KitAll T := fun K n hn => by
  obtain ⟨h1, h2, h3, h4, h5, h6, h7⟩ := h K
  simp only [tyNames, List.mem_cons, List.not_mem_nil, or_false] at hn
  rcases hn with rfl | rfl | rfl | rfl | rfl | rfl | rfl <;> assumption
theorem kit_int : KitAll "int" := kit_of_each fun K => ⟨rfl, rfl, rfl, rfl, rfl, rfl, rfl⟩
theorem kit_bool : KitAll "bool" := kit_of_each fun K => ⟨rfl, rfl, rfl, rfl, rfl, rfl, rfl⟩
theorem kit_str : KitAll "str" := kit_of_each fun K => ⟨rfl, rfl, rfl, rfl, rfl, rfl, rfl⟩
theorem kit_tuple : KitAll "tuple" := kit_of_each fun K => ⟨rfl, rfl, rfl, rfl, rfl, rfl, rfl⟩
theorem kit_list : KitAll "list" := kit_of_each fun K => ⟨rfl, rfl, rfl, rfl, rfl, rfl, rfl⟩
theorem kit_dict : KitAll "dict" := kit_of_each fun K => ⟨rfl, rfl, rfl, rfl, rfl, rfl, rfl⟩
def pIsi (T : String) (s : SV) : Option EV := (tyOfS s).map fun n => .v (.bl (isB T n))
theorem ok_isi {KX : Kf} {T : String} (hT : KitAll T) : OpOk1 K (fun x H Q => rIsi KX [x, .ty T] H Q) (pIsi T) := fun F H x a ev Q e hx z k => by
  unfold pIsi at z
  rw [Option.map_eq_some_iff] at z
  obtain ⟨n, z, rfl⟩ := z
  exact ⟨x, .ty T, .type n, .type T, isB T n, rfl, .ty T, tyOfS_ok e hx z, hT _ n (tyOfS_in z), k _ F H (ResOk.val0 e rfl)⟩
section
variable {X : Cx} {P : Program} {w : World} {KX : Kf} {mg : Str → Option Value} {base : Heap} {n : Nat} {E : XS} {pa pb pc pu pl ph : Bool} {ta tb tc te : TE} {ga gb gc ge : M → Out EV} {a b c e o i : Expr} {es : List Expr} {pos p p2 p3 : Pos} {x : Str}
theorem de_isi (C : Cxt X P w KX K mg base n E) {t : Str} {T : String} (hT : KitAll T) (hm : mg "isinstance" = none) (hm2 : mg t = none) (hv2 : bootBuiltins t = some (.type T)) (h : DE X K mg E a pa ta ga) (hg : Gl X "isinstance" := by rfl) (hg2 : Gl X t := by rfl) (hv : bootBuiltins "isinstance" = some (.builtin "isinstance") := by decide +kernel) (hn : t ≠ "__name__" := by decide) (hd : (t == ("__debug__" : Str)) = false := by decide)
    (he : starEach [a, .Name t p2] X.env = (false, eval a X.env) :: starEach [.Name t p2] X.env := by rfl) (he2 : starEach [.Name t p2] X.env = (false, eval (.Name t p2) X.env) :: starEach [] X.env := by rfl) (hpl : (backTo pos (starEach [.Name t p2] X.env)).any (·.1) = false := by rfl) :
    DE X K mg E (.Call (.Name "isinstance" p) [a, .Name t p2] [] pos) (pa && true) (tCB (rIsi KX) (tCons ta (tCons (tC (.ty T)) tNil))) (dUn ga (kV1 (pIsi T))) := by
  obtain ⟨rfl, rfl, rfl, up, rfl, rfl, _, _, _, _, _⟩ := C
  refine ⟨pe_callB call_isi hg hm hv (pa_cons h.pe (pa_cons (pe_bltn hg2 hm2 hv2 rfl hn hd) pa_nil he2) he) (by decide) (by decide) he hpl, ?_⟩
  exact (te_un1 h.ok (k_v1 (ok_isi hT)) : TEok K X.mg E _ (fun σ H Q => ta σ H fun x H1 => rIsi X.K [x, .ty T] H1 Q) _)
/-! ### repr -/
abbrev rRepr (K : Kf) : List V → Hp → VK → Prop := fun xs H Q => ∃ (a : Addr) (p : PyData), xs = [.ref a] ∧ Dp K H (.ref a) p ∧ p.showable = true ∧ p.hasDict = false ∧ p.depth ≤ 100 ∧ p.shown.length ≤ sizeLine ∧ Q (.str p.shown) H
theorem call_reprD (hg : X.A.guards = some []) (hu : X.A.units + 200 < cLine) : CallR X (.builtin "repr") (rRepr X.K) := by
  intro pins s σ H xs us Q I r h
  obtain ⟨a, p, rfl, hd, h1, h2, h3, h4, q⟩ := h
  obtain ⟨u, rfl, rx⟩ := vals1 r
  obtain rfl : u = .ref a := rx
  obtain ⟨as, rd⟩ := Dp.reads I p _ _ hd rfl
  exact repr_of_reads' rd h1 (PyData.noDict_hsm h2) hg (by omega) (fun _ _ e => e) (fun h' u tk k => ⟨.str p.shown, H, I.kept k, ⟨u, rfl⟩, q⟩) h4
def refS : SV → Bool
  | .fz (.tup _) => true
  | .fz (.lst _) => true
  | .ol _ => true
  | _ => false
theorem refS_ok {F H : Hp} {s : SV} {v : V} (h : Cont K F H s v) (z : refS s = true) : ∃ a, v = .ref a := by
  cases s with
  | fz d => cases d <;> try cases z
            · obtain ⟨a, vs, h, _⟩ := cont_fz h; exact ⟨a, h⟩
            · obtain ⟨a, vs, h, _⟩ := cont_fz h; exact ⟨a, h⟩
  | ol xs => obtain ⟨q, a, vs, r, h, _⟩ := h; exact ⟨a, h⟩
  | _ => cases z
def pRepr : List SV → Option EV
  | [a] => if refS a = true then (toPyS a).bind fun p => if p.showable = true ∧ p.hasDict = false ∧ p.depth ≤ 100 ∧ p.shown.length ≤ bigLen then some (.v (.str p.shown)) else none else none
  | _ => none
theorem ok_repr {KX : Kf} (up : Up K KX) : OpOkN K (rRepr KX) pRepr := fun F H xs as ev Q e hx z k => by
  unfold pRepr at z
  split at z
  · rename_i a
    obtain ⟨v, rfl, hv⟩ := conts1 hx
    split at z
    · rename_i hr
      obtain ⟨b, rfl⟩ := refS_ok hv hr
      rw [Option.bind_eq_some_iff] at z
      obtain ⟨p, z, z2⟩ := z
      split at z2
      · rename_i hp
        cases z2
        exact ⟨b, p, rfl, dp_up up _ _ (cont_dp e hv z), hp.1, hp.2.1, hp.2.2.1, big_le hp.2.2.2, k _ F H (ResOk.val0 e rfl)⟩
      · cases z2
    · cases z
  · cases z
/-! ### sorted -/
def encD (d : D) : PyData := (toPy d).getD .none
def sortOkD (ds : List D) : Bool := ds.all (fun d => (toPy d).isSome && decide ((encD d).depth ≤ 100)) && (ds.all fun d => ds.all fun d' => PySem.W.alike (encD d) (encD d')) && decide (ds.length ≤ bigLen) &&
  ((ds.all fun d => match encD d with | .tuple (_ :: _) => true | _ => false) || (ds.all fun d => match encD d with | .tuple _ => false | .none => false | _ => true))
def sortD (ds : List D) : List D := ds.mergeSort (PySem.W.dataLe false encD)
abbrev rSortD (K : Kf) : List V → Hp → VK → Prop := fun xs H Q => ∃ (F : Hp) (a : Addr) (vs : List V) (ds : List D), xs = [.ref a] ∧ Same F H ∧ H a = some (.lst vs) ∧ RepAll K F ds vs ∧ sortOkD ds = true ∧
  ∀ p ys, H p = none → RepAll K F (sortD ds) ys → Q (.ref p) (upd H p (.lst ys))
theorem each_of {F : Hp} : ∀ {ds : List D} {vs : List V} {us : List Value}, RepAll K F ds vs → Vals vs us → PySem.W.EachIs (fun (u : Value) d => ∃ v, Rep K F d v ∧ RelV v u) us ds
  | [], vs, us, h, r => by have h : vs = [] := h; subst h; cases r; exact .nil
  | d :: ds, vs, us, ⟨v, r', e, h1, h2⟩, r => by
    subst e
    cases r with | cons r1 r2 => exact .cons ⟨v, h1, r1⟩ (each_of h2 r2)
theorem each_back {F : Hp} : ∀ {ds : List D} {us : List Value}, PySem.W.EachIs (fun (u : Value) d => ∃ v, Rep K F d v ∧ RelV v u) us ds → ∃ vs, RepAll K F ds vs ∧ Vals vs us
  | _, _, .nil => ⟨[], rfl, .nil⟩
  | _, _, .cons ⟨v, h1, h2⟩ t => let ⟨vs, h3, h4⟩ := each_back t; ⟨v :: vs, ⟨v, vs, rfl, h1, h3⟩, .cons h2 h4⟩
end
end PD
namespace PD
open PySem PySem.Spec PyProof.Rows L2
variable {K : Kf}
section
variable {X : Cx} {P : Program} {w : World} {KX : Kf} {mg : Str → Option Value} {base : Heap} {n : Nat} {E : XS} {pa pb pc pu pl ph : Bool} {ta tb tc te : TE} {ga gb gc ge : M → Out EV} {a b c e o i : Expr} {es : List Expr} {pos p p2 p3 : Pos} {x : Str}
theorem toPy_enc {d : D} (h : (toPy d).isSome = true) : toPy d = some (encD d) := by
  unfold encD
  cases e : toPy d with
  | none => rw [e] at h; cases h
  | some p => rfl
theorem call_sortD (up : Up K X.K) (hu : X.A.units + 200 < cLine) : CallR X (.builtin "sorted") (rSortD K) := by
  intro pins s σ H xs us Q I r h
  obtain ⟨F, a, vs, ds, rfl, sF, ha, rep, ok, q⟩ := h
  obtain ⟨u, rfl, rx⟩ := vals1 r
  obtain rfl : u = .ref a := rx
  obtain ⟨its, rv, hl, hz⟩ := I.list (SqL.of ha)
  unfold sortOkD at ok
  simp only [Bool.and_eq_true, List.all_eq_true, decide_eq_true_eq] at ok
  obtain ⟨⟨⟨ok1, ok2⟩, ok3⟩, ok4⟩ := ok
  have er : PySem.W.EachIs (fun (u : Value) d => ∃ v, Rep K F d v ∧ RelV v u) its ds := each_of rep rv
  refine PySem.W.sorted_data (enc := encD) hl.isList er ?_ ?_ ?_ (big_le ok3) (fun d hd => ?_) fun out h1 h2 => ?_
  · refine (PySem.W.each_mem er).mono fun u d hd => ?_
    obtain ⟨⟨v, r1, r2⟩, hm⟩ := hd
    exact Dp.reads I (encD d) v u (dp_up up _ _ (rep_dp sF d v _ r1 (toPy_enc (ok1 d hm).1))) r2
  · intro d hd d' hd'
    obtain ⟨x, hx, rfl⟩ := List.mem_map.mp hd
    obtain ⟨y, hy, rfl⟩ := List.mem_map.mp hd'
    exact ok2 x hx y hy
  · rcases Bool.or_eq_true _ _ ▸ ok4 with z | z
    · refine .inl fun d hd => ?_
      obtain ⟨x, hx, rfl⟩ := List.mem_map.mp hd
      have := List.all_eq_true.mp z x hx
      split at this
      · rename_i y r' e; exact ⟨y, r', e⟩
      · cases this
    · refine .inr fun d hd => ?_
      obtain ⟨x, hx, rfl⟩ := List.mem_map.mp hd
      have := List.all_eq_true.mp z x hx
      refine ⟨fun e => ?_, fun xs e => ?_⟩ <;> rw [e] at this <;> cases this
  · have := (ok1 d hd).2; omega
  · obtain ⟨ep, he'⟩ := PyProof.Rows.sortedAll_at s.heap its out.toArray
    obtain ⟨ys, r3, r4⟩ := each_back h2
    have hlen : ys.length ≤ sizeLine := by
      rw [repAll_len r3, List.length_mergeSort]
      exact big_le ok3
    exact ⟨.ref _, upd H (s.heap.objs.size + 1) (.lst ys), I.laid (t' := s.toks) (fun _ _ => PyProof.Rows.sortedAll_old) (Nat.le_succ _) ⟨hlen, out, ep, r4, he'⟩, rfl, q _ ys (I.hok.fresh (Nat.le_succ _)) r3⟩
def pSorted : List SV → Option EV
  | [a] => (lstD a).bind fun ds => if sortOkD ds = true then some (.fr (.ol ((sortD ds).map .fz))) else none
  | _ => none
theorem ok_sorted : OpOkN K (rSortD K) pSorted := fun F H xs as ev Q e hx z k => by
  unfold pSorted at z
  split at z
  · rename_i a
    obtain ⟨v, rfl, hv⟩ := conts1 hx
    rw [Option.bind_eq_some_iff] at z
    obtain ⟨ds, z, z2⟩ := z
    split at z2
    · rename_i hp
      cases z2
      obtain ⟨b, vs, rfl, h, r⟩ := cont_lst e hv z
      exact ⟨F, b, vs, ds, rfl, e, h, r, hp, fun p ys hq ry => k _ _ _ (ResOk.lst0 e hq (ownL_fz ry))⟩
    · cases z2
  · cases z
/-! ### new dicts -/
def dNewK (m : M) : Out EV := .ok (.fr (.ok [])) m
def dNewT (m : M) : Out EV := .ok (.fr (.ot [])) m
theorem te_newK : TEok K mg E true tDNewK dNewK := fun F0 G π m σ F H fp Q S p q hq => by
  have f := S.freshG hq
  refine p (.ref q) F _ fp (S.allocO (.dK []) hq) ⟨Same.refl F, fun _ => ⟨rfl, rfl, same_new hq, fun _ h => .inl h⟩⟩ ⟨[q], ⟨q, [], [], rfl, upd_same, ⟨rfl, rfl⟩, rfl⟩, List.nodup_cons.mpr ⟨by simp, List.nodup_nil⟩, fun a ha => ?_⟩
  obtain rfl : a = q := by simpa using ha
  exact ⟨f.1, f.2.1, f.2.2, fun _ => hq⟩
theorem te_newT : TEok K mg E true tDNewT dNewT := fun F0 G π m σ F H fp Q S p q hq => by
  have f := S.freshG hq
  refine p (.ref q) F _ fp (S.allocO (.dT []) hq) ⟨Same.refl F, fun _ => ⟨rfl, rfl, same_new hq, fun _ h => .inl h⟩⟩ ⟨[q], ⟨q, [], [], rfl, upd_same, ⟨rfl, rfl⟩, rfl⟩, List.nodup_cons.mpr ⟨by simp, List.nodup_nil⟩, fun a ha => ?_⟩
  obtain rfl : a = q := by simpa using ha
  exact ⟨f.1, f.2.1, f.2.2, fun _ => hq⟩
theorem de_newK : DE X K mg E (.Dict [] [] pos) true tDNewK dNewK := ⟨pe_dnewK, te_newK⟩
theorem de_newT : DE X K mg E (.Dict [] [] pos) true tDNewT dNewT := ⟨pe_dnewT, te_newT⟩
/-! ### displays of dicts -/
def PostP (K : Kf) (mg : Str → Option Value) (E : XS) (F0 G : Hp) (π : List V) (σ : L2.St) (F : Hp) (Q : List (V × V) → Hp → Prop) : Out (List (Key × SV)) → Prop
  | .ok kvs m' => ∀ ws F' H' fp' q, StF K F0 G π m' σ F' H' fp' → Same F F' → OwnK K F' H' kvs ws q → q.Nodup → (∀ a ∈ q, F' a = none ∧ G a = none ∧ ∀ o, a ∉ fp' o) → Q (ws.map fun kv => (kV kv.1, kv.2)) H'
  | .exc c d m' => ExcW K mg F0 G π E σ c d m'
  | .bad => False
def TPok (K : Kf) (mg : Str → Option Value) (E : XS) (trs : List (TE × TE)) (g : M → Out (List (Key × SV))) : Prop :=
  ∀ F0 G π m σ F H fp (Q : List (V × V) → Hp → Prop), StF K F0 G π m σ F H fp → PostP K mg E F0 G π σ F Q (g m) → tPairs trs σ H Q
def dPairs0 (m : M) : Out (List (Key × SV)) := .ok [] m
def keyEV : EV → Option Key
  | .v d => keyD d
  | _ => none
def dPairs (gk gv : M → Out EV) (gr : M → Out (List (Key × SV))) (m : M) : Out (List (Key × SV)) :=
  (gk m).bind fun ek m1 => match keyEV ek with
    | some k => (gv m1).bind fun ev m2 => (ownE m2 ev).bind fun s m3 => (gr m3).bind fun kvs m4 => .ok ((k, s) :: kvs) m4
    | none => .bad
theorem tp_nil : TPok K mg E [] dPairs0 := fun F0 G π m σ F H fp Q S p => p [] F H fp [] S (Same.refl F) ⟨rfl, rfl⟩ List.nodup_nil (fun a h => by cases h)
theorem tp_cons {trs : List (TE × TE)} {gr : M → Out (List (Key × SV))} (hk : TEok K mg E pa ta ga) (hv : TEok K mg E pb tb gb) (hr : TPok K mg E trs gr) : TPok K mg E ((ta, tb) :: trs) (dPairs ga gb gr) := fun F0 G π m σ F H fp Q S p => by
  refine hk F0 G π m σ F H fp _ S ?_
  unfold dPairs at p
  cases e : ga m with
  | bad => rw [e] at p; exact p
  | exc c d m' => rw [e] at p; exact p
  | ok ek m1 =>
    rw [e] at p
    intro v F1 H1 fp1 S1 c1 e1
    have p : PostP K mg E F0 G π σ F Q (match keyEV ek with
      | some k => (gb m1).bind fun ev m2 => (ownE m2 ev).bind fun s m3 => (gr m3).bind fun kvs m4 => .ok ((k, s) :: kvs) m4
      | none => .bad) := p
    cases hk1 : keyEV ek with
    | none => simp only [hk1] at p; exact p.elim
    | some k =>
      simp only [hk1] at p
      have ev : v = kV k := by
        cases ek with
        | v d => exact keyD_v e1 hk1
        | _ => cases hk1
      subst ev
      refine hv F0 G π m1 σ F1 H1 fp1 _ S1 ?_
      cases e2 : gb m1 with
      | bad => rw [e2] at p; exact p
      | exc c d m' => rw [e2] at p; exact p
      | ok ev m2 =>
        rw [e2] at p
        intro u F2 H2 fp2 S2 c2 e3
        have p : PostP K mg E F0 G π σ F Q ((ownE m2 ev).bind fun s m3 => (gr m3).bind fun kvs m4 => .ok ((k, s) :: kvs) m4) := p
        cases e4 : ownE m2 ev with
        | bad => rw [e4] at p; exact p.elim
        | exc c d m' => exact (ownE_exc e4).elim
        | ok s m3 =>
          rw [e4] at p
          obtain ⟨F3, fp3, q3, S3, o3, n3, f3, s3⟩ := ownE_ok S2 e3 e4
          have p : PostP K mg E F0 G π σ F Q ((gr m3).bind fun kvs m4 => .ok ((k, s) :: kvs) m4) := p
          have SP := S3.protect (q := q3) fun a ha => ⟨(f3 a ha).1, (f3 a ha).2.2⟩
          refine hr F0 _ π m3 σ F3 H2 fp3 _ SP ?_
          cases e5 : gr m3 with
          | bad => rw [e5] at p; exact p
          | exc c d m' =>
            rw [e5] at p
            intro C dx v F' H' fp' hC T hd hrp
            exact p C dx v F' H' fp' hC (S3.unprotect (q := q3) (fun a ha => ⟨(f3 a ha).1, o3.there _ _ _ a ha⟩) T).1 hd hrp
          | ok kvs m4 =>
            rw [e5] at p
            intro ws F4 H4 fp4 q4 S4 s4 o4 n4 f4
            obtain ⟨U4, k4⟩ := S3.unprotect (q := q3) (fun a ha => ⟨(f3 a ha).1, o3.there _ _ _ a ha⟩) S4
            have o5 : Own K F4 H4 s u q3 := o3.keep s4 _ _ _ fun a ha => (k4 a ha).1
            refine p ((k, u) :: ws) F4 H4 fp4 (q3 ++ q4) U4 (c1.ext.trans (c2.ext.trans (s3.trans s4))) ⟨u, ws, q3, q4, rfl, o5, o4, rfl⟩ (nodup_mk n3 n4 fun a ha hb => ?_) fun a ha => ?_
            · have := (f4 a hb).2.1
              rw [addF_in ha] at this
              exact o3.there _ _ _ a ha this
            · rcases List.mem_append.mp ha with z | z
              · exact ⟨(k4 a z).2.1, (f3 a z).2.1, (k4 a z).2.2⟩
              · refine ⟨(f4 a z).1, ?_, (f4 a z).2.2⟩
                have h := (f4 a z).2.1
                by_cases y : a ∈ q3
                · rw [addF_in y] at h; exact absurd h (o3.there _ _ _ a y)
                · rw [addF_out y] at h; exact h
/-- {k: v, ..}, its keys unlike each other -/
def dDisp (g : M → Out (List (Key × SV))) (m : M) : Out EV := (g m).bind fun kvs m1 => if kvs.length ≤ 15 ∧ (kvs.map (·.1)).Nodup then .ok (.fr (.ok kvs)) m1 else .bad
theorem mergeK_nd : ∀ (ws acc : List (Key × V)), ((acc ++ ws).map (·.1)).Nodup → mergeK acc ws = acc ++ ws
  | [], acc, _ => by show acc = acc ++ []; simp
  | kv :: ws, acc, h => by
    have e : putK acc kv.1 kv.2 = acc ++ [kv] := by
      unfold putK
      rw [if_neg]
      intro z
      obtain ⟨x, hx, hz⟩ := List.any_eq_true.mp z
      have hz := of_decide_eq_true hz
      rw [List.map_append, List.nodup_append] at h
      exact h.2.2 x.1 (List.mem_map.mpr ⟨x, hx, rfl⟩) kv.1 (by simp) hz
    show mergeK (putK acc kv.1 kv.2) ws = _
    rw [e, mergeK_nd ws (acc ++ [kv]) (by simpa using h)]
    simp
theorem ownK_keys {F H : Hp} : ∀ {xs : List (Key × SV)} {vs : List (Key × V)} {q : List Addr}, OwnK K F H xs vs q → vs.map (·.1) = xs.map (·.1)
  | [], vs, q, h => by have := h.1; subst this; rfl
  | (k, x) :: xs, vs, q, ⟨v, r, q1, q2, h, _, h2, _⟩ => by subst h; simp [ownK_keys h2]
theorem te_disp {trs : List (TE × TE)} {g : M → Out (List (Key × SV))} (hg : TPok K mg E trs g) : TEok K mg E false (tDisp trs) (dDisp g) := fun F0 G π m σ F H fp Q S p q hq => by
  have f := S.freshG hq
  have S1 := S.allocO (.dK []) hq
  have nd1 : [q].Nodup := List.nodup_cons.mpr ⟨by simp, List.nodup_nil⟩
  have pr : ∀ a ∈ [q], F a = none ∧ ∀ o, a ∉ fp o := fun a ha => by
    obtain rfl : a = q := by simpa using ha
    exact ⟨f.1, f.2.2⟩
  have pr2 : ∀ a ∈ [q], F a = none ∧ upd H q (.dK []) a ≠ none := fun a ha => by
    obtain rfl : a = q := by simpa using ha
    exact ⟨f.1, by rw [upd_same]; exact Option.some_ne_none _⟩
  refine hg F0 _ π m σ F _ fp _ (S1.protect pr) ?_
  unfold dDisp at p
  cases e : g m with
  | bad => rw [e] at p; exact p
  | exc c d m' =>
    rw [e] at p
    intro C dx v F' H' fp' hC T hd hrp
    exact p C dx v F' H' fp' hC (S1.unprotect pr2 T).1 hd hrp
  | ok kvs m1 =>
    rw [e] at p
    have p : PostE K mg E false F0 G π m σ F H fp Q (if kvs.length ≤ 15 ∧ (kvs.map (·.1)).Nodup then .ok (.fr (.ok kvs)) m1 else .bad) := p
    by_cases hl : kvs.length ≤ 15 ∧ (kvs.map (·.1)).Nodup
    · rw [if_pos hl] at p
      intro ws F1 H1 fp1 q1 T s1 o1 n1 f1
      obtain ⟨U, kq⟩ := S1.unprotect pr2 T
      obtain ⟨k1, k2, k3⟩ := kq q (by simp)
      rw [upd_same] at k1
      have kk := ownK_keys o1
      refine ⟨k1, ws, rfl, by rw [ownK_len o1]; exact hl.1, ?_⟩
      have em : mergeK [] ws = ws := by
        have := mergeK_nd ws [] (by rw [List.nil_append, kk]; exact hl.2)
        simpa using this
      rw [em]
      have nq : q ∉ q1 := fun z => by
        have := (f1 q z).2.1
        rw [addF_in (by simp)] at this
        rw [upd_same] at this
        cases this
      have hk : ∀ a x, H1 a = some x → a ≠ q → upd H1 q (.dK ws) a = some x := fun a x e ne => by rw [upd_ne ne]; exact e
      -- the dict's own object is not within the state
      have T2 : StF K F0 G π m1 σ F1 (upd H1 q (.dK ws)) fp1 := by
        refine ⟨U.len, U.plen, fun a x e => hk a x (U.sub a x e) (fun z => by rw [z, k2] at e; cases e), fun a x e => hk a x (U.base a x e) (fun z => by rw [z, f.2.1] at e; cases e), U.mono, U.new, fun o s e => ?_, U.non, U.ali, U.nd, U.dj, U.fr⟩
        obtain ⟨v, h1, h2⟩ := U.own o s e
        exact ⟨v, h1, h2.keep (Same.refl F1) _ _ _ fun a ha => upd_ne fun z => k3 o (by rw [← z]; exact ha)⟩
      refine p (.ref q) F1 _ fp1 T2 ⟨s1, fun z => by cases z⟩ ⟨q :: q1, ⟨q, ws, q1, rfl, upd_same, o1.keep (Same.refl F1) _ _ _ (fun a ha => upd_ne fun z => nq (by rw [← z]; exact ha)), rfl⟩, List.nodup_cons.mpr ⟨nq, n1⟩, fun a ha => ?_⟩
      rcases List.mem_cons.mp ha with rfl | hb
      · exact ⟨k2, f.2.1, k3, fun z => by cases z⟩
      · refine ⟨(f1 a hb).1, ?_, (f1 a hb).2.2, fun z => by cases z⟩
        have := (f1 a hb).2.1
        rw [addF_out] at this
        · exact this
        · intro z
          have e : a = q := by simpa using z
          exact nq (by rw [← e]; exact hb)
    · rw [if_neg hl] at p; exact p.elim
structure DPs (X : Cx) (K : Kf) (mg : Str → Option Value) (E : XS) (pos : Pos) (keys : List (Option Expr)) (values : List Expr) (trs : List (TE × TE)) (g : M → Out (List (Key × SV))) : Prop where
  pe : PPs X pos keys values trs
  ok : TPok K mg E trs g
theorem dps_nil : DPs X K mg E pos [] [] [] dPairs0 := ⟨pps_nil, tp_nil⟩
theorem dps_cons {ks : List (Option Expr)} {vs : List Expr} {trs : List (TE × TE)} {gr : M → Out (List (Key × SV))} (h1 : DE X K mg E a pa ta ga) (h2 : DE X K mg E b pb tb gb) (h3 : DPs X K mg E pos ks vs trs gr) : DPs X K mg E pos (some a :: ks) (b :: vs) ((ta, tb) :: trs) (dPairs ga gb gr) := ⟨pps_cons h1.pe h2.pe h3.pe, tp_cons h1.ok h2.ok h3.ok⟩
theorem de_disp {keys : List (Option Expr)} {values : List Expr} {trs : List (TE × TE)} {g : M → Out (List (Key × SV))} (h : DPs X K mg E pos keys values trs g) (hall : keys.all (·.isSome) = true := by rfl) (hl : keys.length = values.length := by rfl) (h0 : keys ≠ [] := by exact fun z => nomatch z) (h15 : keys.length ≤ 15 := by decide) :
    DE X K mg E (.Dict keys values pos) false (tDisp trs) (dDisp g) := ⟨pe_disp h.pe hall hl h0 h15, te_disp h.ok⟩
end
end PD
namespace PD
open PySem PySem.Spec PyProof.Rows L2
variable {K : Kf}
/-! ### dict of pairs -/
def pairsD : List D → Option (List (Key × D))
  | [] => some []
  | .tup [k, v] :: r => match keyD k, pairsD r with
    | some k, some kvs => some ((k, v) :: kvs)
    | _, _ => none
  | _ => none
theorem pairsD_ok {KX : Kf} {F H : Hp} (e : Same F H) : ∀ {ds : List D} {vs : List V} {kvs : List (Key × D)}, RepAll K F ds vs → pairsD ds = some kvs →
    ∃ (ps : List Addr) (ws : List (Key × V)), vs = ps.map V.ref ∧ Paired (fun p kv => SqT KX H p [kV kv.1, kv.2]) ps ws ∧ RepK K F kvs ws
  | [], vs, kvs, h, z => by cases z; have h : vs = [] := h; subst h; exact ⟨[], [], rfl, .nil, rfl⟩
  | d :: ds, vs, kvs, ⟨v, r, hv, h1, h2⟩, z => by
    subst hv
    cases d <;> try cases z
    rename_i xs
    cases xs with
    | nil => cases z
    | cons k xs =>
      cases xs with
      | nil => cases z
      | cons u xs =>
        cases xs with
        | cons _ _ => cases z
        | nil =>
          unfold pairsD at z
          cases e1 : keyD k with
          | none => rw [e1] at z; cases z
          | some kk =>
            cases e2 : pairsD ds with
            | none => rw [e1, e2] at z; cases z
            | some kvs' =>
              rw [e1, e2] at z
              cases z
              obtain ⟨ps, ws, rfl, hp, hr⟩ := pairsD_ok (KX := KX) e h2 e2
              obtain ⟨a, us, rfl, ha, y1, r1, rfl, hk, y2, r2, rfl, hu, hn⟩ := h1
              have hn : r2 = [] := hn
              subst hn
              rw [keyD_v hk e1] at ha
              exact ⟨a :: ps, (kk, y2) :: ws, rfl, .cons (SqT.of (e _ _ ha)) hp, y2, ws, rfl, hu, hr⟩
theorem ownK_fz {F H : Hp} : ∀ {kvs : List (Key × D)} {ws : List (Key × V)}, RepK K F kvs ws → OwnK K F H (kvs.map fun kv => (kv.1, .fz kv.2)) ws []
  | [], ws, h => ⟨h, rfl⟩
  | (k, d) :: r, ws, ⟨v, s, e, h1, h2⟩ => ⟨v, s, [], [], e, ⟨h1, rfl⟩, ownK_fz h2, rfl⟩
theorem ResOk.dk0 {F H : Hp} (e : Same F H) {p : Addr} (hp : H p = none) {xs : List (Key × SV)} {vs : List (Key × V)} (h : OwnK K F H xs vs []) : ResOk K F H F (upd H p (.dK vs)) (.fr (.ok xs)) (.ref p) := by
  refine ⟨Same.refl F, same_new hp, e.trans (same_new hp), fun _ h => .inl h, [p], ⟨p, vs, [], rfl, upd_same, h.keep (Same.refl F) _ _ _ (fun a z => by cases z), rfl⟩, List.nodup_cons.mpr ⟨by simp, List.nodup_nil⟩, fun a ha => ?_⟩
  have : a = p := by simpa using ha
  subst this
  exact ⟨hp, same_none e hp⟩
def pDictP : List SV → Option EV
  | [a] => (lstD a).bind fun ds => (pairsD ds).bind fun kvs => if (kvs.map (·.1)).Nodup then some (.fr (.ok (kvs.map fun kv => (kv.1, .fz kv.2)))) else none
  | _ => none
abbrev rDictP (KX : Kf) : List V → Hp → VK → Prop := fun xs H Q => ∃ (a : Addr) (ps : List Addr) (kvs : List (Key × V)), xs = [.ref a] ∧ SqL KX H a (ps.map V.ref) ∧ Paired (fun p kv => SqT KX H p [kV kv.1, kv.2]) ps kvs ∧
    ∀ p, H p = none → Q (.ref p) (upd H p (.dK (mergeK [] kvs)))
theorem repK_keys {F : Hp} : ∀ {xs : List (Key × D)} {vs : List (Key × V)}, RepK K F xs vs → vs.map (·.1) = xs.map (·.1)
  | [], vs, h => by have h : vs = [] := h; subst h; rfl
  | (k, x) :: xs, vs, ⟨v, r, h, _, h2⟩ => by subst h; simp [repK_keys h2]
theorem ok_dictP {KX : Kf} : OpOkN K (rDictP KX) pDictP := fun F H xs as ev Q e hx z k => by
  unfold pDictP at z
  split at z
  · rename_i a
    obtain ⟨v, rfl, hv⟩ := conts1 hx
    rw [Option.bind_eq_some_iff] at z
    obtain ⟨ds, z, z2⟩ := z
    rw [Option.bind_eq_some_iff] at z2
    obtain ⟨kvs, z2, z3⟩ := z2
    split at z3
    · rename_i hn
      cases z3
      obtain ⟨b, vs, rfl, h, r⟩ := cont_lst e hv z
      obtain ⟨ps, ws, rfl, hp, hr⟩ := pairsD_ok (KX := KX) e r z2
      have em : mergeK [] ws = ws := by
        have := mergeK_nd ws [] (by rw [List.nil_append, repK_keys hr]; exact hn)
        simpa using this
      exact ⟨b, ps, ws, rfl, SqL.of h, hp, fun p hp => by rw [em]; exact k _ _ _ (ResOk.dk0 e hp (ownK_fz hr))⟩
    · cases z3
  · cases z
/-! ### update -/
def mergeG {κ β : Type} [DecidableEq κ] (kvs more : List (κ × β)) : List (κ × β) := more.foldl (fun acc kv => putG acc kv.1 kv.2) kvs
abbrev rUpd : V → List V → Hp → VK → Prop := fun x xs H Q => ∃ (a b : Addr) (kvs more : List (Key × V)), x = .ref a ∧ xs = [.ref b] ∧ a ≠ b ∧ H a = some (.dK kvs) ∧ H b = some (.dK more) ∧ kvs.length + more.length ≤ sizeLine ∧ Q .non (upd H a (.dK (mergeK kvs more)))
theorem mt_update {X : Cx} : MtR X "dict.update" rUpd := by
  intro pins s σ H x xs v us Q I rx rxs h
  obtain ⟨a, b, kvs, more, rfl, rfl, hab, ha, hb, hz, q⟩ := h
  cases rx
  obtain ⟨u1, rfl, r1⟩ := vals1 rxs
  cases r1
  obtain ⟨z, hd, vs, rel, dd⟩ := dk_of I.hok ha
  obtain ⟨z2, hd2, vs2, rel2, dd2⟩ := dk_of I.hok hb
  refine call_meetsIn PySem.F.slot_dict_update dd.typeIs PySem.F.entry_dict_update (PySem.F.args_dict_update_2 _ _) (meets_dict_update (mixKind X.prog X.w) a b hab hd2)
    ⟨vs, vs2, dd, dd2, by rw [← rel.length, ← rel2.length]; exact hz, fun h' d1 d2 sb => ?_⟩
  have he : ∃ q, h'.get? a = some q := let ⟨q, _, _, hq, _⟩ := d1; ⟨q, hq⟩
  exact ⟨.non, _, d_write I (t' := s.toks) (by rw [ha]; exact True.intro) sb he (dk_new (Nat.le_trans (length_mergeK more kvs) hz) hd (rel2.merge rel) d1), rfl, q⟩
theorem ownK_merge {F H : Hp} : ∀ {more : List (Key × D)} {ms : List (Key × V)} {kvs : List (Key × SV)} {ws : List (Key × V)} {q : List Addr}, RepK K F more ms → OwnK K F H kvs ws q → q.Nodup →
    ∃ q', OwnK K F H (mergeG kvs (more.map fun kv => (kv.1, .fz kv.2))) (mergeK ws ms) q' ∧ q'.Nodup ∧ ∀ a ∈ q', a ∈ q
  | [], ms, kvs, ws, q, h, o, n => by have h : ms = [] := h; subst h; exact ⟨q, o, n, fun a h => h⟩
  | (k, d) :: more, ms, kvs, ws, q, ⟨v, s, e, h1, h2⟩, o, n => by
    subst e
    obtain ⟨q1, o1, n1, m1⟩ := ownK_put (k := k) o (x := .fz d) (v := v) (q2 := []) ⟨h1, rfl⟩ (by simpa using n) (.inl ⟨d, rfl⟩)
    obtain ⟨q2, o2, n2, m2⟩ := ownK_merge h2 o1 n1
    exact ⟨q2, o2, n2, fun a ha => by simpa using m1 a (m2 a ha)⟩
def fUpd (s : SV) (ss : List SV) : Option (SV × D) := match s, ss with
  | .ok kvs, [.fz (.dk more)] => if kvs.length + more.length ≤ bigLen then some (.ok (mergeG kvs (more.map fun kv => (kv.1, .fz kv.2))), .non) else none
  | _, _ => none
theorem ok_upd : MutOk K rUpd fUpd := fun F H v s g ss ys q s' d Q e hs nd fr ho z k => by
  unfold fUpd at z
  split at z
  · rename_i kvs more
    split at z
    · rename_i hl
      cases z
      obtain ⟨a, vs, r, rfl, ha, hr, rfl⟩ := hs
      obtain ⟨y, t, q1, q2, rfl, ⟨h1, rfl⟩, ⟨rfl, rfl⟩, rfl⟩ := ho
      obtain ⟨b, ms, rfl, hb, hm⟩ := h1
      simp only [List.append_nil] at *
      have hab : a ≠ b := fun z => by
        have := fr a List.mem_cons_self
        rw [z, hb] at this
        cases this
      have nr := (List.nodup_cons.mp nd).2
      have na : a ∉ r := (List.nodup_cons.mp nd).1
      obtain ⟨q', o', n', m'⟩ := ownK_merge hm hr nr
      refine ⟨a, b, vs, ms, rfl, rfl, hab, ha, e _ _ hb, by rw [ownK_len hr, repK_len hm]; exact big_le hl, k .non _ (a :: q') ⟨a, _, q', rfl, upd_same, o'.keep (Same.refl F) _ _ _ (fun b hb => upd_ne fun z => na (by rw [← z]; exact m' b hb)), rfl⟩ (List.nodup_cons.mpr ⟨fun z => na (m' a z), n'⟩) (upd_keep List.mem_cons_self) (fun b hb => ?_) rfl⟩
      rcases List.mem_cons.mp hb with rfl | hb
      · exact List.mem_cons_self
      · exact List.mem_cons_of_mem _ (m' b hb)
    · cases z
  · cases z
section
variable {X : Cx} {P : Program} {w : World} {KX : Kf} {mg : Str → Option Value} {base : Heap} {n : Nat} {E : XS} {pa pb pc pu pl ph po : Bool} {ta tb tc te to : TE} {ga gb gc ge go : M → Out EV} {a b c e o i : Expr} {es : List Expr} {pos p p2 p3 apos cpos : Pos} {x : Str}
/-! ### methods as pieces -/
theorem de_mt (C : Cxt X P w KX K mg base n E) {T id : String} {name : Str} {r : V → List V → Hp → VK → Prop} {f : SV → List SV → Option (SV × D)} {t : TA} {gs : M → Out (List EV)} (pa' : PlainAttrs T) (slot : Slot T name id) (hty : typeOf (.builtin id) = pure (.type "method_descriptor")) (hm : MtR X id r) (hf : MutOk K r f) (ho : DE X K mg E o po to go) (ha : DA X K mg E (e :: es) pb t gs)
    (hbase : attributeBase o name X.env (eval o X.env) = eval o X.env := by rfl)
    (hfew : ((backTo cpos (starEach (e :: es) X.env)).all (fun x => !x.1) && (backToKw cpos (keywordEach [] X.env)).all (fun x => x.1.isSome)
      && decide ((e :: es).length + ([] : List Keyword).length + (if ([] : List Keyword).isEmpty then 0 else 1) < 30)) = true := by rfl)
    (hline : (apos.endLine == cpos.line) = true := by rfl) (hs : starEach (e :: es) X.env = (false, eval e X.env) :: starEach es X.env := by rfl) (hplain : (backTo cpos (starEach es X.env)).any (·.1) = false := by rfl) :
    DE X K mg E (.Call (.Attribute o name apos) (e :: es) [] cpos) false (tBM KX T r to t) (dMt T pb go gs f) := by
  rw [← C.hK]
  exact ⟨pe_bm pa' slot hty hm ho.pe ha.pe hbase hfew hline hs hplain, te_mt hf ho.ok ha.ok⟩
theorem de_mt1 (C : Cxt X P w KX K mg base n E) {T id : String} {name : Str} {r : V → List V → Hp → VK → Prop} {f : SV → List SV → Option (SV × D)} (pa' : PlainAttrs T) (slot : Slot T name id) (hty : typeOf (.builtin id) = pure (.type "method_descriptor")) (hm : MtR X id r) (hf : MutOk K r f) (ho : DE X K mg E o po to go) (ha : DE X K mg E e pb ta ga)
    (hbase : attributeBase o name X.env (eval o X.env) = eval o X.env := by rfl)
    (hfew : ((backTo cpos (starEach (e :: []) X.env)).all (fun x => !x.1) && (backToKw cpos (keywordEach [] X.env)).all (fun x => x.1.isSome)
      && decide ((e :: []).length + ([] : List Keyword).length + (if ([] : List Keyword).isEmpty then 0 else 1) < 30)) = true := by rfl)
    (hline : (apos.endLine == cpos.line) = true := by rfl) (hs : starEach (e :: []) X.env = (false, eval e X.env) :: starEach [] X.env := by rfl) (hplain : (backTo cpos (starEach [] X.env)).any (·.1) = false := by rfl) :
    DE X K mg E (.Call (.Attribute o name apos) [e] [] cpos) false (tBM KX T r to (tCons ta tNil)) (dMt1 T pb go ga f) := by
  rw [← C.hK]
  exact ⟨pe_bm pa' slot hty hm ho.pe (pa_cons ha.pe pa_nil hs) hbase hfew hline hs hplain, te_mt1 hf ho.ok ha.ok⟩
theorem de_mt0 (C : Cxt X P w KX K mg base n E) {T id : String} {name : Str} {r : V → List V → Hp → VK → Prop} {f : SV → List SV → Option (SV × D)} (pa' : PlainAttrs T) (slot : Slot T name id) (hty : typeOf (.builtin id) = pure (.type "method_descriptor")) (hm : MtR X id r) (hf : MutOk K r f) (ho : DE X K mg E o po to go)
    (hbase : attributeBase o name X.env (eval o X.env) = eval o X.env := by rfl) (hline : (apos.endLine == cpos.line) = true := by rfl) :
    DE X K mg E (.Call (.Attribute o name apos) [] [] cpos) false (tBM0 KX T r to) (dMt T true go dNil f) := by
  rw [← C.hK]
  exact ⟨pe_bm0 pa' slot hty hm ho.pe hbase hline, (te_mt hf ho.ok ta_nil : TEok K mg E false (tBM X.K T r to tNil) _)⟩
theorem de_append (C : Cxt X P w KX K mg base n E) (ho : DE X K mg E o po to go) (ha : DE X K mg E e pb ta ga)
    (hbase : attributeBase o "append" X.env (eval o X.env) = eval o X.env := by rfl)
    (hfew : ((backTo cpos (starEach (e :: []) X.env)).all (fun x => !x.1) && (backToKw cpos (keywordEach [] X.env)).all (fun x => x.1.isSome)
      && decide ((e :: []).length + ([] : List Keyword).length + (if ([] : List Keyword).isEmpty then 0 else 1) < 30)) = true := by rfl)
    (hline : (apos.endLine == cpos.line) = true := by rfl) (hs : starEach (e :: []) X.env = (false, eval e X.env) :: starEach [] X.env := by rfl) (hplain : (backTo cpos (starEach [] X.env)).any (·.1) = false := by rfl) :
    DE X K mg E (.Call (.Attribute o "append" apos) [e] [] cpos) false (tBM KX "list" rAppend to (tCons ta tNil)) (dMt1 "list" pb go ga fAppend) := de_mt1 C PySem.F.plainAttrs_list PySem.F.slot_list_append PySem.F.type_list_append mt_append ok_append ho ha hbase hfew hline hs hplain
theorem de_popAt (C : Cxt X P w KX K mg base n E) (ho : DE X K mg E o po to go) (ha : DE X K mg E e pb ta ga)
    (hbase : attributeBase o "pop" X.env (eval o X.env) = eval o X.env := by rfl)
    (hfew : ((backTo cpos (starEach (e :: []) X.env)).all (fun x => !x.1) && (backToKw cpos (keywordEach [] X.env)).all (fun x => x.1.isSome)
      && decide ((e :: []).length + ([] : List Keyword).length + (if ([] : List Keyword).isEmpty then 0 else 1) < 30)) = true := by rfl)
    (hline : (apos.endLine == cpos.line) = true := by rfl) (hs : starEach (e :: []) X.env = (false, eval e X.env) :: starEach [] X.env := by rfl) (hplain : (backTo cpos (starEach [] X.env)).any (·.1) = false := by rfl) :
    DE X K mg E (.Call (.Attribute o "pop" apos) [e] [] cpos) false (tBM KX "list" rPopAt to (tCons ta tNil)) (dMt1 "list" pb go ga fPopAt) := de_mt1 C PySem.F.plainAttrs_list PySem.F.slot_list_pop PySem.F.type_list_pop mt_popAt ok_popAt ho ha hbase hfew hline hs hplain
theorem de_pop (C : Cxt X P w KX K mg base n E) (ho : DE X K mg E o po to go)
    (hbase : attributeBase o "pop" X.env (eval o X.env) = eval o X.env := by rfl) (hline : (apos.endLine == cpos.line) = true := by rfl) :
    DE X K mg E (.Call (.Attribute o "pop" apos) [] [] cpos) false (tBM0 KX "list" rPop to) (dMt "list" true go dNil fPop) := de_mt0 C PySem.F.plainAttrs_list PySem.F.slot_list_pop PySem.F.type_list_pop mt_pop ok_pop ho hbase hline
theorem de_update (C : Cxt X P w KX K mg base n E) {t : TA} {gs : M → Out (List EV)} (ho : DE X K mg E o po to go) (ha : DA X K mg E [e] pb t gs)
    (hbase : attributeBase o "update" X.env (eval o X.env) = eval o X.env := by rfl)
    (hfew : ((backTo cpos (starEach (e :: []) X.env)).all (fun x => !x.1) && (backToKw cpos (keywordEach [] X.env)).all (fun x => x.1.isSome)
      && decide ((e :: []).length + ([] : List Keyword).length + (if ([] : List Keyword).isEmpty then 0 else 1) < 30)) = true := by rfl)
    (hline : (apos.endLine == cpos.line) = true := by rfl) (hs : starEach (e :: []) X.env = (false, eval e X.env) :: starEach [] X.env := by rfl) (hplain : (backTo cpos (starEach [] X.env)).any (·.1) = false := by rfl) :
    DE X K mg E (.Call (.Attribute o "update" apos) [e] [] cpos) false (tBM KX "dict" rUpd to t) (dMt "dict" pb go gs fUpd) := de_mt C PySem.F.plainAttrs_dict PySem.F.slot_dict_update PySem.F.type_dict_update mt_update ok_upd ho ha hbase hfew hline hs hplain
/-! ### chains of two comparisons -/
def dChain (pb pc : Bool) (ga gb gc : M → Out EV) (k k' : M → EV → EV → Out EV) (m : M) : Out EV :=
  (opd ga m).bind fun x m1 => (opd gb m1).bind fun y m2 => if stable pb x = true then (k m2 x y).bind fun z m3 => match z with
    | .v (.bl true) => (opd gc m3).bind fun u m4 => if stable pc y = true then k' m4 y u else .bad
    | .v (.bl false) => .ok (.v (.bl false)) m3
    | _ => .bad else .bad
theorem te_chain {r r' : R2} {k k' : M → EV → EV → Out EV} (ha : TEok K mg E pa ta ga) (hb : TEok K mg E pb tb gb) (hc : TEok K mg E pc tc gc) (hk : KOk2 K mg E true r k) (hk' : KOk2 K mg E true r' k') : TEok K mg E (pa && (pb && pc)) (tChain r r' ta tb tc) (dChain pb pc ga gb gc k k') := fun F0 G π m σ F H fp Q S p => by
  refine ha.opd F0 G π m σ F H fp _ S ?_
  unfold dChain at p
  cases e : opd ga m with
  | bad => rw [e] at p; exact p
  | exc c d m' => rw [e] at p; exact p
  | ok ex m1 =>
    rw [e] at p
    intro x F1 H1 fp1 S1 c1 e1
    refine hb.opd F0 G π m1 σ F1 H1 fp1 _ S1 ?_
    have p : PostE K mg E _ F0 G π m σ F H fp Q ((opd gb m1).bind fun y m2 => if stable pb ex = true then (k m2 ex y).bind fun z m3 => match z with
      | .v (.bl true) => (opd gc m3).bind fun u m4 => if stable pc y = true then k' m4 y u else .bad
      | .v (.bl false) => .ok (.v (.bl false)) m3
      | _ => .bad else .bad) := p
    cases e2 : opd gb m1 with
    | bad => rw [e2] at p; exact p
    | exc c d m' => rw [e2] at p; exact p
    | ok ey m2 =>
      rw [e2] at p
      intro y F2 H2 fp2 S2 c2 e3
      have p : PostE K mg E _ F0 G π m σ F H fp Q (if stable pb ex = true then (k m2 ex ey).bind fun z m3 => match z with
        | .v (.bl true) => (opd gc m3).bind fun u m4 => if stable pc ey = true then k' m4 ey u else .bad
        | .v (.bl false) => .ok (.v (.bl false)) m3
        | _ => .bad else .bad) := p
      by_cases st : stable pb ex = true
      · rw [if_pos st] at p
        have ex2 := e1.carry (N' := fun _ => False) (opd_nofr e) c2 st
        have ey2 := e3.plain (N' := fun _ => False) (opd_nofr e2)
        refine hk F0 G π m2 σ F2 H2 fp2 _ x y ex ey S2 ex2 ey2 ?_
        cases e4 : k m2 ex ey with
        | bad => rw [e4] at p; exact p
        | exc c d m' => rw [e4] at p; exact p
        | ok z m3 =>
          rw [e4] at p
          intro zv F3 H3 fp3 S3 c3 ez
          cases z with
          | br o q => exact p.elim
          | fr s => exact p.elim
          | v d =>
            cases d with
            | bl bb =>
              refine ⟨bb, ez, ?_⟩
              cases bb with
              | false => exact p _ F3 H3 fp3 S3 ((c1.trans (c2.trans c3)).mono fun z => by simp only [Bool.and_eq_true] at z ⊢; exact ⟨z.1, z.2.1, trivial⟩) rfl
              | true =>
                rw [if_pos rfl]
                refine hc.opd F0 G π m3 σ F3 H3 fp3 _ S3 ?_
                have p : PostE K mg E _ F0 G π m σ F H fp Q ((opd gc m3).bind fun u m4 => if stable pc ey = true then k' m4 ey u else .bad) := p
                cases e5 : opd gc m3 with
                | bad => rw [e5] at p; exact p
                | exc c d m' => rw [e5] at p; exact p
                | ok eu m4 =>
                  rw [e5] at p
                  intro u F4 H4 fp4 S4 c4 e6
                  have p : PostE K mg E _ F0 G π m σ F H fp Q (if stable pc ey = true then k' m4 ey eu else .bad) := p
                  by_cases st2 : stable pc ey = true
                  · rw [if_pos st2] at p
                    have ey3 : EvF K G π σ F3 H3 fp3 (fun _ => False) y ey := ey2.carry (pb := true) (opd_nofr e2) c3 (by cases ey with | br o q => cases q <;> rfl | _ => rfl)
                    have ey4 := ey3.carry (N' := fun _ => False) (opd_nofr e2) c4 st2
                    refine hk' F0 G π m4 σ F4 H4 fp4 Q y u ey eu S4 ey4 (e6.plain (opd_nofr e5)) (PostE.weak (pa := pa && (pb && (true && pc))) (pb := true) (c1.trans (c2.trans (c3.trans c4))) ?_)
                    simpa using p
                  · rw [if_neg st2] at p; exact p.elim
            | _ => exact p.elim
      · rw [if_neg st] at p; exact p.elim
theorem de_chain {op op' : CmpOp} {r r' : R2} {k k' : M → EV → EV → Out EV} (ho : OpR X (compareOp op) r) (ho' : OpR X (compareOp op') r') (hk : KOk2 K mg E true r k) (hk' : KOk2 K mg E true r' k') (h1 : DE X K mg E a pa ta ga) (h2 : DE X K mg E b pb tb gb) (h3 : DE X K mg E c pc tc gc) (hm : lastMarks [op, op'] [b, c] = false := by with_unfolding_all rfl) :
    DE X K mg E (.Compare a [op, op'] [b, c] pos) (pa && (pb && pc)) (tChain r r' ta tb tc) (dChain pb pc ga gb gc k k') := ⟨pe_chain ho ho' h1.pe h2.pe h3.pe hm, te_chain h1.ok h2.ok h3.ok hk hk'⟩
/-! ### several things at once -/
def PostR (K : Kf) (mg : Str → Option Value) (E : XS) (F0 G : Hp) (π : List V) (σ : L2.St) (F : Hp) (Q : List V → Hp → Prop) : Out (List SV) → Prop
  | .ok ss m' => ∀ vs F' H' fp' q, StF K F0 G π m' σ F' H' fp' → Same F F' → OwnL K F' H' ss vs q → q.Nodup → (∀ a ∈ q, F' a = none ∧ G a = none ∧ ∀ o, a ∉ fp' o) → Q vs H'
  | .exc c d m' => ExcW K mg F0 G π E σ c d m'
  | .bad => False
def TRok (K : Kf) (mg : Str → Option Value) (E : XS) (ts : TA) (g : M → Out (List SV)) : Prop :=
  ∀ F0 G π m σ F H fp (Q : List V → Hp → Prop), StF K F0 G π m σ F H fp → PostR K mg E F0 G π σ F Q (g m) → ts σ H Q
def dRaw0 (m : M) : Out (List SV) := .ok [] m
def dRaw (gv : M → Out EV) (gr : M → Out (List SV)) (m : M) : Out (List SV) :=
  (gv m).bind fun ev m2 => (ownE m2 ev).bind fun s m3 => (gr m3).bind fun ss m4 => .ok (s :: ss) m4
theorem tr_nil : TRok K mg E tNil dRaw0 := fun F0 G π m σ F H fp Q S p => p [] F H fp [] S (Same.refl F) ⟨rfl, rfl⟩ List.nodup_nil (fun a h => by cases h)
theorem tr_cons {ts : TA} {gr : M → Out (List SV)} (hv : TEok K mg E pb tb gb) (hr : TRok K mg E ts gr) : TRok K mg E (tCons tb ts) (dRaw gb gr) := fun F0 G π m σ F H fp Q S p => by
  refine hv F0 G π m σ F H fp _ S ?_
  unfold dRaw at p
  cases e2 : gb m with
  | bad => rw [e2] at p; exact p
  | exc c d m' => rw [e2] at p; exact p
  | ok ev m2 =>
    rw [e2] at p
    intro u F2 H2 fp2 S2 c2 e3
    have p : PostR K mg E F0 G π σ F Q ((ownE m2 ev).bind fun s m3 => (gr m3).bind fun kvs m4 => .ok (s :: kvs) m4) := p
    cases e4 : ownE m2 ev with
    | bad => rw [e4] at p; exact p.elim
    | exc c d m' => exact (ownE_exc e4).elim
    | ok s m3 =>
      rw [e4] at p
      obtain ⟨F3, fp3, q3, S3, o3, n3, f3, s3⟩ := ownE_ok S2 e3 e4
      have p : PostR K mg E F0 G π σ F Q ((gr m3).bind fun kvs m4 => .ok (s :: kvs) m4) := p
      have SP := S3.protect (q := q3) fun a ha => ⟨(f3 a ha).1, (f3 a ha).2.2⟩
      refine hr F0 _ π m3 σ F3 H2 fp3 _ SP ?_
      cases e5 : gr m3 with
      | bad => rw [e5] at p; exact p
      | exc c d m' =>
        rw [e5] at p
        intro C dx v F' H' fp' hC T hd hrp
        exact p C dx v F' H' fp' hC (S3.unprotect (q := q3) (fun a ha => ⟨(f3 a ha).1, o3.there _ _ _ a ha⟩) T).1 hd hrp
      | ok kvs m4 =>
        rw [e5] at p
        intro ws F4 H4 fp4 q4 S4 s4 o4 n4 f4
        obtain ⟨U4, k4⟩ := S3.unprotect (q := q3) (fun a ha => ⟨(f3 a ha).1, o3.there _ _ _ a ha⟩) S4
        have o5 : Own K F4 H4 s u q3 := o3.keep s4 _ _ _ fun a ha => (k4 a ha).1
        refine p (u :: ws) F4 H4 fp4 (q3 ++ q4) U4 (c2.ext.trans (s3.trans s4)) ⟨u, ws, q3, q4, rfl, o5, o4, rfl⟩ (nodup_mk n3 n4 fun a ha hb => ?_) fun a ha => ?_
        · have := (f4 a hb).2.1
          rw [addF_in ha] at this
          exact o3.there _ _ _ a ha this
        · rcases List.mem_append.mp ha with z | z
          · exact ⟨(k4 a z).2.1, (f3 a z).2.1, (k4 a z).2.2⟩
          · refine ⟨(f4 a z).1, ?_, (f4 a z).2.2⟩
            have h := (f4 a z).2.1
            by_cases y : a ∈ q3
            · rw [addF_in y] at h; exact absurd h (o3.there _ _ _ a y)
            · rw [addF_out y] at h; exact h
structure DR (X : Cx) (K : Kf) (mg : Str → Option Value) (E : XS) (es : List Expr) (t : TA) (g : M → Out (List SV)) : Prop where
  pe : PA X es t
  ok : TRok K mg E t g
theorem dr_nil : DR X K mg E [] tNil dRaw0 := ⟨pa_nil, tr_nil⟩
theorem dr_cons {ts : TA} {gs : M → Out (List SV)} (h : DE X K mg E a pa ta ga) (h2 : DR X K mg E es ts gs) (he : starEach (a :: es) X.env = (false, eval a X.env) :: starEach es X.env := by rfl) : DR X K mg E (a :: es) (tCons ta ts) (dRaw ga gs) := ⟨pa_cons h.pe h2.pe he, tr_cons h.ok h2.ok⟩
def putSl : List Nat → List SV → M → Out Unit
  | [], [], m => .ok () m
  | i :: is, s :: ss, m => if i < m.sl.length then putSl is ss { m with sl := m.sl.set i (some (.sv s)) } else .bad
  | _, _, _ => .bad
def dPar (is : List Nat) (g : M → Out (List SV)) (m : M) : Out Ctl := (g m).bind fun ss m1 => match putSl is ss m1 with
  | .ok _ m2 => .ok .nx m2
  | _ => .bad
def setSt : List Nat → List V → L2.St → L2.St
  | i :: is, v :: vs, σ => setSt is vs (σ.set i (some v))
  | _, _, σ => σ
theorem putSl_ok {F0 G : Hp} {π : List V} {F H : Hp} : ∀ {is : List Nat} {ss : List SV} {vs : List V} {q : List Addr} {m m' : M} {σ : L2.St} {fp : Ow → List Addr}, StF K F0 G π m σ F H fp → OwnL K F H ss vs q → q.Nodup → (∀ a ∈ q, F a = none ∧ G a = none ∧ ∀ o, a ∉ fp o) → putSl is ss m = .ok () m' →
    ∃ fp', StF K F0 G π m' (setSt is vs σ) F H fp' ∧ vs.length = is.length
  | [], [], vs, q, m, m', σ, fp, S, o, nd, fr, e => by
    have := o.1
    subst this
    cases e
    exact ⟨fp, S, rfl⟩
  | [], s :: ss, vs, q, m, m', σ, fp, S, o, nd, fr, e => by cases e
  | i :: is, [], vs, q, m, m', σ, fp, S, o, nd, fr, e => by cases e
  | i :: is, s :: ss, vs, q, m, m', σ, fp, S, ⟨v, r, q1, q2, hv, h1, h2, hq⟩, nd, fr, e => by
    subst hv hq
    unfold putSl at e
    by_cases hi : i < m.sl.length
    · rw [if_pos hi] at e
      obtain ⟨n1, n2, n3⟩ := nodup_app nd
      have T := S.store i (some (.sv s)) (some v) q1 (fun s' e => by cases e; exact ⟨v, rfl, h1⟩) (fun h => absurd rfl (h s)) (fun k e => by cases e) n1 (fun a ha => ⟨(fr a (List.mem_append_left _ ha)).1, (fr a (List.mem_append_left _ ha)).2.1, fun o _ => (fr a (List.mem_append_left _ ha)).2.2 o⟩) (.inl hi)
      have nz : ∀ a ∈ q2, ∀ o, a ∉ (if o = Ow.s i then if i < m.sl.length then q1 else [] else fp o) := fun a ha o z => by
        by_cases eo : o = .s i
        · rw [if_pos eo, if_pos hi] at z
          exact n3 a z ha
        · rw [if_neg eo] at z
          exact (fr a (List.mem_append_right _ ha)).2.2 o z
      obtain ⟨fp', S', hl⟩ := putSl_ok T h2 n2 (fun a ha => ⟨(fr a (List.mem_append_right _ ha)).1, (fr a (List.mem_append_right _ ha)).2.1, nz a ha⟩) e
      exact ⟨fp', S', by simp [hl]⟩
    · rw [if_neg hi] at e; cases e
theorem ts_par {ts : TA} {g : M → Out (List SV)} {is : List Nat} {q : Ends → L2.St → List V → Hp → Prop} (hq : ∀ D σ vs H, vs.length = is.length → D.nx (setSt is vs σ) H → q D σ vs H) (h : TRok K mg E ts g) : TSok K mg E (fun D σ H => ts σ H (q D σ)) (dPar is g) := fun F0 G π m σ F H fp Dn S p => by
  refine h F0 G π m σ F H fp _ S ?_
  unfold dPar at p
  cases e : g m with
  | bad => rw [e] at p; exact p
  | exc c d m' => rw [e] at p; exact p σ
  | ok ss m1 =>
    rw [e] at p
    intro vs F' H' fp' q S' _ o nd fr
    have p : PostS K mg E F0 G π Dn (match putSl is ss m1 with
      | .ok _ m2 => .ok .nx m2
      | _ => .bad) := p
    cases e2 : putSl is ss m1 with
    | bad => rw [e2] at p; exact p.elim
    | exc c d m' => rw [e2] at p; exact p.elim
    | ok u m2 =>
      rw [e2] at p
      obtain ⟨fp2, S2, hl⟩ := putSl_ok S' o nd fr e2
      exact hq Dn σ vs H' hl (p _ F' H' fp2 S2)
theorem ts_par2 {ts : TA} {g : M → Out (List SV)} {i j : Nat} (h : TRok K mg E ts g) : TSok K mg E (tPar i j ts) (dPar [i, j] g) :=
  ts_par (is := [i, j]) (q := fun D σ vs H1 => ∃ v w, vs = [v, w] ∧ D.nx ((σ.set i (some v)).set j (some w)) H1) (fun D σ vs H hl z => match vs, hl, z with | [v, w], _, z => ⟨v, w, rfl, z⟩) h
theorem ts_par3 {ts : TA} {g : M → Out (List SV)} {i j l : Nat} (h : TRok K mg E ts g) : TSok K mg E (tPar3 i j l ts) (dPar [i, j, l] g) :=
  ts_par (is := [i, j, l]) (q := fun D σ vs H1 => ∃ u v w, vs = [u, v, w] ∧ D.nx (((σ.set i (some u)).set j (some v)).set l (some w)) H1) (fun D σ vs H hl z => match vs, hl, z with | [u, v, w], _, z => ⟨u, v, w, rfl, z⟩) h
theorem ds_par2 (C : Cxt X P w KX K mg base n E) (i j : Nat) {y : Str} {ts : TA} {g : M → Out (List SV)} {px py pt : Pos} {kt k2 : Nat} {pt2 : Pos} (h : DR X K mg E [a, b] ts g) (hi : X.N[i]? = some x := by rfl) (hj : X.N[j]? = some y := by rfl) (hij : i ≠ j := by decide)
    (hx : X.env.scope.names.lookup x = some .local := by rfl) (hy : X.env.scope.names.lookup y = some .local := by rfl)
    (hw : swappedStores [.Tuple [.Name x px, .Name y py] kt pt] (.Tuple [a, b] k2 pt2) X.env = pure (some [x, y]) := by rfl)
    (hs : swapsWithSole [.Tuple [.Name x px, .Name y py] kt pt] (.Tuple [a, b] k2 pt2) pos.line X.env = pure false := by rfl) :
    DS X K mg E (.Assign [.Tuple [.Name x px, .Name y py] kt pt] (.Tuple [a, b] k2 pt2) pos) (tPar i j ts) (dPar [i, j] g) := ⟨ps_par C.calm C.nd hi hj hij hx hy h.pe hw hs, ts_par2 h.ok⟩
theorem ds_par3 (C : Cxt X P w KX K mg base n E) (i j l : Nat) {y z : Str} {ts : TA} {g : M → Out (List SV)} {px py pz pt : Pos} {kt k2 : Nat} {pt2 : Pos} (h : DR X K mg E [a, b, c] ts g) (hi : X.N[i]? = some x := by rfl) (hj : X.N[j]? = some y := by rfl) (hl : X.N[l]? = some z := by rfl) (hij : i ≠ j := by decide) (hil : i ≠ l := by decide) (hjl : j ≠ l := by decide)
    (hx : X.env.scope.names.lookup x = some .local := by rfl) (hy : X.env.scope.names.lookup y = some .local := by rfl) (hz : X.env.scope.names.lookup z = some .local := by rfl)
    (hw : swappedStores [.Tuple [.Name x px, .Name y py, .Name z pz] kt pt] (.Tuple [a, b, c] k2 pt2) X.env = pure (some [x, y, z]) := by rfl)
    (hs : swapsWithSole [.Tuple [.Name x px, .Name y py, .Name z pz] kt pt] (.Tuple [a, b, c] k2 pt2) pos.line X.env = pure false := by rfl) :
    DS X K mg E (.Assign [.Tuple [.Name x px, .Name y py, .Name z pz] kt pt] (.Tuple [a, b, c] k2 pt2) pos) (tPar3 i j l ts) (dPar [i, j, l] g) := ⟨ps_par3 C.calm C.nd hi hj hl hij hil hjl hx hy hz h.pe hw hs, ts_par3 h.ok⟩
end
end PD
namespace PD
open PySem PySem.Spec PyProof.Rows L2
/-! ## own exceptions: class X(..): def __init__(self, thing): self.thing = thing -/
def thA (p1 p2 : Pos) : Arguments := { posonlyargs := [], args := [{ arg := "self", annotation := none, pos := p1 }, { arg := "thing", annotation := none, pos := p2 }], vararg := none, kwonlyargs := [], kw_defaults := [], kwarg := none, defaults := [] }
def thB (q1 q2 q3 q4 : Pos) : List Stmt := [.Assign [.Attribute (.Name "self" q1) "thing" q2] (.Name "thing" q3) q4]
def thS : Scope := { kind := .function, names := [(PySem.Str.ofString "self", .local), (PySem.Str.ofString "thing", .local)], isGenerator := false, isCoroutine := false, more := [] }
abbrev exTail : List Value := [.type "Exception", .type "BaseException", .type "object"]
/-- what the written part says of such a class x, at C, its __init__ at fI -/
structure ThC (K : Kf) (mg : Str → Option Value) (x qi : Str) (C fI : Addr) : Prop where
  gC : mg x = some (.ref C)
  ini : PySem.W.excInitIn K C exTail "Exception.__new__" = true
  ovr : PySem.W.excOver K C exTail = true
  iC : PySem.W.findIn K (.ref C) "__init__" = some (some (.ref fI))
  sa : PySem.W.findIn K (.ref C) "__setattr__" = some (some (.builtin "object.__setattr__"))
  tkr : PySem.W.takerIn K C "thing" = some none
  noT : PySem.W.findIn K (.ref C) "thing" = some none
  hd : PySem.W.hasDictIn K C = true
  kC : PySem.W.keepIn K (.ref C) = true
  exC : PySem.W.subIn K (.ref C) (.type "BaseException") = some true
  tyC : PySem.W.typeIn K (.ref C) = some (.type "type")
  tI : PySem.W.typeIn K (.ref fI) = some (.type "function")
  ga : PySem.W.findIn K (.ref C) "__getattribute__" = some (some (.builtin "BaseException.__getattribute__"))
  gg : PySem.W.findIn K (.ref C) "__getattr__" = some none
  cl : PySem.W.findIn K (.ref C) "__class__" = some (some (.builtin "object.__class__"))
  mr : PySem.W.mroIn K C (.type "object") = some true
  fn : ∃ (oc : Value) (od : Option Addr) (doc pm : Value) (an : Option Addr) (cdv ct : Value) (osl : Array (Option Value)) (p1 p2 q1 q2 q3 q4 : Pos),
    K.lookup fI = some ⟨oc, od, .func (PySem.W.fnOf "__init__" qi (thA p1 p2) (thB q1 q2 q3 q4) thS .none .none doc pm an cdv ct), osl⟩ ∧ PySem.W.codeIn K cdv qi = true
/-- what __init__ leaves -/
structure ThEnd (h h' : Heap) (x C dx t1 : Addr) (v : Value) : Prop where
  keep : ∀ b o, b ≠ x → h.get? b = some o → h'.get? b = some o
  obj : h'.get? x = some (PySem.W.excObj C t1 (some dx) .none)
  dbig : h.objs.size ≤ dx
  dne : dx ≠ x
  ns : h'.Ns1 dx (fun y => if y = "thing" then some v else none)
section
variable {prog : Program} {w : World} {A : Around} {E : Value → Shared → Prop} {R : Result → Shared → Prop} {s : Shared} {K : Kf} {mg : Str → Option Value} {x0 qi : Str} {C fI : Addr}
/-- the first store into an exception -/
theorem th_store {hp : Heap} {g : Array GenState} {d : Drawn} {t : Nat} {os : OsState} {name : Str} {tk : Tok} {v : Value} {x t0 : Addr} (X : K.In hp) (hx : hp.get? x = some (PySem.W.excObj C t0 none .none)) (hp' : PySem.W.excOver K C exTail = true)
    (ht : PySem.W.takerIn K C name = some none) (hh : PySem.W.hasDictIn K C = true)
    (hq : ∀ h' tk' dx, (∀ b o, b ≠ x → hp.get? b = some o → h'.get? b = some o) → hp.objs.size ≤ dx → dx ≠ x → h'.get? x = some (PySem.W.excObj C t0 (some dx) .none) → h'.Ns1 dx (fun y => if y = name then some v else none) → R (.ok (.ret .none)) ⟨h', g, d, tk', os⟩) :
    codeAny (model prog w) A (.call (.builtin "object.__setattr__") ⟨[.ref x, .str name tk, v], []⟩) R ⟨hp, g, d, t, os⟩ := by
  have hxs : x ≠ hp.objs.size := Nat.ne_of_lt (Heap.lt_size hx)
  refine PySem.W.osa_openX (od := none) PySem.F.store_Exception X ⟨hx, rfl, rfl, trivial⟩ hp' ht fun b => ?_
  obtain ⟨cd, hc, hd'⟩ := PySem.W.any_some hh
  refine wpAny_bind (wpAny_pure (wpAny_bind (PySem.W.instanceDict_exc hx (PySem.W.looks_clsIn X hc) hd' ?_)))
  show wpAny _ _ (Builtin.ObjectAttr.storeInDict hp.objs.size (.str name tk) name v) _ _ _
  refine PySem.HandSPX.store_in_new ⟨_, #[], _, (Heap.get?_update_ne _ _ _ _ hxs.symm).trans (Heap.get?_push_at rfl rfl), rfl, fun e he => absurd he (by simp), fun _ => rfl⟩ fun h' tk' hn' hs => ?_
  have h1 : (hp.push (PySem.W.dictOf [] 0)).get? x = some (PySem.W.excObj C t0 none .none) := Heap.get?_push_of_some _ hx
  refine hq h' tk' hp.objs.size (fun b o hb ho => ?_) (Nat.le_refl _) hxs.symm ?_ hn'
  · have h2 := hs.2 b (Nat.ne_of_lt (Heap.lt_size ho))
    exact h2.trans ((Heap.get?_update_ne _ _ _ _ hb).trans (Heap.get?_push_of_some _ ho))
  · exact (hs.2 x hxs).trans (Heap.get?_update_self _ h1 rfl)
theorem th_load {M : Model} {sh : Shared} {nm : Str} {sc : Scope} {L a : Addr} {cd : Value} {m : Str → Option Value} {y : Str} {ps : Pos} {u : Value} {Q : Value → Shared → Prop} (hn : sh.heap.Ns L m) (hv : m y = some u) (h : Q u sh)
    (hk : sc.kind = .function := by rfl) (hl : (PyProof.Rows.envOfC nm sc L a cd).kindOf y = some .local := by rfl) (hd : (y == ("__debug__" : Str)) = false := by decide) :
    wpAny M A (eval (.Name y ps) (PyProof.Rows.envOfC nm sc L a cd)) Q E sh := wpAny_Name (wpAny_loadName_local hk hl hn hv h) hd
theorem th_init (T : ThC K mg x0 qi C fI) {x t0 : Addr} {v : Value} (X : K.In s.heap) (hlim : s.heap.NoLimit) (hx : s.heap.get? x = some (PySem.W.excObj C t0 none .none)) (hroom : A.depth < recursionLimit)
    (hq : ∀ h' tk dx, ThEnd s.heap h' x C dx t0 v → R (.ok (.ret .none)) { s with heap := h', toks := tk }) : codeAny (model prog w) A (.call (.ref fI) ⟨[.ref x, v], []⟩) R s := by
  obtain ⟨oc, od, doc, pm, an, cdv, ct, osl, p1, p2, q1, q2, q3, q4, ho, hcd⟩ := T.fn
  refine Att.call_fn (binds := [("self", .ref x), ("thing", v)]) X hlim ho hcd hroom (BindsTo.of_eq (by first | rfl | with_unfolding_all rfl)) (by first | rfl | decide | with_unfolding_all rfl) (fun s₁ IC => ?_) rfl rfl rfl
  obtain ⟨h₁, tk₁, rfl⟩ := IC.toInCall.same
  have k := IC.toInCall.keep
  have hn := IC.toInCall.ns
  show wpAny _ _ (execs _ _) _ _ _
  refine wpAny_execs_cons (plainObj_wpAny_Assign_Attribute ?_)
  refine th_load (u := v) hn (by first | rfl | with_unfolding_all rfl | kernel_rfl) (th_load (u := .ref x) hn (by first | rfl | with_unfolding_all rfl | kernel_rfl) ?_)
  refine PySem.W.set_plain (X.keeps k) (ox := PySem.W.excObj C t0 none .none) (od := none) ⟨k _ _ hx, rfl, rfl, trivial⟩ T.sa ?_
  refine th_store (X.keeps k) (k _ _ hx) T.ovr T.tkr T.hd fun h₃ tk₃ dx k₃ dn dne hx₃ hn₃ => ?_
  show wpAny _ _ (execs _ _) _ _ _
  have z : s.heap.objs.size < h₁.objs.size := hn.lt
  exact wpAny_execs_nil (hq h₃ tk₃ dx ⟨fun b o hb e => k₃ b o hb (k b o e), hx₃, Nat.le_of_lt (Nat.lt_of_lt_of_le z dn), dne, hn₃⟩)
/-- a made exception -/
structure ThMade (h h' : Heap) (e C d : Addr) (v : Value) : Prop where
  keep : ∀ b o, h.get? b = some o → h'.get? b = some o
  new : h.objs.size ≤ e
  obj : ∃ oe vs, h'.get? e = some oe ∧ oe.cls = .ref C ∧ oe.dict = some d ∧ oe.data = .fields vs ∧ vs[1]? = some .none
  dbig : h.objs.size ≤ d
  dne : d ≠ e
  ns : h'.Ns1 d (fun y => if y = "thing" then some v else none)
theorem th_made (T : ThC K mg x0 qi C fI) {v : Value} (X : K.In s.heap) (hlim : s.heap.NoLimit) (hroom : A.depth + 1 < recursionLimit)
    (hq : ∀ h' tk e d, ThMade s.heap h' e C d v → R (.ok (.ret (.ref e))) { s with heap := h', toks := tk }) : codeAny (model prog w) A (.call (.ref C) ⟨[v], []⟩) R s := by
  obtain ⟨nm, N, qn, bs, bm, hdct, sn, sub, ab, col, dd, k0, k1, k2, k3, k5, hC, hT⟩ := PySem.W.excInit_of X T.ini
  obtain ⟨hp, g, dr, tk, os⟩ := s
  have k : ∀ b o, hp.get? b = some o → ((hp.push (PySem.W.kdv_tup [v])).push (PySem.HandSPX.excO C hp.objs.size)).get? b = some o := fun b o e => Heap.get?_push_of_some _ (Heap.get?_push_of_some _ e)
  have hg : ((hp.push (PySem.W.kdv_tup [v])).push (PySem.HandSPX.excO C hp.objs.size)).get? (hp.objs.size + 1) = some (PySem.W.excObj C hp.objs.size none .none) := by heap_get
  have one : [v].length ≤ sizeLine := by rw [sizeLine_eq]; exact (by decide : 1 ≤ 16777216)
  refine PySem.HandSPX.call_own PySem.F.excBase_Exception hT hC (PySem.W.looks_findIn X T.iC) (fun self => PySem.W.bind_fn X self T.tI) one ?_
  refine th_init (s := ⟨(hp.push (PySem.W.kdv_tup [v])).push (PySem.HandSPX.excO C hp.objs.size), g, dr, tk, os⟩) T (X.keeps k) (hlim.keeps k) hg ?_ fun h' tk' dx ⟨k', hx, dn, dne, hns⟩ => ?_
  · show A.depth + 1 < recursionLimit
    exact hroom
  · have old : ∀ b o, hp.get? b = some o → h'.get? b = some o := fun b o e => k' b o (Nat.ne_of_lt (Nat.lt_succ_of_lt (Heap.lt_size e))) (k b o e)
    have z : hp.objs.size + 1 + 1 ≤ dx := by
      have q := dn
      first
        | exact q
        | (rw [Heap.size_push, Heap.size_push] at q; exact q)
    exact ⟨rfl, hq h' tk' (hp.objs.size + 1) dx ⟨old, Nat.le_succ _, ⟨_, _, hx, rfl, rfl, rfl, rfl⟩, Nat.le_trans (Nat.le_trans (Nat.le_succ _) (Nat.le_succ _)) z, dne, hns⟩⟩
end
theorem relO_th {v : V} {v' : Value} (r : RelV v v') (f : Str) : RelO (List.lookup f [(("thing" : Str), v)]) (if f = "thing" then some v' else none) := by
  by_cases hw : f = "thing"
  · subst hw
    rw [if_pos rfl, show List.lookup ("thing" : Str) [(("thing" : Str), v)] = some v by simp [List.lookup]]
    exact r
  · rw [if_neg hw, show List.lookup f [(("thing" : Str), v)] = none by simp [List.lookup, show (f == ("thing" : Str)) = false by simpa using hw]]
    trivial
section
variable {X : Cx} {P : Program} {w : World} {KX K : Kf} {mg : Str → Option Value} {base : Heap} {n : Nat} {E : XS} {pa pb pc pu : Bool} {ta tb tc te : TE} {ga gb gc ge : M → Out EV} {a b c e : Expr} {es : List Expr} {pos p p2 pos2 : Pos} {x qi : Str} {C fI : Addr}
def tMkTh (C : Addr) (ta : TA) : L2.St → Hp → XK → Prop := fun σ H Q => ta σ H fun vs H1 => ∃ v, vs = [v] ∧ ∀ d, H1 d = none → Q (.ref C) (some d) (upd H1 d (.xd [(("thing" : Str), v)]))
theorem pmk_th {ta : TA} {k : Nat} (T : ThC X.K X.mg x qi C fI) (hr : Room k X.A) (ha : PA X [a] ta) (hg : Gl X x) (hdb : (x == ("__debug__" : Str)) = false := by decide)
    (he : starEach (a :: []) X.env = (false, eval a X.env) :: starEach [] X.env := by rfl) (hpl : (backTo pos (starEach [] X.env)).any (·.1) = false := by rfl) : PMk X (.Call (.Name x p) [a] [] pos) (tMkTh C ta) := by
  intro pins s σ H Q I h
  refine wpAny_Call_Name_kw (ld_glob I hg T.gC ?_ hdb)
  refine PySem.W.callWith_K (h₀ := X.base) I.ok.mod.kin T.kC (thn (ha.run pos pins s σ H _ I h) fun us s1 hh => ?_) he hpl
  obtain ⟨vs, H1, I1, r1, v, rfl, q1⟩ := hh
  refine ⟨I1.kIn, ?_⟩
  obtain ⟨v', rfl, rv⟩ := vals1 r1
  show wpAny _ _ (call (.ref C) [v']) _ _ _
  have hlim := I1.nolimit
  obtain ⟨hp, g, dr, tk, os⟩ := s1
  refine wpAny_call (th_made T I1.kIn hlim (by have := hr.dp; omega) fun h' tk' e d M => ?_)
  show MkP X pins σ Q (.ref e) ⟨h', g, dr, tk', os⟩
  obtain ⟨oe, fv, hoe, hc, hd, hdat, h1⟩ := M.obj
  obtain ⟨G', g1, g2⟩ := restrict h' fun b => decide (b ≠ e)
  have gk : ∀ b, b ≠ e → G'.get? b = h'.get? b := fun b hb => g1 b (decide_eq_true hb)
  have ge : G'.get? e = none := g2 e (by simp)
  have old : ∀ b o, hp.get? b = some o → G'.get? b = some o := fun b o q => (gk b (Nat.ne_of_lt (Nat.lt_of_lt_of_le (Heap.lt_size q) M.new))).trans (M.keep b o q)
  have J : Inv X pins σ (upd H1 d (.xd [(("thing" : Str), v)])) ⟨G', g, dr, tk', os⟩ := I1.laid (t' := tk') old M.dbig ⟨_, M.ns.at (fun o q => (gk d M.dne).trans q), fun f => relO_th rv f⟩
  refine ⟨e, oe, fv, ⟨G', g, dr, tk', os⟩, _, .ref C, some d, rfl, J, fun b o q => ?_, ge, hoe, ⟨hc, hd⟩, hdat, h1, ?_, rfl, I1.bare, raises_own T.exC T.tyC, q1 d (I1.hok.fresh M.dbig)⟩
  · by_cases hb : b = e
    · have q' : G'.get? b = some o := q
      rw [hb, ge] at q'; cases q'
    · exact (gk b hb).symm.trans q
  · rw [upd_ne (Ne.symm M.dne)]
    exact I1.hok.fresh M.new
/-- raise X(e) -/
def dRaise (c : Str) (g : M → Out EV) (m : M) : Out Ctl := (g m).bind fun ev m1 => (dFzE m1 ev).bind fun d m2 => .exc c d m2
theorem ts_raise {K : Kf} {mg : Str → Option Value} {ta : TE} {ga : M → Out EV} {c : Str} {C : Addr} (h : TEok K mg E pa ta ga) (hc : mg c = some (.ref C)) : TSok K mg E (fun _ σ H => tMkTh C (tCons ta tNil) σ H fun cls d H' => E σ cls d H') (dRaise c ga) := fun F0 G π m σ F H fp Dn S p => by
  refine h F0 G π m σ F H fp _ S ?_
  unfold dRaise at p
  cases e : ga m with
  | bad => rw [e] at p; exact p
  | exc c d m' => rw [e] at p; exact p σ
  | ok ev m1 =>
    rw [e] at p
    intro v F' H' fp' S' _ ev'
    have p : PostS K mg E F0 G π Dn ((dFzE m1 ev).bind fun d m2 => .exc c d m2) := p
    refine ⟨v, rfl, fun d hd => ?_⟩
    cases e2 : dFzE m1 ev with
    | bad => rw [e2] at p; exact p.elim
    | exc c d m' => exact (fzE_exc e2).elim
    | ok dd m2 =>
      rw [e2] at p
      obtain ⟨F2, fp2, S2, r, _⟩ := fzE_ok S' ev' e2
      exact p σ C d v F2 _ fp2 hc (S2.allocO (.xd [(("thing" : Str), v)]) hd) upd_same r
end
end PD
namespace PD
open PySem PySem.Spec PyProof.Rows L2
/-! ## try: body, several clauses except X as n -/
/-- a suite's ends: the name n (slot i) is gone behind it -/
def behind (i : Nat) (D : Ends) : Ends := { nx := fun σ H => D.nx (σ.set i none) H, rt := D.rt, bk := fun σ H => D.bk (σ.set i none) H, ct := fun σ H => D.ct (σ.set i none) H }
abbrev Hd := Value × Nat × (Addr → Value → Option Addr → TS)
def wMAs (K : Kf) (Wo : WX) (D : Ends) : List Hd → WX
  | [] => Wo
  | (c, i, ts) :: r => fun cls d σ H => ∃ b, PySem.W.exmOne K cls c = some b ∧ (b = true → ∀ a, H a = none → ts a cls d (behind i D) (σ.set i (some (.ref a))) H) ∧ (b = false → wMAs K Wo D r cls d σ H)
inductive HdAs (X : Cx) : List ExceptHandler → List Hd → Prop
  | nil : HdAs X [] []
  | cons {x n : Str} {i : Nat} {c : Value} {ts : Addr → Value → Option Addr → TS} {b₀ : Stmt} {suite : List Stmt} {np p' : Pos} {hs : List ExceptHandler} {l : List Hd} (hi : X.N[i]? = some n) (hl : X.env.kindOf n = some .local) (hc : Names X x c)
      (hsu : ∀ (a : Addr) (oe : Obj) (cls : Value) (d : Option Addr) (pn : List (Addr × Obj)), Zc cls d oe → (∃ vs, oe.data = .fields vs) → PSs (X.suite a ((a, oe) :: pn)) (b₀ :: suite) (ts a cls d)) (r : HdAs X hs l) :
      HdAs X (.ExceptHandler (some (.Name x np)) (some n) (b₀ :: suite) p' :: hs) ((c, i, ts) :: l)
section
variable {X : Cx} {body : List Stmt} {h₀ : ExceptHandler} {hds : List ExceptHandler} {l : List Hd} {pos : Pos} {tb : WX → TS} {Wo : WX}
theorem ps_try_asMany (st : X.stack = X.env :: X.outer) (fr : X.env.frame = some X.env.locals) (hN : X.N.Nodup) (tk : Takes X Wo)
    (hb : ∀ (W : WX) (pn : List (Addr × Obj)) (xe : Value → Shared → Prop), Takes (X.tr pn xe) W → PassesOwn (model X.prog X.w) X.A X.env xe → PSs (X.tr pn xe) body (tb W))
    (hh : HdAs X (h₀ :: hds) l) : PS X (.Try body (h₀ :: hds) [] [] pos) (fun D σ H => tb (wMAs X.K Wo D l) D σ H) := by
  refine ⟨fun pins s0 σ H D I h => wpAny_Try_except (wpAny_mono ((hb (wMAs X.K Wo D l) (X.pn ++ pins) _ (fun u s' flight => ?_) PassesOwn.looking).run [] s0 σ H D (I.toTry _) h) (fun f s1 ended => ?_) (fun e s1 he => he))⟩
  · obtain ⟨a, B, sI, pins', σ1, H1, cls, d, rfl, J0, nb, up, sky, na, os, ag, w⟩ := flight
    have okX := I.ok
    have J := J0.ofTry okX
    rw [st] at sky
    show wpAny (model X.prog X.w) X.A (noteFrame (.ref a) X.env) _ _ _
    refine Sky.land Zc.steady (okX.frames.trans (congrArg some st)) fr sky fun h3 fl3 up3 => ?_
    have J3 := J.landed (s' := { s' with heap := h3 }) nb fl3.1 (up.trans up3) os ag
    obtain ⟨o3, v3, got3, z3, dat3⟩ := fl3.there
    have far : a ∉ frs (X.env :: X.outer) := fun hm => by
      obtain ⟨_, o', e', away⟩ := fl3.2.2.1.mem hm
      rw [got3] at e'; cases e'
      exact away _ dat3
    have aL : a ≠ X.env.locals := fun z => far (List.mem_filterMap.mpr ⟨X.env, List.mem_cons_self, by rw [fr, z]⟩)
    have aF : a ∉ X.fs := fun hm => by
      obtain ⟨en, hen, q⟩ := List.mem_filterMap.mp hm
      exact far (List.mem_filterMap.mpr ⟨en, List.mem_cons_of_mem _ hen, q⟩)
    have S3 := J3.suite got3 dat3 na aL aF
    suffices all : ∀ {hs' : List ExceptHandler} {l' : List Hd}, HdAs X hs' l' → wMAs X.K Wo D l' cls d σ1 H1 → wpAny (model X.prog X.w) X.A (handleBy (.ref a) X.env hs') (SP X pins D) X.xe { s' with heap := h3 } from all hh w
    intro hs' l' hk
    induction hk with
    | nil =>
      refine fun out => wpAny_handleBy_nil ?_
      obtain ⟨_, _, _, oe, vs, T, oT, ts', got, hz, hd, h1, hr⟩ := id fl3
      have fin : wpAny (model X.prog X.w) X.A (setFlight (.ref a) X.env.frame) (fun _ s4 => wpAny (model X.prog X.w) X.A (throw (.ref a) : Sem Flow) (SP X pins D) X.xe s4) X.xe { s' with heap := h3 } := by
        rw [fr]
        exact HandSPX.setFlight_upZ fl3 fun h4 hh4 up4 => wpAny_throw (tk _ _ ⟨a, B, sI, pins, σ1, H1, cls, d, rfl, J, nb, (up.trans up3).trans up4, .inr (.inr (by rw [st]; exact hh4)), na, os, ag, out⟩)
      unfold PySem.passOn
      refine wpAny_bind (wpAny_field got hd h1 ?_)
      rw [if_neg (by simp : ¬ ((Value.ref T == Value.none) = true))]
      first
        | exact wpAny_bind (wpAny_pure (wpAny_bind fin))
        | exact wpAny_bind fin
    | @cons x n i c ts b₀ suite np p' hs2 l2 hi hl hc hsu r ih =>
      rintro ⟨b, hit, yes, no⟩
      have LT : PySem.W.Looks (model X.prog X.w) h3 (typeOf (.ref a)) cls := fun A Q E s k q => wpAny_typeOf_ref (k _ _ got3) (by rw [z3.1]; exact q)
      have LM := PySem.W.exm_one (M := model X.prog X.w) J3.kIn LT hit
      refine wpAny_handleBy_cons (codeAny_handlers_test ?_) (by intro q; cases q)
      have ask : ∀ {Q E : Value → Shared → Prop}, Q c { s' with heap := h3 } → wpAny (model X.prog X.w) (X.A.mark (some (.ref a))) (eval (.Name x np) X.env) Q E { s' with heap := h3 } := fun {Q E} q =>
        match hc with
        | ⟨g, db, .inl m⟩ => ld_glob (X := X.suite a ((a, o3) :: (X.pn ++ pins))) S3 g m q db
        | ⟨g, db, .inr ⟨m, bv, nn⟩⟩ => ld_blt (X := X.suite a ((a, o3) :: (X.pn ++ pins))) S3 g m bv q nn db
      refine ask (LM.here ?_)
      cases b with
      | false =>
        show wpAny _ X.A (handleBy (.ref a) X.env hs2) _ _ _
        exact ih (no rfl)
      | true =>
        refine codeAny_handlers_suite_as (HandSPX.lands_againZ fl3 fun h4 fl4 up4 => ?_)
        have J4 := J.landed (s' := { s' with heap := h4 }) nb fl4.1 ((up.trans up3).trans up4) os ag
        obtain ⟨o4, v4, got4, z4, dat4⟩ := fl4.there
        refine store_ok (X := X.suite a ((a, o4) :: (X.pn ++ pins))) (v := .ref a) (J4.suite got4 dat4 na aL aF) hN hi (.inl hl) rfl (fun s5 S5 => ?_) (.inr hl)
        refine wpAny_mono ((hsu a o4 cls d (X.pn ++ pins) z4 ⟨_, dat4⟩).run [] s5 _ H1 _ S5 (yes rfl a na)) (fun f s6 ended => ?_) (fun _ _ z => z.elim)
        have gone : ∀ {σ6 : L2.St} {H6 : Hp} {Q : Shared → Prop}, Inv (X.suite a ((a, o4) :: (X.pn ++ pins))) [] σ6 H6 s6 → (∀ s7, Inv X pins (σ6.set i none) H6 s7 → Q s7) →
            wpAny (model X.prog X.w) X.A (do bindName X.env n .none; unbindBehindTheSuite X.env n p') (fun _ s7 => Q s7) X.xe s6 := fun S6 hq => gone_ok (S6.unsuite okX) hN hi hl hq
        cases f with
        | next => exact let ⟨_, _, S6, q6⟩ := ended; gone S6 fun s7 J7 => ⟨_, _, J7, q6⟩
        | brk => exact let ⟨_, _, S6, q6⟩ := ended; gone S6 fun s7 J7 => ⟨_, _, J7, q6⟩
        | cont => exact let ⟨_, _, S6, q6⟩ := ended; gone S6 fun s7 J7 => ⟨_, _, J7, q6⟩
        | ret u => exact let ⟨_, _, _, S6, r6, q6⟩ := ended; gone S6 fun s7 J7 => ⟨_, _, _, J7, r6, q6⟩
  · cases f with
    | next => exact let ⟨_, _, J', q⟩ := ended; wpAny_execs_nil ⟨_, _, J'.ofTry I.ok, q⟩
    | brk => exact let ⟨_, _, J', q⟩ := ended; ⟨_, _, J'.ofTry I.ok, q⟩
    | cont => exact let ⟨_, _, J', q⟩ := ended; ⟨_, _, J'.ofTry I.ok, q⟩
    | ret u => exact let ⟨_, _, _, J', r, q⟩ := ended; ⟨_, _, _, J'.ofTry I.ok, r, q⟩
end
/-! ### isinstance(e, R) of the exception that is held -/
/-- what isinstance asks of a built-in thing -/
structure ThG (K : Kf) : Prop where
  hn : PySem.W.specialIn K (.builtin "object.__class__") "__get__" = some (some (.builtin "getset_descriptor.__get__"))
  ht : PySem.W.takesIn K (.builtin "object.__class__") = some true
def rIsT (K : Kf) (C a : Addr) (cls : Value) (d : Option Addr) : List V → Hp → VK → Prop := fun xs H Q => ∃ (R dd : Addr) (fs : List (Str × V)) (b : Bool), xs = [.ref a, .ref R] ∧ cls = .ref C ∧ d = some dd ∧ H dd = some (.xd fs) ∧ PySem.W.kitOne K (.ref C) (.ref R) = some b ∧ Q (.bl b) H
section
variable {X : Cx} {mg : Str → Option Value} {x qi : Str} {C fI a : Addr} {oe : Obj} {cls : Value} {d : Option Addr} {pn : List (Addr × Obj)}
theorem call_isT (T : ThC X.K mg x qi C fI) (G : ThG X.K) (hz : Zc cls d oe) (hf : ∃ vs, oe.data = .fields vs) : CallR (X.suite a ((a, oe) :: pn)) (.builtin "isinstance") (rIsT X.K C a cls d) := by
  intro pins s σ H xs us Q I r h
  obtain ⟨R, dd, fs, b, rfl, rfl, rfl, hd, hk, q⟩ := h
  obtain ⟨u1, u2, rfl, r1, r2⟩ := vals2 r
  obtain rfl : u1 = .ref a := r1
  obtain rfl : u2 = .ref R := r2
  obtain ⟨got, _⟩ := I.pin (a, oe) (List.mem_append_left _ List.mem_cons_self)
  obtain ⟨vs, hv⟩ := hf
  obtain ⟨mA, hns, _⟩ := (show ObjOk X.prog X.w H s.heap dd (.xd fs) from I.hok dd _ hd)
  obtain ⟨od, ho, _⟩ := lookIn_ns hns
  have J : PySem.W.InstAt s.heap a oe C (some od) := ⟨got, hz.1, by unfold PySem.W.notCls; rw [hv] <;> rfl, by rw [hz.2]; exact ho⟩
  have hcl : (PySem.W.clsIn X.K C).isSome = true := by
    obtain ⟨cd, hc, _⟩ := PySem.W.any_some T.hd
    rw [hc]; rfl
  exact PySem.W.kia_one (PySem.W.kitx_exc (od := some od) hcl T.ga T.gg T.exC T.cl G.hn G.ht T.mr) I.kIn J hk (fun z => nomatch z) fun tk => ⟨.bl b, H, I.tok tk, rfl, q⟩
end
/-- return (t, e.thing, isinstance(e, R)) -/
def tCatch (K : Kf) (i : Nat) (C R : Addr) (t : Str) (a : Addr) (cls : Value) (d : Option Addr) : TS :=
  tRet (tTup (tCons (tC (.str t)) (tCons (tXf a cls d C "thing" (tVar i)) (tCons (tCB (rIsT K C a cls d) (tCons (tVar i) (tCons (tC (.ref R)) tNil))) tNil))))
structure Cl where
  x : Str
  C : Addr
  t : Str
def hdOf (K : Kf) (i : Nat) (R : Addr) (c : Cl) : Hd := (.ref c.C, i, tCatch K i c.C R c.t)
/-- the classes of the clauses, unrelated to each other, all beneath R -/
structure ExT (K : Kf) (mg : Str → Option Value) (R : Addr) (cs : List Cl) : Prop where
  g : ∀ c ∈ cs, mg c.x = some (.ref c.C)
  ex : ∀ c ∈ cs, ∀ e ∈ cs, PySem.W.exmOne K (.ref c.C) (.ref e.C) = some (decide (c.x = e.x))
  ki : ∀ c ∈ cs, PySem.W.kitOne K (.ref c.C) (.ref R) = some true
def tagOf (cs : List (Str × Str)) (c : Str) : Option Str := (cs.find? fun p => decide (p.1 = c)).map (·.2)
def dTry (i : Nat) (hs : List (Str × Str)) (gb : M → Out Ctl) (m : M) : Out Ctl := match gb m with
  | .exc c d m' => match tagOf hs c with
    | some t => if i < m'.sl.length then .ok (.rt (.fz (.tup [.str t, d, .bl true]))) { m' with sl := m'.sl.set i none } else .bad
    | none => .bad
  | r => r
section
variable {X : Cx} {P : Program} {w : World} {KX K : Kf} {mg : Str → Option Value} {base : Heap} {n : Nat} {E : XS}
theorem catch_ok {Wo : WX} {i : Nat} {R : Addr} {F0 G : Hp} {π : List V} {Dn : Ends} {c t : Str} {d : D} {m' : M} {C dx : Addr} {v : V} {σ' : L2.St} {F' H' : Hp} {fp' : Ow → List Addr} (S : StF K F0 G π m' σ' F' H' fp') (hd : H' dx = some (.xd [(("thing" : Str), v)])) (hr : Rep K F' d v) (hi : i < m'.sl.length)
    (p : PostS K mg E F0 G π Dn (.ok (.rt (.fz (.tup [.str t, d, .bl true]))) { m' with sl := m'.sl.set i none })) :
    ∀ cs all : List Cl, (∀ x ∈ cs, x ∈ all) → ExT KX mg R all → (∃ c0 ∈ all, c0.x = c ∧ c0.C = C) → tagOf (cs.map fun c => (c.x, c.t)) c = some t → wMAs KX Wo Dn (cs.map (hdOf KX i R)) (.ref C) (some dx) σ' H'
  | [], all, _, _, _, z => by cases z
  | e :: cs, all, sub, T, ⟨c0, m0, hx, hC⟩, z => by
    subst hx hC
    refine ⟨decide (c0.x = e.x), T.ex c0 m0 e (sub e List.mem_cons_self), fun hb a na => ?_, fun hb => ?_⟩
    · have he : c0.x = e.x := of_decide_eq_true hb
      have hC : c0.C = e.C := by
        have h1 := T.g c0 m0
        have h2 := T.g e (sub e List.mem_cons_self)
        rw [he, h2] at h1
        exact (Value.ref.inj (Option.some.inj h1)).symm
      have ht : e.t = t := by
        have : tagOf ((e :: cs).map fun c => (c.x, c.t)) c0.x = some e.t := by
          simp [tagOf, he]
        rw [this] at z
        cases z; rfl
      have hl : i < σ'.length := by rw [← S.len]; exact hi
      have gs : (σ'.set i (some (.ref a)))[i]? = some (some (.ref a)) := List.getElem?_set_self hl
      refine ⟨.ref a, gs, rfl, by rw [hC], dx, _, v, rfl, hd, by simp [List.lookup], .ref a, gs, R, dx, _, true, rfl, by rw [hC], rfl, hd, T.ki e (sub e List.mem_cons_self), (by rw [sizeLine_eq]; exact (by decide : 3 ≤ 16777216)), fun q hq => ?_⟩
      rw [ht]
      have S2 := (S.store i none (some (.ref a)) [] (fun s e => by cases e) (fun h => rfl) (fun k e => by cases e) List.nodup_nil (fun a h => by cases h) (.inr rfl)).allocF (.tup [.str t, v, .bl true]) hq
      exact p (.ref q) _ _ _ _ S2 ⟨[], ⟨⟨q, _, rfl, upd_same, _, _, rfl, rfl, _, _, rfl, hr.mono (same_new (same_none S.sub hq)) _ _, _, _, rfl, rfl, rfl⟩, rfl⟩, List.nodup_nil, fun a h => by cases h⟩
    · have he : ¬ c0.x = e.x := of_decide_eq_false hb
      refine catch_ok S hd hr hi p cs all (fun x hx => sub x (List.mem_cons_of_mem _ hx)) T ⟨c0, m0, rfl, rfl⟩ ?_
      have : ¬ e.x = c0.x := fun z => he z.symm
      simpa [tagOf, this] using z
theorem ts_try {i : Nat} {R : Addr} {cs : List Cl} {tb : WX → TS} {gb : M → Out Ctl} (T : ExT KX mg R cs) (hb : ∀ W : WX, TSok K mg (fun σ cls d H => W cls d σ H) (tb W) gb) :
    TSok K mg E (fun D σ H => tb (wMAs KX (fun cls d σ H => E σ cls d H) D (cs.map (hdOf KX i R))) D σ H) (dTry i (cs.map fun c => (c.x, c.t)) gb) := fun F0 G π m σ F H fp Dn S p => by
  refine hb _ F0 G π m σ F H fp Dn S ?_
  unfold dTry at p
  cases e : gb m with
  | bad => rw [e] at p; exact p
  | ok c m' => rw [e] at p; cases c <;> exact p
  | exc c d m' =>
    rw [e] at p
    have p : PostS K mg E F0 G π Dn (match tagOf (cs.map fun c => (c.x, c.t)) c with
      | some t => if i < m'.sl.length then .ok (.rt (.fz (.tup [.str t, d, .bl true]))) { m' with sl := m'.sl.set i none } else .bad
      | none => .bad) := p
    cases et : tagOf (cs.map fun c => (c.x, c.t)) c with
    | none => simp only [et] at p; exact p.elim
    | some t =>
      simp only [et] at p
      by_cases hi : i < m'.sl.length
      · rw [if_pos hi] at p
        intro σ' C dx v F' H' fp' hC S' hd hr
        have ⟨c0, m0, hx⟩ : ∃ c0 ∈ cs, c0.x = c := by
          unfold tagOf at et
          rw [Option.map_eq_some_iff] at et
          obtain ⟨q, h1, _⟩ := et
          have h2 := List.find?_some h1
          obtain ⟨c0, m0, e0⟩ := List.mem_map.mp (List.mem_of_find?_eq_some h1)
          subst e0
          exact ⟨c0, m0, of_decide_eq_true h2⟩
        have hc0 : c0.C = C := by
          have := T.g c0 m0
          rw [hx, hC] at this
          cases this; rfl
        exact catch_ok S' hd hr hi p cs cs (fun _ h => h) T ⟨c0, m0, hx, hc0⟩ et
      · rw [if_neg hi] at p; exact p.elim
end
end PD
namespace PD
open PySem PySem.Spec PyProof.Rows L2
section
variable {X : Cx} {P : Program} {w : World} {KX K : Kf} {mg : Str → Option Value} {base : Heap} {n : Nat} {E : XS} {pa pb pc pu : Bool} {ta tb tc te : TE} {ga gb gc ge : M → Out EV} {a b c e : Expr} {es : List Expr} {pos p p2 pos2 : Pos} {x qi : Str} {C0 fI : Addr}
theorem ds_raise (C : Cxt X P w KX K mg base n E) (T : ThC KX mg x qi C0 fI) (h : DE X K mg E a pa ta ga) (hg : Gl X x := by rfl) (hdb : (x == ("__debug__" : Str)) = false := by decide)
    (he : starEach (a :: []) X.env = (false, eval a X.env) :: starEach [] X.env := by rfl) (hpl : (backTo pos (starEach [] X.env)).any (·.1) = false := by rfl) :
    DS X K mg E (.Raise (some (.Call (.Name x p) [a] [] pos)) none pos2) (fun _ σ H => tMkTh C0 (tCons ta tNil) σ H fun cls d H' => E σ cls d H') (dRaise x ga) := by
  obtain ⟨rfl, rfl, rfl, up, rfl, rfl, room, calm, nd, hx, pw, tk⟩ := C
  exact ⟨ps_raise calm tk (pmk_th T room (pa_cons h.pe pa_nil he) hg hdb he hpl), ts_raise h.ok T.gC⟩
theorem hd_th (C : Cxt X P w KX K mg base n E) (T : ThC KX mg x qi C0 fI) (G : ThG KX) {R : Addr} {r v t : Str} {i : Nat} (hm : mg "isinstance" = none) (gR : mg r = some (.ref R)) {np p0 p3 p4 p5 p6 p7 p8 p9 p10 p' : Pos} {j jj : Nat} {hs : List ExceptHandler} {l : List Hd} (rest : HdAs X hs l)
    (hi : X.N[i]? = some v := by rfl) (hl : X.env.kindOf v = some .local := by rfl) (hg : Gl X x := by rfl) (hdb : (x == ("__debug__" : Str)) = false := by decide) (hgi : Gl X "isinstance" := by rfl) (hgr : Gl X r := by rfl)
    (hv : Vis X.env.scope v := by first | exact Or.inl rfl | exact Or.inr (Or.inl rfl) | exact Or.inr (Or.inr rfl)) (hd : (v == ("__debug__" : Str)) = false := by decide) (hcd : (v == ("__classdict__" : Str)) = false := by decide) (hdr : (r == ("__debug__" : Str)) = false := by decide)
    (h1 : starEach [.Name v p6, .Name r p7] X.env = (false, eval (.Name v p6) X.env) :: starEach [.Name r p7] X.env := by rfl) (h2 : starEach [.Name r p7] X.env = (false, eval (.Name r p7) X.env) :: starEach [] X.env := by rfl) (h3 : (backTo p8 (starEach [.Name r p7] X.env)).any (·.1) = false := by rfl)
    (h4 : starEach [.Constant (.str t) j p0, .Attribute (.Name v p3) "thing" p4, .Call (.Name "isinstance" p5) [.Name v p6, .Name r p7] [] p8] X.env = (false, eval (.Constant (.str t) j p0) X.env) :: starEach [.Attribute (.Name v p3) "thing" p4, .Call (.Name "isinstance" p5) [.Name v p6, .Name r p7] [] p8] X.env := by rfl)
    (h5 : starEach [.Attribute (.Name v p3) "thing" p4, .Call (.Name "isinstance" p5) [.Name v p6, .Name r p7] [] p8] X.env = (false, eval (.Attribute (.Name v p3) "thing" p4) X.env) :: starEach [.Call (.Name "isinstance" p5) [.Name v p6, .Name r p7] [] p8] X.env := by rfl)
    (h6 : starEach [.Call (.Name "isinstance" p5) [.Name v p6, .Name r p7] [] p8] X.env = (false, eval (.Call (.Name "isinstance" p5) [.Name v p6, .Name r p7] [] p8) X.env) :: starEach [] X.env := by rfl)
    (h7 : attributeBase (.Name v p3) "thing" X.env (eval (.Name v p3) X.env) = eval (.Name v p3) X.env := by rfl) (hbi : bootBuiltins "isinstance" = some (.builtin "isinstance") := by decide +kernel) :
    HdAs X (.ExceptHandler (some (.Name x np)) (some v) [.Return (some (.Tuple [.Constant (.str t) j p0, .Attribute (.Name v p3) "thing" p4, .Call (.Name "isinstance" p5) [.Name v p6, .Name r p7] [] p8] jj p9)) p10] p' :: hs) (hdOf KX i R ⟨x, C0, t⟩ :: l) := by
  obtain ⟨rfl, rfl, rfl, up, rfl, rfl, room, calm, nd, hx, pw, tk⟩ := C
  refine .cons hi hl ⟨hg, hdb, .inl T.gC⟩ (fun a oe cls d pn hz hf => ?_) rest
  refine pss_one (ps_ret (pe_tup (pa_cons pe_str (pa_cons (pe_xf ⟨T.ga, T.gg, T.exC, T.hd⟩ T.noT hz hf (pe_var hi hv hd hcd) h7) (pa_cons ?_ pa_nil h6) h5) h4)))
  exact pe_callB (X := X.suite a ((a, oe) :: pn)) (call_isT T G hz hf) hgi hm hbi (pa_cons (pe_var hi hv hd hcd) (pa_cons (pe_glob hgr gR rfl hdr) pa_nil h2) h1) (by decide) (by decide) h1 h3
theorem ds_try (C : Cxt X P w KX K mg base n E) {body : List Stmt} {h₀ : ExceptHandler} {hds : List ExceptHandler} {cs : List Cl} {i : Nat} {R : Addr} {tb : WX → TS} {gb : M → Out Ctl} (T : ExT KX mg R cs) (hh : HdAs X (h₀ :: hds) (cs.map (hdOf KX i R)))
    (hb : ∀ (W : WX) (pn : List (Addr × Obj)) (xe : Value → Shared → Prop), Cxt (X.tr pn xe) P w KX K mg base n (fun σ cls d H => W cls d σ H) → DSs (X.tr pn xe) K mg (fun σ cls d H => W cls d σ H) body (tb W) gb)
    (st : X.stack = X.env :: X.outer := by rfl) (fr : X.env.frame = some X.env.locals := by rfl) :
    DS X K mg E (.Try body (h₀ :: hds) [] [] pos) (fun D σ H => tb (wMAs KX (fun cls d σ H => E σ cls d H) D (cs.map (hdOf KX i R))) D σ H) (dTry i (cs.map fun c => (c.x, c.t)) gb) := by
  obtain ⟨rfl, rfl, rfl, up, rfl, rfl, room, calm, nd, hx, pw, tk⟩ := C
  have mk : ∀ (W : WX) (pn : List (Addr × Obj)) (xe : Value → Shared → Prop), Takes (X.tr pn xe) W → PassesOwn (model X.prog X.w) X.A X.env xe → Cxt (X.tr pn xe) X.prog X.w X.K K X.mg X.base n (fun σ cls d H => W cls d σ H) := fun W pn xe tk' po => ⟨rfl, rfl, rfl, up, rfl, rfl, room, calm, nd, fun σ => passAt tk' σ, po, tk'⟩
  refine ⟨ps_try_asMany st fr nd tk (fun W pn xe tk' po => (hb W pn xe (mk W pn xe tk' po)).pe) hh, ts_try T fun W => ?_⟩
  -- some exit for the body's context: what follows in it is of no matter here
  refine (hb W [] (fun e s' => wpAny (model X.prog X.w) X.A (noteFrame e X.env) (fun _ s2 => wpAny (model X.prog X.w) X.A (setFlight e none) (fun _ _ => True) (fun _ _ => True) s2) (fun _ _ => True) s') (mk W [] _ (fun u s' z => ?_) (PassesOwn.looking (K := fun e s2 => wpAny (model X.prog X.w) X.A (setFlight e none) (fun _ _ => True) (fun _ _ => True) s2)))).ok
  obtain ⟨a, B, sI, pins, σ, H, cls, d, rfl, I, nb, up, sky, _⟩ := z
  have sky' : Sky B (X.env :: X.outer) a (Zc cls d) X.env.locals s'.heap := by rw [← st]; exact sky
  have hfr : X.A.frames = some (X.env :: X.outer) := (show X.A.frames = some X.stack from I.ok.frames).trans (congrArg some st)
  exact Sky.land (Q := fun _ _ => True) (E₁ := fun _ _ => True) Zc.steady hfr fr sky' fun h3 fl3 up3 => trivial
end
end PD
namespace PD
open PySem PySem.Spec PyProof.Rows L2
/-! ## {k: v for .. in ..} -/
open Classical in
noncomputable def compK (live : M → Prop) (vs : List Nat) (b : EV → M → Out Unit) (gt : M → Out Bool) (gk gv : M → Out EV) : List D → List (Key × D) → M → Out (List (Key × D))
  | [], acc, m => if live m then .ok acc m else .bad
  | d :: r, acc, m => if live m then (match b (.v d) m with
      | .ok _ m1 => (match gt m1 with
        | .ok true m2 => (match gk m2 with
          | .ok ek m3 => (match keyEV ek with
            | some k => (match gv m3 with
              | .ok ev m4 => (match dFzE m4 ev with
                | .ok dv m5 => if acc.length < bigLen then compK live vs b gt gk gv r (putG acc k dv) (wipeM m5 vs) else .bad
                | _ => .bad)
              | _ => .bad)
            | none => .bad)
          | _ => .bad)
        | .ok false m2 => compK live vs b gt gk gv r acc (wipeM m2 vs)
        | _ => .bad)
      | _ => .bad) else .bad
noncomputable def dCompK (gi : M → Out Wk) (vs : List Nat) (b : EV → M → Out Unit) (gt : M → Out Bool) (gk gv : M → Out EV) (m : M) : Out EV :=
  (gi m).bind fun w m1 => if vs.all (fun v => plainSl (m1.sl[v]?.join)) = true then
    (match compK w.live vs b gt gk gv w.items [] (wipeM m1 vs) with
      | .ok xs m2 => .ok (.fr (.ok (xs.map fun kv => (kv.1, .fz kv.2)))) (restM m2 m1 vs)
      | _ => .bad) else .bad
section
variable {K : Kf} {mg : Str → Option Value} {E : XS} {pa pb pc pd pu : Bool}
theorem repK_any {F : Hp} (k : Key) : ∀ {xs : List (Key × D)} {vs : List (Key × V)}, RepK K F xs vs → (vs.any fun kv => decide (kv.1 = k)) = (xs.any fun kv => decide (kv.1 = k))
  | [], vs, h => by have h : vs = [] := h; subst h; rfl
  | (k', x) :: xs, vs, ⟨v, r, h, _, h2⟩ => by subst h; simp only [List.any_cons, repK_any k h2]
theorem repK_putG {F : Hp} {k : Key} {d : D} {v : V} (hd : Rep K F d v) {xs : List (Key × D)} {vs : List (Key × V)} (h : RepK K F xs vs) : RepK K F (putG xs k d) (putK vs k v) := by
  have mp : ∀ {xs : List (Key × D)} {vs : List (Key × V)}, RepK K F xs vs → RepK K F (xs.map fun kv => if kv.1 = k then (kv.1, d) else kv) (vs.map fun kv => if kv.1 = k then (kv.1, v) else kv) := by
    intro xs
    induction xs with
    | nil => intro vs h; have h : vs = [] := h; subst h; rfl
    | cons p xs ih =>
      obtain ⟨k', x⟩ := p
      intro vs ⟨u, r, e, h1, h2⟩
      subst e
      rw [List.map_cons, List.map_cons]
      by_cases z : k' = k
      · rw [if_pos z, if_pos z]; exact ⟨v, _, rfl, hd, ih h2⟩
      · rw [if_neg z, if_neg z]; exact ⟨u, _, rfl, h1, ih h2⟩
  have ap : ∀ {xs : List (Key × D)} {vs : List (Key × V)}, RepK K F xs vs → RepK K F (xs ++ [(k, d)]) (vs ++ [(k, v)]) := by
    intro xs
    induction xs with
    | nil => intro vs h; have h : vs = [] := h; subst h; exact ⟨v, [], rfl, hd, rfl⟩
    | cons p xs ih =>
      obtain ⟨k', x⟩ := p
      intro vs ⟨u, r, e, h1, h2⟩
      subst e
      exact ⟨u, r ++ [(k, v)], rfl, h1, ih h2⟩
  unfold putG putK
  rw [repK_any k h]
  split
  · exact mp h
  · exact ap h
theorem te_dcomp {wi : TI} {gi : M → Out Wk} {g : TG} {b : EV → M → Out Unit} {tt : TT} {gt : M → Out Bool} {tk tv : TE} {gk gv : M → Out EV} {vs : List Nat} (hi : TIok K mg E wi gi) (hg : TGok K g b) (ho : OwnT' g vs) (ht : TTok K mg XS0 pb tt gt) (hk : TEok K mg XS0 pc tk gk) (hv : TEok K mg XS0 pd tv gv) (nd : vs.Nodup) :
    TEok K mg E false (tDc wi g tt tk tv vs) (dCompK gi vs b gt gk gv) := fun F0 G π m σ F H fp Q S p => by
  refine hi F0 G π m σ F H fp _ S ?_
  unfold dCompK at p
  cases e : gi m with
  | bad => rw [e] at p; exact p
  | exc c d m' => rw [e] at p; exact p
  | ok w m1 =>
    rw [e] at p
    intro J F1 H1 fp1 S1 sF hJ D hD
    have p : PostE K mg E false F0 G π m σ F H fp Q (if vs.all (fun v => plainSl (m1.sl[v]?.join)) = true then
      (match compK w.live vs b gt gk gv w.items [] (wipeM m1 vs) with
        | .ok xs m2 => .ok (.fr (.ok (xs.map fun kv => (kv.1, .fz kv.2)))) (restM m2 m1 vs)
        | _ => .bad) else .bad) := p
    by_cases al : vs.all (fun v => plainSl (m1.sl[v]?.join)) = true
    · rw [if_pos al] at p
      generalize hr : compK w.live vs b gt gk gv w.items [] (wipeM m1 vs) = r at p
      have nb : ∃ xs m2, r = .ok xs m2 := by
        cases r with
        | ok xs m2 => exact ⟨xs, m2, rfl⟩
        | exc c d m' => exact p.elim
        | bad => exact p.elim
      obtain ⟨xs, mE, er⟩ := nb
      subst er
      obtain ⟨fpw, Sw, hw⟩ := S1.wipe vs
      have dF := S1.freshG hD
      have SD : StF K F0 G π (wipeM m1 vs) (L2.wipe σ vs) F1 (upd H1 D (.dK [])) fpw := Sw.allocO (.dK []) hD
      refine ⟨fun i k H => ∃ m F fp acc kvs, StF K F0 G π m (L2.wipe σ vs) F H fp ∧ Same F1 F ∧ H D = some (.dK acc) ∧ RepK K F kvs acc ∧ (F D = none ∧ G D = none ∧ ∀ o, D ∉ fp o) ∧ i + k = w.items.length ∧ compK w.live vs b gt gk gv (w.items.drop i) kvs m = .ok xs mE,
        ⟨w.items.length, _, F1, fpw, [], [], SD, Same.refl _, upd_same, rfl, ⟨dF.1, dF.2.1, fun o z => dF.2.2 o (hw o _ z)⟩, Nat.zero_add _, hr⟩, ?_⟩
      rintro i k H2 ⟨m2, F2, fp2, acc, kvs, S2, s2, hacc, own, frq, el, e2⟩
      have hlv : w.live m2 := by
        apply Classical.byContradiction
        intro hl
        cases el2 : w.items.drop i with
        | nil => rw [el2, compK, if_neg hl] at e2; cases e2
        | cons d r' => rw [el2, compK, if_neg hl] at e2; cases e2
      have jj := hJ F0 G (Same.refl _) (Same.refl _) m2 _ F2 H2 fp2 S2 s2 hlv
      have hne : H2 D ≠ none := by rw [hacc]; exact Option.some_ne_none _
      cases ed : w.items.drop i with
      | nil =>
        left
        rw [ed, compK, if_pos hlv] at e2
        cases e2
        have hlen : w.items.length ≤ i := List.drop_eq_nil_iff.mp ed
        have hi' : i = w.items.length := by omega
        subst hi'
        refine ⟨jj.2, ?_⟩
        obtain ⟨fp3, S3, ap⟩ := StF.restore S1 vs nd S2 s2 al
        refine p (.ref D) F2 H2 fp3 S3 ⟨sF.trans s2, fun z => by cases z⟩ ⟨[D], ⟨D, acc, [], rfl, hacc, ownK_fz own, rfl⟩, List.nodup_cons.mpr ⟨by simp, List.nodup_nil⟩, fun a ha => ?_⟩
        have ha : a = D := by simpa using ha
        subst ha
        exact ⟨frq.1, frq.2.1, fun o z => frq.2.2 o (ap o _ z), fun z => by cases z⟩
      | cons d r' =>
        right
        have hd : w.items[i]? = some d := by
          have := List.getElem?_drop (xs := w.items) (i := i) (j := 0)
          rw [ed] at this
          simpa using this.symm
        have hr' : w.items.drop (i + 1) = r' := by
          rw [← List.drop_drop, ed]
          rfl
        have hlt : i < w.items.length := by
          rcases Nat.lt_or_ge i w.items.length with z | z
          · exact z
          · rw [List.drop_eq_nil_of_le z] at ed; cases ed
        obtain ⟨j1, j2⟩ := jj.1 i d hd
        refine ⟨j1, fun H => ∃ m F fp acc kvs, StF K F0 G π m (L2.wipe σ vs) F H fp ∧ Same F1 F ∧ H D = some (.dK acc) ∧ RepK K F kvs acc ∧ (F D = none ∧ G D = none ∧ ∀ o, D ∉ fp o) ∧ compK w.live vs b gt gk gv (w.items.drop (i + 1)) kvs m = .ok xs mE, ?_, ?_⟩
        · rintro H' ⟨m3, F3, fp3, acc3, kvs3, h1, h2, h3, h4, h6, h7⟩
          exact ⟨k - 1, by omega, m3, F3, fp3, acc3, kvs3, h1, h2, h3, h4, h6, by omega, h7⟩
        · intro x H3 hy
          obtain ⟨F3, S3, s3, sH, new3, hx⟩ := j2 x H3 hy
          rw [ed, compK, if_pos hlv] at e2
          have keep3 : H3 D = H2 D := same_of sH hne
          have F3n : F3 D = none := by
            cases e : F3 D with
            | none => rfl
            | some y =>
              rcases new3 D (by rw [e]; exact Option.some_ne_none _) with z | z
              · exact absurd frq.1 z
              · exact absurd z hne
          have one : ∀ a ∈ [D], a = D := fun a ha => by simpa using ha
          have SP : StF K F0 (addF G H3 [D]) π m2 (L2.wipe σ vs) F3 H3 fp2 := S3.protect fun a ha => by
            rw [one a ha]
            exact ⟨F3n, frq.2.2⟩
          refine ho x _ H3 _ (hg F3 _ π m2 _ F3 H3 fp2 _ x (.v d) SP.rebase hx ?_)
          cases eb : b (.v d) m2 with
          | bad => rw [eb] at e2; cases e2
          | exc c d' m' => rw [eb] at e2; cases e2
          | ok u m3 =>
            rw [eb] at e2
            intro σ4 F4 H4 fp4 S4 hw4
            have hw4 : L2.wipe σ4 vs = L2.wipe σ vs := hw4.trans (wipe_wipe vs)
            refine ⟨hw4, ?_⟩
            refine ht F4 _ π m3 σ4 F4 H4 fp4 _ S4.rebase ?_
            have fin : ∀ {m5 : M} {F5 H5 : Hp} {fp5 : Ow → List Addr}, StF K F4 (addF G H3 [D]) π m5 σ4 F5 H5 fp5 →
                (∃ fp6, StF K F0 G π (wipeM m5 vs) (L2.wipe σ vs) F5 H5 fp6 ∧ ∀ o a, a ∈ fp6 o → a ∈ fp5 o) ∧ (H5 D = H2 D ∧ F5 D = none ∧ ∀ o, D ∉ fp5 o) ∧ Same F2 F5 := fun {m5 F5 H5 fp5} S5 => by
              have T5 := SP.unbase (S4.unbase S5)
              obtain ⟨U5, k5⟩ := S3.unprotect (q := [D]) (fun a ha => by rw [one a ha]; exact ⟨F3n, by rw [keep3]; exact hne⟩) T5
              obtain ⟨fp6, W6, h6⟩ := U5.wipe vs
              rw [hw4] at W6
              have k := k5 D (by simp)
              exact ⟨⟨fp6, W6, h6⟩, ⟨k.1.trans keep3, k.2⟩, (s3.trans S4.mono).trans S5.mono⟩
            have e2 : (match gt m3 with
              | .ok true m2 => (match gk m2 with
                | .ok ek m3 => (match keyEV ek with
                  | some k => (match gv m3 with
                    | .ok ev m4 => (match dFzE m4 ev with
                      | .ok dv m5 => if kvs.length < bigLen then compK w.live vs b gt gk gv r' (putG kvs k dv) (wipeM m5 vs) else .bad
                      | _ => .bad)
                    | _ => .bad)
                  | none => .bad)
                | _ => .bad)
              | .ok false m2 => compK w.live vs b gt gk gv r' kvs (wipeM m2 vs)
              | _ => .bad) = .ok xs mE := e2
            cases et : gt m3 with
            | bad => rw [et] at e2; cases e2
            | exc c d' m' => rw [et] at e2; cases e2
            | ok bb m5 =>
              rw [et] at e2
              intro F5 H5 fp5 S5 _
              cases bb with
              | false =>
                have e2 : compK w.live vs b gt gk gv r' kvs (wipeM m5 vs) = .ok xs mE := e2
                rw [if_neg Bool.false_ne_true]
                obtain ⟨⟨fp6, W6, h6⟩, k5, s5⟩ := fin S5
                exact ⟨_, F5, fp6, acc, kvs, W6, s2.trans s5, k5.1.trans hacc, RepK.mono s5 _ _ own, ⟨k5.2.1, frq.2.1, fun o z => k5.2.2 o (h6 o _ z)⟩, by rw [hr']; exact e2⟩
              | true =>
                rw [if_pos rfl]
                refine hk F4 _ π m5 σ4 F5 H5 fp5 _ S5 ?_
                cases ek : gk m5 with
                | bad => simp only [ek] at e2; cases e2
                | exc c d' m' => simp only [ek] at e2; cases e2
                | ok ekv m6 =>
                  simp only [ek] at e2
                  intro y F6 H6 fp6 S6 _ e6
                  cases kk : keyEV ekv with
                  | none => simp only [kk] at e2; cases e2
                  | some key =>
                    simp only [kk] at e2
                    have ey : y = kV key := by
                      cases ekv with
                      | v d => exact keyD_v e6 kk
                      | _ => cases kk
                    refine hv F4 _ π m6 σ4 F6 H6 fp6 _ S6 ?_
                    cases ev : gv m6 with
                    | bad => simp only [ev] at e2; cases e2
                    | exc c d' m' => simp only [ev] at e2; cases e2
                    | ok evv m7 =>
                      simp only [ev] at e2
                      intro z F7 H7 fp7 S7 _ e7
                      cases ez : dFzE m7 evv with
                      | bad => simp only [ez] at e2; cases e2
                      | exc c d' m' => simp only [ez] at e2; cases e2
                      | ok dv m8 =>
                        simp only [ez] at e2
                        by_cases hb : kvs.length < bigLen
                        · rw [if_pos hb] at e2
                          obtain ⟨F8, fp8, S8, r8, s8⟩ := fzE_ok S7 e7 ez
                          obtain ⟨⟨fp9, W9, h9⟩, k9, s29⟩ := fin S8
                          exact ⟨acc, key, ey, k9.1.trans hacc, by rw [repK_len own]; exact big_lt hb, _, F8, fp9, putK acc key z, putG kvs key dv, W9.poke _ k9.2.1 frq.2.1 (fun o z => k9.2.2 o (h9 o D z)), s2.trans s29, upd_same, repK_putG r8 (RepK.mono s29 _ _ own), ⟨k9.2.1, frq.2.1, fun o z => k9.2.2 o (h9 o D z)⟩, by rw [hr']; exact e2⟩
                        · rw [if_neg hb] at e2; cases e2
    · rw [if_neg al] at p
      exact p.elim
end
section
variable {X : Cx} {P : Program} {w : World} {KX K : Kf} {mg : Str → Option Value} {base : Heap} {n : Nat} {E : XS} {pa pb pc pu pd po pf : Bool} {ta tb tc td te to tf : TE} {ga gb gc gd ge go gf : M → Out EV} {a b c e o f : Expr} {es : List Expr} {pos p apos cpos : Pos} {x : Str}
theorem de_dc (C : Cxt X P w KX K mg base n E) {kx vx tg iter : Expr} {ifs : List Expr} {scope : Scope} (own : List (Str × Nat)) {wi : TI} {gi : M → Out Wk} {g : TG} {bg : EV → M → Out Unit} {tt : TT} {gt : M → Out Bool} (hi : DI X K mg E tg iter wi gi) (ok : BlkOk X.N X.env.scope scope own)
    (hg : ∀ (s : Shared) (H : Hp) (Ca : Addr) (cl : List (Str × Addr)) (fp : List Addr), Cxt (X.blk s H scope (compEnvC scope cl Ca X.env) fp) P w KX K mg base n XS0 → DG (X.blk s H scope (compEnvC scope cl Ca X.env) fp) K tg g bg) (ho : OwnT' g (own.map (·.2)))
    (ht : ∀ (s : Shared) (H : Hp) (Ca : Addr) (cl : List (Str × Addr)) (fp : List Addr), Cxt (X.blk s H scope (compEnvC scope cl Ca X.env) fp) P w KX K mg base n XS0 → DTs (X.blk s H scope (compEnvC scope cl Ca X.env) fp) K mg XS0 ifs pb tt gt)
    (hk : ∀ (s : Shared) (H : Hp) (Ca : Addr) (cl : List (Str × Addr)) (fp : List Addr), Cxt (X.blk s H scope (compEnvC scope cl Ca X.env) fp) P w KX K mg base n XS0 → DE (X.blk s H scope (compEnvC scope cl Ca X.env) fp) K mg XS0 kx pc te ge)
    (hv : ∀ (s : Shared) (H : Hp) (Ca : Addr) (cl : List (Str × Addr)) (fp : List Addr), Cxt (X.blk s H scope (compEnvC scope cl Ca X.env) fp) P w KX K mg base n XS0 → DE (X.blk s H scope (compEnvC scope cl Ca X.env) fp) K mg XS0 vx pd td gd)
    (nd : (own.map (·.2)).Nodup := by decide) (hs : ∀ x, foldedSetIterable iter X.env x = pure x := by intro _; rfl) :
    DE X K mg E (.DictComp kx vx [⟨tg, iter, ifs, 0⟩] scope pos) false (tDc wi g tt te td (own.map (·.2))) (dCompK gi (own.map (·.2)) bg gt ge gd) := by
  have s0 : Shared := {}
  have Cb := fun (s : Shared) (H : Hp) (Ca : Addr) (cl : List (Str × Addr)) (fp : List Addr) => C.blk s H scope (compEnvC scope cl Ca X.env) fp
  refine ⟨pe_dc C.calm C.nd hi.pe ok (fun s H Ca cl fp => (hg s H Ca cl fp (Cb s H Ca cl fp)).pe) (fun s H Ca cl fp => (ht s H Ca cl fp (Cb s H Ca cl fp)).pe) (fun s H Ca cl fp => (hk s H Ca cl fp (Cb s H Ca cl fp)).pe) (fun s H Ca cl fp => (hv s H Ca cl fp (Cb s H Ca cl fp)).pe) hs, ?_⟩
  exact te_dcomp hi.ok (hg s0 (fun _ => none) 0 [] [] (Cb _ _ _ _ _)).ok ho (ht s0 (fun _ => none) 0 [] [] (Cb _ _ _ _ _)).ok (hk s0 (fun _ => none) 0 [] [] (Cb _ _ _ _ _)).ok (hv s0 (fun _ => none) 0 [] [] (Cb _ _ _ _ _)).ok nd
/-! ## d.get(k, x) -/
def isDct (s : SV) : Bool := match s with
  | .ok _ => true
  | .ot _ => true
  | .fz (.dk _) => true
  | .fz (.dt _) => true
  | _ => false
theorem isDct_ok {F H : Hp} (e : Same F H) {s : SV} {v : V} (h : Cont K F H s v) (z : isDct s = true) : ∃ a, v = .ref a ∧ IsD H a := by
  cases s with
  | fz d =>
    cases d <;> try cases z
    · obtain ⟨a, ws, rfl, h, _⟩ := cont_fz h; exact ⟨a, rfl, .inl ⟨ws, .inl (e _ _ h)⟩⟩
    · obtain ⟨a, ws, rfl, h, _⟩ := cont_fz h; exact ⟨a, rfl, .inr ⟨ws, .inl (e _ _ h)⟩⟩
  | ol _ => cases z
  | ok xs => obtain ⟨q, a, vs, r, rfl, h, _⟩ := h; exact ⟨a, rfl, .inl ⟨vs, .inl h⟩⟩
  | ot xs => obtain ⟨q, a, vs, r, rfl, h, _⟩ := h; exact ⟨a, rfl, .inr ⟨vs, .inl h⟩⟩
/-- the key and the other value change nothing -/
def dGet2 (gd gk gx : M → Out EV) (m : M) : Out EV := (opd gd m).bind fun d m1 => match view m1 d with
  | some ds => if isDct ds = true then (opd gk m1).bind fun k _ => (opd gx m1).bind fun x _ => (match view m1 k, x with
    | some ks, .v xd => (match dlook ds ks with
      | some (some (.fz d')) => .ok (.v d') m1
      | some none => .ok (.v xd) m1
      | _ => .bad)
    | _, _ => .bad) else .bad
  | none => .bad
theorem te_get2 (h1 : TEok K mg E po to go) (h2 : TEok K mg E true ta ga) (h3 : TEok K mg E true tf gf) : TEok K mg E po (tDGet2 to ta tf) (dGet2 go ga gf) := fun F0 G π m σ F H fp Q S p => by
  refine h1.opd F0 G π m σ F H fp _ S ?_
  unfold dGet2 at p
  cases e : opd go m with
  | bad => rw [e] at p; exact p
  | exc c d m' => rw [e] at p; exact p
  | ok dv m1 =>
    rw [e] at p
    intro x F1 H1 fp1 S1 c1 e1
    have p : PostE K mg E po F0 G π m σ F H fp Q (match view m1 dv with
      | some ds => if isDct ds = true then (opd ga m1).bind fun k _ => (opd gf m1).bind fun x _ => (match view m1 k, x with
        | some ks, .v xd => (match dlook ds ks with
          | some (some (.fz d')) => .ok (.v d') m1
          | some none => .ok (.v xd) m1
          | _ => .bad)
        | _, _ => .bad) else .bad
      | none => .bad) := p
    cases ev : view m1 dv with
    | none => simp only [ev] at p; exact p.elim
    | some ds =>
      simp only [ev] at p
      by_cases hd : isDct ds = true
      · rw [if_pos hd] at p
        have cv := S1.view e1 ev
        obtain ⟨a, rfl, isd⟩ := isDct_ok S1.sub cv hd
        refine ⟨a, rfl, isd, ?_⟩
        refine h2.opd F0 G π m1 σ F1 H1 fp1 _ S1 ?_
        cases e2 : opd ga m1 with
        | bad => rw [e2] at p; exact p
        | exc c d m' => rw [e2] at p; exact p
        | ok kv m2 =>
          rw [e2] at p
          intro y F2 H2 fp2 S2 c2 ey
          obtain ⟨em, efp, sH, nw⟩ := c2.pure rfl
          subst em efp
          refine h3.opd F0 G π m2 σ F2 H2 fp2 _ S2 ?_
          have p : PostE K mg E po F0 G π m σ F H fp Q ((opd gf m2).bind fun x _ => (match view m2 kv, x with
            | some ks, .v xd => (match dlook ds ks with
              | some (some (.fz d')) => .ok (.v d') m2
              | some none => .ok (.v xd) m2
              | _ => .bad)
            | _, _ => .bad)) := p
          cases e3 : opd gf m2 with
          | bad => rw [e3] at p; exact p
          | exc c d m' => rw [e3] at p; exact p
          | ok fv m3 =>
            rw [e3] at p
            intro z F3 H3 fp3 S3 c3 ez
            obtain ⟨em, efp, sH3, nw3⟩ := c3.pure rfl
            subst em efp
            have p : PostE K mg E po F0 G π m σ F H fp Q (match (generalizing := false) view m3 kv, fv with
              | some ks, .v xd => (match dlook ds ks with
                | some (some (.fz d')) => .ok (.v d') m3
                | some none => .ok (.v xd) m3
                | _ => .bad)
              | _, _ => .bad) := p
            have c13 := c1.trans (c2.trans c3)
            have ch : Ch po m m3 F H F3 H3 fp fp3 := c13.mono fun z => by simp [z]
            have d3 : EvF K G π σ F3 H3 fp3 (fun _ => False) (.ref a) dv := e1.carry (pb := true) (opd_nofr e) (c2.trans c3) (by cases dv with | br o q => cases q <;> rfl | _ => rfl)
            have k3 : EvF K G π σ F3 H3 fp3 (fun _ => False) y kv := ey.carry (pb := true) (opd_nofr e2) c3 (by cases kv with | br o q => cases q <;> rfl | _ => rfl)
            cases evk : view m3 kv with
            | none => simp only [evk] at p; exact p.elim
            | some ks =>
              cases fv with
              | br o q => simp only [evk] at p; exact p.elim
              | fr s => simp only [evk] at p; exact p.elim
              | v xd =>
                simp only [evk] at p
                cases el : dlook ds ks with
                | none => simp only [el] at p; exact p.elim
                | some r =>
                  obtain ⟨a', o', ea, g, hh⟩ := dlook_ok S3.sub (S3.view d3 ev) (S3.view k3 evk) el
                  cases ea
                  refine ⟨o', g, ?_⟩
                  cases r with
                  | none =>
                    simp only [el] at p
                    rcases hh with ⟨_, rfl⟩ | ⟨_, _, h, _⟩
                    · exact p z F3 H3 fp3 S3 ch ez
                    · cases h
                  | some s =>
                    simp only [el] at p
                    rcases hh with ⟨h, _⟩ | ⟨s', v, h, rfl, cv'⟩
                    · cases h
                    · cases h
                      cases s with
                      | fz d' => exact p v F3 H3 fp3 S3 ch (cont_fz cv')
                      | ol _ => exact p.elim
                      | ok _ => exact p.elim
                      | ot _ => exact p.elim
      · rw [if_neg hd] at p; exact p.elim
theorem de_get2 (C : Cxt X P w KX K mg base n E) (h1 : DE X K mg E o po to go) (h2 : DE X K mg E a true ta ga) (h3 : DE X K mg E f true tf gf)
    (m1 : attributeBase o "get" X.env (eval o X.env) = eval o X.env := by rfl)
    (m2 : ((backTo cpos (starEach [a, f] X.env)).all (fun x => !x.1) && (backToKw cpos (keywordEach [] X.env)).all (fun x => x.1.isSome)
    && decide (([a, f] : List Expr).length + ([] : List Keyword).length + (if ([] : List Keyword).isEmpty then 0 else 1) < 30)) = true := by rfl)
    (m3 : (apos.endLine == cpos.line) = true := by rfl) (m4 : backTo cpos (starEach [a, f] X.env) = [(false, eval a X.env), (false, eval f X.env)] := by rfl) :
    DE X K mg E (.Call (.Attribute o "get" apos) [a, f] [] cpos) po (tDGet2 to ta tf) (dGet2 go ga gf) := ⟨pe_dget2 C.hu1 h1.pe h2.pe h3.pe ⟨m1, m2, m3, m4⟩, te_get2 h1.ok h2.ok h3.ok⟩
end
end PD
namespace PD
open PySem PySem.Spec PyProof.Rows L2
/-! ## defs as values, called by a local name -/
def adOf (mg : Str → Option Value) (x : Str) : Addr := match mg x with
  | some (.ref a) => a
  | _ => 0
/-- defs of the same parameters -/
abbrev Tb := List (Addr × Den)
structure FnV (P : Program) (w : World) (KX K : Kf) (mg : Str → Option Value) (base : Heap) (k : Nat) (ps : List Str) (ks : List Str) (ix : List Nat) (t : Addr × Den) : Prop where
  ex : ∃ fd : FuncData, FnOk P w KX mg base (L2.CX P w) k t.1 fd ps (spF K mg ps.length t.2) ∧ PySem.W.keepIn KX (.ref t.1) = true ∧ Binds KX fd ps [] ∧ ∀ (s : Shared) (ws : List Value), ws.length = ix.length → BindsTo s fd ⟨[], ks.zip ws⟩ (ps.zip (perm ix ws))
section
variable {X : Cx} {P : Program} {w : World} {KX K : Kf} {mg : Str → Option Value} {base : Heap} {n : Nat} {E : XS} {pa pb pc pu : Bool} {e : Expr} {es : List Expr} {pos p : Pos} {x : Str}
theorem fnV_of {st : Stmt} {j k : Nat} {ps ks : List Str} {ix : List Nat} {f : Den} (F : FnD P w KX K mg base x st j ps f) (hj : j ≤ k)
    (hb : ∀ (kV doc pm : Value) (an : Option Addr) (cdv ct : Value) (ws : List Value), ws.length = ix.length → bindArgs (PySem.W.fnOf x x (defArgs st) (defBody st) (defScope st) .none kV doc pm an cdv ct) ⟨[], ks.zip ws⟩ = pure (ps.zip (perm ix ws))) :
    FnV P w KX K mg base k ps ks ix (adOf mg x, f) := by
  obtain ⟨ad, fd, h1, h2, h3, h4⟩ := F.ex
  have e : adOf mg x = ad := by unfold adOf; rw [h2]
  rw [e]
  have kp := h1.kp
  obtain ⟨oc, od, kV, doc, pm, an, cdv, ct, osl, rfl, lk, hcd⟩ := h1.ex
  exact ⟨_, h4.mono hj, kp, h3, fun s ws hl => .of_eq (hb kV doc pm an cdv ct ws hl)⟩
theorem de_fn {st : Stmt} {k : Nat} {ps : List Str} {f : Den} (C : Cxt X P w KX K mg base n E) (F : FnD P w KX K mg base x st k ps f) (hg : Gl X x := by rfl) (hdb : (x == ("__debug__" : Str)) = false := by decide) : DE X K mg E (.Name x pos) true (tC (.ref (adOf mg x))) (dC (.fn (adOf mg x))) := by
  obtain ⟨ad, fd, h1, h2, h3, h4⟩ := F.ex
  have e : adOf mg x = ad := by unfold adOf; rw [h2]
  rw [e]
  exact de_glob (v := .ref ad) C hg h2 rfl (fun _ => rfl) hdb
def tCallV (K : Kf) (mg : Str → Option Value) (np i : Nat) (T : Tb) (E : XS) (t : TA) : TE := fun σ H Q => ∃ q ∈ T, σ[i]? = some (some (.ref q.1)) ∧ t σ H fun vs H1 => spF K mg np q.2 vs H1 Q (E σ)
def tCallVW (K : Kf) (mg : Str → Option Value) (np i : Nat) (T : Tb) (E : XS) (ix : List Nat) (t : TA) : TE := fun σ H Q => ∃ q ∈ T, σ[i]? = some (some (.ref q.1)) ∧ t σ H fun zs H1 => zs.length = ix.length ∧ spF K mg np q.2 (perm ix zs) H1 Q (E σ)
def slFn (m : M) (i : Nat) (T : Tb) : Option (Addr × Den) := match m.sl[i]? with
  | some (some (.sv (.fz (.fn a)))) => T.find? fun q => decide (q.1 = a)
  | _ => none
def dCallV (np i : Nat) (T : Tb) (gs : M → Out (List EV)) (m : M) : Out EV := match slFn m i T with
  | some q => (gs m).bind fun es m1 => callK np q.2 m1 es
  | none => .bad
def dCallVW (np i : Nat) (T : Tb) (ix : List Nat) (gs : M → Out (List EV)) (m : M) : Out EV := match slFn m i T with
  | some q => (gs m).bind fun es m1 => callP np q.2 ix m1 es
  | none => .bad
theorem slFn_ok {F0 G : Hp} {π : List V} {m : M} {σ : L2.St} {F H : Hp} {fp : Ow → List Addr} (S : StF K F0 G π m σ F H fp) {i : Nat} {T : Tb} {q : Addr × Den} (h : slFn m i T = some q) : q ∈ T ∧ σ[i]? = some (some (.ref q.1)) := by
  unfold slFn at h
  split at h
  · rename_i a e
    have h1 := List.find?_some h
    have h2 : q.1 = a := of_decide_eq_true h1
    have hg : get m (.s i) = some (.fz (.fn a)) := by simp [get, e]
    obtain ⟨v, h3, h4⟩ := S.own _ _ hg
    have h4 : v = .ref a := h4.1
    subst h4
    rw [h2]
    exact ⟨List.mem_of_find?_eq_some h, refO_some h3⟩
  · cases h
theorem te_callV {np i : Nat} {T : Tb} {t : TA} {gs : M → Out (List EV)} (ha : TAok K mg E pb t gs) : TEok K mg E false (tCallV K mg np i T E t) (dCallV np i T gs) := fun F0 G π m σ F H fp Q S p => by
  unfold dCallV at p
  cases e : slFn m i T with
  | none => rw [e] at p; exact p.elim
  | some q =>
    rw [e] at p
    obtain ⟨h1, h2⟩ := slFn_ok S e
    refine ⟨q, h1, h2, ?_⟩
    have := te_app ha (k_call (K := K) (mg := mg) (np := np) (f := q.2) E)
    rw [Bool.and_false] at this
    exact this F0 G π m σ F H fp Q S p
theorem te_callVW {np i : Nat} {T : Tb} {ix : List Nat} {t : TA} {gs : M → Out (List EV)} (ha : TAok K mg E pb t gs) : TEok K mg E false (tCallVW K mg np i T E ix t) (dCallVW np i T ix gs) := fun F0 G π m σ F H fp Q S p => by
  unfold dCallVW at p
  cases e : slFn m i T with
  | none => rw [e] at p; exact p.elim
  | some q =>
    rw [e] at p
    obtain ⟨h1, h2⟩ := slFn_ok S e
    refine ⟨q, h1, h2, ?_⟩
    have hK : KOkN K mg E false (fun σ zs H Q => zs.length = ix.length ∧ spF K mg np q.2 (perm ix zs) H Q (E σ)) (callP np q.2 ix) := fun F0 G π m σ F H fp Q vs es S ev p => by
      unfold callP at p
      by_cases hl : es.length = ix.length
      · rw [if_pos hl] at p
        exact ⟨(evFs_len ev).trans hl, k_call (np := np) (f := q.2) E F0 G π m σ F H fp Q _ _ S (evFs_perm ev ix) p⟩
      · rw [if_neg hl] at p; exact p.elim
    have := te_app ha hK
    rw [Bool.and_false] at this
    exact this F0 G π m σ F H fp Q S p
theorem de_callV (C : Cxt X P w KX K mg base n E) {k i : Nat} {ps ks : List Str} {ix : List Nat} {T : Tb} {t : TA} {gs : M → Out (List EV)} (hT : ∀ q ∈ T, FnV P w KX K mg base k ps ks ix q) (ha : DA X K mg E (e :: es) pb t gs) (hk : k ≤ n := by decide) (hN : X.N[i]? = some x := by rfl)
    (hv : Vis X.env.scope x := by first | exact Or.inl rfl | exact Or.inr (Or.inl rfl) | exact Or.inr (Or.inr rfl)) (hdb : (x == ("__debug__" : Str)) = false := by decide) (hcd : (x == ("__classdict__" : Str)) = false := by decide)
    (he : starEach (e :: es) X.env = (false, eval e X.env) :: starEach es X.env := by rfl) (hpl : (backTo pos (starEach es X.env)).any (·.1) = false := by rfl) :
    DE X K mg E (.Call (.Name x p) (e :: es) [] pos) false (tCallV K mg ps.length i T E t) (dCallV ps.length i T gs) := by
  refine ⟨⟨fun pins s σ H Q I h => ?_⟩, te_callV ha.ok⟩
  obtain ⟨rfl, rfl, rfl, up, rfl, rfl, room, calm, nd, hx, pw, tk⟩ := C
  obtain ⟨q, hq, hs, ht⟩ := h
  obtain ⟨fd, F, kp, bd, _⟩ := (hT q hq).ex
  refine wpAny_Call_Name_kw (thn ((pe_var (pos := p) hN hv hdb hcd).run pins s σ H (fun v H1 => v = .ref q.1 ∧ H1 = H) I ⟨.ref q.1, hs, rfl, rfl⟩) fun u s1 ⟨v, H1, I1, r1, q1⟩ => ?_)
  obtain ⟨rfl, rfl⟩ := q1
  cases r1
  refine PySem.W.callWith_K (h₀ := X.base) I.ok.mod.kin kp (thn (ha.pe.run pos pins s1 σ _ _ I1 ht) fun us s2 ⟨vs, H2, I2, r, z⟩ => ⟨I2.kIn, ?_⟩) he hpl
  exact run_fnS F (room.mono hk) bd (hx σ) I2 r z
theorem de_callVW (C : Cxt X P w KX K mg base n E) {k i : Nat} {ps ks : List Str} {ix : List Nat} {T : Tb} {kws : List Keyword} {t : TA} {gs : M → Out (List EV)} (hT : ∀ q ∈ T, FnV P w KX K mg base k ps ks ix q) (hkw : DK X K mg E kws pb t gs) (hk : k ≤ n := by decide) (hN : X.N[i]? = some x := by rfl)
    (hv : Vis X.env.scope x := by first | exact Or.inl rfl | exact Or.inr (Or.inl rfl) | exact Or.inr (Or.inr rfl)) (hdb : (x == ("__debug__" : Str)) = false := by decide) (hcd : (x == ("__classdict__" : Str)) = false := by decide)
    (hall : (backToKw pos (keywordEach kws X.env)).all (·.1.isSome) = true := by rfl) (hks : (backToKw pos (keywordEach kws X.env)).filterMap (·.1) = ks := by rfl) (hpl : (backToKw pos (keywordEach kws X.env)).any (·.1.isNone) = false := by rfl) :
    DE X K mg E (.Call (.Name x p) [] kws pos) false (tCallVW K mg ps.length i T E ix t) (dCallVW ps.length i T ix gs) := by
  refine ⟨⟨fun pins s σ H Q I h => ?_⟩, te_callVW hkw.ok⟩
  obtain ⟨rfl, rfl, rfl, up, rfl, rfl, room, calm, nd, hx, pw, tk⟩ := C
  obtain ⟨q, hq, hs, ht⟩ := h
  obtain ⟨fd, F, kp, bd, kb⟩ := (hT q hq).ex
  refine wpAny_Call_Name_kw (thn ((pe_var (pos := p) hN hv hdb hcd).run pins s σ H (fun v H1 => v = .ref q.1 ∧ H1 = H) I ⟨.ref q.1, hs, rfl, rfl⟩) fun u s1 ⟨v, H1, I1, r1, q1⟩ => ?_)
  obtain ⟨rfl, rfl⟩ := q1
  cases r1
  refine PySem.W.callWith_KW0 (h₀ := X.base) I.ok.mod.kin kp hall (thn (hkw.pe.run pos pins s1 σ _ _ I1 ht) fun ws s2 ⟨zs, H2, I2, rz, hl, z⟩ => ⟨I2.kIn, ?_⟩) hpl
  rw [hks]
  exact run_fnP (args := ⟨[], ks.zip ws⟩) F (room.mono hk) (kb s2 ws (by rw [← rz.length]; exact hl)) (hx σ) I2 (vals_perm rz ix) z
end
end PD
namespace PD
open PySem PySem.Spec PyProof.Rows L2
section
variable {X : Cx} {P : Program} {w : World} {KX K : Kf} {mg : Str → Option Value} {base : Heap} {n : Nat} {E : XS} {pa pb pc pu : Bool} {ta tb tc te : TE} {ga gb gc ge : M → Out EV} {a b c e : Expr} {es : List Expr} {pos p : Pos} {x : Str}
theorem Cxt.upX (C : Cxt X P w KX K mg base n E) : Up K X.K := by rw [C.hK]; exact C.up
theorem Cxt.hu200 (C : Cxt X P w KX K mg base n E) : X.A.units + 200 < cLine := by have := C.room.un; omega
/-! ### list(range(n)), -n, a module's number -/
def rgD (j : Int) : List D := (List.range j.toNat).map fun i => .int (i : Nat)
def dLR (g : M → Out EV) (m : M) : Out EV := (g m).bind fun ev m1 => match ev with
  | .v (.int j) => if 0 ≤ j ∧ j ≤ bigLen then .ok (.fr (.ol ((rgD j).map .fz))) m1 else .bad
  | _ => .bad
theorem te_lr (h : TEok K mg E pa ta ga) : TEok K mg E pa (tLstRg (tRg1 ta)) (dLR ga) := fun F0 G π m σ F H fp Q S p => by
  refine h F0 G π m σ F H fp _ S ?_
  unfold dLR at p
  cases e : ga m with
  | bad => rw [e] at p; exact p
  | exc c d m' => rw [e] at p; exact p
  | ok ev m1 =>
    rw [e] at p
    intro v F1 H1 fp1 S1 c1 e1
    cases ev with
    | br o q => exact p.elim
    | fr s => exact p.elim
    | v d =>
      cases d with
      | int j =>
        have p : PostE K mg E pa F0 G π m σ F H fp Q (if 0 ≤ j ∧ j ≤ bigLen then .ok (.fr (.ol ((rgD j).map .fz))) m1 else .bad) := p
        by_cases hj : 0 ≤ j ∧ j ≤ bigLen
        · rw [if_pos hj] at p
          have hb : (bigLen : Int) = 1000000 := rfl
          refine ⟨j, e1, RgOk.of_le (by omega) (by omega) (by omega) (by omega), fun q hq => ?_⟩
          have er : RepAll K F1 (rgD j) (rgV 0 j) := by
            have : ∀ l : List Nat, RepAll K F1 (l.map fun i => D.int (i : Nat)) (l.map fun i => V.int (0 + (i : Nat))) := by
              intro l
              induction l with
              | nil => rfl
              | cons x l ih => exact ⟨_, _, rfl, by show V.int _ = V.int _; rw [Int.zero_add], ih⟩
            unfold rgD rgV
            rw [Int.sub_zero]
            exact this _
          have f := S1.freshG hq
          refine p (.ref q) F1 _ fp1 (S1.allocO (.lst (rgV 0 j)) hq) ⟨c1.ext, fun z => ?_⟩ ⟨[q], ⟨q, _, [], rfl, upd_same, ownL_fz er, rfl⟩, List.nodup_cons.mpr ⟨by simp, List.nodup_nil⟩, fun a ha => ?_⟩
          · obtain ⟨z1, z2, z3, z4⟩ := c1.pure z
            exact ⟨z1, z2, z3.trans (same_new hq), z4⟩
          · obtain rfl : a = q := by simpa using ha
            exact ⟨f.1, f.2.1, f.2.2, fun z => same_none (c1.pure z).2.2.1 hq⟩
        · rw [if_neg hj] at p; exact p.elim
      | _ => exact p.elim
theorem de_lr (C : Cxt X P w KX K mg base n E) {p1 p2 pos1 : Pos} (zl : mg "list" = none) (zr : mg "range" = none) (h : DE X K mg E a pa ta ga) (hg : Gl X "list" := by rfl) (hg2 : Gl X "range" := by rfl)
    (na : starEach [.Call (.Name "range" p2) [a] [] pos1] X.env = (false, eval (.Call (.Name "range" p2) [a] [] pos1) X.env) :: starEach [] X.env := by rfl) (nb : starEach [a] X.env = (false, eval a X.env) :: starEach [] X.env := by rfl) :
    DE X K mg E (.Call (.Name "list" p1) [.Call (.Name "range" p2) [a] [] pos1] [] pos) pa (tLstRg (tRg1 ta)) (dLR ga) := by
  obtain ⟨rfl, rfl, rfl, up, rfl, rfl, room, calm, nd, hx, pw, tk⟩ := C
  exact ⟨pe_listRg calm hg zl (prg_1 hg2 zr h.pe nb) na, te_lr h.ok⟩
def pNeg : SV → Option EV
  | .fz (.int i) => some (.v (.int (-i)))
  | _ => none
theorem ok_neg : OpOk1 K (rU fun i => .int (-i)) pNeg := fun F H x a ev Q e hx z k => by
  unfold pNeg at z
  split at z
  · cases z; exact ⟨_, cont_fz hx, k _ F H (ResOk.val0 e rfl)⟩
  · cases z
theorem q_neg (h : DE X K mg E a pa ta ga) : DE X K mg E (.UnaryOp .USub a pos) (pa && true) (tUn (rU fun i => .int (-i)) ta) (dUn ga (kV1 pNeg)) := de_un un_neg (k_v1 ok_neg) h
theorem q_gint (C : Cxt X P w KX K mg base n E) {i : Int} (h : ∃ t, mg x = some (.int i t)) (hg : Gl X x := by rfl) (hdb : (x == ("__debug__" : Str)) = false := by decide) : DE X K mg E (.Name x pos) true (tC (.int i)) (dC (.int i)) := by
  obtain ⟨t, h⟩ := h
  exact de_glob C hg h ⟨t, rfl⟩ (fun _ => rfl) hdb
theorem q_gstr (C : Cxt X P w KX K mg base n E) {i : Str} (h : ∃ t, mg x = some (.str i t)) (hg : Gl X x := by rfl) (hdb : (x == ("__debug__" : Str)) = false := by decide) : DE X K mg E (.Name x pos) true (tC (.str i)) (dC (.str i)) := by
  obtain ⟨t, h⟩ := h
  exact de_glob C hg h ⟨t, rfl⟩ (fun _ => rfl) hdb
/-! ### a def that is never told to end -/
def dBad : Den := fun _ _ => .bad
theorem fnD_bad {st : Stmt} {k : Nat} {ps : List Str} (h : ∃ (a : Addr) (fd : FuncData), Fun KX x x st a fd ∧ mg x = some (.ref a) ∧ Binds KX fd ps []) : FnD P w KX K mg base x st k ps dBad :=
  let ⟨a, fd, h1, h2, h3⟩ := h
  ⟨a, fd, h1, h2, h3, ⟨fun vs H Q E h => h.1, fun A outer s H args us vs Q E _ _ _ _ hs => by
    obtain ⟨_, F, G, π, pins, fp, as, _, _, post⟩ := hs
    exact post.elim⟩⟩
/-! ### operators in short -/
theorem q_add (C : Cxt X P w KX K mg base n E) (h1 : DE X K mg E a pa ta ga) (h2 : DE X K mg E b pb tb gb) : DE X K mg E (.BinOp a .Add b pos) (pa && (pb && true)) (tOp (rPlus KX) ta tb) (dBin pb ga gb (kV2 pPlus)) := by
  rw [← C.hK]
  exact de_op op_plus (k_v2 ok_plus) h1 h2
theorem q_sub (C : Cxt X P w KX K mg base n E) (h1 : DE X K mg E a pa ta ga) (h2 : DE X K mg E b pb tb gb) : DE X K mg E (.BinOp a .Sub b pos) (pa && (pb && true)) (tOp (rI0 fun i j => .int (i - j)) ta tb) (dBin pb ga gb (kV2 pSub)) := by
  skip
  exact de_op op_sub (k_v2 (ok_int20 fun _ _ _ => rfl)) h1 h2
theorem q_mul (C : Cxt X P w KX K mg base n E) (h1 : DE X K mg E a pa ta ga) (h2 : DE X K mg E b pb tb gb) : DE X K mg E (.BinOp a .Mult b pos) (pa && (pb && true)) (tOp (rMulR) ta tb) (dBin pb ga gb (kV2 pMul)) := by
  skip
  exact de_op op_mulR (k_v2 ok_mul) h1 h2
theorem q_div (C : Cxt X P w KX K mg base n E) (h1 : DE X K mg E a pa ta ga) (h2 : DE X K mg E b pb tb gb) : DE X K mg E (.BinOp a .FloorDiv b pos) (pa && (pb && true)) (tOp (rI CDiv fun i j => .int (i / j)) ta tb) (dBin pb ga gb (kV2 pDiv)) := by
  skip
  exact de_op op_fdiv (k_v2 (ok_int2 fun _ _ _ => rfl)) h1 h2
theorem q_mod (C : Cxt X P w KX K mg base n E) (h1 : DE X K mg E a pa ta ga) (h2 : DE X K mg E b pb tb gb) : DE X K mg E (.BinOp a .Mod b pos) (pa && (pb && true)) (tOp (rI (fun _ j => 0 < j) fun i j => .int (i % j)) ta tb) (dBin pb ga gb (kV2 pMod)) := by
  skip
  exact de_op op_mod (k_v2 (ok_int2 fun _ _ _ => rfl)) h1 h2
theorem q_pow (C : Cxt X P w KX K mg base n E) (h1 : DE X K mg E a pa ta ga) (h2 : DE X K mg E b pb tb gb) : DE X K mg E (.BinOp a .Pow b pos) (pa && (pb && true)) (tOp (rI CPow fun i j => .int (i ^ j.toNat)) ta tb) (dBin pb ga gb (kV2 pPow)) := by
  skip
  exact de_op op_pow (k_v2 (ok_int2 fun _ _ _ => rfl)) h1 h2
theorem q_shl (C : Cxt X P w KX K mg base n E) (h1 : DE X K mg E a pa ta ga) (h2 : DE X K mg E b pb tb gb) : DE X K mg E (.BinOp a .LShift b pos) (pa && (pb && true)) (tOp (rI CPow fun i j => .int (i * 2 ^ j.toNat)) ta tb) (dBin pb ga gb (kV2 pShl)) := by
  skip
  exact de_op op_shl (k_v2 (ok_int2 fun _ _ _ => rfl)) h1 h2
theorem q_shr (C : Cxt X P w KX K mg base n E) (h1 : DE X K mg E a pa ta ga) (h2 : DE X K mg E b pb tb gb) : DE X K mg E (.BinOp a .RShift b pos) (pa && (pb && true)) (tOp (rI (fun _ j => 0 ≤ j) fun i j => .int (i / 2 ^ j.toNat)) ta tb) (dBin pb ga gb (kV2 pShr)) := by
  skip
  exact de_op op_shr (k_v2 (ok_int2 fun _ _ _ => rfl)) h1 h2
theorem q_band (C : Cxt X P w KX K mg base n E) (h1 : DE X K mg E a pa ta ga) (h2 : DE X K mg E b pb tb gb) : DE X K mg E (.BinOp a .BitAnd b pos) (pa && (pb && true)) (tOp (rI0 fun i j => .int (Builtin.bitAnd i j)) ta tb) (dBin pb ga gb (kV2 pAnd)) := by
  skip
  exact de_op op_and (k_v2 (ok_int20 fun _ _ _ => rfl)) h1 h2
theorem q_bor (C : Cxt X P w KX K mg base n E) (h1 : DE X K mg E a pa ta ga) (h2 : DE X K mg E b pb tb gb) : DE X K mg E (.BinOp a .BitOr b pos) (pa && (pb && true)) (tOp (rI0 fun i j => .int (Builtin.bitOr i j)) ta tb) (dBin pb ga gb (kV2 pOr)) := by
  skip
  exact de_op op_or (k_v2 (ok_int20 fun _ _ _ => rfl)) h1 h2
theorem q_bxor (C : Cxt X P w KX K mg base n E) (h1 : DE X K mg E a pa ta ga) (h2 : DE X K mg E b pb tb gb) : DE X K mg E (.BinOp a .BitXor b pos) (pa && (pb && true)) (tOp (rI0 fun i j => .int (Builtin.bitXor i j)) ta tb) (dBin pb ga gb (kV2 pXor)) := by
  skip
  exact de_op op_xor (k_v2 (ok_int20 fun _ _ _ => rfl)) h1 h2
def rLtA (K : Kf) : R2 := fun x y H Q => (rI0 fun i j => .bl (decide (i < j))) x y H Q ∨ rOrdP K (PySem.W.dataLt) x y H Q
def rLeA (K : Kf) : R2 := fun x y H Q => (rI0 fun i j => .bl (decide (i ≤ j))) x y H Q ∨ rOrdP K (fun p q => !PySem.W.dataLt q p) x y H Q
def rGtA (K : Kf) : R2 := fun x y H Q => (rI0 fun i j => .bl (decide (j < i))) x y H Q ∨ rOrdP K (fun p q => PySem.W.dataLt q p) x y H Q
def rGeA (K : Kf) : R2 := fun x y H Q => (rI0 fun i j => .bl (decide (j ≤ i))) x y H Q ∨ rOrdP K (fun p q => !PySem.W.dataLt p q) x y H Q
theorem k_eq (C : Cxt X P w KX K mg base n E) : KOk2 K mg E true (rEqP X.K false) (kV2 (bin2 pEq)) := (k_v2 (ok_eqP C.upX))
theorem o_eq (C : Cxt X P w KX K mg base n E) : OpR X (compareOp .Eq) (rEqP X.K false) := op_eqP C.hu200
theorem q_eq (C : Cxt X P w KX K mg base n E) (h1 : DE X K mg E a pa ta ga) (h2 : DE X K mg E b pb tb gb) (hm : behindInMarks .Eq b = false := by rfl) : DE X K mg E (.Compare a [.Eq] [b] pos) (pa && (pb && true)) (tOp (rEqP KX false) ta tb) (dBin pb ga gb (kV2 (bin2 pEq))) := by
  rw [← C.hK]
  exact de_cmp (o_eq C) (k_eq C) h1 h2 hm
theorem t_eq (C : Cxt X P w KX K mg base n E) (h1 : DE X K mg E a pa ta ga) (h2 : DE X K mg E b pb tb gb) (hm : behindInMarks .Eq b = false := by rfl) : DT X K mg E (.Compare a [.Eq] [b] pos) (pa && (pb && true)) (tTest (tOp (rEqP KX false) ta tb)) (dTest (dBin pb ga gb (kV2 (bin2 pEq)))) := by
  rw [← C.hK]
  exact dt_cmp (o_eq C) (k_eq C) h1 h2 hm
theorem k_ne (C : Cxt X P w KX K mg base n E) : KOk2 K mg E true (rEqP X.K true) (kV2 (bin2 pNe)) := (k_v2 (ok_neP C.upX))
theorem o_ne (C : Cxt X P w KX K mg base n E) : OpR X (compareOp .NotEq) (rEqP X.K true) := op_neP C.hu200
theorem q_ne (C : Cxt X P w KX K mg base n E) (h1 : DE X K mg E a pa ta ga) (h2 : DE X K mg E b pb tb gb) (hm : behindInMarks .NotEq b = false := by rfl) : DE X K mg E (.Compare a [.NotEq] [b] pos) (pa && (pb && true)) (tOp (rEqP KX true) ta tb) (dBin pb ga gb (kV2 (bin2 pNe))) := by
  rw [← C.hK]
  exact de_cmp (o_ne C) (k_ne C) h1 h2 hm
theorem t_ne (C : Cxt X P w KX K mg base n E) (h1 : DE X K mg E a pa ta ga) (h2 : DE X K mg E b pb tb gb) (hm : behindInMarks .NotEq b = false := by rfl) : DT X K mg E (.Compare a [.NotEq] [b] pos) (pa && (pb && true)) (tTest (tOp (rEqP KX true) ta tb)) (dTest (dBin pb ga gb (kV2 (bin2 pNe)))) := by
  rw [← C.hK]
  exact dt_cmp (o_ne C) (k_ne C) h1 h2 hm
theorem k_lt (C : Cxt X P w KX K mg base n E) : KOk2 K mg E true (rLtA X.K) (kV2 (pLt)) := (k_v2 (ok_or (ok_int20 fun _ _ _ => rfl) (ok_ordP C.upX _)))
theorem o_lt (C : Cxt X P w KX K mg base n E) : OpR X (compareOp .Lt) (rLtA X.K) := op_ltR C.hu200
theorem q_lt (C : Cxt X P w KX K mg base n E) (h1 : DE X K mg E a pa ta ga) (h2 : DE X K mg E b pb tb gb) (hm : behindInMarks .Lt b = false := by rfl) : DE X K mg E (.Compare a [.Lt] [b] pos) (pa && (pb && true)) (tOp (rLtA KX) ta tb) (dBin pb ga gb (kV2 (pLt))) := by
  rw [← C.hK]
  exact de_cmp (o_lt C) (k_lt C) h1 h2 hm
theorem t_lt (C : Cxt X P w KX K mg base n E) (h1 : DE X K mg E a pa ta ga) (h2 : DE X K mg E b pb tb gb) (hm : behindInMarks .Lt b = false := by rfl) : DT X K mg E (.Compare a [.Lt] [b] pos) (pa && (pb && true)) (tTest (tOp (rLtA KX) ta tb)) (dTest (dBin pb ga gb (kV2 (pLt)))) := by
  rw [← C.hK]
  exact dt_cmp (o_lt C) (k_lt C) h1 h2 hm
theorem k_le (C : Cxt X P w KX K mg base n E) : KOk2 K mg E true (rLeA X.K) (kV2 (pLe)) := (k_v2 (ok_or (ok_int20 fun _ _ _ => rfl) (ok_ordP C.upX _)))
theorem o_le (C : Cxt X P w KX K mg base n E) : OpR X (compareOp .LtE) (rLeA X.K) := op_leR C.hu200
theorem q_le (C : Cxt X P w KX K mg base n E) (h1 : DE X K mg E a pa ta ga) (h2 : DE X K mg E b pb tb gb) (hm : behindInMarks .LtE b = false := by rfl) : DE X K mg E (.Compare a [.LtE] [b] pos) (pa && (pb && true)) (tOp (rLeA KX) ta tb) (dBin pb ga gb (kV2 (pLe))) := by
  rw [← C.hK]
  exact de_cmp (o_le C) (k_le C) h1 h2 hm
theorem t_le (C : Cxt X P w KX K mg base n E) (h1 : DE X K mg E a pa ta ga) (h2 : DE X K mg E b pb tb gb) (hm : behindInMarks .LtE b = false := by rfl) : DT X K mg E (.Compare a [.LtE] [b] pos) (pa && (pb && true)) (tTest (tOp (rLeA KX) ta tb)) (dTest (dBin pb ga gb (kV2 (pLe)))) := by
  rw [← C.hK]
  exact dt_cmp (o_le C) (k_le C) h1 h2 hm
theorem k_gt (C : Cxt X P w KX K mg base n E) : KOk2 K mg E true (rGtA X.K) (kV2 (pGt)) := (k_v2 (ok_or (ok_int20 fun _ _ _ => rfl) (ok_ordP C.upX _)))
theorem o_gt (C : Cxt X P w KX K mg base n E) : OpR X (compareOp .Gt) (rGtA X.K) := op_gtR C.hu200
theorem q_gt (C : Cxt X P w KX K mg base n E) (h1 : DE X K mg E a pa ta ga) (h2 : DE X K mg E b pb tb gb) (hm : behindInMarks .Gt b = false := by rfl) : DE X K mg E (.Compare a [.Gt] [b] pos) (pa && (pb && true)) (tOp (rGtA KX) ta tb) (dBin pb ga gb (kV2 (pGt))) := by
  rw [← C.hK]
  exact de_cmp (o_gt C) (k_gt C) h1 h2 hm
theorem t_gt (C : Cxt X P w KX K mg base n E) (h1 : DE X K mg E a pa ta ga) (h2 : DE X K mg E b pb tb gb) (hm : behindInMarks .Gt b = false := by rfl) : DT X K mg E (.Compare a [.Gt] [b] pos) (pa && (pb && true)) (tTest (tOp (rGtA KX) ta tb)) (dTest (dBin pb ga gb (kV2 (pGt)))) := by
  rw [← C.hK]
  exact dt_cmp (o_gt C) (k_gt C) h1 h2 hm
theorem k_ge (C : Cxt X P w KX K mg base n E) : KOk2 K mg E true (rGeA X.K) (kV2 (pGe)) := (k_v2 (ok_or (ok_int20 fun _ _ _ => rfl) (ok_ordP C.upX _)))
theorem o_ge (C : Cxt X P w KX K mg base n E) : OpR X (compareOp .GtE) (rGeA X.K) := op_geR C.hu200
theorem q_ge (C : Cxt X P w KX K mg base n E) (h1 : DE X K mg E a pa ta ga) (h2 : DE X K mg E b pb tb gb) (hm : behindInMarks .GtE b = false := by rfl) : DE X K mg E (.Compare a [.GtE] [b] pos) (pa && (pb && true)) (tOp (rGeA KX) ta tb) (dBin pb ga gb (kV2 (pGe))) := by
  rw [← C.hK]
  exact de_cmp (o_ge C) (k_ge C) h1 h2 hm
theorem t_ge (C : Cxt X P w KX K mg base n E) (h1 : DE X K mg E a pa ta ga) (h2 : DE X K mg E b pb tb gb) (hm : behindInMarks .GtE b = false := by rfl) : DT X K mg E (.Compare a [.GtE] [b] pos) (pa && (pb && true)) (tTest (tOp (rGeA KX) ta tb)) (dTest (dBin pb ga gb (kV2 (pGe)))) := by
  rw [← C.hK]
  exact dt_cmp (o_ge C) (k_ge C) h1 h2 hm
theorem k_in (C : Cxt X P w KX K mg base n E) : KOk2 K mg E true (rInA X.K) (kV2 (pInA)) := (k_v2 (ok_inA C.upX))
theorem o_in (C : Cxt X P w KX K mg base n E) : OpR X (compareOp .In) (rInA X.K) := op_inA C.hu200
theorem q_in (C : Cxt X P w KX K mg base n E) (h1 : DE X K mg E a pa ta ga) (h2 : DE X K mg E b pb tb gb) (hm : behindInMarks .In b = false := by rfl) : DE X K mg E (.Compare a [.In] [b] pos) (pa && (pb && true)) (tOp (rInA KX) ta tb) (dBin pb ga gb (kV2 (pInA))) := by
  rw [← C.hK]
  exact de_cmp (o_in C) (k_in C) h1 h2 hm
theorem t_in (C : Cxt X P w KX K mg base n E) (h1 : DE X K mg E a pa ta ga) (h2 : DE X K mg E b pb tb gb) (hm : behindInMarks .In b = false := by rfl) : DT X K mg E (.Compare a [.In] [b] pos) (pa && (pb && true)) (tTest (tOp (rInA KX) ta tb)) (dTest (dBin pb ga gb (kV2 (pInA)))) := by
  rw [← C.hK]
  exact dt_cmp (o_in C) (k_in C) h1 h2 hm
theorem k_nin (C : Cxt X P w KX K mg base n E) : KOk2 K mg E true (rNotInA X.K) (kV2 (pNotInA)) := (k_v2 (ok_notInA C.upX))
theorem o_nin (C : Cxt X P w KX K mg base n E) : OpR X (compareOp .NotIn) (rNotInA X.K) := op_notInA C.hu200
theorem q_nin (C : Cxt X P w KX K mg base n E) (h1 : DE X K mg E a pa ta ga) (h2 : DE X K mg E b pb tb gb) (hm : behindInMarks .NotIn b = false := by rfl) : DE X K mg E (.Compare a [.NotIn] [b] pos) (pa && (pb && true)) (tOp (rNotInA KX) ta tb) (dBin pb ga gb (kV2 (pNotInA))) := by
  rw [← C.hK]
  exact de_cmp (o_nin C) (k_nin C) h1 h2 hm
theorem t_nin (C : Cxt X P w KX K mg base n E) (h1 : DE X K mg E a pa ta ga) (h2 : DE X K mg E b pb tb gb) (hm : behindInMarks .NotIn b = false := by rfl) : DT X K mg E (.Compare a [.NotIn] [b] pos) (pa && (pb && true)) (tTest (tOp (rNotInA KX) ta tb)) (dTest (dBin pb ga gb (kV2 (pNotInA)))) := by
  rw [← C.hK]
  exact dt_cmp (o_nin C) (k_nin C) h1 h2 hm
theorem q_is (h1 : DE X K mg E a pa ta ga) (h2 : DE X K mg E b pb tb gb) (hm : behindInMarks .Is b = false := by rfl) : DE X K mg E (.Compare a [.Is] [b] pos) (pa && (pb && true)) (tOp rIsN ta tb) (dBin pb ga gb (kV2 (pIsN false))) := de_cmp op_isN (k_v2 ok_isN) h1 h2 hm
theorem t_is (h1 : DE X K mg E a pa ta ga) (h2 : DE X K mg E b pb tb gb) (hm : behindInMarks .Is b = false := by rfl) : DT X K mg E (.Compare a [.Is] [b] pos) (pa && (pb && true)) (tTest (tOp rIsN ta tb)) (dTest (dBin pb ga gb (kV2 (pIsN false)))) := dt_cmp op_isN (k_v2 ok_isN) h1 h2 hm
theorem q_isnt (h1 : DE X K mg E a pa ta ga) (h2 : DE X K mg E b pb tb gb) (hm : behindInMarks .IsNot b = false := by rfl) : DE X K mg E (.Compare a [.IsNot] [b] pos) (pa && (pb && true)) (tOp rNotN ta tb) (dBin pb ga gb (kV2 (pIsN true))) := de_cmp op_notN (k_v2 ok_notN) h1 h2 hm
theorem t_isnt (h1 : DE X K mg E a pa ta ga) (h2 : DE X K mg E b pb tb gb) (hm : behindInMarks .IsNot b = false := by rfl) : DT X K mg E (.Compare a [.IsNot] [b] pos) (pa && (pb && true)) (tTest (tOp rNotN ta tb)) (dTest (dBin pb ga gb (kV2 (pIsN true)))) := dt_cmp op_notN (k_v2 ok_notN) h1 h2 hm
theorem q_chain (C : Cxt X P w KX K mg base n E) {op op' : CmpOp} {r r' : Kf → R2} {k k' : M → EV → EV → Out EV} {pc : Bool} {c : Expr} (ho : OpR X (compareOp op) (r X.K)) (ho' : OpR X (compareOp op') (r' X.K)) (hk : KOk2 K mg E true (r X.K) k) (hk' : KOk2 K mg E true (r' X.K) k') (h1 : DE X K mg E a pa ta ga) (h2 : DE X K mg E b pb tb gb) (h3 : DE X K mg E c pc tc gc) (hm : lastMarks [op, op'] [b, c] = false := by with_unfolding_all rfl) : DE X K mg E (.Compare a [op, op'] [b, c] pos) (pa && (pb && pc)) (tChain (r KX) (r' KX) ta tb tc) (dChain pb pc ga gb gc k k') := by
  rw [← C.hK]
  exact de_chain ho ho' hk hk' h1 h2 h3 hm
/-! ### builtins in short -/
variable {t : TA} {gs : M → Out (List EV)}
theorem q_len (C : Cxt X P w KX K mg base n E) (hm : mg "len" = none) (ha : DA X K mg E (e :: es) pb t gs) (hg : Gl X "len" := by rfl) (he : starEach (e :: es) X.env = (false, eval e X.env) :: starEach es X.env := by rfl) (hpl : (backTo pos (starEach es X.env)).any (·.1) = false := by rfl) (hv : bootBuiltins "len" = some (.builtin "len") := by decide +kernel) : DE X K mg E (.Call (.Name "len" p) (e :: es) [] pos) (pb && true) (tCB (rLenA KX) t) (dApp gs (kVN pLen)) := by
  rw [← C.hK]
  exact de_b C call_lenA ok_len hm hv ha hg (by decide) (by decide) he hpl
theorem q_list (C : Cxt X P w KX K mg base n E) (hm : mg "list" = none) (ha : DA X K mg E (e :: es) pb t gs) (hg : Gl X "list" := by rfl) (he : starEach (e :: es) X.env = (false, eval e X.env) :: starEach es X.env := by rfl) (hpl : (backTo pos (starEach es X.env)).any (·.1) = false := by rfl) (hv : bootBuiltins "list" = some (.type "list") := by decide +kernel) : DE X K mg E (.Call (.Name "list" p) (e :: es) [] pos) (pb && true) (tCB (rListOf KX) t) (dApp gs (kVN pList)) := by
  rw [← C.hK]
  exact de_bt C call_list_of ok_list hm hv ha hg (by decide) (by decide) he hpl
theorem q_tuple (C : Cxt X P w KX K mg base n E) (hm : mg "tuple" = none) (ha : DA X K mg E (e :: es) pb t gs) (hg : Gl X "tuple" := by rfl) (he : starEach (e :: es) X.env = (false, eval e X.env) :: starEach es X.env := by rfl) (hpl : (backTo pos (starEach es X.env)).any (·.1) = false := by rfl) (hv : bootBuiltins "tuple" = some (.type "tuple") := by decide +kernel) : DE X K mg E (.Call (.Name "tuple" p) (e :: es) [] pos) (pb && true) (tCB (rTupleOf KX) t) (dApp gs (kVN pTuple)) := by
  rw [← C.hK]
  exact de_bt C call_tuple_of ok_tuple hm hv ha hg (by decide) (by decide) he hpl
theorem q_any (C : Cxt X P w KX K mg base n E) (hm : mg "any" = none) (ha : DA X K mg E (e :: es) pb t gs) (hg : Gl X "any" := by rfl) (he : starEach (e :: es) X.env = (false, eval e X.env) :: starEach es X.env := by rfl) (hpl : (backTo pos (starEach es X.env)).any (·.1) = false := by rfl) (hv : bootBuiltins "any" = some (.builtin "any") := by decide +kernel) : DE X K mg E (.Call (.Name "any" p) (e :: es) [] pos) (pb && true) (tCB (rAny KX) t) (dApp gs (kVN pAny)) := by
  rw [← C.hK]
  exact de_b C (cr_any C.calm) ok_any hm hv ha hg (by decide) (by decide) he hpl
theorem q_all (C : Cxt X P w KX K mg base n E) (hm : mg "all" = none) (ha : DA X K mg E (e :: es) pb t gs) (hg : Gl X "all" := by rfl) (he : starEach (e :: es) X.env = (false, eval e X.env) :: starEach es X.env := by rfl) (hpl : (backTo pos (starEach es X.env)).any (·.1) = false := by rfl) (hv : bootBuiltins "all" = some (.builtin "all") := by decide +kernel) : DE X K mg E (.Call (.Name "all" p) (e :: es) [] pos) (pb && true) (tCB (rAll KX) t) (dApp gs (kVN pAll)) := by
  rw [← C.hK]
  exact de_b C (cr_all C.calm) ok_all hm hv ha hg (by decide) (by decide) he hpl
theorem q_sum (C : Cxt X P w KX K mg base n E) (hm : mg "sum" = none) (ha : DA X K mg E (e :: es) pb t gs) (hg : Gl X "sum" := by rfl) (he : starEach (e :: es) X.env = (false, eval e X.env) :: starEach es X.env := by rfl) (hpl : (backTo pos (starEach es X.env)).any (·.1) = false := by rfl) (hv : bootBuiltins "sum" = some (.builtin "sum") := by decide +kernel) : DE X K mg E (.Call (.Name "sum" p) (e :: es) [] pos) (pb && true) (tCB (rSum KX) t) (dApp gs (kVN pSum)) := by
  rw [← C.hK]
  exact de_b C (cr_sum C.calm) ok_sum hm hv ha hg (by decide) (by decide) he hpl
theorem q_max2 (C : Cxt X P w KX K mg base n E) (hm : mg "max" = none) (ha : DA X K mg E (e :: es) pb t gs) (hg : Gl X "max" := by rfl) (he : starEach (e :: es) X.env = (false, eval e X.env) :: starEach es X.env := by rfl) (hpl : (backTo pos (starEach es X.env)).any (·.1) = false := by rfl) (hv : bootBuiltins "max" = some (.builtin "max") := by decide +kernel) : DE X K mg E (.Call (.Name "max" p) (e :: es) [] pos) (pb && true) (tCB ((fun xs H Q => ∃ i j, xs = [V.int i, .int j] ∧ Q (.int (if j > i then j else i)) H)) t) (dApp gs (kVN pMax2)) := by
  skip
  exact de_b C (call_max2 C.calm) ok_max2 hm hv ha hg (by decide) (by decide) he hpl
theorem q_min2 (C : Cxt X P w KX K mg base n E) (hm : mg "min" = none) (ha : DA X K mg E (e :: es) pb t gs) (hg : Gl X "min" := by rfl) (he : starEach (e :: es) X.env = (false, eval e X.env) :: starEach es X.env := by rfl) (hpl : (backTo pos (starEach es X.env)).any (·.1) = false := by rfl) (hv : bootBuiltins "min" = some (.builtin "min") := by decide +kernel) : DE X K mg E (.Call (.Name "min" p) (e :: es) [] pos) (pb && true) (tCB (rMin2) t) (dApp gs (kVN pMin2)) := by
  skip
  exact de_b C (call_min2 C.calm) ok_min2 hm hv ha hg (by decide) (by decide) he hpl
theorem q_max3 (C : Cxt X P w KX K mg base n E) (hm : mg "max" = none) (ha : DA X K mg E (e :: es) pb t gs) (hg : Gl X "max" := by rfl) (he : starEach (e :: es) X.env = (false, eval e X.env) :: starEach es X.env := by rfl) (hpl : (backTo pos (starEach es X.env)).any (·.1) = false := by rfl) (hv : bootBuiltins "max" = some (.builtin "max") := by decide +kernel) : DE X K mg E (.Call (.Name "max" p) (e :: es) [] pos) (pb && true) (tCB (rMax3) t) (dApp gs (kVN pMax3)) := by
  skip
  exact de_b C (call_max3 C.calm) ok_max3 hm hv ha hg (by decide) (by decide) he hpl
theorem q_abs (C : Cxt X P w KX K mg base n E) (hm : mg "abs" = none) (ha : DA X K mg E (e :: es) pb t gs) (hg : Gl X "abs" := by rfl) (he : starEach (e :: es) X.env = (false, eval e X.env) :: starEach es X.env := by rfl) (hpl : (backTo pos (starEach es X.env)).any (·.1) = false := by rfl) (hv : bootBuiltins "abs" = some (.builtin "abs") := by decide +kernel) : DE X K mg E (.Call (.Name "abs" p) (e :: es) [] pos) (pb && true) (tCB ((fun xs H Q => ∃ i, xs = [V.int i] ∧ Q (.int (if i < 0 then -i else i)) H)) t) (dApp gs (kVN pAbs)) := by
  skip
  exact de_b C call_abs ok_abs hm hv ha hg (by decide) (by decide) he hpl
theorem q_int (C : Cxt X P w KX K mg base n E) (hm : mg "int" = none) (ha : DA X K mg E (e :: es) pb t gs) (hg : Gl X "int" := by rfl) (he : starEach (e :: es) X.env = (false, eval e X.env) :: starEach es X.env := by rfl) (hpl : (backTo pos (starEach es X.env)).any (·.1) = false := by rfl) (hv : bootBuiltins "int" = some (.type "int") := by decide +kernel) : DE X K mg E (.Call (.Name "int" p) (e :: es) [] pos) (pb && true) (tCB ((fun xs H Q => (∃ i, xs = [V.int i] ∧ Q (.int i) H) ∨ ∃ k, xs = [V.bl k] ∧ Q (.int (if k then 1 else 0)) H)) t) (dApp gs (kVN pInt)) := by
  skip
  exact de_bt C call_int1 ok_int hm hv ha hg (by decide) (by decide) he hpl
theorem q_sorted (C : Cxt X P w KX K mg base n E) (hm : mg "sorted" = none) (ha : DA X K mg E (e :: es) pb t gs) (hg : Gl X "sorted" := by rfl) (he : starEach (e :: es) X.env = (false, eval e X.env) :: starEach es X.env := by rfl) (hpl : (backTo pos (starEach es X.env)).any (·.1) = false := by rfl) (hv : bootBuiltins "sorted" = some (.builtin "sorted") := by decide +kernel) : DE X K mg E (.Call (.Name "sorted" p) (e :: es) [] pos) (pb && true) (tCB (rSortD K) t) (dApp gs (kVN pSorted)) := by
  skip
  exact de_b C (call_sortD C.upX C.hu200) ok_sorted hm hv ha hg (by decide) (by decide) he hpl
theorem q_dict (C : Cxt X P w KX K mg base n E) (hm : mg "dict" = none) (ha : DA X K mg E (e :: es) pb t gs) (hg : Gl X "dict" := by rfl) (he : starEach (e :: es) X.env = (false, eval e X.env) :: starEach es X.env := by rfl) (hpl : (backTo pos (starEach es X.env)).any (·.1) = false := by rfl) (hv : bootBuiltins "dict" = some (.type "dict") := by decide +kernel) : DE X K mg E (.Call (.Name "dict" p) (e :: es) [] pos) (pb && true) (tCB (rDictP KX) t) (dApp gs (kVN pDictP)) := by
  rw [← C.hK]
  exact de_bt C (call_dictP C.calm) ok_dictP hm hv ha hg (by decide) (by decide) he hpl
theorem q_repr (C : Cxt X P w KX K mg base n E) (gd : X.A.guards = some []) (hm : mg "repr" = none) (ha : DA X K mg E (e :: es) pb t gs) (hg : Gl X "repr" := by rfl) (he : starEach (e :: es) X.env = (false, eval e X.env) :: starEach es X.env := by rfl) (hpl : (backTo pos (starEach es X.env)).any (·.1) = false := by rfl) (hv : bootBuiltins "repr" = some (.builtin "repr") := by decide +kernel) : DE X K mg E (.Call (.Name "repr" p) (e :: es) [] pos) (pb && true) (tCB (rRepr KX) t) (dApp gs (kVN pRepr)) := by
  rw [← C.hK]
  exact de_b C (call_reprD gd C.hu200) (ok_repr C.upX) hm hv ha hg (by decide) (by decide) he hpl
theorem ds_setLc (C : Cxt X P w KX K mg base n E) (i : Nat) {y : Str} {py spos : Pos} {elt tg iter : Expr} {ifs : List Expr} {scope : Scope} (own : List (Str × Nat)) {wi : TI} {gi : M → Out Wk} {g : TG} {bg : EV → M → Out Unit} {tt : TT} {gt : M → Out Bool} (hi : DI X K mg E tg iter wi gi) (ok : BlkOk X.N X.env.scope scope own)
    (hg : ∀ (s : Shared) (H : Hp) (Ca : Addr) (cl : List (Str × Addr)) (fp : List Addr), Cxt (X.blk s H scope (compEnvC scope cl Ca X.env) fp) P w KX K mg base n XS0 → DG (X.blk s H scope (compEnvC scope cl Ca X.env) fp) K tg g bg) (ho : OwnT' g (own.map (·.2)))
    (ht : ∀ (s : Shared) (H : Hp) (Ca : Addr) (cl : List (Str × Addr)) (fp : List Addr), Cxt (X.blk s H scope (compEnvC scope cl Ca X.env) fp) P w KX K mg base n XS0 → DTs (X.blk s H scope (compEnvC scope cl Ca X.env) fp) K mg XS0 ifs pb tt gt)
    (he : ∀ (s : Shared) (H : Hp) (Ca : Addr) (cl : List (Str × Addr)) (fp : List Addr), Cxt (X.blk s H scope (compEnvC scope cl Ca X.env) fp) P w KX K mg base n XS0 → DE (X.blk s H scope (compEnvC scope cl Ca X.env) fp) K mg XS0 elt pa te ge)
    (hy : X.N[i]? = some y := by rfl) (hyl : X.env.scope.names.lookup y = some .local := by rfl) (hsw : swapsWith (.ListComp elt [⟨tg, iter, ifs, 0⟩] scope pos) (some (.Name y py)) spos.line X.env = pure true := by rfl) (nd : (own.map (·.2)).Nodup := by decide) (hs : ∀ x, foldedSetIterable iter X.env x = pure x := by intro _; rfl) :
    DS X K mg E (.Assign [.Name y py] (.ListComp elt [⟨tg, iter, ifs, 0⟩] scope pos) spos) (tAsg (tLc wi g tt te (own.map (·.2))) (gName i)) (dAsg (dComp gi (own.map (·.2)) bg gt ge) (bName i)) := by
  have s0 : Shared := {}
  have Cb := fun (s : Shared) (H : Hp) (Ca : Addr) (cl : List (Str × Addr)) (fp : List Addr) => C.blk s H scope (compEnvC scope cl Ca X.env) fp
  refine ⟨ps_setLc C.calm C.nd hy hyl hsw hi.pe ok (fun s H Ca cl fp => (hg s H Ca cl fp (Cb s H Ca cl fp)).pe) (fun s H Ca cl fp => (ht s H Ca cl fp (Cb s H Ca cl fp)).pe) (fun s H Ca cl fp => (he s H Ca cl fp (Cb s H Ca cl fp)).pe) hs, ?_⟩
  exact ts_asg (te_comp hi.ok (hg s0 (fun _ => none) 0 [] [] (Cb _ _ _ _ _)).ok ho (ht s0 (fun _ => none) 0 [] [] (Cb _ _ _ _ _)).ok (he s0 (fun _ => none) 0 [] [] (Cb _ _ _ _ _)).ok nd) tg_name
end
/-! ### the empty list: nothing that stands is changed -/
section
variable {X : Cx} {K : Kf} {mg : Str → Option Value} {E : XS}
def kLst0 (m : M) (es : List EV) : Out EV := match es with
  | [] => .ok (.fr (.ol [])) m
  | _ => .bad
theorem k_lst0 : KOkN K mg E true (fun _ xs H Q => xs.length ≤ sizeLine ∧ ∀ p, H p = none → Q (.ref p) (upd H p (.lst xs))) kLst0 := fun F0 G π m σ F H fp Q xs es S h p => by
  cases h with
  | cons _ _ => exact p.elim
  | nil =>
    refine ⟨Nat.zero_le _, fun q hq => ?_⟩
    have f := S.freshG hq
    refine p (.ref q) F _ fp (S.allocO (.lst []) hq) ⟨Same.refl F, fun _ => ⟨rfl, rfl, same_new hq, fun _ h => .inl h⟩⟩ ⟨[q], ⟨q, [], [], rfl, upd_same, ⟨rfl, rfl⟩, rfl⟩, List.nodup_cons.mpr ⟨by simp, List.nodup_nil⟩, fun a ha => ?_⟩
    obtain rfl : a = q := by simpa using ha
    exact ⟨f.1, f.2.1, f.2.2, fun _ => hq⟩
theorem de_lst0 {pos : Pos} : DE X K mg E (.List [] pos) true (tLst tNil) (dApp dNil kLst0) := ⟨pe_lst pa_nil, te_app ta_nil (k_lst0 (K := K) (mg := mg) (E := E))⟩
end
end PD
namespace PD
open PySem PySem.Spec PyProof.Rows L2
theorem kit_ref {K : Kf} {C R : Addr} (h1 : PySem.W.hasDictIn K R = true) (h2 : PySem.W.typeIn K (.ref R) = some (.type "type")) (h3 : PySem.W.subIn K (.ref C) (.ref R) = some true) : PySem.W.kitOne K (.ref C) (.ref R) = some true := by
  obtain ⟨cd, hc, _⟩ := PySem.W.any_some h1
  unfold PySem.W.kitOne
  split
  · rfl
  · have e2 : ((PySem.W.clsIn K R).isSome && PySem.W.typeIn K (.ref R) == some (.type "type")) = true := by rw [hc, h2] <;> rfl
    show (if ((PySem.W.clsIn K R).isSome && PySem.W.typeIn K (.ref R) == some (.type "type")) = true then PySem.W.subIn K (.ref C) (.ref R) else none) = some true
    rw [if_pos e2]
    exact h3
/-! ## the law's own call: its promise is wanted at the caller alone -/
theorem law_callA {P : Program} {w : World} {K : Kf} {mg mb : Str → Option Value} {CT : CXT} {fa a : Addr} {s1 : Shared} {vs : List Value} {ns : List Int}
    (KX : K.In s1.heap) (hns : s1.heap.Ns mainGlobals mg) (hb : s1.heap.Ns builtinsNs mb) (hbb : ∀ x : Str, x ≠ "__name__" → mb x = bootBuiltins x) (hlim : s1.heap.NoLimit) (hg : s1.gens = #[])
    (ha : s1.heap.get? a = some { cls := .type "list", data := .seq vs.toArray }) (hi : IntsAre vs ns) (hl : ns.length ≤ sizeLine)
    (hX : ∀ H e s', CT [] H s1 (fun _ _ _ => False) e s' → False)
    (F : ∀ base : Heap, K.In base → base.Ns mainGlobals mg → ∀ H : Hp, Env0 P w K mg base callerA [] s1 H → SqL K H a (ns.map V.int) → codeAny (model P w) callerA (.call (.ref fa) ⟨[.ref a], []⟩) (CR CT [] P w H s1 (fun v _ => v = .bl true) fun _ _ _ => False) s1) :
    codeAny (model P w) callerA (.call (.ref fa) ⟨[.ref a], []⟩) (fun r s' => r = .ok (.ret (.bool true)) ∧ OldK s1.heap s'.heap ∧ s'.os = s1.os ∧ AllBare s'.gens) s1 := by
  have rv := vals_ints hi
  -- H tracks the script at most, frozen
  suffices main : ∀ H : Hp, (∀ b, H b = none ∨ b = a ∧ ∃ o xs, H b = some (.frz o (.lst xs))) → SqL K H a (ns.map V.int) → HOk P w H s1.heap → (H a ≠ none → K.lookup a = none) →
      codeAny (model P w) callerA (.call (.ref fa) ⟨[.ref a], []⟩) (fun r s' => r = .ok (.ret (.bool true)) ∧ OldK s1.heap s'.heap ∧ s'.os = s1.os ∧ AllBare s'.gens) s1 by
    by_cases hk : K.lookup a = none
    · let ob : Obj := { cls := .type "list", data := .seq vs.toArray }
      let Hs : Hp := fun b => if b = a then some (.frz ob (.lst (ns.map V.int))) else none
      have at_a : Hs a = some (.frz ob (.lst (ns.map V.int))) := if_pos rfl
      refine main Hs (fun b => ?_) (.inl (.inr ⟨ob, at_a⟩)) (fun b u z => ?_) fun _ => hk
      · by_cases hb : b = a
        · exact .inr ⟨hb, ob, _, by rw [hb]; exact at_a⟩
        · exact .inl (if_neg hb)
      · by_cases hb : b = a
        · subst hb
          cases at_a.symm.trans z
          exact ⟨ha, by rw [List.length_map]; exact hl, vs, _, rv, ha⟩
        · exact nomatch (show (none : Option HO) = some u from (if_neg hb).symm.trans z)
    · obtain ⟨o, hk⟩ := Option.ne_none_iff_exists'.mp hk
      have e := KX a o hk
      rw [ha] at e
      cases e
      exact main (fun _ => none) (fun _ => .inl rfl) (.inr ⟨_, vs.toArray, _, hk, rfl, rfl, rfl, by rw [List.size_toArray, hi.length]; exact hl, by simpa using rv⟩) (fun b u z => nomatch (show (none : Option HO) = some u from z)) fun z => absurd rfl z
  intro H only hS hok hK
  have lone : ∀ b, H b ≠ none → b = a := fun b n => (only b).elim (fun z => absurd z n) fun z => z.1
  have through : ∀ {b : Addr} {o : Obj}, s1.heap.get? b = some o → H b = none → (hidT s1.heap H).get? b = some o := fun e n => hidT_get e n
  have free_dict : ∀ {b : Addr} {o : Obj} {es : Array DictEntry} {ep : Nat}, s1.heap.get? b = some o → o.data = .dict es ep → H b = none := fun {b o es ep} e d => by
    cases q : H b with
    | none => rfl
    | some u =>
      cases lone b (by rw [q]; simp)
      rw [ha] at e; cases e
      exact nomatch (show Data.seq vs.toArray _ = Data.dict es ep from d)
  have spaces : ∀ {b : Addr} {m : Str → Option Value}, s1.heap.Ns b m → (hidT s1.heap H).Ns b m := fun {b m} ⟨o, es, ep, e, d, r⟩ => ⟨o, es, ep, through e (free_dict e d), d, r⟩
  have kin : K.In (hidT s1.heap H) := fun b o e => through (KX b o e) (by
    cases q : H b with
    | none => rfl
    | some u =>
      cases lone b (by rw [q]; simp)
      rw [hK (by rw [q]; simp)] at e; cases e)
  have md : Mod K mg (hidT s1.heap H) := ⟨kin, spaces hns, ⟨mb, spaces hb, hbb⟩, let ⟨mc, h1, h2⟩ := hlim; ⟨mc, spaces h1, h2⟩⟩
  have e0 : Env0 P w K mg (hidT s1.heap H) callerA [] s1 H := ⟨rfl, md, fun b o e => of_hidT e, Nat.le_of_eq (hidT_size _ _), trivial, fun b hb => absurd (show b ∈ ([] : List Addr) from hb) (by simp), hok, .of_eq hg⟩
  refine codeAny_mono (F _ kin (spaces hns) H e0 hS) fun r s' h => ?_
  match r, h with
  | .error e, h => exact (hX H e s' h).elim
  | .ok .next, h => exact False.elim h
  | .ok .brk, h => exact False.elim h
  | .ok .cont, h => exact False.elim h
  | .ok (.ret u), h =>
    obtain ⟨v, H', os, bare, un, hok', r', q⟩ := h
    have q : v = .bl true := q
    subst q
    obtain rfl : u = Value.bool true := r'
    refine ⟨rfl, OldK.of_keep fun b o e => ?_, os, bare⟩
    rcases only b with q | ⟨_, ob, xs, q⟩
    · exact un.keep b o e q (by intro z; exact absurd (show b ∈ ([] : List Addr) from z) (by simp)) (by simp)
    · obtain ⟨e1, _⟩ := hok b _ q
      obtain ⟨e2, _⟩ := hok' b _ (un.frzs b ob _ q)
      exact (e2.trans e1.symm).trans e
/-- the end: from the head to the law's text -/
theorem walk_pd {l : PySem.W.OpenLaw} {n k : Nat} {q : Program} {loose : List Str} {XP : (Str → Option Value) → Heap → Prop} {YP : World → Heap → Prop} {d : DefRec} {K : Params → Kf} {x fnm qual : Str} {st : Stmt} {N : List Str}
    (hn : l.most = some n) (hn2 : n ≤ sizeLine) (hdf : d.params.defaults = []) (hr : Room (k + 1) callerA) (hY : ∀ (w : World) (h : Heap), YP w h → (K w.params).In h)
    (F : ∀ (w : World) (mg : Str → Option Value) (fa : Addr) (h : Heap), (K w.params).In h → h.Ns mainGlobals mg → mg d.name = some (.ref fa) →
      ∃ fd : FuncData, Fun (K w.params) fnm qual st fa fd ∧ FnScope N [x] (defScope st) ∧ (∀ (s : Shared) (u : Value), BindsTo s fd ⟨[u], []⟩ [(x, u)]) ∧
        ∀ (base : Heap) (cdv : Value) (s : Shared) (H : Hp), (K w.params).In base → base.Ns mainGlobals mg → ∀ (a : Addr) (ns : List Int), ns.length ≤ n → SqL (K w.params) H a (ns.map V.int) →
          Cxt (cxOf (L2.CX l.prog w) l.prog w (K w.params) mg base N qual (defScope st) fa cdv callerA [] s H (fun _ _ _ => False)) l.prog w (K w.params) (K w.params) mg base k (fun _ _ _ _ => False) →
          ∃ t, PSs (cxOf (L2.CX l.prog w) l.prog w (K w.params) mg base N qual (defScope st) fa cdv callerA [] s H (fun _ _ _ => False)) (defBody st) t ∧ t { nx := fun _ _ => V.non = .bl true, rt := fun v _ => v = .bl true } (L2.start N [.ref a]) H) :
    PySem.W.WalkO q loose XP YP l.row.toRowW d [] (fun f vs => PySem.call f vs) := by
  refine Att.attach_call hn hdf fun w s0 s1 mg mb fa o pm cd doc a vs ns G Y ho hd hcd hmg hobj hints hlen hg => ?_
  have KX := hY w _ Y
  obtain ⟨fd, Fn, S, hb, body⟩ := F w mg fa _ KX G.T.g hmg
  refine law_callA (CT := L2.CX l.prog w) KX G.T.g G.T.b G.T.builtins G.T.nolimit hg hobj hints (Nat.le_trans hlen hn2) (fun H e s' h => ?_) fun base kin sp H e0 hS => ?_
  · obtain ⟨_, _, _, _, _, _, _, _, _, _, _, _, z⟩ := h
    exact z
  · obtain ⟨oc, od, kV, doc', pm', an, cdv, ct, osl, rfl, lk, hcd'⟩ := Fn.ex
    refine LamX.run_ofS lk hcd' S (us := [.ref a]) (vs := [.ref a]) hr e0 (hb _ _) (.cons rfl .nil) rfl fun rm => ?_
    have tk : Takes (cxOf (L2.CX l.prog w) l.prog w (K w.params) mg base N qual (defScope st) fa cdv callerA [] s1 H (fun _ _ _ => False)) (fun cls d _ H => False) := takes_of rfl rfl rfl rfl
    obtain ⟨t, h1, h2⟩ := body base cdv s1 H kin sp a ns hlen hS ⟨rfl, rfl, rfl, up_refl _, rfl, rfl, rm, rfl, S.nd, fun σ => passAt tk σ, passes_of rfl, tk⟩
    exact ⟨t, h1, h2⟩
end PD
namespace PD
open PySem PySem.Spec PyProof.Rows L2
/-! # evaluation of denotations -/
/-- a def's run: its result, what its pinned arguments hold behind it -/
structure Rn (r : Out SV) (s : SV) (ps : List SV) : Prop where
  ex : ∃ sl, r = .ok s ⟨sl, ps⟩
structure RnX (r : Out SV) (c : Str) (d : D) (ps : List SV) : Prop where
  ex : ∃ sl, r = .exc c d ⟨sl, ps⟩
theorem Rn.eq {r : Out SV} {s : SV} {ps : List SV} (h : Rn r s ps) : ∃ sl, r = .ok s ⟨sl, ps⟩ := h.ex
theorem RnX.eq {r : Out SV} {c : Str} {d : D} {ps : List SV} (h : RnX r c d ps) : ∃ sl, r = .exc c d ⟨sl, ps⟩ := h.ex
theorem Rn_ok (s' s : SV) (m : M) (ps : List SV) : Rn (.ok s' m) s ps ↔ (s' = s ∧ m.pp = ps) := by
  constructor
  · rintro ⟨sl, h⟩
    cases h
    exact ⟨rfl, rfl⟩
  · rintro ⟨rfl, rfl⟩
    exact ⟨m.sl, rfl⟩
theorem RnX_exc (c' c : Str) (d' d : D) (m : M) (ps : List SV) : RnX (.exc c' d' m) c d ps ↔ (c' = c ∧ d' = d ∧ m.pp = ps) := by
  constructor
  · rintro ⟨sl, h⟩
    cases h
    exact ⟨rfl, rfl, rfl⟩
  · rintro ⟨rfl, rfl, rfl⟩
    exact ⟨m.sl, rfl⟩
theorem rn_eq {r : Out SV} {s : SV} {m : M} (h : r = .ok s m) : Rn r s m.pp := ⟨m.sl, h⟩
theorem rnX_eq {r : Out SV} {c : Str} {d : D} {m : M} (h : r = .exc c d m) : RnX r c d m.pp := ⟨m.sl, h⟩
/-! ### calls -/
theorem mkArgs_v {m : M} : ∀ (ds : List D) (os : List Ow), mkArgs m (ds.map EV.v) os = some (ds.map Ar.fz, os)
  | [], os => rfl
  | d :: ds, os => by simp [mkArgs, mkArgs_v ds os]
theorem call_v {np : Nat} {f : Den} {m : M} {ds : List D} {s : SV} (hl : ds.length = np) (h : Rn (f (ds.map Ar.fz) []) s []) : callK np f m (ds.map EV.v) = .ok (resE s) m := by
  obtain ⟨sl, e⟩ := h.eq
  unfold callK
  simp [hl, mkArgs_v, pinsOf, e, setAll]
theorem callX_v {np : Nat} {f : Den} {m : M} {ds : List D} {c : Str} {d : D} (hl : ds.length = np) (h : RnX (f (ds.map Ar.fz) []) c d []) : callK np f m (ds.map EV.v) = .exc c d m := by
  obtain ⟨sl, e⟩ := h.eq
  unfold callK
  simp [hl, mkArgs_v, pinsOf, e, setAll]
/-- the first argument pinned, the others frozen -/
theorem call_p {np : Nat} {f : Den} {m : M} {o : Ow} {s0 s1 s : SV} {ds : List D} (hl : ds.length + 1 = np) (hg : get m o = some s0) (h : Rn (f (.pin 0 :: ds.map Ar.fz) [s0]) s [s1]) : callK np f m (.br o [] :: ds.map EV.v) = .ok (resE s) (setO m o s1) := by
  obtain ⟨sl, e⟩ := h.eq
  unfold callK
  simp [hl, mkArgs, mkArgs_v, pinsOf, hg, e, setAll]
/-- the first two pinned -/
theorem call_pp {np : Nat} {f : Den} {m : M} {o o' : Ow} {s0 s1 t0 t1 s : SV} {ds : List D} (hl : ds.length + 2 = np) (hne : o ≠ o') (hg : get m o = some s0) (hg' : get m o' = some t0) (h : Rn (f (.pin 0 :: .pin 1 :: ds.map Ar.fz) [s0, t0]) s [s1, t1]) :
    callK np f m (.br o [] :: .br o' [] :: ds.map EV.v) = .ok (resE s) (setO (setO m o s1) o' t1) := by
  obtain ⟨sl, e⟩ := h.eq
  unfold callK
  simp [hl, mkArgs, mkArgs_v, pinsOf, hg, hg', e, setAll, hne.symm]
/-! ### walks -/
abbrev always : M → Prop := fun _ => True
theorem forI_rel {β : Type} {tg : EV → M → Out Unit} {gb : M → Out Ctl} (Rp : β → M → Prop) (step : D → β → β) : ∀ (items : List D) (b : β) (m : M), Rp b m →
    (∀ d ∈ items, ∀ b m, Rp b m → ∃ m1 m2, tg (.v d) m = .ok () m1 ∧ (gb m1 = .ok .nx m2 ∨ gb m1 = .ok .ct m2) ∧ Rp (step d b) m2) →
    ∃ m', forI always tg gb items m = .ok .nx m' ∧ Rp (items.foldl (fun b d => step d b) b) m'
  | [], b, m, h, _ => ⟨m, by simp [forI, always], h⟩
  | d :: r, b, m, h, k => by
    obtain ⟨m1, m2, h1, h2, h3⟩ := k d List.mem_cons_self b m h
    obtain ⟨m', e, h4⟩ := forI_rel Rp step r (step d b) m2 h3 fun d hd => k d (List.mem_cons_of_mem _ hd)
    refine ⟨m', ?_, h4⟩
    unfold forI
    rcases h2 with h2 | h2 <;> simp [always, h1, h2, e]
/-- with the position -/
theorem forI_at {tg : EV → M → Out Unit} {gb : M → Out Ctl} (Rp : Nat → M → Prop) : ∀ (items : List D) (i : Nat) (m : M), Rp i m →
    (∀ (j : Nat) (d : D) (m : M), items[j]? = some d → Rp (i + j) m → ∃ m1 m2, tg (.v d) m = .ok () m1 ∧ (gb m1 = .ok .nx m2 ∨ gb m1 = .ok .ct m2) ∧ Rp (i + j + 1) m2) →
    ∃ m', forI always tg gb items m = .ok .nx m' ∧ Rp (i + items.length) m'
  | [], i, m, h, _ => ⟨m, by simp [forI, always], h⟩
  | d :: r, i, m, h, k => by
    obtain ⟨m1, m2, h1, h2, h3⟩ := k 0 d m rfl h
    obtain ⟨m', e, h4⟩ := forI_at Rp r (i + 1) m2 h3 fun j d m hd hm => by
      have := k (j + 1) d m (by simpa using hd) (by rw [show i + (j + 1) = i + 1 + j by omega]; exact hm)
      rw [show i + (j + 1) + 1 = i + 1 + j + 1 by omega] at this
      exact this
    refine ⟨m', ?_, by rw [List.length_cons, show i + (r.length + 1) = i + 1 + r.length by omega]; exact h4⟩
    unfold forI
    rcases h2 with h2 | h2 <;> simp [always, h1, h2, e]
/-- a comprehension whose turns leave the machine as it was -/
theorem compI_pure {vs : List Nat} {b : EV → M → Out Unit} {gt : M → Out Bool} {ge : M → Out EV} (p : D → Bool) (f : D → SV) : ∀ (items : List D) (acc : List SV) (m : M), acc.length + items.length ≤ bigLen → always m →
    (∀ d ∈ items, ∃ m1 m2, b (.v d) m = .ok () m1 ∧ gt m1 = .ok (p d) m2 ∧ (p d = false → wipeM m2 vs = m) ∧ (p d = true → ∃ ev m3 m4, ge m2 = .ok ev m3 ∧ elem m3 ev = .ok (f d) m4 ∧ wipeM m4 vs = m)) →
    compI always vs b gt ge items acc m = .ok (acc ++ (items.filter p).map f) m
  | [], acc, m, _, _, _ => by simp [compI, always]
  | d :: r, acc, m, hl, _, k => by
    obtain ⟨m1, m2, h1, h2, h3, h4⟩ := k d List.mem_cons_self
    unfold compI
    rw [List.length_cons] at hl
    cases hp : p d with
    | false =>
      rw [hp] at h2
      simp only [always, if_true, h1, h2, h3 hp]
      rw [compI_pure p f r acc m (by omega) trivial fun d hd => k d (List.mem_cons_of_mem _ hd)]
      simp [List.filter_cons, hp]
    | true =>
      rw [hp] at h2
      obtain ⟨ev, m3, m4, h5, h6, h7⟩ := h4 hp
      have hb : acc.length < bigLen := by omega
      simp only [always, if_true, h1, h2, h5, h6, hb, h7]
      rw [compI_pure p f r (acc ++ [f d]) m (by rw [List.length_append]; simp; omega) trivial fun d hd => k d (List.mem_cons_of_mem _ hd)]
      simp [List.filter_cons, hp]
/-- [e for x in l if c], each turn leaves the machine as it was (the own slots apart) -/
theorem comp_if {gi : M → Out Wk} {vs : List Nat} {b : EV → M → Out Unit} {gt : M → Out Bool} {ge : M → Out EV} {m m0 : M} {ds : List D} (p : D → Bool) (f : D → SV) (hi : gi m0 = .ok ⟨ds, always⟩ m) (hl : ds.length ≤ bigLen) (al : vs.all (fun v => plainSl (m.sl[v]?.join)) = true) (hr : restM (wipeM m vs) m vs = m)
    (k : ∀ d ∈ ds, ∃ m1 m2, b (.v d) (wipeM m vs) = .ok () m1 ∧ gt m1 = .ok (p d) m2 ∧ (p d = false → wipeM m2 vs = wipeM m vs) ∧ (p d = true → ∃ ev m3 m4, ge m2 = .ok ev m3 ∧ elem m3 ev = .ok (f d) m4 ∧ wipeM m4 vs = wipeM m vs)) :
    dComp gi vs b gt ge m0 = .ok (.fr (.ol ((ds.filter p).map f))) m := by
  have c := compI_pure (vs := vs) (b := b) (gt := gt) (ge := ge) p f ds [] (wipeM m vs) (by simpa using hl) trivial k
  unfold dComp
  rw [hi]
  show (if vs.all (fun v => plainSl (m.sl[v]?.join)) = true then _ else _) = _
  rw [if_pos al]
  show (match compI always vs b gt ge ds [] (wipeM m vs) with
    | .ok xs m2 => Out.ok (EV.fr (.ol xs)) (restM m2 m vs)
    | _ => .bad) = _
  rw [c, List.nil_append]
  show Out.ok (EV.fr (.ol ((ds.filter p).map f))) (restM (wipeM m vs) m vs) = _
  rw [hr]
theorem comp_all {gi : M → Out Wk} {vs : List Nat} {b : EV → M → Out Unit} {ge : M → Out EV} {m m0 : M} {ds : List D} (f : D → SV) (hi : gi m0 = .ok ⟨ds, always⟩ m) (hl : ds.length ≤ bigLen) (al : vs.all (fun v => plainSl (m.sl[v]?.join)) = true) (hr : restM (wipeM m vs) m vs = m)
    (k : ∀ d ∈ ds, ∃ m1 ev m3 m4, b (.v d) (wipeM m vs) = .ok () m1 ∧ ge m1 = .ok ev m3 ∧ elem m3 ev = .ok (f d) m4 ∧ wipeM m4 vs = wipeM m vs) :
    dComp gi vs b (fun m => .ok true m) ge m0 = .ok (.fr (.ol (ds.map f))) m := by
  have := comp_if (gi := gi) (b := b) (gt := fun m => .ok true m) (ge := ge) (fun _ => true) f hi hl al hr fun d hd => by
    obtain ⟨m1, ev, m3, m4, h1, h2, h3, h4⟩ := k d hd
    exact ⟨m1, m1, h1, rfl, ⟨fun h => (by cases h), fun _ => ⟨ev, m3, m4, h2, h3, h4⟩⟩⟩
  rw [this, List.filter_eq_self.mpr (fun _ _ => rfl)]
end PD
namespace PD
open PySem PySem.Spec PyProof.Rows L2
/-! # matrices of whole numbers -/
def rowS (r : List Int) : SV := .ol (r.map fun x => .fz (.int x))
def matS (G : List (List Int)) : SV := .ol (G.map rowS)
def rowD (r : List Int) : D := .lst (r.map .int)
def matD (G : List (List Int)) : D := .lst (G.map rowD)
theorem ixN_at {n j : Nat} (h : j < n) : ixN n (j : Int) = some j := by
  unfold ixN
  rw [if_pos (by omega), if_pos (by omega)]
  simp
theorem frzL_rows (r : List Int) : frzL (r.map fun x => SV.fz (.int x)) = r.map .int := by
  induction r with
  | nil => rfl
  | cons x r ih => simp [frzL, frz, ih]
theorem frz_mat (G : List (List Int)) : frz (matS G) = matD G := by
  unfold matS matD
  rw [frz]
  congr 1
  induction G with
  | nil => rfl
  | cons r G ih => simp [frzL, ih, rowS, rowD, frz, frzL_rows]
theorem opd_of {g : M → Out EV} {m m1 : M} {x : EV} (h : g m = .ok x m1) (n : nofr x = true := by rfl) : opd g m = .ok x m1 := by
  cases x with
  | fr s => cases n
  | v d => simp [opd, h, Out.bind, frE]
  | br o p => simp [opd, h, Out.bind, frE]
theorem bin_of {pb : Bool} {ga gb : M → Out EV} {k : M → EV → EV → Out EV} {m m1 m2 : M} {x y : EV} (h1 : opd ga m = .ok x m1) (h2 : opd gb m1 = .ok y m2) (h3 : stable pb x = true := by rfl) : dBin pb ga gb k m = k m2 x y := by
  simp [dBin, h1, h2, h3, Out.bind]
/-- m[i][j], owned -/
theorem ev_mat {a b c : Nat} {o : Ow} {m : M} {G : List (List Int)} {i j : Nat} {r : List Int} {x : Int} (ha : dVar a m = .ok (.br o []) m) (hg : get m o = some (matS G)) (hb : dVar b m = .ok (.v (.int i)) m) (hc : dVar c m = .ok (.v (.int j)) m) (h1 : G[i]? = some r) (h2 : r[j]? = some x) :
    dBin true (dBin true (dVar a) (dVar b) kIx) (dVar c) kIx m = .ok (.v (.int x)) m := by
  have li : i < G.length := (List.getElem?_eq_some_iff.mp h1).1
  have lj : j < r.length := (List.getElem?_eq_some_iff.mp h2).1
  have e1 : dBin true (dVar a) (dVar b) kIx m = .ok (.br o [.i i]) m := by
    rw [bin_of (opd_of ha) (opd_of hb)]
    simp [kIx, PD.view, hg, PD.sub, matS, stepIx, ixN_at li, h1, rowS]
  rw [bin_of (opd_of e1) (opd_of hc)]
  simp [kIx, PD.view, hg, PD.sub, matS, h1, rowS, stepIx, ixN_at lj, h2]
/-- m[i][j], frozen -/
theorem ev_matD {a b c : Nat} {m : M} {G : List (List Int)} {i j : Nat} {r : List Int} {x : Int} (ha : dVar a m = .ok (.v (matD G)) m) (hb : dVar b m = .ok (.v (.int i)) m) (hc : dVar c m = .ok (.v (.int j)) m) (h1 : G[i]? = some r) (h2 : r[j]? = some x) :
    dBin true (dBin true (dVar a) (dVar b) kIx) (dVar c) kIx m = .ok (.v (.int x)) m := by
  have li : i < G.length := (List.getElem?_eq_some_iff.mp h1).1
  have lj : j < r.length := (List.getElem?_eq_some_iff.mp h2).1
  have e1 : dBin true (dVar a) (dVar b) kIx m = .ok (.v (rowD r)) m := by
    rw [bin_of (opd_of ha) (opd_of hb)]
    simp [kIx, PD.view, matD, stepIx, ixN_at li, h1]
  rw [bin_of (opd_of e1) (opd_of hc)]
  simp [kIx, PD.view, rowD, stepIx, ixN_at lj, h2]
def setM (G : List (List Int)) (i j : Nat) (v : Int) : List (List Int) := match G[i]? with
  | some r => G.set i (r.set j v)
  | none => G
theorem map_set' {α β : Type} (f : α → β) (l : List α) (i : Nat) (x : α) : (l.map f).set i (f x) = (l.set i x).map f := by
  rw [List.map_set]
/-- m[i][j] = v, owned -/
theorem st_mat {a b c : Nat} {o : Ow} {m : M} {G : List (List Int)} {i j : Nat} {r : List Int} {v : Int} {ga : M → Out EV} (hv : ga m = .ok (.v (.int v)) m) (ha : dVar a m = .ok (.br o []) m) (hg : get m o = some (matS G)) (hb : dVar b m = .ok (.v (.int i)) m) (hc : dVar c m = .ok (.v (.int j)) m) (h1 : G[i]? = some r) (h2 : j < r.length) :
    dAsg ga (bSubA (dBin true (dVar a) (dVar b) kIx) (dVar c)) m = .ok .nx (setO m o (matS (setM G i j v))) := by
  have li : i < G.length := (List.getElem?_eq_some_iff.mp h1).1
  have e1 : dBin true (dVar a) (dVar b) kIx m = .ok (.br o [.i i]) m := by
    rw [bin_of (opd_of ha) (opd_of hb)]
    simp [kIx, PD.view, hg, PD.sub, matS, stepIx, ixN_at li, h1, rowS]
  have e3 : (SV.ol ((r.map fun x => SV.fz (.int x)).set j (.fz (.int v)))) = rowS (r.set j v) := by
    rw [rowS]
    congr 1
    exact map_set' (fun x => SV.fz (.int x)) r j v
  have e4 : put (matS G) [.i i] (rowS (r.set j v)) = matS (setM G i j v) := by
    have hx : (G.map rowS)[i]? = some (rowS r) := by rw [List.getElem?_map, h1]; rfl
    have hs : setM G i j v = G.set i (r.set j v) := by unfold setM; rw [h1]
    rw [hs]
    unfold matS
    simp only [put, hx]
    rw [map_set']
  have e5 : fSet (rowS r) [.fz (.int j), .fz (.int v)] = some (rowS (r.set j v), .non) := by
    rw [← e3]
    show ((ixN (r.map fun x => SV.fz (.int x)).length (j : Int)).map fun k => (SV.ol ((r.map fun x => SV.fz (.int x)).set k (.fz (.int v))), D.non)) = _
    rw [List.length_map, ixN_at h2]
    rfl
  have e6 : PD.sub (matS G) [.i i] = some (rowS r) := by simp [PD.sub, matS, h1]
  have o1 := opd_of e1
  have o2 := opd_of hc
  simp [dAsg, hv, Out.bind, bSubA, ownE, o1, o2, PD.view, kMut, hg, e6, e5, e4]
end PD
namespace K15
open PySem PySem.Spec PyProof.Rows L2 PD
def topS (i : Nat) : Stmt := PySem.Challenge.pw_surelythisrock_k15_orders_that_are_left.main.body.getD i (.Pass ⟨0, 0, 0, 0⟩)
abbrev s_is_whole : Stmt := topS 6
theorem sc_is_whole : FnScope ["thing"] ["thing"] (defScope s_is_whole) := ⟨rfl, rfl, rfl, by decide +kernel, rfl, by decide +kernel, by decide +kernel⟩
abbrev s_is_between : Stmt := topS 7
theorem sc_is_between : FnScope ["thing", "least", "most"] ["thing", "least", "most"] (defScope s_is_between) := ⟨rfl, rfl, rfl, by decide +kernel, rfl, by decide +kernel, by decide +kernel⟩
abbrev s_is_truth : Stmt := topS 8
theorem sc_is_truth : FnScope ["thing"] ["thing"] (defScope s_is_truth) := ⟨rfl, rfl, rfl, by decide +kernel, rfl, by decide +kernel, by decide +kernel⟩
abbrev s_is_tuple_of : Stmt := topS 9
theorem sc_is_tuple_of : FnScope ["thing", "many"] ["thing", "many"] (defScope s_is_tuple_of) := ⟨rfl, rfl, rfl, by decide +kernel, rfl, by decide +kernel, by decide +kernel⟩
abbrev s_need_count : Stmt := topS 11
theorem sc_need_count : FnScope ["count"] ["count"] (defScope s_need_count) := ⟨rfl, rfl, rfl, by decide +kernel, rfl, by decide +kernel, by decide +kernel⟩
abbrev s_is_order_row : Stmt := topS 17
theorem sc_is_order_row : FnScope ["count", "thing"] ["count", "thing"] (defScope s_is_order_row) := ⟨rfl, rfl, rfl, by decide +kernel, rfl, by decide +kernel, by decide +kernel⟩
abbrev s_need_orders : Stmt := topS 18
theorem sc_need_orders : FnScope ["count", "orders", "row"] ["count", "orders"] (defScope s_need_orders) := ⟨rfl, rfl, rfl, by decide +kernel, rfl, by decide +kernel, by decide +kernel⟩
abbrev s_grade_of : Stmt := topS 19
theorem sc_grade_of : FnScope ["strict"] ["strict"] (defScope s_grade_of) := ⟨rfl, rfl, rfl, by decide +kernel, rfl, by decide +kernel, by decide +kernel⟩
abbrev s_chained : Stmt := topS 20
theorem sc_chained : FnScope ["one", "other"] ["one", "other"] (defScope s_chained) := ⟨rfl, rfl, rfl, by decide +kernel, rfl, by decide +kernel, by decide +kernel⟩
abbrev s_closure : Stmt := topS 21
theorem sc_closure : FnScope ["count", "orders", "grades", "one", "other", "strict", "middle", "further"] ["count", "orders"] (defScope s_closure) := ⟨rfl, rfl, rfl, by decide +kernel, rfl, by decide +kernel, by decide +kernel⟩
abbrev s_sure_grades : Stmt := topS 22
theorem sc_sure_grades : FnScope ["count", "orders", "grades", "point"] ["count", "orders"] (defScope s_sure_grades) := ⟨rfl, rfl, rfl, by decide +kernel, rfl, by decide +kernel, by decide +kernel⟩
abbrev s_can_be_lowest : Stmt := topS 23
theorem sc_can_be_lowest : FnScope ["orders", "left", "lot", "one", "other", "strict"] ["orders", "left", "lot"] (defScope s_can_be_lowest) := ⟨rfl, rfl, rfl, by decide +kernel, rfl, by decide +kernel, by decide +kernel⟩
abbrev s_lots_within : Stmt := topS 24
theorem sc_lots_within : FnScope ["left", "found", "lot"] ["left"] (defScope s_lots_within) := ⟨rfl, rfl, rfl, by decide +kernel, rfl, by decide +kernel, by decide +kernel⟩
abbrev s_orders_of : Stmt := topS 25
theorem sc_orders_of : FnScope ["count", "orders", "found", "left", "lot"] ["count", "orders"] (defScope s_orders_of) := ⟨rfl, rfl, rfl, by decide +kernel, rfl, by decide +kernel, by decide +kernel⟩
abbrev s_orders_left : Stmt := topS 26
theorem sc_orders_left : FnScope ["count", "orders"] ["count", "orders"] (defScope s_orders_left) := ⟨rfl, rfl, rfl, by decide +kernel, rfl, by decide +kernel, by decide +kernel⟩
abbrev s__law_begun : Stmt := topS 28
theorem sc__law_begun : FnScope ["script", "salt", "cells", "mixed", "cell"] ["script", "salt"] (defScope s__law_begun) := ⟨rfl, rfl, rfl, by decide +kernel, rfl, by decide +kernel, by decide +kernel⟩
abbrev s__law_draw : Stmt := topS 29
theorem sc__law_draw : FnScope ["deck", "below", "cell", "mixed"] ["deck", "below"] (defScope s__law_draw) := ⟨rfl, rfl, rfl, by decide +kernel, rfl, by decide +kernel, by decide +kernel⟩
abbrev s__law_pick : Stmt := topS 30
theorem sc__law_pick : FnScope ["deck", "some"] ["deck", "some"] (defScope s__law_pick) := ⟨rfl, rfl, rfl, by decide +kernel, rfl, by decide +kernel, by decide +kernel⟩
abbrev s__law_closure : Stmt := topS 31
theorem sc__law_closure : FnScope ["count", "orders", "found", "a", "one", "other", "strict", "c", "b"] ["count", "orders"] (defScope s__law_closure) := ⟨rfl, rfl, rfl, by decide +kernel, rfl, by decide +kernel, by decide +kernel⟩
abbrev s__law_have_heights : Stmt := topS 32
theorem sc__law_have_heights : FnScope ["count", "found", "a"] ["count", "found"] (defScope s__law_have_heights) := ⟨rfl, rfl, rfl, by decide +kernel, rfl, by decide +kernel, by decide +kernel⟩
abbrev s__law_orders : Stmt := topS 33
theorem sc__law_orders : FnScope ["deck", "most", "count", "ranks", "rows", "turn", "one", "other", "p"] ["deck", "most"] (defScope s__law_orders) := ⟨rfl, rfl, rfl, by decide +kernel, rfl, by decide +kernel, by decide +kernel⟩
abbrev s__law_number : Stmt := topS 34
theorem sc__law_number : FnScope ["count", "orders", "known", "every", "p", "left", "total", "some", "is_fine", "one", "other", "strict"] ["count", "orders"] (defScope s__law_number) := ⟨rfl, rfl, rfl, by decide +kernel, rfl, by decide +kernel, by decide +kernel⟩
abbrev s__law_heard : Stmt := topS 35
theorem sc__law_heard : FnScope ["count", "orders", "by_name", "e"] ["count", "orders", "by_name"] (defScope s__law_heard) := ⟨rfl, rfl, rfl, by decide +kernel, rfl, by decide +kernel, by decide +kernel⟩
abbrev s_law : Stmt := topS 36
theorem sc_law : FnScope ["script", "deck", "numbers", "k", "turn", "count", "ranks", "rows", "one", "other", "strict", "orders", "found", "due", "turned", "many", "more", "told"] ["script"] (defScope s_law) := ⟨rfl, rfl, rfl, by decide +kernel, rfl, by decide +kernel, by decide +kernel⟩
structure Env (KX : Kf) (mg : Str → Option Value) : Prop where
  z_all : mg "all" = none
  z_any : mg "any" = none
  z_bool : mg "bool" = none
  z_int : mg "int" = none
  z_isinstance : mg "isinstance" = none
  z_len : mg "len" = none
  z_list : mg "list" = none
  z_max : mg "max" = none
  z_range : mg "range" = none
  z_repr : mg "repr" = none
  z_sum : mg "sum" = none
  z_tuple : mg "tuple" = none
  c_NONE : ∃ t, mg "NONE" = some (.int 0 t)
  c_PLAIN : ∃ t, mg "PLAIN" = some (.int 1 t)
  c_ROW_PARTS : ∃ t, mg "ROW_PARTS" = some (.int 3 t)
  c_STRICT : ∃ t, mg "STRICT" = some (.int 2 t)
  f_is_whole : ∃ (a : Addr) (fd : FuncData), Fun KX "is_whole" "is_whole" s_is_whole a fd ∧ mg "is_whole" = some (.ref a) ∧ Binds KX fd ["thing"] []
  f_is_between : ∃ (a : Addr) (fd : FuncData), Fun KX "is_between" "is_between" s_is_between a fd ∧ mg "is_between" = some (.ref a) ∧ Binds KX fd ["thing", "least", "most"] []
  f_is_truth : ∃ (a : Addr) (fd : FuncData), Fun KX "is_truth" "is_truth" s_is_truth a fd ∧ mg "is_truth" = some (.ref a) ∧ Binds KX fd ["thing"] []
  f_is_tuple_of : ∃ (a : Addr) (fd : FuncData), Fun KX "is_tuple_of" "is_tuple_of" s_is_tuple_of a fd ∧ mg "is_tuple_of" = some (.ref a) ∧ Binds KX fd ["thing", "many"] []
  f_need_count : ∃ (a : Addr) (fd : FuncData), Fun KX "need_count" "need_count" s_need_count a fd ∧ mg "need_count" = some (.ref a) ∧ Binds KX fd ["count"] []
  f_is_order_row : ∃ (a : Addr) (fd : FuncData), Fun KX "is_order_row" "is_order_row" s_is_order_row a fd ∧ mg "is_order_row" = some (.ref a) ∧ Binds KX fd ["count", "thing"] []
  f_need_orders : ∃ (a : Addr) (fd : FuncData), Fun KX "need_orders" "need_orders" s_need_orders a fd ∧ mg "need_orders" = some (.ref a) ∧ Binds KX fd ["count", "orders"] []
  f_grade_of : ∃ (a : Addr) (fd : FuncData), Fun KX "grade_of" "grade_of" s_grade_of a fd ∧ mg "grade_of" = some (.ref a) ∧ Binds KX fd ["strict"] []
  f_chained : ∃ (a : Addr) (fd : FuncData), Fun KX "chained" "chained" s_chained a fd ∧ mg "chained" = some (.ref a) ∧ Binds KX fd ["one", "other"] []
  f_closure : ∃ (a : Addr) (fd : FuncData), Fun KX "closure" "closure" s_closure a fd ∧ mg "closure" = some (.ref a) ∧ Binds KX fd ["count", "orders"] []
  f_sure_grades : ∃ (a : Addr) (fd : FuncData), Fun KX "sure_grades" "sure_grades" s_sure_grades a fd ∧ mg "sure_grades" = some (.ref a) ∧ Binds KX fd ["count", "orders"] []
  f_can_be_lowest : ∃ (a : Addr) (fd : FuncData), Fun KX "can_be_lowest" "can_be_lowest" s_can_be_lowest a fd ∧ mg "can_be_lowest" = some (.ref a) ∧ Binds KX fd ["orders", "left", "lot"] []
  f_lots_within : ∃ (a : Addr) (fd : FuncData), Fun KX "lots_within" "lots_within" s_lots_within a fd ∧ mg "lots_within" = some (.ref a) ∧ Binds KX fd ["left"] []
  f_orders_of : ∃ (a : Addr) (fd : FuncData), Fun KX "orders_of" "orders_of" s_orders_of a fd ∧ mg "orders_of" = some (.ref a) ∧ Binds KX fd ["count", "orders"] []
  f_orders_left : ∃ (a : Addr) (fd : FuncData), Fun KX "orders_left" "orders_left" s_orders_left a fd ∧ mg "orders_left" = some (.ref a) ∧ Binds KX fd ["count", "orders"] []
  f__law_begun : ∃ (a : Addr) (fd : FuncData), Fun KX "_law_begun" "_law_begun" s__law_begun a fd ∧ mg "_law_begun" = some (.ref a) ∧ Binds KX fd ["script", "salt"] []
  f__law_draw : ∃ (a : Addr) (fd : FuncData), Fun KX "_law_draw" "_law_draw" s__law_draw a fd ∧ mg "_law_draw" = some (.ref a) ∧ Binds KX fd ["deck", "below"] []
  f__law_pick : ∃ (a : Addr) (fd : FuncData), Fun KX "_law_pick" "_law_pick" s__law_pick a fd ∧ mg "_law_pick" = some (.ref a) ∧ Binds KX fd ["deck", "some"] []
  f__law_closure : ∃ (a : Addr) (fd : FuncData), Fun KX "_law_closure" "_law_closure" s__law_closure a fd ∧ mg "_law_closure" = some (.ref a) ∧ Binds KX fd ["count", "orders"] []
  f__law_have_heights : ∃ (a : Addr) (fd : FuncData), Fun KX "_law_have_heights" "_law_have_heights" s__law_have_heights a fd ∧ mg "_law_have_heights" = some (.ref a) ∧ Binds KX fd ["count", "found"] []
  f__law_orders : ∃ (a : Addr) (fd : FuncData), Fun KX "_law_orders" "_law_orders" s__law_orders a fd ∧ mg "_law_orders" = some (.ref a) ∧ Binds KX fd ["deck", "most"] []
  f__law_number : ∃ (a : Addr) (fd : FuncData), Fun KX "_law_number" "_law_number" s__law_number a fd ∧ mg "_law_number" = some (.ref a) ∧ Binds KX fd ["count", "orders"] []
  f__law_heard : ∃ (a : Addr) (fd : FuncData), Fun KX "_law_heard" "_law_heard" s__law_heard a fd ∧ mg "_law_heard" = some (.ref a) ∧ Binds KX fd ["count", "orders", "by_name"] []
  x_BadCount : ∃ (C fI : Addr), ThC KX mg "BadCount" "BadCount.__init__" C fI
  x_BadRows : ∃ (C fI : Addr), ThC KX mg "BadRows" "BadRows.__init__" C fI
  x_NoHeights : ∃ (C fI : Addr), ThC KX mg "NoHeights" "NoHeights.__init__" C fI
  x_root : ∃ R : Addr, mg "RockError" = some (.ref R) ∧ True
  tg : ThG KX
  e_ex : ∀ a ∈ (["BadCount", "BadRows", "NoHeights"] : List Str), ∀ b ∈ (["BadCount", "BadRows", "NoHeights"] : List Str), ∀ Ca Cb : Addr, mg a = some (.ref Ca) → mg b = some (.ref Cb) → PySem.W.exmOne KX (.ref Ca) (.ref Cb) = some (decide (a = b))
  e_ki : ∀ a ∈ (["BadCount", "BadRows", "NoHeights"] : List Str), ∀ Ca R : Addr, mg a = some (.ref Ca) → mg "RockError" = some (.ref R) → PySem.W.kitOne KX (.ref Ca) (.ref R) = some true
section
variable {P : Program} {w : World} {KX K : Kf} {mg : Str → Option Value} {base : Heap}
theorem bb_bool : bootBuiltins "bool" = some (.type "bool") := by decide +kernel
theorem bb_int : bootBuiltins "int" = some (.type "int") := by decide +kernel
theorem bb_list : bootBuiltins "list" = some (.type "list") := by decide +kernel
theorem bb_tuple : bootBuiltins "tuple" = some (.type "tuple") := by decide +kernel
noncomputable def b_is_whole (mg : Str → Option Value) : M → Out Ctl :=
 (dRet (dAndV (dUn (dVar 0) (kV1 (pIsi "int"))) (dNotV (dUn (dVar 0) (kV1 (pIsi "bool"))))))
noncomputable def den_is_whole (mg : Str → Option Value) : Den := dDef 1 (b_is_whole mg)
theorem f_is_whole (U : Up K KX) (G : Env KX mg) : FnD P w KX K mg base "is_whole" s_is_whole 1 ["thing"] (den_is_whole mg) := by
  obtain ⟨a, fd, h1, h2, h3⟩ := G.f_is_whole
  refine ⟨a, fd, h1, h2, h3, ?_⟩
  exact fn_den (N := ["thing"]) (ps := ["thing"]) (g := b_is_whole mg) (k := 0) U h1 sc_is_whole fun cdv A outer s H E C => ⟨_,
 (ds_one (ds_ret (de_and (de_isi C kit_int G.z_isinstance G.z_int bb_int (de_var 0)) (de_one (de_not (de_isi C kit_bool G.z_isinstance G.z_bool bb_bool (de_var 0)))))))⟩
noncomputable def b_is_between (mg : Str → Option Value) : M → Out Ctl :=
 (dRet (dAndV (dApp (dCons true (dVar 0) dNil) (callK 1 (den_is_whole mg))) (dChain true true (dVar 1) (dVar 0) (dVar 2) (kV2 pLe) (kV2 pLe))))
noncomputable def den_is_between (mg : Str → Option Value) : Den := dDef 3 (b_is_between mg)
theorem f_is_between (U : Up K KX) (G : Env KX mg) : FnD P w KX K mg base "is_between" s_is_between 2 ["thing", "least", "most"] (den_is_between mg) := by
  obtain ⟨a, fd, h1, h2, h3⟩ := G.f_is_between
  refine ⟨a, fd, h1, h2, h3, ?_⟩
  exact fn_den (N := ["thing", "least", "most"]) (ps := ["thing", "least", "most"]) (g := b_is_between mg) (k := 1) U h1 sc_is_between fun cdv A outer s H E C => ⟨_,
 (ds_one (ds_ret (de_and (de_call C (f_is_whole U G) (da_cons (de_var 0) da_nil)) (de_one (q_chain C (r := rLeA) (r' := rLeA) (o_le C) (o_le C) (k_le C) (k_le C) (de_var 1) (de_var 0) (de_var 2))))))⟩
noncomputable def b_is_truth (mg : Str → Option Value) : M → Out Ctl :=
 (dRet (dUn (dVar 0) (kV1 (pIsi "bool"))))
noncomputable def den_is_truth (mg : Str → Option Value) : Den := dDef 1 (b_is_truth mg)
theorem f_is_truth (U : Up K KX) (G : Env KX mg) : FnD P w KX K mg base "is_truth" s_is_truth 1 ["thing"] (den_is_truth mg) := by
  obtain ⟨a, fd, h1, h2, h3⟩ := G.f_is_truth
  refine ⟨a, fd, h1, h2, h3, ?_⟩
  exact fn_den (N := ["thing"]) (ps := ["thing"]) (g := b_is_truth mg) (k := 0) U h1 sc_is_truth fun cdv A outer s H E C => ⟨_,
 (ds_one (ds_ret (de_isi C kit_bool G.z_isinstance G.z_bool bb_bool (de_var 0))))⟩
noncomputable def b_is_tuple_of (mg : Str → Option Value) : M → Out Ctl :=
 (dRet (dAndV (dUn (dVar 0) (kV1 (pIsi "tuple"))) (dBin true (dApp (dCons true (dVar 0) dNil) (kVN pLen)) (dVar 1) (kV2 (bin2 pEq)))))
noncomputable def den_is_tuple_of (mg : Str → Option Value) : Den := dDef 2 (b_is_tuple_of mg)
theorem f_is_tuple_of (U : Up K KX) (G : Env KX mg) : FnD P w KX K mg base "is_tuple_of" s_is_tuple_of 1 ["thing", "many"] (den_is_tuple_of mg) := by
  obtain ⟨a, fd, h1, h2, h3⟩ := G.f_is_tuple_of
  refine ⟨a, fd, h1, h2, h3, ?_⟩
  exact fn_den (N := ["thing", "many"]) (ps := ["thing", "many"]) (g := b_is_tuple_of mg) (k := 0) U h1 sc_is_tuple_of fun cdv A outer s H E C => ⟨_,
 (ds_one (ds_ret (de_and (de_isi C kit_tuple G.z_isinstance G.z_tuple bb_tuple (de_var 0)) (de_one (q_eq C (q_len C G.z_len (da_cons (de_var 0) da_nil)) (de_var 1))))))⟩
noncomputable def b_need_count (mg : Str → Option Value) : M → Out Ctl :=
 (dIf (dOrT (dNotT (dTest (dApp (dCons true (dVar 0) dNil) (callK 1 (den_is_whole mg))))) (dTest (dBin true (dVar 0) (dC (.int 1)) (kV2 pLt)))) (dRaise "BadCount" (dVar 0))
 dSkip)
noncomputable def den_need_count (mg : Str → Option Value) : Den := dDef 1 (b_need_count mg)
theorem f_need_count (U : Up K KX) (G : Env KX mg) : FnD P w KX K mg base "need_count" s_need_count 2 ["count"] (den_need_count mg) := by
  obtain ⟨a, fd, h1, h2, h3⟩ := G.f_need_count
  refine ⟨a, fd, h1, h2, h3, ?_⟩
  exact fn_den (N := ["count"]) (ps := ["count"]) (g := b_need_count mg) (k := 1) U h1 sc_need_count fun cdv A outer s H E C => ⟨_,
 (ds_one (ds_if (dt_w (dw_or (dt_not (dt_val (de_call C (f_is_whole U G) (da_cons (de_var 0) da_nil)))) (dw_or1 (t_lt C (de_var 0) de_int)))) (ds_one (ds_raise C G.x_BadCount.choose_spec.choose_spec (de_var 0)))
 ds_skip))⟩
noncomputable def b_is_order_row (mg : Str → Option Value) : M → Out Ctl :=
 (dSeq (dIf (dOrT (dNotT (dTest (dApp (dCons true (dVar 1) (dCons true (dC (.int 3)) dNil)) (callK 2 (den_is_tuple_of mg))))) (dNotT (dTest (dApp (dCons true (dBin true (dVar 1) (dC (.int 0)) kIx) (dCons true (dC (.int 0)) (dCons true (dBin true (dVar 0) (dC (.int 1)) (kV2 pSub)) dNil))) (callK 3 (den_is_between mg)))))) (dRet (dC (.bl false)))
 dSkip)
 (dRet (dAndV (dApp (dCons true (dBin true (dVar 1) (dC (.int 1)) kIx) (dCons true (dC (.int 0)) (dCons true (dBin true (dVar 0) (dC (.int 1)) (kV2 pSub)) dNil))) (callK 3 (den_is_between mg))) (dApp (dCons true (dBin true (dVar 1) (dC (.int 2)) kIx) dNil) (callK 1 (den_is_truth mg))))))
noncomputable def den_is_order_row (mg : Str → Option Value) : Den := dDef 2 (b_is_order_row mg)
theorem f_is_order_row (U : Up K KX) (G : Env KX mg) : FnD P w KX K mg base "is_order_row" s_is_order_row 3 ["count", "thing"] (den_is_order_row mg) := by
  obtain ⟨a, fd, h1, h2, h3⟩ := G.f_is_order_row
  refine ⟨a, fd, h1, h2, h3, ?_⟩
  exact fn_den (N := ["count", "thing"]) (ps := ["count", "thing"]) (g := b_is_order_row mg) (k := 2) U h1 sc_is_order_row fun cdv A outer s H E C => ⟨_,
 (ds_cons (ds_if (dt_w (dw_or (dt_not (dt_val (de_call C (f_is_tuple_of U G) (da_cons (de_var 1) (da_cons (q_gint C G.c_ROW_PARTS) da_nil))))) (dw_or1 (dt_not (dt_val (de_call C (f_is_between U G) (da_cons (de_sub C (de_var 1) de_int) (da_cons de_int (da_cons (q_sub C (de_var 0) de_int) da_nil))))))))) (ds_one (ds_ret de_bl))
 ds_skip)
 (ds_one (ds_ret (de_and (de_call C (f_is_between U G) (da_cons (de_sub C (de_var 1) de_int) (da_cons de_int (da_cons (q_sub C (de_var 0) de_int) da_nil)))) (de_one (de_call C (f_is_truth U G) (da_cons (de_sub C (de_var 1) de_int) da_nil)))))))⟩
noncomputable def b_need_orders (mg : Str → Option Value) : M → Out Ctl :=
 (dSeq (dDrop (dApp (dCons true (dVar 0) dNil) (callK 1 (den_need_count mg))))
 (dIf (dOrT (dNotT (dTest (dUn (dVar 1) (kV1 (pIsi "tuple"))))) (dNotT (dTest (dApp (dCons true (dComp (dISeq (dVar 1)) [2] (bName 2) (fun m => .ok true m) (dApp (dCons true (dVar 0) (dCons true (dVar 2) dNil)) (callK 2 (den_is_order_row mg)))) dNil) (kVN pAll))))) (dRaise "BadRows" (dVar 1))
 dSkip))
noncomputable def den_need_orders (mg : Str → Option Value) : Den := dDef 3 (b_need_orders mg)
theorem f_need_orders (U : Up K KX) (G : Env KX mg) : FnD P w KX K mg base "need_orders" s_need_orders 4 ["count", "orders"] (den_need_orders mg) := by
  obtain ⟨a, fd, h1, h2, h3⟩ := G.f_need_orders
  refine ⟨a, fd, h1, h2, h3, ?_⟩
  exact fn_den (N := ["count", "orders", "row"]) (ps := ["count", "orders"]) (g := b_need_orders mg) (k := 3) U h1 sc_need_orders fun cdv A outer s H E C => ⟨_,
 (ds_cons (ds_expr (de_call C (f_need_count U G) (da_cons (de_var 0) da_nil)))
 (ds_one (ds_if (dt_w (dw_or (dt_not (dt_val (de_isi C kit_tuple G.z_isinstance G.z_tuple bb_tuple (de_var 1)))) (dw_or1 (dt_not (dt_val (q_all C G.z_all (da_cons (de_lc C [("row", 2)] (di_seq C (de_var 1)) (blkOk_by (by first | rfl | kernel_rfl)) (fun _ _ _ _ _ C1 => (dg_name C1 2)) (ownT_name (by decide)) (fun _ _ _ _ _ C1 => dts_nil) (fun _ _ _ _ _ C1 => (de_call C1 (f_is_order_row U G) (da_cons (de_var 0) (da_cons (de_var 2) da_nil))))) da_nil))))))) (ds_one (ds_raise C G.x_BadRows.choose_spec.choose_spec (de_var 1)))
 ds_skip)))⟩
noncomputable def b_grade_of (mg : Str → Option Value) : M → Out Ctl :=
 (dRet (dIfE (dTest (dVar 0)) (dC (.int 2)) (dC (.int 1))))
noncomputable def den_grade_of (mg : Str → Option Value) : Den := dDef 1 (b_grade_of mg)
theorem f_grade_of (U : Up K KX) (G : Env KX mg) : FnD P w KX K mg base "grade_of" s_grade_of 1 ["strict"] (den_grade_of mg) := by
  obtain ⟨a, fd, h1, h2, h3⟩ := G.f_grade_of
  refine ⟨a, fd, h1, h2, h3, ?_⟩
  exact fn_den (N := ["strict"]) (ps := ["strict"]) (g := b_grade_of mg) (k := 0) U h1 sc_grade_of fun cdv A outer s H E C => ⟨_,
 (ds_one (ds_ret (de_if (dt_val (de_var 0)) (q_gint C G.c_STRICT) (q_gint C G.c_PLAIN))))⟩
noncomputable def b_chained (mg : Str → Option Value) : M → Out Ctl :=
 (dRet (dIfE (dTest (dBin false (dC (.int 0)) (dApp (dCons true (dVar 0) (dCons true (dVar 1) dNil)) PD.kTup) (kV2 pInA))) (dC (.int 0)) (dApp (dCons true (dVar 0) (dCons true (dVar 1) dNil)) (kVN pMax2))))
noncomputable def den_chained (mg : Str → Option Value) : Den := dDef 2 (b_chained mg)
theorem f_chained (U : Up K KX) (G : Env KX mg) : FnD P w KX K mg base "chained" s_chained 1 ["one", "other"] (den_chained mg) := by
  obtain ⟨a, fd, h1, h2, h3⟩ := G.f_chained
  refine ⟨a, fd, h1, h2, h3, ?_⟩
  exact fn_den (N := ["one", "other"]) (ps := ["one", "other"]) (g := b_chained mg) (k := 0) U h1 sc_chained fun cdv A outer s H E C => ⟨_,
 (ds_one (ds_ret (de_if (t_in C (q_gint C G.c_NONE) (de_tup (da_cons (de_var 0) (da_cons (de_var 1) da_nil)))) (q_gint C G.c_NONE) (q_max2 C G.z_max (da_cons (de_var 0) (da_cons (de_var 1) da_nil))))))⟩
noncomputable def b_closure (mg : Str → Option Value) : M → Out Ctl :=
 (dSeq (dAsg (dComp (dIter (dCons true (dVar 0) dNil) kRange1) [3] (bName 3) (fun m => .ok true m) (dComp (dIter (dCons true (dVar 0) dNil) kRange1) [4] (bName 4) (fun m => .ok true m) (dIfE (dTest (dBin true (dVar 3) (dVar 4) (kV2 (bin2 pEq)))) (dC (.int 1)) (dC (.int 0))))) (bName 2))
 (dSeq (dFor (dISeq (dVar 1)) (bTup 3 (bCons (bName 3) (bCons (bName 4) (bCons (bName 5) bNil))))
 (dAsg (dApp (dCons false (dBin true (dBin true (dVar 2) (dVar 3) kIx) (dVar 4) kIx) (dCons true (dApp (dCons true (dVar 5) dNil) (callK 1 (den_grade_of mg))) dNil)) (kVN pMax2)) (bSubA (dBin true (dVar 2) (dVar 3) kIx) (dVar 4))))
 (dSeq (dFor (dIter (dCons true (dVar 0) dNil) kRange1) (bName 6)
 (dFor (dIter (dCons true (dVar 0) dNil) kRange1) (bName 3)
 (dFor (dIter (dCons true (dVar 0) dNil) kRange1) (bName 4)
 (dSeq (dAsg (dApp (dCons true (dBin true (dBin true (dVar 2) (dVar 3) kIx) (dVar 6) kIx) (dCons true (dBin true (dBin true (dVar 2) (dVar 6) kIx) (dVar 4) kIx) dNil)) (callK 2 (den_chained mg))) (bName 7))
 (dAsg (dApp (dCons true (dBin true (dBin true (dVar 2) (dVar 3) kIx) (dVar 4) kIx) (dCons true (dVar 7) dNil)) (kVN pMax2)) (bSubA (dBin true (dVar 2) (dVar 3) kIx) (dVar 4)))))))
 (dRet (dVar 2)))))
noncomputable def den_closure (mg : Str → Option Value) : Den := dDef 8 (b_closure mg)
theorem f_closure (U : Up K KX) (G : Env KX mg) : FnD P w KX K mg base "closure" s_closure 2 ["count", "orders"] (den_closure mg) := by
  obtain ⟨a, fd, h1, h2, h3⟩ := G.f_closure
  refine ⟨a, fd, h1, h2, h3, ?_⟩
  exact fn_den (N := ["count", "orders", "grades", "one", "other", "strict", "middle", "further"]) (ps := ["count", "orders"]) (g := b_closure mg) (k := 1) U h1 sc_closure fun cdv A outer s H E C => ⟨_,
 (ds_cons (ds_setLc C 2 [("one", 3)] (di_range1 C G.z_range (da_cons (de_var 0) da_nil)) (blkOk_by (by first | rfl | kernel_rfl)) (fun _ _ _ _ _ C1 => (dg_name C1 3)) (ownT_name (by decide)) (fun _ _ _ _ _ C1 => dts_nil) (fun _ _ _ _ _ C1 => (de_lc C1 [("other", 4)] (di_range1 C1 G.z_range (da_cons (de_var 0) da_nil)) (blkOk_by (by first | rfl | kernel_rfl)) (fun _ _ _ _ _ C2 => (dg_name C2 4)) (ownT_name (by decide)) (fun _ _ _ _ _ C2 => dts_nil) (fun _ _ _ _ _ C2 => (de_if (t_eq C2 (de_var 3) (de_var 4)) (q_gint C2 G.c_PLAIN) (q_gint C2 G.c_NONE))))))
 (ds_cons (ds_for C (di_seq C (de_var 1)) (dg_tup C (dgs_cons (dg_name C 3) (dgs_cons (dg_name C 4) (dgs_cons (dg_name C 5) dgs_nil))))
 (ds_one (ds_asg (q_max2 C G.z_max (da_cons (de_sub C (de_sub C (de_var 2) (de_var 3)) (de_var 4)) (da_cons (de_call C (f_grade_of U G) (da_cons (de_var 5) da_nil)) da_nil))) (dg_sub C (de_sub C (de_var 2) (de_var 3)) (de_var 4)))))
 (ds_cons (ds_for C (di_range1 C G.z_range (da_cons (de_var 0) da_nil)) (dg_name C 6)
 (ds_one (ds_for C (di_range1 C G.z_range (da_cons (de_var 0) da_nil)) (dg_name C 3)
 (ds_one (ds_for C (di_range1 C G.z_range (da_cons (de_var 0) da_nil)) (dg_name C 4)
 (ds_cons (ds_set C 7 (de_call C (f_chained U G) (da_cons (de_sub C (de_sub C (de_var 2) (de_var 3)) (de_var 6)) (da_cons (de_sub C (de_sub C (de_var 2) (de_var 6)) (de_var 4)) da_nil))))
 (ds_one (ds_asg (q_max2 C G.z_max (da_cons (de_sub C (de_sub C (de_var 2) (de_var 3)) (de_var 4)) (da_cons (de_var 7) da_nil))) (dg_sub C (de_sub C (de_var 2) (de_var 3)) (de_var 4))))))))))
 (ds_one (ds_ret (de_var 2))))))⟩
noncomputable def b_sure_grades (mg : Str → Option Value) : M → Out Ctl :=
 (dSeq (dAsg (dApp (dCons true (dVar 0) (dCons true (dVar 1) dNil)) (callK 2 (den_closure mg))) (bName 2))
 (dSeq (dIf (dTest (dApp (dCons true (dComp (dIter (dCons true (dVar 0) dNil) kRange1) [3] (bName 3) (fun m => .ok true m) (dBin true (dBin true (dBin true (dVar 2) (dVar 3) kIx) (dVar 3) kIx) (dC (.int 2)) (kV2 (bin2 pEq)))) dNil) (kVN pAny))) (dRaise "NoHeights" (dVar 1))
 dSkip)
 (dRet (dVar 2))))
noncomputable def den_sure_grades (mg : Str → Option Value) : Den := dDef 4 (b_sure_grades mg)
theorem f_sure_grades (U : Up K KX) (G : Env KX mg) : FnD P w KX K mg base "sure_grades" s_sure_grades 3 ["count", "orders"] (den_sure_grades mg) := by
  obtain ⟨a, fd, h1, h2, h3⟩ := G.f_sure_grades
  refine ⟨a, fd, h1, h2, h3, ?_⟩
  exact fn_den (N := ["count", "orders", "grades", "point"]) (ps := ["count", "orders"]) (g := b_sure_grades mg) (k := 2) U h1 sc_sure_grades fun cdv A outer s H E C => ⟨_,
 (ds_cons (ds_set C 2 (de_call C (f_closure U G) (da_cons (de_var 0) (da_cons (de_var 1) da_nil))))
 (ds_cons (ds_if (dt_val (q_any C G.z_any (da_cons (de_lc C [("point", 3)] (di_range1 C G.z_range (da_cons (de_var 0) da_nil)) (blkOk_by (by first | rfl | kernel_rfl)) (fun _ _ _ _ _ C1 => (dg_name C1 3)) (ownT_name (by decide)) (fun _ _ _ _ _ C1 => dts_nil) (fun _ _ _ _ _ C1 => (q_eq C1 (de_sub C1 (de_sub C1 (de_var 2) (de_var 3)) (de_var 3)) (q_gint C1 G.c_STRICT)))) da_nil))) (ds_one (ds_raise C G.x_NoHeights.choose_spec.choose_spec (de_var 1)))
 ds_skip)
 (ds_one (ds_ret (de_var 2)))))⟩
noncomputable def b_can_be_lowest (mg : Str → Option Value) : M → Out Ctl :=
 (dSeq (dFor (dISeq (dVar 0)) (bTup 3 (bCons (bName 3) (bCons (bName 4) (bCons (bName 5) bNil))))
 (dIf (dAndT (dTest (dBin true (dBin true (dBin true (dVar 2) (dVar 3) (kV2 pShr)) (dC (.int 1)) (kV2 pAnd)) (dC (.int 1)) (kV2 (bin2 pEq)))) (dTest (dBin true (dBin true (dBin true (dVar 1) (dVar 4) (kV2 pShr)) (dC (.int 1)) (kV2 pAnd)) (dC (.int 1)) (kV2 (bin2 pEq))))) (dIf (dOrT (dTest (dVar 5)) (dTest (dBin true (dBin true (dBin true (dVar 2) (dVar 4) (kV2 pShr)) (dC (.int 1)) (kV2 pAnd)) (dC (.int 0)) (kV2 (bin2 pEq))))) (dRet (dC (.bl false)))
 dSkip)
 dSkip))
 (dRet (dC (.bl true))))
noncomputable def den_can_be_lowest (mg : Str → Option Value) : Den := dDef 6 (b_can_be_lowest mg)
theorem f_can_be_lowest (U : Up K KX) (G : Env KX mg) : FnD P w KX K mg base "can_be_lowest" s_can_be_lowest 1 ["orders", "left", "lot"] (den_can_be_lowest mg) := by
  obtain ⟨a, fd, h1, h2, h3⟩ := G.f_can_be_lowest
  refine ⟨a, fd, h1, h2, h3, ?_⟩
  exact fn_den (N := ["orders", "left", "lot", "one", "other", "strict"]) (ps := ["orders", "left", "lot"]) (g := b_can_be_lowest mg) (k := 0) U h1 sc_can_be_lowest fun cdv A outer s H E C => ⟨_,
 (ds_cons (ds_for C (di_seq C (de_var 0)) (dg_tup C (dgs_cons (dg_name C 3) (dgs_cons (dg_name C 4) (dgs_cons (dg_name C 5) dgs_nil))))
 (ds_one (ds_if (dt_w (dw_and (t_eq C (q_band C (q_shr C (de_var 2) (de_var 3)) de_int) de_int) (dw_and1 (t_eq C (q_band C (q_shr C (de_var 1) (de_var 4)) de_int) de_int)))) (ds_one (ds_if (dt_w (dw_or (dt_val (de_var 5)) (dw_or1 (t_eq C (q_band C (q_shr C (de_var 2) (de_var 4)) de_int) de_int)))) (ds_one (ds_ret de_bl))
 ds_skip))
 ds_skip)))
 (ds_one (ds_ret de_bl)))⟩
noncomputable def b_lots_within (mg : Str → Option Value) : M → Out Ctl :=
 (dSeq (dPar [1, 2] (dRaw (dApp dNil kLst0) (dRaw (dVar 0) dRaw0)))
 (dSeq (dWhile (dTest (dBin true (dVar 2) (dC (.int 0)) (kV2 pGt))) (dSeq (dDrop (dMt1 "list" true (dVar 1) (dVar 2) fAppend))
 (dAsg (dBin true (dBin true (dVar 2) (dC (.int 1)) (kV2 pSub)) (dVar 0) (kV2 pAnd)) (bName 2))))
 (dRet (dVar 1))))
noncomputable def den_lots_within (mg : Str → Option Value) : Den := dDef 3 (b_lots_within mg)
theorem f_lots_within (U : Up K KX) (G : Env KX mg) : FnD P w KX K mg base "lots_within" s_lots_within 1 ["left"] (den_lots_within mg) := by
  obtain ⟨a, fd, h1, h2, h3⟩ := G.f_lots_within
  refine ⟨a, fd, h1, h2, h3, ?_⟩
  exact fn_den (N := ["left", "found", "lot"]) (ps := ["left"]) (g := b_lots_within mg) (k := 0) U h1 sc_lots_within fun cdv A outer s H E C => ⟨_,
 (ds_cons (ds_par2 C 1 2 (dr_cons de_lst0 (dr_cons (de_var 0) dr_nil)))
 (ds_cons (ds_while C (t_gt C (de_var 2) de_int) (ds_cons (ds_expr (de_append C (de_var 1) (de_var 2)))
 (ds_one (ds_set C 2 (q_band C (q_sub C (de_var 2) de_int) (de_var 0))))))
 (ds_one (ds_ret (de_var 1)))))⟩
noncomputable def b_orders_of (mg : Str → Option Value) : M → Out Ctl :=
 (dSeq (dAsg (dApp (dCons true (dC (.int 1)) dNil) kLst) (bName 2))
 (dSeq (dFor (dIter (dCons true (dC (.int 1)) (dCons true (dBin true (dC (.int 1)) (dVar 0) (kV2 pShl)) dNil)) kRange2) (bName 3)
 (dDrop (dMt1 "list" false (dVar 2) (dApp (dCons true (dComp (dISeq (dApp (dCons true (dVar 3) dNil) (callK 1 (den_lots_within mg)))) [4] (bName 4) (dTest (dApp (dCons true (dVar 1) (dCons true (dVar 3) (dCons true (dVar 4) dNil))) (callK 3 (den_can_be_lowest mg)))) (dBin true (dVar 2) (dBin true (dVar 3) (dVar 4) (kV2 pXor)) kIx)) dNil) (kVN pSum)) fAppend)))
 (dRet (dBin true (dVar 2) (dUn (dC (.int 1)) (kV1 pNeg)) kIx))))
noncomputable def den_orders_of (mg : Str → Option Value) : Den := dDef 5 (b_orders_of mg)
theorem f_orders_of (U : Up K KX) (G : Env KX mg) : FnD P w KX K mg base "orders_of" s_orders_of 2 ["count", "orders"] (den_orders_of mg) := by
  obtain ⟨a, fd, h1, h2, h3⟩ := G.f_orders_of
  refine ⟨a, fd, h1, h2, h3, ?_⟩
  exact fn_den (N := ["count", "orders", "found", "left", "lot"]) (ps := ["count", "orders"]) (g := b_orders_of mg) (k := 1) U h1 sc_orders_of fun cdv A outer s H E C => ⟨_,
 (ds_cons (ds_set C 2 (de_lst (da_cons de_int da_nil)))
 (ds_cons (ds_for C (di_range2 C G.z_range (da_cons de_int (da_cons (q_shl C de_int (de_var 0)) da_nil))) (dg_name C 3)
 (ds_one (ds_expr (de_append C (de_var 2) (q_sum C G.z_sum (da_cons (de_lc C [("lot", 4)] (di_seq C (de_call C (f_lots_within U G) (da_cons (de_var 3) da_nil))) (blkOk_by (by first | rfl | kernel_rfl)) (fun _ _ _ _ _ C1 => (dg_name C1 4)) (ownT_name (by decide)) (fun _ _ _ _ _ C1 => (dts_one (dt_val (de_call C1 (f_can_be_lowest U G) (da_cons (de_var 1) (da_cons (de_var 3) (da_cons (de_var 4) da_nil))))))) (fun _ _ _ _ _ C1 => (de_sub C1 (de_var 2) (q_bxor C1 (de_var 3) (de_var 4))))) da_nil))))))
 (ds_one (ds_ret (de_sub C (de_var 2) (q_neg de_int))))))⟩
noncomputable def b_orders_left (mg : Str → Option Value) : M → Out Ctl :=
 (dSeq (dDrop (dApp (dCons true (dVar 0) (dCons true (dVar 1) dNil)) (callK 2 (den_need_orders mg))))
 (dSeq (dDrop (dApp (dCons true (dVar 0) (dCons true (dVar 1) dNil)) (callK 2 (den_sure_grades mg))))
 (dRet (dApp (dCons true (dVar 0) (dCons true (dVar 1) dNil)) (callK 2 (den_orders_of mg))))))
noncomputable def den_orders_left (mg : Str → Option Value) : Den := dDef 2 (b_orders_left mg)
theorem f_orders_left (U : Up K KX) (G : Env KX mg) : FnD P w KX K mg base "orders_left" s_orders_left 5 ["count", "orders"] (den_orders_left mg) := by
  obtain ⟨a, fd, h1, h2, h3⟩ := G.f_orders_left
  refine ⟨a, fd, h1, h2, h3, ?_⟩
  exact fn_den (N := ["count", "orders"]) (ps := ["count", "orders"]) (g := b_orders_left mg) (k := 4) U h1 sc_orders_left fun cdv A outer s H E C => ⟨_,
 (ds_cons (ds_expr (de_call C (f_need_orders U G) (da_cons (de_var 0) (da_cons (de_var 1) da_nil))))
 (ds_cons (ds_expr (de_call C (f_sure_grades U G) (da_cons (de_var 0) (da_cons (de_var 1) da_nil))))
 (ds_one (ds_ret (de_call C (f_orders_of U G) (da_cons (de_var 0) (da_cons (de_var 1) da_nil)))))))⟩
noncomputable def b__law_begun (mg : Str → Option Value) : M → Out Ctl :=
 (dSeq (dPar [2, 3] (dRaw (dApp (dCons true (dSl true true (dVar 0) dNoPart (dPart (dC (.int 63)))) dNil) (kVN pList)) (dRaw (dVar 1) dRaw0)))
 (dSeq (dFor (dISeq (dVar 2)) (bName 4)
 (dAsg (dBin true (dBin true (dBin true (dBin true (dVar 3) (dC (.int 48271)) (kV2 pMul)) (dBin true (dVar 4) (dC (.int 2147483629)) (kV2 pMod)) (kV2 pPlus)) (dC (.int 37)) (kV2 pPlus)) (dC (.int 2147483587)) (kV2 pMod)) (bName 3)))
 (dRet (dDisp (dPairs (dC (.str "cells")) (dUn (dVar 2) (kV1 pRev)) (dPairs (dC (.str "mixed")) (dVar 3) (dPairs (dC (.str "turn")) (dC (.int 0)) dPairs0)))))))
noncomputable def den__law_begun (mg : Str → Option Value) : Den := dDef 5 (b__law_begun mg)
theorem f__law_begun (U : Up K KX) (G : Env KX mg) : FnD P w KX K mg base "_law_begun" s__law_begun 1 ["script", "salt"] (den__law_begun mg) := by
  obtain ⟨a, fd, h1, h2, h3⟩ := G.f__law_begun
  refine ⟨a, fd, h1, h2, h3, ?_⟩
  exact fn_den (N := ["script", "salt", "cells", "mixed", "cell"]) (ps := ["script", "salt"]) (g := b__law_begun mg) (k := 0) U h1 sc__law_begun fun cdv A outer s H E C => ⟨_,
 (ds_cons (ds_par2 C 2 3 (dr_cons (q_list C G.z_list (da_cons (de_sl C (de_var 0) do_none (do_some de_int)) da_nil)) (dr_cons (de_var 1) dr_nil)))
 (ds_cons (ds_for C (di_seq C (de_var 2)) (dg_name C 4)
 (ds_one (ds_set C 3 (q_mod C (q_add C (q_add C (q_mul C (de_var 3) de_int) (q_mod C (de_var 4) de_int)) de_int) de_int))))
 (ds_one (ds_ret (de_disp (dps_cons de_str (de_rev C (de_var 2)) (dps_cons de_str (de_var 3) (dps_cons de_str de_int dps_nil))))))))⟩
noncomputable def b__law_draw (mg : Str → Option Value) : M → Out Ctl :=
 (dSeq (dAsg (dBin true (dBin true (dVar 0) (dC (.str "turn")) kIx) (dC (.int 1)) (kV2 pPlus)) (bSubA (dVar 0) (dC (.str "turn"))))
 (dSeq (dAsg (dBin true (dVar 0) (dC (.str "mixed")) kIx) (bName 2))
 (dSeq (dIf (dTest (dBin true (dBin true (dVar 0) (dC (.str "cells")) kIx) (dApp dNil kLst0) (kV2 (bin2 pNe)))) (dSeq (dAsg (dMt "list" true (dBin true (dVar 0) (dC (.str "cells")) kIx) dNil fPop) (bName 2))
 (dSeq (dIf (dTest (dBin true (dVar 2) (dBin true (dC (.int 10)) (dC (.int 18)) (kV2 pPow)) (kV2 pGe))) (dSeq (dDrop (dMt1 "list" true (dBin true (dVar 0) (dC (.str "cells")) kIx) (dBin true (dVar 2) (dApp (dCons true (dC (.int 2)) (dCons true (dVar 1) dNil)) (kVN pMax2)) (kV2 pDiv)) fAppend))
 (dRet (dApp (dCons true (dBin true (dVar 2) (dVar 1) (kV2 pMod)) dNil) (kVN pInt))))
 dSkip)
 (dAsg (dBin true (dVar 2) (dBin true (dVar 0) (dC (.str "mixed")) kIx) (kV2 pPlus)) (bName 2))))
 dSkip)
 (dSeq (dAsg (dBin true (dBin true (dBin true (dBin true (dBin true (dVar 2) (dC (.int 2147483629)) (kV2 pMod)) (dBin true (dBin true (dC (.int 60013)) (dBin true (dVar 0) (dC (.str "turn")) kIx) (kV2 pMul)) (dBin true (dVar 0) (dC (.str "turn")) kIx) (kV2 pMul)) (kV2 pPlus)) (dC (.int 47)) (kV2 pPlus)) (dC (.int 40692)) (kV2 pMul)) (dC (.int 2147483647)) (kV2 pMod)) (bName 3))
 (dSeq (dAsg (dBin true (dBin true (dBin true (dBin true (dVar 3) (dVar 3) (kV2 pMul)) (dBin true (dC (.int 69997)) (dBin true (dVar 0) (dC (.str "turn")) kIx) (kV2 pMul)) (kV2 pPlus)) (dC (.int 31)) (kV2 pPlus)) (dC (.int 2147483587)) (kV2 pMod)) (bName 3))
 (dRet (dApp (dCons true (dBin true (dBin true (dBin true (dBin true (dVar 3) (dC (.int 39373)) (kV2 pMul)) (dC (.int 2147483563)) (kV2 pMod)) (dC (.int 64)) (kV2 pDiv)) (dVar 1) (kV2 pMod)) dNil) (kVN pInt))))))))
noncomputable def den__law_draw (mg : Str → Option Value) : Den := dDef 4 (b__law_draw mg)
theorem f__law_draw (U : Up K KX) (G : Env KX mg) : FnD P w KX K mg base "_law_draw" s__law_draw 1 ["deck", "below"] (den__law_draw mg) := by
  obtain ⟨a, fd, h1, h2, h3⟩ := G.f__law_draw
  refine ⟨a, fd, h1, h2, h3, ?_⟩
  exact fn_den (N := ["deck", "below", "cell", "mixed"]) (ps := ["deck", "below"]) (g := b__law_draw mg) (k := 0) U h1 sc__law_draw fun cdv A outer s H E C => ⟨_,
 (ds_cons (ds_asg (q_add C (de_sub C (de_var 0) de_str) de_int) (dg_sub C (de_var 0) de_str))
 (ds_cons (ds_set C 2 (de_sub C (de_var 0) de_str))
 (ds_cons (ds_if (t_ne C (de_sub C (de_var 0) de_str) de_lst0) (ds_cons (ds_set C 2 (de_pop C (de_sub C (de_var 0) de_str)))
 (ds_cons (ds_if (t_ge C (de_var 2) (q_pow C de_int de_int)) (ds_cons (ds_expr (de_append C (de_sub C (de_var 0) de_str) (q_div C (de_var 2) (q_max2 C G.z_max (da_cons de_int (da_cons (de_var 1) da_nil))))))
 (ds_one (ds_ret (q_int C G.z_int (da_cons (q_mod C (de_var 2) (de_var 1)) da_nil)))))
 ds_skip)
 (ds_one (ds_set C 2 (q_add C (de_var 2) (de_sub C (de_var 0) de_str))))))
 ds_skip)
 (ds_cons (ds_set C 3 (q_mod C (q_mul C (q_add C (q_add C (q_mod C (de_var 2) de_int) (q_mul C (q_mul C de_int (de_sub C (de_var 0) de_str)) (de_sub C (de_var 0) de_str))) de_int) de_int) de_int))
 (ds_cons (ds_set C 3 (q_mod C (q_add C (q_add C (q_mul C (de_var 3) (de_var 3)) (q_mul C de_int (de_sub C (de_var 0) de_str))) de_int) de_int))
 (ds_one (ds_ret (q_int C G.z_int (da_cons (q_mod C (q_div C (q_mod C (q_mul C (de_var 3) de_int) de_int) de_int) (de_var 1)) da_nil)))))))))⟩
noncomputable def b__law_pick (mg : Str → Option Value) : M → Out Ctl :=
 (dRet (dBin false (dVar 1) (dApp (dCons true (dVar 0) (dCons true (dApp (dCons true (dVar 1) dNil) (kVN pLen)) dNil)) (callK 2 (den__law_draw mg))) kIx))
noncomputable def den__law_pick (mg : Str → Option Value) : Den := dDef 2 (b__law_pick mg)
theorem f__law_pick (U : Up K KX) (G : Env KX mg) : FnD P w KX K mg base "_law_pick" s__law_pick 2 ["deck", "some"] (den__law_pick mg) := by
  obtain ⟨a, fd, h1, h2, h3⟩ := G.f__law_pick
  refine ⟨a, fd, h1, h2, h3, ?_⟩
  exact fn_den (N := ["deck", "some"]) (ps := ["deck", "some"]) (g := b__law_pick mg) (k := 1) U h1 sc__law_pick fun cdv A outer s H E C => ⟨_,
 (ds_one (ds_ret (de_sub C (de_var 1) (de_call C (f__law_draw U G) (da_cons (de_var 0) (da_cons (q_len C G.z_len (da_cons (de_var 1) da_nil)) da_nil))))))⟩
noncomputable def b__law_closure (mg : Str → Option Value) : M → Out Ctl :=
 (dSeq (dAsg (dApp dNil kLst0) (bName 2))
 (dSeq (dFor (dIter (dCons true (dVar 0) dNil) kRange1) (bName 3)
 (dDrop (dMt1 "list" false (dVar 2) (dComp (dIter (dCons true (dVar 0) dNil) kRange1) [8] (bName 8) (fun m => .ok true m) (dIfE (dTest (dBin true (dVar 3) (dVar 8) (kV2 (bin2 pEq)))) (dC (.int 1)) (dC (.int 0)))) fAppend)))
 (dSeq (dFor (dISeq (dVar 1)) (bTup 3 (bCons (bName 4) (bCons (bName 5) (bCons (bName 6) bNil))))
 (dAsg (dApp (dCons true (dBin true (dBin true (dVar 2) (dVar 4) kIx) (dVar 5) kIx) (dCons true (dIfE (dTest (dVar 6)) (dC (.int 2)) (dC (.int 1))) dNil)) (kVN pMax2)) (bSubA (dBin true (dVar 2) (dVar 4) kIx) (dVar 5))))
 (dSeq (dFor (dIter (dCons true (dVar 0) dNil) kRange1) (bName 7)
 (dFor (dIter (dCons true (dVar 0) dNil) kRange1) (bName 3)
 (dFor (dIter (dCons true (dVar 0) dNil) kRange1) (bName 8)
 (dIf (dAndT (dTest (dBin true (dBin true (dBin true (dVar 2) (dVar 3) kIx) (dVar 7) kIx) (dC (.int 0)) (kV2 pGt))) (dTest (dBin true (dBin true (dBin true (dVar 2) (dVar 7) kIx) (dVar 8) kIx) (dC (.int 0)) (kV2 pGt)))) (dAsg (dApp (dCons true (dBin true (dBin true (dVar 2) (dVar 3) kIx) (dVar 8) kIx) (dCons true (dBin true (dBin true (dVar 2) (dVar 3) kIx) (dVar 7) kIx) (dCons true (dBin true (dBin true (dVar 2) (dVar 7) kIx) (dVar 8) kIx) dNil))) (kVN pMax3)) (bSubA (dBin true (dVar 2) (dVar 3) kIx) (dVar 8)))
 dSkip))))
 (dRet (dVar 2))))))
noncomputable def den__law_closure (mg : Str → Option Value) : Den := dDef 9 (b__law_closure mg)
theorem f__law_closure (U : Up K KX) (G : Env KX mg) : FnD P w KX K mg base "_law_closure" s__law_closure 1 ["count", "orders"] (den__law_closure mg) := by
  obtain ⟨a, fd, h1, h2, h3⟩ := G.f__law_closure
  refine ⟨a, fd, h1, h2, h3, ?_⟩
  exact fn_den (N := ["count", "orders", "found", "a", "one", "other", "strict", "c", "b"]) (ps := ["count", "orders"]) (g := b__law_closure mg) (k := 0) U h1 sc__law_closure fun cdv A outer s H E C => ⟨_,
 (ds_cons (ds_set C 2 de_lst0)
 (ds_cons (ds_for C (di_range1 C G.z_range (da_cons (de_var 0) da_nil)) (dg_name C 3)
 (ds_one (ds_expr (de_append C (de_var 2) (de_lc C [("b", 8)] (di_range1 C G.z_range (da_cons (de_var 0) da_nil)) (blkOk_by (by first | rfl | kernel_rfl)) (fun _ _ _ _ _ C1 => (dg_name C1 8)) (ownT_name (by decide)) (fun _ _ _ _ _ C1 => dts_nil) (fun _ _ _ _ _ C1 => (de_if (t_eq C1 (de_var 3) (de_var 8)) de_int de_int)))))))
 (ds_cons (ds_for C (di_seq C (de_var 1)) (dg_tup C (dgs_cons (dg_name C 4) (dgs_cons (dg_name C 5) (dgs_cons (dg_name C 6) dgs_nil))))
 (ds_one (ds_asg (q_max2 C G.z_max (da_cons (de_sub C (de_sub C (de_var 2) (de_var 4)) (de_var 5)) (da_cons (de_if (dt_val (de_var 6)) de_int de_int) da_nil))) (dg_sub C (de_sub C (de_var 2) (de_var 4)) (de_var 5)))))
 (ds_cons (ds_for C (di_range1 C G.z_range (da_cons (de_var 0) da_nil)) (dg_name C 7)
 (ds_one (ds_for C (di_range1 C G.z_range (da_cons (de_var 0) da_nil)) (dg_name C 3)
 (ds_one (ds_for C (di_range1 C G.z_range (da_cons (de_var 0) da_nil)) (dg_name C 8)
 (ds_one (ds_if (dt_w (dw_and (t_gt C (de_sub C (de_sub C (de_var 2) (de_var 3)) (de_var 7)) de_int) (dw_and1 (t_gt C (de_sub C (de_sub C (de_var 2) (de_var 7)) (de_var 8)) de_int)))) (ds_one (ds_asg (q_max3 C G.z_max (da_cons (de_sub C (de_sub C (de_var 2) (de_var 3)) (de_var 8)) (da_cons (de_sub C (de_sub C (de_var 2) (de_var 3)) (de_var 7)) (da_cons (de_sub C (de_sub C (de_var 2) (de_var 7)) (de_var 8)) da_nil)))) (dg_sub C (de_sub C (de_var 2) (de_var 3)) (de_var 8))))
 ds_skip)))))))
 (ds_one (ds_ret (de_var 2)))))))⟩
noncomputable def b__law_have_heights (mg : Str → Option Value) : M → Out Ctl :=
 (dRet (dBin true (dComp (dIter (dCons true (dVar 0) dNil) kRange1) [2] (bName 2) (dTest (dBin true (dBin true (dBin true (dVar 1) (dVar 2) kIx) (dVar 2) kIx) (dC (.int 2)) (kV2 (bin2 pEq)))) (dC (.int 1))) (dApp dNil kLst0) (kV2 (bin2 pEq))))
noncomputable def den__law_have_heights (mg : Str → Option Value) : Den := dDef 3 (b__law_have_heights mg)
theorem f__law_have_heights (U : Up K KX) (G : Env KX mg) : FnD P w KX K mg base "_law_have_heights" s__law_have_heights 1 ["count", "found"] (den__law_have_heights mg) := by
  obtain ⟨a, fd, h1, h2, h3⟩ := G.f__law_have_heights
  refine ⟨a, fd, h1, h2, h3, ?_⟩
  exact fn_den (N := ["count", "found", "a"]) (ps := ["count", "found"]) (g := b__law_have_heights mg) (k := 0) U h1 sc__law_have_heights fun cdv A outer s H E C => ⟨_,
 (ds_one (ds_ret (q_eq C (de_lc C [("a", 2)] (di_range1 C G.z_range (da_cons (de_var 0) da_nil)) (blkOk_by (by first | rfl | kernel_rfl)) (fun _ _ _ _ _ C1 => (dg_name C1 2)) (ownT_name (by decide)) (fun _ _ _ _ _ C1 => (dts_one (t_eq C1 (de_sub C1 (de_sub C1 (de_var 1) (de_var 2)) (de_var 2)) de_int))) (fun _ _ _ _ _ C1 => de_int)) de_lst0)))⟩
noncomputable def b__law_orders (mg : Str → Option Value) : M → Out Ctl :=
 (dSeq (dAsg (dBin false (dC (.int 1)) (dApp (dCons true (dVar 0) (dCons true (dVar 1) dNil)) (callK 2 (den__law_draw mg))) (kV2 pPlus)) (bName 2))
 (dSeq (dAsg (dComp (dIter (dCons true (dVar 2) dNil) kRange1) [8] (bName 8) (fun m => .ok true m) (dApp (dCons false (dVar 0) (dCons true (dApp (dCons true (dC (.int 0)) (dCons true (dC (.int 0)) (dCons true (dC (.int 1)) (dCons true (dC (.int 1)) (dCons true (dC (.int 2)) (dCons true (dC (.int 3)) (dCons true (dC (.int 7)) (dCons true (dUn (dC (.int 4)) (kV1 pNeg)) (dCons true (dBin true (dC (.int 10)) (dC (.int 6)) (kV2 pPow)) dNil))))))))) kLst) dNil)) (callK 2 (den__law_pick mg)))) (bName 3))
 (dSeq (dAsg (dApp dNil kLst0) (bName 4))
 (dSeq (dFor (dIter (dCons true (dApp (dCons false (dVar 0) (dCons true (dApp (dCons false (dVar 0) (dCons true (dApp (dCons true (dC (.int 4)) (dCons true (dC (.int 9)) (dCons true (dC (.int 20)) dNil))) kLst) dNil)) (callK 2 (den__law_pick mg))) dNil)) (callK 2 (den__law_draw mg))) dNil) kRange1) (bName 5)
 (dSeq (dPar [6, 7] (dRaw (dApp (dCons true (dVar 0) (dCons true (dVar 2) dNil)) (callK 2 (den__law_draw mg))) (dRaw (dApp (dCons true (dVar 0) (dCons true (dVar 2) dNil)) (callK 2 (den__law_draw mg))) dRaw0)))
 (dSeq (dIf (dTest (dBin true (dBin true (dVar 3) (dVar 6) kIx) (dBin true (dVar 3) (dVar 7) kIx) (kV2 pLt))) (dPar [6, 7] (dRaw (dVar 7) (dRaw (dVar 6) dRaw0)))
 dSkip)
 (dSeq (dDrop (dMt1 "list" false (dVar 4) (dApp (dCons false (dVar 6) (dCons false (dVar 7) (dCons true (dAndV (dBin true (dBin true (dVar 3) (dVar 6) kIx) (dBin true (dVar 3) (dVar 7) kIx) (kV2 pGt)) (dBin true (dApp (dCons true (dVar 0) (dCons true (dC (.int 2)) dNil)) (callK 2 (den__law_draw mg))) (dC (.int 0)) (kV2 (bin2 pEq)))) dNil))) PD.kTup) fAppend))
 (dIf (dAndT (dTest (dBin true (dBin true (dVar 3) (dVar 6) kIx) (dBin true (dVar 3) (dVar 7) kIx) (kV2 (bin2 pEq)))) (dTest (dBin true (dApp (dCons true (dVar 0) (dCons true (dC (.int 2)) dNil)) (callK 2 (den__law_draw mg))) (dC (.int 0)) (kV2 (bin2 pEq))))) (dDrop (dMt1 "list" false (dVar 4) (dApp (dCons true (dVar 7) (dCons true (dVar 6) (dCons true (dC (.bl false)) dNil))) PD.kTup) fAppend))
 dSkip)))))
 (dRet (dApp (dCons true (dVar 2) (dCons true (dApp (dCons true (dVar 3) dNil) (kVN pTuple)) (dCons true (dSl true true (dVar 4) dNoPart (dPart (dC (.int 30)))) dNil))) PD.kTup))))))
noncomputable def den__law_orders (mg : Str → Option Value) : Den := dDef 9 (b__law_orders mg)
theorem f__law_orders (U : Up K KX) (G : Env KX mg) : FnD P w KX K mg base "_law_orders" s__law_orders 3 ["deck", "most"] (den__law_orders mg) := by
  obtain ⟨a, fd, h1, h2, h3⟩ := G.f__law_orders
  refine ⟨a, fd, h1, h2, h3, ?_⟩
  exact fn_den (N := ["deck", "most", "count", "ranks", "rows", "turn", "one", "other", "p"]) (ps := ["deck", "most"]) (g := b__law_orders mg) (k := 2) U h1 sc__law_orders fun cdv A outer s H E C => ⟨_,
 (ds_cons (ds_set C 2 (q_add C de_int (de_call C (f__law_draw U G) (da_cons (de_var 0) (da_cons (de_var 1) da_nil)))))
 (ds_cons (ds_setLc C 3 [("p", 8)] (di_range1 C G.z_range (da_cons (de_var 2) da_nil)) (blkOk_by (by first | rfl | kernel_rfl)) (fun _ _ _ _ _ C1 => (dg_name C1 8)) (ownT_name (by decide)) (fun _ _ _ _ _ C1 => dts_nil) (fun _ _ _ _ _ C1 => (de_call C1 (f__law_pick U G) (da_cons (de_var 0) (da_cons (de_lst (da_cons de_int (da_cons de_int (da_cons de_int (da_cons de_int (da_cons de_int (da_cons de_int (da_cons de_int (da_cons (q_neg de_int) (da_cons (q_pow C1 de_int de_int) da_nil)))))))))) da_nil)))))
 (ds_cons (ds_set C 4 de_lst0)
 (ds_cons (ds_for C (di_range1 C G.z_range (da_cons (de_call C (f__law_draw U G) (da_cons (de_var 0) (da_cons (de_call C (f__law_pick U G) (da_cons (de_var 0) (da_cons (de_lst (da_cons de_int (da_cons de_int (da_cons de_int da_nil)))) da_nil))) da_nil))) da_nil)) (dg_name C 5)
 (ds_cons (ds_par2 C 6 7 (dr_cons (de_call C (f__law_draw U G) (da_cons (de_var 0) (da_cons (de_var 2) da_nil))) (dr_cons (de_call C (f__law_draw U G) (da_cons (de_var 0) (da_cons (de_var 2) da_nil))) dr_nil)))
 (ds_cons (ds_if (t_lt C (de_sub C (de_var 3) (de_var 6)) (de_sub C (de_var 3) (de_var 7))) (ds_one (ds_par2 C 6 7 (dr_cons (de_var 7) (dr_cons (de_var 6) dr_nil))))
 ds_skip)
 (ds_cons (ds_expr (de_append C (de_var 4) (de_tup (da_cons (de_var 6) (da_cons (de_var 7) (da_cons (de_and (q_gt C (de_sub C (de_var 3) (de_var 6)) (de_sub C (de_var 3) (de_var 7))) (de_one (q_eq C (de_call C (f__law_draw U G) (da_cons (de_var 0) (da_cons de_int da_nil))) de_int))) da_nil))))))
 (ds_one (ds_if (dt_w (dw_and (t_eq C (de_sub C (de_var 3) (de_var 6)) (de_sub C (de_var 3) (de_var 7))) (dw_and1 (t_eq C (de_call C (f__law_draw U G) (da_cons (de_var 0) (da_cons de_int da_nil))) de_int)))) (ds_one (ds_expr (de_append C (de_var 4) (de_tup (da_cons (de_var 7) (da_cons (de_var 6) (da_cons de_bl da_nil)))))))
 ds_skip))))))
 (ds_one (ds_ret (de_tup (da_cons (de_var 2) (da_cons (q_tuple C G.z_tuple (da_cons (de_var 3) da_nil)) (da_cons (de_sl C (de_var 4) do_none (do_some de_int)) da_nil))))))))))⟩
noncomputable def b__law_number (mg : Str → Option Value) : M → Out Ctl :=
 (dSeq (dPar [2, 3] (dRaw (dDisp (dPairs (dC (.int 0)) (dC (.int 1)) dPairs0)) (dRaw (dC (.int 0)) dRaw0)))
 (dSeq (dFor (dIter (dCons true (dVar 0) dNil) kRange1) (bName 4)
 (dAsg (dBin true (dBin true (dC (.int 2)) (dVar 3) (kV2 pMul)) (dC (.int 1)) (kV2 pPlus)) (bName 3)))
 (dSeq (dFor (dIter (dCons true (dC (.int 1)) (dCons true (dBin true (dVar 3) (dC (.int 1)) (kV2 pPlus)) dNil)) kRange2) (bName 5)
 (dSeq (dPar [6, 7] (dRaw (dC (.int 0)) (dRaw (dVar 5) dRaw0)))
 (dSeq (dWhile (dTest (dBin true (dVar 7) (dC (.int 0)) (kV2 pGt))) (dSeq (dAsg (dC (.bl true)) (bName 8))
 (dSeq (dFor (dISeq (dVar 1)) (bTup 3 (bCons (bName 9) (bCons (bName 10) (bCons (bName 11) bNil))))
 (dIf (dAndT (dTest (dBin true (dBin true (dBin true (dVar 7) (dVar 9) (kV2 pShr)) (dC (.int 1)) (kV2 pAnd)) (dC (.int 1)) (kV2 (bin2 pEq)))) (dAndT (dTest (dBin true (dBin true (dBin true (dVar 5) (dVar 10) (kV2 pShr)) (dC (.int 1)) (kV2 pAnd)) (dC (.int 1)) (kV2 (bin2 pEq)))) (dOrT (dTest (dVar 11)) (dTest (dBin true (dBin true (dBin true (dVar 7) (dVar 10) (kV2 pShr)) (dC (.int 1)) (kV2 pAnd)) (dC (.int 0)) (kV2 (bin2 pEq))))))) (dAsg (dC (.bl false)) (bName 8))
 dSkip))
 (dSeq (dAsg (dBin true (dVar 6) (dIfE (dTest (dVar 8)) (dBin true (dVar 2) (dBin true (dVar 5) (dVar 7) (kV2 pSub)) kIx) (dC (.int 0))) (kV2 pPlus)) (bName 6))
 (dAsg (dBin true (dBin true (dVar 7) (dC (.int 1)) (kV2 pSub)) (dVar 5) (kV2 pAnd)) (bName 7))))))
 (dAsg (dVar 6) (bSubA (dVar 2) (dVar 5))))))
 (dRet (dBin true (dVar 2) (dVar 3) kIx)))))
noncomputable def den__law_number (mg : Str → Option Value) : Den := dDef 12 (b__law_number mg)
theorem f__law_number (U : Up K KX) (G : Env KX mg) : FnD P w KX K mg base "_law_number" s__law_number 1 ["count", "orders"] (den__law_number mg) := by
  obtain ⟨a, fd, h1, h2, h3⟩ := G.f__law_number
  refine ⟨a, fd, h1, h2, h3, ?_⟩
  exact fn_den (N := ["count", "orders", "known", "every", "p", "left", "total", "some", "is_fine", "one", "other", "strict"]) (ps := ["count", "orders"]) (g := b__law_number mg) (k := 0) U h1 sc__law_number fun cdv A outer s H E C => ⟨_,
 (ds_cons (ds_par2 C 2 3 (dr_cons (de_disp (dps_cons de_int de_int dps_nil)) (dr_cons de_int dr_nil)))
 (ds_cons (ds_for C (di_range1 C G.z_range (da_cons (de_var 0) da_nil)) (dg_name C 4)
 (ds_one (ds_set C 3 (q_add C (q_mul C de_int (de_var 3)) de_int))))
 (ds_cons (ds_for C (di_range2 C G.z_range (da_cons de_int (da_cons (q_add C (de_var 3) de_int) da_nil))) (dg_name C 5)
 (ds_cons (ds_par2 C 6 7 (dr_cons de_int (dr_cons (de_var 5) dr_nil)))
 (ds_cons (ds_while C (t_gt C (de_var 7) de_int) (ds_cons (ds_set C 8 de_bl)
 (ds_cons (ds_for C (di_seq C (de_var 1)) (dg_tup C (dgs_cons (dg_name C 9) (dgs_cons (dg_name C 10) (dgs_cons (dg_name C 11) dgs_nil))))
 (ds_one (ds_if (dt_w (dw_and (t_eq C (q_band C (q_shr C (de_var 7) (de_var 9)) de_int) de_int) (dw_and (t_eq C (q_band C (q_shr C (de_var 5) (de_var 10)) de_int) de_int) (dw_and1 (dt_w (dw_or (dt_val (de_var 11)) (dw_or1 (t_eq C (q_band C (q_shr C (de_var 7) (de_var 10)) de_int) de_int)))))))) (ds_one (ds_set C 8 de_bl))
 ds_skip)))
 (ds_cons (ds_set C 6 (q_add C (de_var 6) (de_if (dt_val (de_var 8)) (de_sub C (de_var 2) (q_sub C (de_var 5) (de_var 7))) de_int)))
 (ds_one (ds_set C 7 (q_band C (q_sub C (de_var 7) de_int) (de_var 5))))))))
 (ds_one (ds_asg (de_var 6) (dg_sub C (de_var 2) (de_var 5)))))))
 (ds_one (ds_ret (de_sub C (de_var 2) (de_var 3)))))))⟩
noncomputable def cs__law_heard (G : Env KX mg) : List Cl := [⟨"NoHeights", G.x_NoHeights.choose, "heights"⟩]
theorem ext__law_heard (G : Env KX mg) : ExT KX mg G.x_root.choose (cs__law_heard G) := by
  have mem : ∀ c ∈ cs__law_heard G, c.x ∈ (["BadCount", "BadRows", "NoHeights"] : List Str) ∧ mg c.x = some (.ref c.C) := by
    intro c hc
    unfold cs__law_heard at hc
    simp only [List.mem_cons, List.not_mem_nil, or_false] at hc
    rcases hc with rfl
    · exact ⟨by simp, G.x_NoHeights.choose_spec.choose_spec.gC⟩
  exact ⟨fun c hc => (mem c hc).2, fun c hc e he => G.e_ex _ (mem c hc).1 _ (mem e he).1 _ _ (mem c hc).2 (mem e he).2, fun c hc => G.e_ki _ (mem c hc).1 _ _ (mem c hc).2 G.x_root.choose_spec.1⟩
noncomputable def b__law_heard (mg : Str → Option Value) : M → Out Ctl :=
 (dTry 3 [("NoHeights", "heights")] (dRet (dApp (dCons false (dC (.str "told")) (dCons true (dIfE (dTest (dVar 2)) (dApp (dCons true (dVar 1) (dCons true (dVar 0) dNil)) (callP 2 (den_orders_left mg) [1, 0])) (dApp (dCons true (dVar 0) (dCons true (dVar 1) dNil)) (callK 2 (den_orders_left mg)))) dNil)) PD.kTup)))
noncomputable def den__law_heard (mg : Str → Option Value) : Den := dDef 4 (b__law_heard mg)
theorem f__law_heard (U : Up K KX) (G : Env KX mg) : FnD P w KX K mg base "_law_heard" s__law_heard 6 ["count", "orders", "by_name"] (den__law_heard mg) := by
  obtain ⟨a, fd, h1, h2, h3⟩ := G.f__law_heard
  refine ⟨a, fd, h1, h2, h3, ?_⟩
  exact fn_den (N := ["count", "orders", "by_name", "e"]) (ps := ["count", "orders", "by_name"]) (g := b__law_heard mg) (k := 5) U h1 sc__law_heard fun cdv A outer s H E C => ⟨_,
 (ds_one (ds_try C (i := 3) (cs := cs__law_heard G) (ext__law_heard G) (hd_th C G.x_NoHeights.choose_spec.choose_spec G.tg G.z_isinstance G.x_root.choose_spec.1 .nil) (fun _ _ _ C1 => (ds_one (ds_ret (de_tup (da_cons de_str (da_cons (de_if (dt_val (de_var 2)) (de_callW C1 (f_orders_left U G) [1, 0] ["orders", "count"] (fun _ _ _ _ _ _ ws hl => match ws, hl with | [_, _], _ => rfl) (dk_cons (de_var 1) (dk_cons (de_var 0) dk_nil))) (de_call C1 (f_orders_left U G) (da_cons (de_var 0) (da_cons (de_var 1) da_nil)))) da_nil))))))))⟩
noncomputable def b_law (mg : Str → Option Value) : M → Out Ctl :=
 (dSeq (dAsg (dApp (dCons true (dVar 0) (dCons true (dC (.int 93015)) dNil)) (callK 2 (den__law_begun mg))) (bName 1))
 (dSeq (dAsg (dApp (dCons true (dC (.int 1)) (dCons true (dC (.int 3)) (dCons true (dC (.int 13)) (dCons true (dC (.int 75)) (dCons true (dC (.int 541)) (dCons true (dC (.int 4683)) (dCons true (dC (.int 47293)) dNil))))))) kLst) (bName 2))
 (dSeq (dAsg (dIfE (dTest (dBin true (dApp (dCons true (dVar 1) (dCons true (dC (.int 12)) dNil)) (callK 2 (den__law_draw mg))) (dC (.int 0)) (kV2 (bin2 pEq)))) (dApp (dCons true (dVar 1) (dCons true (dC (.int 7)) dNil)) (callK 2 (den__law_draw mg))) (dApp (dCons true (dVar 1) (dCons true (dC (.int 5)) dNil)) (callK 2 (den__law_draw mg)))) (bName 3))
 (dSeq (dIf (dTest (dBin false (dApp (dCons true (dApp (dCons false (dApp (dCons false (dBin true (dVar 3) (dC (.int 1)) (kV2 pPlus)) (dCons true (dApp dNil PD.kTup) (dCons true (dC (.bl false)) dNil))) (callK 3 (den__law_heard mg))) (dCons true (dApp (dCons false (dBin true (dVar 3) (dC (.int 1)) (kV2 pPlus)) (dCons true (dApp dNil PD.kTup) (dCons true (dC (.bl true)) dNil))) (callK 3 (den__law_heard mg))) dNil)) kLst) dNil) (kVN pRepr)) (dApp (dCons true (dBin true (dApp (dCons true (dApp (dCons true (dC (.str "told")) (dCons true (dBin true (dVar 2) (dVar 3) kIx) dNil)) PD.kTup) dNil) kLst) (dC (.int 2)) (kV2 pMul)) dNil) (kVN pRepr)) (kV2 (bin2 pNe)))) (dRet (dC (.bl false)))
 dSkip)
 (dSeq (dFor (dIter (dCons true (dC (.int 2)) dNil) kRange1) (bName 4)
 (dSeq (dAsg (dApp (dCons false (dVar 1) (dCons true (dIfE (dTest (dBin true (dApp (dCons true (dVar 1) (dCons true (dC (.int 12)) dNil)) (callK 2 (den__law_draw mg))) (dC (.int 0)) (kV2 (bin2 pEq)))) (dC (.int 7)) (dC (.int 5))) dNil)) (callK 2 (den__law_orders mg))) (bTup 3 (bCons (bName 5) (bCons (bName 6) (bCons (bName 7) bNil)))))
 (dSeq (dIf (dAndT (dTest (dBin true (dApp (dCons true (dVar 1) (dCons true (dC (.int 8)) dNil)) (callK 2 (den__law_draw mg))) (dC (.int 0)) (kV2 (bin2 pEq)))) (dTest (dBin true (dVar 7) (dApp dNil kLst0) (kV2 (bin2 pNe))))) (dSeq (dAsg (dApp (dCons true (dVar 1) (dCons true (dVar 7) dNil)) (callK 2 (den__law_pick mg))) (bTup 3 (bCons (bName 8) (bCons (bName 9) (bCons (bName 10) bNil)))))
 (dAsg (dBin false (dSl true true (dVar 7) dNoPart (dPart (dC (.int 29)))) (dApp (dCons true (dApp (dCons true (dVar 9) (dCons true (dVar 8) (dCons true (dC (.bl true)) dNil))) PD.kTup) dNil) kLst) (kV2 pPlus)) (bName 7)))
 dSkip)
 (dSeq (dAsg (dApp (dCons true (dSl true true (dVar 7) dNoPart (dPart (dC (.int 12)))) dNil) (kVN pTuple)) (bName 11))
 (dSeq (dAsg (dApp (dCons true (dVar 5) (dCons true (dVar 11) dNil)) (callK 2 (den__law_closure mg))) (bName 12))
 (dSeq (dIf (dNotT (dTest (dApp (dCons true (dVar 5) (dCons true (dVar 12) dNil)) (callK 2 (den__law_have_heights mg))))) (dSeq (dIf (dTest (dBin false (dApp (dCons true (dApp (dCons false (dApp (dCons true (dVar 5) (dCons true (dVar 11) (dCons true (dC (.bl false)) dNil))) (callK 3 (den__law_heard mg))) (dCons true (dApp (dCons true (dVar 5) (dCons true (dVar 11) (dCons true (dC (.bl true)) dNil))) (callK 3 (den__law_heard mg))) dNil)) kLst) dNil) (kVN pRepr)) (dApp (dCons true (dBin true (dApp (dCons true (dApp (dCons true (dC (.str "heights")) (dCons true (dVar 11) (dCons true (dC (.bl true)) dNil))) PD.kTup) dNil) kLst) (dC (.int 2)) (kV2 pMul)) dNil) (kVN pRepr)) (kV2 (bin2 pNe)))) (dRet (dC (.bl false)))
 dSkip)
 dCont)
 dSkip)
 (dSeq (dAsg (dApp (dCons false (dC (.str "told")) (dCons true (dApp (dCons true (dVar 5) (dCons true (dVar 11) dNil)) (callK 2 (den__law_number mg))) dNil)) PD.kTup) (bName 13))
 (dSeq (dAsg (dApp (dCons true (dComp (dISeq (dVar 11)) [8, 9, 10] (bTup 3 (bCons (bName 8) (bCons (bName 9) (bCons (bName 10) bNil)))) (fun m => .ok true m) (dApp (dCons true (dVar 9) (dCons true (dVar 8) (dCons true (dVar 10) dNil))) PD.kTup)) dNil) (kVN pTuple)) (bName 14))
 (dSeq (dIf (dTest (dBin false (dApp (dCons true (dApp (dCons false (dApp (dCons true (dVar 5) (dCons true (dVar 11) (dCons true (dC (.bl false)) dNil))) (callK 3 (den__law_heard mg))) (dCons false (dApp (dCons true (dVar 5) (dCons true (dVar 11) (dCons true (dC (.bl true)) dNil))) (callK 3 (den__law_heard mg))) (dCons true (dApp (dCons true (dVar 5) (dCons true (dVar 14) (dCons true (dC (.bl false)) dNil))) (callK 3 (den__law_heard mg))) dNil))) kLst) dNil) (kVN pRepr)) (dApp (dCons true (dBin true (dApp (dCons true (dVar 13) dNil) kLst) (dC (.int 3)) (kV2 pMul)) dNil) (kVN pRepr)) (kV2 (bin2 pNe)))) (dRet (dC (.bl false)))
 dSkip)
 (dSeq (dPar [8, 9] (dRaw (dApp (dCons true (dVar 1) (dCons true (dVar 5) dNil)) (callK 2 (den__law_draw mg))) (dRaw (dApp (dCons true (dVar 1) (dCons true (dVar 5) dNil)) (callK 2 (den__law_draw mg))) dRaw0)))
 (dIf (dTest (dBin true (dVar 8) (dVar 9) (kV2 (bin2 pNe)))) (dSeq (dAsg (dC (.int 0)) (bName 15))
 (dSeq (dFor (dISeq (dApp (dCons false (dApp (dCons true (dVar 8) (dCons true (dVar 9) (dCons true (dC (.bl false)) dNil))) PD.kTup) (dCons true (dApp (dCons true (dVar 9) (dCons true (dVar 8) (dCons true (dC (.bl true)) dNil))) PD.kTup) dNil)) PD.kTup)) (bName 16)
 (dSeq (dAsg (dApp (dCons false (dVar 5) (dCons true (dBin false (dVar 11) (dApp (dCons true (dVar 16) dNil) PD.kTup) (kV2 pPlus)) (dCons true (dC (.bl false)) dNil))) (callK 3 (den__law_heard mg))) (bName 17))
 (dIf (dTest (dApp (dCons false (dVar 5) (dCons true (dApp (dCons false (dVar 5) (dCons true (dBin false (dVar 11) (dApp (dCons true (dVar 16) dNil) PD.kTup) (kV2 pPlus)) dNil)) (callK 2 (den__law_closure mg))) dNil)) (callK 2 (den__law_have_heights mg)))) (dSeq (dIf (dOrT (dTest (dBin true (dBin true (dVar 17) (dC (.int 0)) kIx) (dC (.str "told")) (kV2 (bin2 pNe)))) (dOrT (dNotT (dTest (dUn (dBin true (dVar 17) (dC (.int 1)) kIx) (kV1 (pIsi "int"))))) (dTest (dUn (dBin true (dVar 17) (dC (.int 1)) kIx) (kV1 (pIsi "bool")))))) (dRet (dC (.bl false)))
 dSkip)
 (dAsg (dBin true (dVar 15) (dBin true (dVar 17) (dC (.int 1)) kIx) (kV2 pPlus)) (bName 15)))
 (dIf (dTest (dBin true (dBin true (dVar 17) (dC (.int 0)) kIx) (dC (.str "heights")) (kV2 (bin2 pNe)))) (dRet (dC (.bl false)))
 dSkip))))
 (dIf (dTest (dBin true (dVar 15) (dBin true (dVar 13) (dC (.int 1)) kIx) (kV2 (bin2 pNe)))) (dRet (dC (.bl false)))
 dSkip)))
 dSkip)))))))))))
 (dRet (dC (.bl true))))))))
theorem d_law (U : Up K KX) (G : Env KX mg) {f : Addr} {qual : Str} {cdv : Value} {A : Around} {outer : List PySem.Env} {s : Shared} {H : Hp} {E : XK} (C : Cxt (cxOf (L2.CX P w) P w KX mg base ["script", "deck", "numbers", "k", "turn", "count", "ranks", "rows", "one", "other", "strict", "orders", "found", "due", "turned", "many", "more", "told"] qual (defScope s_law) f cdv A outer s H E) P w KX K mg base 6 (fun _ => E))
    (gd : (cxOf (L2.CX P w) P w KX mg base ["script", "deck", "numbers", "k", "turn", "count", "ranks", "rows", "one", "other", "strict", "orders", "found", "due", "turned", "many", "more", "told"] qual (defScope s_law) f cdv A outer s H E).A.guards = some []) :
    ∃ t, DSs (cxOf (L2.CX P w) P w KX mg base ["script", "deck", "numbers", "k", "turn", "count", "ranks", "rows", "one", "other", "strict", "orders", "found", "due", "turned", "many", "more", "told"] qual (defScope s_law) f cdv A outer s H E) K mg (fun _ => E) (defBody s_law) t (b_law mg) := ⟨_,
 (ds_cons (ds_set C 1 (de_call C (f__law_begun U G) (da_cons (de_var 0) (da_cons de_int da_nil))))
 (ds_cons (ds_set C 2 (de_lst (da_cons de_int (da_cons de_int (da_cons de_int (da_cons de_int (da_cons de_int (da_cons de_int (da_cons de_int da_nil)))))))))
 (ds_cons (ds_set C 3 (de_if (t_eq C (de_call C (f__law_draw U G) (da_cons (de_var 1) (da_cons de_int da_nil))) de_int) (de_call C (f__law_draw U G) (da_cons (de_var 1) (da_cons de_int da_nil))) (de_call C (f__law_draw U G) (da_cons (de_var 1) (da_cons de_int da_nil)))))
 (ds_cons (ds_if (t_ne C (q_repr C gd G.z_repr (da_cons (de_lst (da_cons (de_call C (f__law_heard U G) (da_cons (q_add C (de_var 3) de_int) (da_cons (de_tup da_nil) (da_cons de_bl da_nil)))) (da_cons (de_call C (f__law_heard U G) (da_cons (q_add C (de_var 3) de_int) (da_cons (de_tup da_nil) (da_cons de_bl da_nil)))) da_nil))) da_nil)) (q_repr C gd G.z_repr (da_cons (q_mul C (de_lst (da_cons (de_tup (da_cons de_str (da_cons (de_sub C (de_var 2) (de_var 3)) da_nil))) da_nil)) de_int) da_nil))) (ds_one (ds_ret de_bl))
 ds_skip)
 (ds_cons (ds_for C (di_range1 C G.z_range (da_cons de_int da_nil)) (dg_name C 4)
 (ds_cons (ds_asg (de_call C (f__law_orders U G) (da_cons (de_var 1) (da_cons (de_if (t_eq C (de_call C (f__law_draw U G) (da_cons (de_var 1) (da_cons de_int da_nil))) de_int) de_int de_int) da_nil))) (dg_tup C (dgs_cons (dg_name C 5) (dgs_cons (dg_name C 6) (dgs_cons (dg_name C 7) dgs_nil)))))
 (ds_cons (ds_if (dt_w (dw_and (t_eq C (de_call C (f__law_draw U G) (da_cons (de_var 1) (da_cons de_int da_nil))) de_int) (dw_and1 (t_ne C (de_var 7) de_lst0)))) (ds_cons (ds_asg (de_call C (f__law_pick U G) (da_cons (de_var 1) (da_cons (de_var 7) da_nil))) (dg_tup C (dgs_cons (dg_name C 8) (dgs_cons (dg_name C 9) (dgs_cons (dg_name C 10) dgs_nil)))))
 (ds_one (ds_set C 7 (q_add C (de_sl C (de_var 7) do_none (do_some de_int)) (de_lst (da_cons (de_tup (da_cons (de_var 9) (da_cons (de_var 8) (da_cons de_bl da_nil)))) da_nil))))))
 ds_skip)
 (ds_cons (ds_set C 11 (q_tuple C G.z_tuple (da_cons (de_sl C (de_var 7) do_none (do_some de_int)) da_nil)))
 (ds_cons (ds_set C 12 (de_call C (f__law_closure U G) (da_cons (de_var 5) (da_cons (de_var 11) da_nil))))
 (ds_cons (ds_if (dt_not (dt_val (de_call C (f__law_have_heights U G) (da_cons (de_var 5) (da_cons (de_var 12) da_nil))))) (ds_cons (ds_if (t_ne C (q_repr C gd G.z_repr (da_cons (de_lst (da_cons (de_call C (f__law_heard U G) (da_cons (de_var 5) (da_cons (de_var 11) (da_cons de_bl da_nil)))) (da_cons (de_call C (f__law_heard U G) (da_cons (de_var 5) (da_cons (de_var 11) (da_cons de_bl da_nil)))) da_nil))) da_nil)) (q_repr C gd G.z_repr (da_cons (q_mul C (de_lst (da_cons (de_tup (da_cons de_str (da_cons (de_var 11) (da_cons de_bl da_nil)))) da_nil)) de_int) da_nil))) (ds_one (ds_ret de_bl))
 ds_skip)
 (ds_one ds_cont))
 ds_skip)
 (ds_cons (ds_set C 13 (de_tup (da_cons de_str (da_cons (de_call C (f__law_number U G) (da_cons (de_var 5) (da_cons (de_var 11) da_nil))) da_nil))))
 (ds_cons (ds_set C 14 (q_tuple C G.z_tuple (da_cons (de_lc C [("one", 8), ("other", 9), ("strict", 10)] (di_seq C (de_var 11)) (blkOk_by (by first | rfl | kernel_rfl)) (fun _ _ _ _ _ C1 => (dg_tup C1 (dgs_cons (dg_name C1 8) (dgs_cons (dg_name C1 9) (dgs_cons (dg_name C1 10) dgs_nil))))) (ownT_tup (ownTs_cons mon_name (ownT_name (by decide)) (ownTs_cons mon_name (ownT_name (by decide)) (ownTs_cons mon_name (ownT_name (by decide)) ownTs_nil)))) (fun _ _ _ _ _ C1 => dts_nil) (fun _ _ _ _ _ C1 => (de_tup (da_cons (de_var 9) (da_cons (de_var 8) (da_cons (de_var 10) da_nil)))))) da_nil)))
 (ds_cons (ds_if (t_ne C (q_repr C gd G.z_repr (da_cons (de_lst (da_cons (de_call C (f__law_heard U G) (da_cons (de_var 5) (da_cons (de_var 11) (da_cons de_bl da_nil)))) (da_cons (de_call C (f__law_heard U G) (da_cons (de_var 5) (da_cons (de_var 11) (da_cons de_bl da_nil)))) (da_cons (de_call C (f__law_heard U G) (da_cons (de_var 5) (da_cons (de_var 14) (da_cons de_bl da_nil)))) da_nil)))) da_nil)) (q_repr C gd G.z_repr (da_cons (q_mul C (de_lst (da_cons (de_var 13) da_nil)) de_int) da_nil))) (ds_one (ds_ret de_bl))
 ds_skip)
 (ds_cons (ds_par2 C 8 9 (dr_cons (de_call C (f__law_draw U G) (da_cons (de_var 1) (da_cons (de_var 5) da_nil))) (dr_cons (de_call C (f__law_draw U G) (da_cons (de_var 1) (da_cons (de_var 5) da_nil))) dr_nil)))
 (ds_one (ds_if (t_ne C (de_var 8) (de_var 9)) (ds_cons (ds_set C 15 de_int)
 (ds_cons (ds_for C (di_seq C (de_tup (da_cons (de_tup (da_cons (de_var 8) (da_cons (de_var 9) (da_cons de_bl da_nil)))) (da_cons (de_tup (da_cons (de_var 9) (da_cons (de_var 8) (da_cons de_bl da_nil)))) da_nil)))) (dg_name C 16)
 (ds_cons (ds_set C 17 (de_call C (f__law_heard U G) (da_cons (de_var 5) (da_cons (q_add C (de_var 11) (de_tup (da_cons (de_var 16) da_nil))) (da_cons de_bl da_nil)))))
 (ds_one (ds_if (dt_val (de_call C (f__law_have_heights U G) (da_cons (de_var 5) (da_cons (de_call C (f__law_closure U G) (da_cons (de_var 5) (da_cons (q_add C (de_var 11) (de_tup (da_cons (de_var 16) da_nil))) da_nil))) da_nil)))) (ds_cons (ds_if (dt_w (dw_or (t_ne C (de_sub C (de_var 17) de_int) de_str) (dw_or (dt_not (dt_val (de_isi C kit_int G.z_isinstance G.z_int bb_int (de_sub C (de_var 17) de_int)))) (dw_or1 (dt_val (de_isi C kit_bool G.z_isinstance G.z_bool bb_bool (de_sub C (de_var 17) de_int))))))) (ds_one (ds_ret de_bl))
 ds_skip)
 (ds_one (ds_set C 15 (q_add C (de_var 15) (de_sub C (de_var 17) de_int)))))
 (ds_one (ds_if (t_ne C (de_sub C (de_var 17) de_int) de_str) (ds_one (ds_ret de_bl))
 ds_skip))))))
 (ds_one (ds_if (t_ne C (de_var 15) (de_sub C (de_var 13) de_int)) (ds_one (ds_ret de_bl))
 ds_skip))))
 ds_skip))))))))))))
 (ds_one (ds_ret de_bl)))))))⟩
end
end K15
namespace K15
open PySem PySem.Spec PyProof.Rows L2 PD
theorem env_mk {K : Kf} {h : Heap} {mg : Str → Option Value} (X : K.In h) (G : h.Ns mainGlobals mg)
    (z_all : PySem.W.nsIn K mainGlobals "all" = some none)
    (z_any : PySem.W.nsIn K mainGlobals "any" = some none)
    (z_bool : PySem.W.nsIn K mainGlobals "bool" = some none)
    (z_int : PySem.W.nsIn K mainGlobals "int" = some none)
    (z_isinstance : PySem.W.nsIn K mainGlobals "isinstance" = some none)
    (z_len : PySem.W.nsIn K mainGlobals "len" = some none)
    (z_list : PySem.W.nsIn K mainGlobals "list" = some none)
    (z_max : PySem.W.nsIn K mainGlobals "max" = some none)
    (z_range : PySem.W.nsIn K mainGlobals "range" = some none)
    (z_repr : PySem.W.nsIn K mainGlobals "repr" = some none)
    (z_sum : PySem.W.nsIn K mainGlobals "sum" = some none)
    (z_tuple : PySem.W.nsIn K mainGlobals "tuple" = some none)
    {t_NONE : Tok}
    (c_NONE : PySem.W.nsIn K mainGlobals "NONE" = some (some (.int 0 t_NONE)))
    {t_PLAIN : Tok}
    (c_PLAIN : PySem.W.nsIn K mainGlobals "PLAIN" = some (some (.int 1 t_PLAIN)))
    {t_ROW_PARTS : Tok}
    (c_ROW_PARTS : PySem.W.nsIn K mainGlobals "ROW_PARTS" = some (some (.int 3 t_ROW_PARTS)))
    {t_STRICT : Tok}
    (c_STRICT : PySem.W.nsIn K mainGlobals "STRICT" = some (some (.int 2 t_STRICT)))
    {a_is_whole : Addr} {od_is_whole an_is_whole : Option Addr} {sl_is_whole : Array (Option Value)} {oc_is_whole kV_is_whole dc_is_whole pm_is_whole cd_is_whole ct_is_whole : Value}
    (ga_is_whole : PySem.W.nsIn K mainGlobals "is_whole" = some (some (.ref a_is_whole)))
    (l_is_whole : K.lookup a_is_whole = some ⟨oc_is_whole, od_is_whole, .func (PySem.W.fnOf "is_whole" "is_whole" (defArgs s_is_whole) (defBody s_is_whole) (defScope s_is_whole) .none kV_is_whole dc_is_whole pm_is_whole an_is_whole cd_is_whole ct_is_whole), sl_is_whole⟩)
    (co_is_whole : PySem.W.codeIn K cd_is_whole "is_whole" = true)
    (k_is_whole : PySem.W.keepIn K (.ref a_is_whole) = true)
    {a_is_between : Addr} {od_is_between an_is_between : Option Addr} {sl_is_between : Array (Option Value)} {oc_is_between kV_is_between dc_is_between pm_is_between cd_is_between ct_is_between : Value}
    (ga_is_between : PySem.W.nsIn K mainGlobals "is_between" = some (some (.ref a_is_between)))
    (l_is_between : K.lookup a_is_between = some ⟨oc_is_between, od_is_between, .func (PySem.W.fnOf "is_between" "is_between" (defArgs s_is_between) (defBody s_is_between) (defScope s_is_between) .none kV_is_between dc_is_between pm_is_between an_is_between cd_is_between ct_is_between), sl_is_between⟩)
    (co_is_between : PySem.W.codeIn K cd_is_between "is_between" = true)
    (k_is_between : PySem.W.keepIn K (.ref a_is_between) = true)
    {a_is_truth : Addr} {od_is_truth an_is_truth : Option Addr} {sl_is_truth : Array (Option Value)} {oc_is_truth kV_is_truth dc_is_truth pm_is_truth cd_is_truth ct_is_truth : Value}
    (ga_is_truth : PySem.W.nsIn K mainGlobals "is_truth" = some (some (.ref a_is_truth)))
    (l_is_truth : K.lookup a_is_truth = some ⟨oc_is_truth, od_is_truth, .func (PySem.W.fnOf "is_truth" "is_truth" (defArgs s_is_truth) (defBody s_is_truth) (defScope s_is_truth) .none kV_is_truth dc_is_truth pm_is_truth an_is_truth cd_is_truth ct_is_truth), sl_is_truth⟩)
    (co_is_truth : PySem.W.codeIn K cd_is_truth "is_truth" = true)
    (k_is_truth : PySem.W.keepIn K (.ref a_is_truth) = true)
    {a_is_tuple_of : Addr} {od_is_tuple_of an_is_tuple_of : Option Addr} {sl_is_tuple_of : Array (Option Value)} {oc_is_tuple_of kV_is_tuple_of dc_is_tuple_of pm_is_tuple_of cd_is_tuple_of ct_is_tuple_of : Value}
    (ga_is_tuple_of : PySem.W.nsIn K mainGlobals "is_tuple_of" = some (some (.ref a_is_tuple_of)))
    (l_is_tuple_of : K.lookup a_is_tuple_of = some ⟨oc_is_tuple_of, od_is_tuple_of, .func (PySem.W.fnOf "is_tuple_of" "is_tuple_of" (defArgs s_is_tuple_of) (defBody s_is_tuple_of) (defScope s_is_tuple_of) .none kV_is_tuple_of dc_is_tuple_of pm_is_tuple_of an_is_tuple_of cd_is_tuple_of ct_is_tuple_of), sl_is_tuple_of⟩)
    (co_is_tuple_of : PySem.W.codeIn K cd_is_tuple_of "is_tuple_of" = true)
    (k_is_tuple_of : PySem.W.keepIn K (.ref a_is_tuple_of) = true)
    {a_need_count : Addr} {od_need_count an_need_count : Option Addr} {sl_need_count : Array (Option Value)} {oc_need_count kV_need_count dc_need_count pm_need_count cd_need_count ct_need_count : Value}
    (ga_need_count : PySem.W.nsIn K mainGlobals "need_count" = some (some (.ref a_need_count)))
    (l_need_count : K.lookup a_need_count = some ⟨oc_need_count, od_need_count, .func (PySem.W.fnOf "need_count" "need_count" (defArgs s_need_count) (defBody s_need_count) (defScope s_need_count) .none kV_need_count dc_need_count pm_need_count an_need_count cd_need_count ct_need_count), sl_need_count⟩)
    (co_need_count : PySem.W.codeIn K cd_need_count "need_count" = true)
    (k_need_count : PySem.W.keepIn K (.ref a_need_count) = true)
    {a_is_order_row : Addr} {od_is_order_row an_is_order_row : Option Addr} {sl_is_order_row : Array (Option Value)} {oc_is_order_row kV_is_order_row dc_is_order_row pm_is_order_row cd_is_order_row ct_is_order_row : Value}
    (ga_is_order_row : PySem.W.nsIn K mainGlobals "is_order_row" = some (some (.ref a_is_order_row)))
    (l_is_order_row : K.lookup a_is_order_row = some ⟨oc_is_order_row, od_is_order_row, .func (PySem.W.fnOf "is_order_row" "is_order_row" (defArgs s_is_order_row) (defBody s_is_order_row) (defScope s_is_order_row) .none kV_is_order_row dc_is_order_row pm_is_order_row an_is_order_row cd_is_order_row ct_is_order_row), sl_is_order_row⟩)
    (co_is_order_row : PySem.W.codeIn K cd_is_order_row "is_order_row" = true)
    (k_is_order_row : PySem.W.keepIn K (.ref a_is_order_row) = true)
    {a_need_orders : Addr} {od_need_orders an_need_orders : Option Addr} {sl_need_orders : Array (Option Value)} {oc_need_orders kV_need_orders dc_need_orders pm_need_orders cd_need_orders ct_need_orders : Value}
    (ga_need_orders : PySem.W.nsIn K mainGlobals "need_orders" = some (some (.ref a_need_orders)))
    (l_need_orders : K.lookup a_need_orders = some ⟨oc_need_orders, od_need_orders, .func (PySem.W.fnOf "need_orders" "need_orders" (defArgs s_need_orders) (defBody s_need_orders) (defScope s_need_orders) .none kV_need_orders dc_need_orders pm_need_orders an_need_orders cd_need_orders ct_need_orders), sl_need_orders⟩)
    (co_need_orders : PySem.W.codeIn K cd_need_orders "need_orders" = true)
    (k_need_orders : PySem.W.keepIn K (.ref a_need_orders) = true)
    {a_grade_of : Addr} {od_grade_of an_grade_of : Option Addr} {sl_grade_of : Array (Option Value)} {oc_grade_of kV_grade_of dc_grade_of pm_grade_of cd_grade_of ct_grade_of : Value}
    (ga_grade_of : PySem.W.nsIn K mainGlobals "grade_of" = some (some (.ref a_grade_of)))
    (l_grade_of : K.lookup a_grade_of = some ⟨oc_grade_of, od_grade_of, .func (PySem.W.fnOf "grade_of" "grade_of" (defArgs s_grade_of) (defBody s_grade_of) (defScope s_grade_of) .none kV_grade_of dc_grade_of pm_grade_of an_grade_of cd_grade_of ct_grade_of), sl_grade_of⟩)
    (co_grade_of : PySem.W.codeIn K cd_grade_of "grade_of" = true)
    (k_grade_of : PySem.W.keepIn K (.ref a_grade_of) = true)
    {a_chained : Addr} {od_chained an_chained : Option Addr} {sl_chained : Array (Option Value)} {oc_chained kV_chained dc_chained pm_chained cd_chained ct_chained : Value}
    (ga_chained : PySem.W.nsIn K mainGlobals "chained" = some (some (.ref a_chained)))
    (l_chained : K.lookup a_chained = some ⟨oc_chained, od_chained, .func (PySem.W.fnOf "chained" "chained" (defArgs s_chained) (defBody s_chained) (defScope s_chained) .none kV_chained dc_chained pm_chained an_chained cd_chained ct_chained), sl_chained⟩)
    (co_chained : PySem.W.codeIn K cd_chained "chained" = true)
    (k_chained : PySem.W.keepIn K (.ref a_chained) = true)
    {a_closure : Addr} {od_closure an_closure : Option Addr} {sl_closure : Array (Option Value)} {oc_closure kV_closure dc_closure pm_closure cd_closure ct_closure : Value}
    (ga_closure : PySem.W.nsIn K mainGlobals "closure" = some (some (.ref a_closure)))
    (l_closure : K.lookup a_closure = some ⟨oc_closure, od_closure, .func (PySem.W.fnOf "closure" "closure" (defArgs s_closure) (defBody s_closure) (defScope s_closure) .none kV_closure dc_closure pm_closure an_closure cd_closure ct_closure), sl_closure⟩)
    (co_closure : PySem.W.codeIn K cd_closure "closure" = true)
    (k_closure : PySem.W.keepIn K (.ref a_closure) = true)
    {a_sure_grades : Addr} {od_sure_grades an_sure_grades : Option Addr} {sl_sure_grades : Array (Option Value)} {oc_sure_grades kV_sure_grades dc_sure_grades pm_sure_grades cd_sure_grades ct_sure_grades : Value}
    (ga_sure_grades : PySem.W.nsIn K mainGlobals "sure_grades" = some (some (.ref a_sure_grades)))
    (l_sure_grades : K.lookup a_sure_grades = some ⟨oc_sure_grades, od_sure_grades, .func (PySem.W.fnOf "sure_grades" "sure_grades" (defArgs s_sure_grades) (defBody s_sure_grades) (defScope s_sure_grades) .none kV_sure_grades dc_sure_grades pm_sure_grades an_sure_grades cd_sure_grades ct_sure_grades), sl_sure_grades⟩)
    (co_sure_grades : PySem.W.codeIn K cd_sure_grades "sure_grades" = true)
    (k_sure_grades : PySem.W.keepIn K (.ref a_sure_grades) = true)
    {a_can_be_lowest : Addr} {od_can_be_lowest an_can_be_lowest : Option Addr} {sl_can_be_lowest : Array (Option Value)} {oc_can_be_lowest kV_can_be_lowest dc_can_be_lowest pm_can_be_lowest cd_can_be_lowest ct_can_be_lowest : Value}
    (ga_can_be_lowest : PySem.W.nsIn K mainGlobals "can_be_lowest" = some (some (.ref a_can_be_lowest)))
    (l_can_be_lowest : K.lookup a_can_be_lowest = some ⟨oc_can_be_lowest, od_can_be_lowest, .func (PySem.W.fnOf "can_be_lowest" "can_be_lowest" (defArgs s_can_be_lowest) (defBody s_can_be_lowest) (defScope s_can_be_lowest) .none kV_can_be_lowest dc_can_be_lowest pm_can_be_lowest an_can_be_lowest cd_can_be_lowest ct_can_be_lowest), sl_can_be_lowest⟩)
    (co_can_be_lowest : PySem.W.codeIn K cd_can_be_lowest "can_be_lowest" = true)
    (k_can_be_lowest : PySem.W.keepIn K (.ref a_can_be_lowest) = true)
    {a_lots_within : Addr} {od_lots_within an_lots_within : Option Addr} {sl_lots_within : Array (Option Value)} {oc_lots_within kV_lots_within dc_lots_within pm_lots_within cd_lots_within ct_lots_within : Value}
    (ga_lots_within : PySem.W.nsIn K mainGlobals "lots_within" = some (some (.ref a_lots_within)))
    (l_lots_within : K.lookup a_lots_within = some ⟨oc_lots_within, od_lots_within, .func (PySem.W.fnOf "lots_within" "lots_within" (defArgs s_lots_within) (defBody s_lots_within) (defScope s_lots_within) .none kV_lots_within dc_lots_within pm_lots_within an_lots_within cd_lots_within ct_lots_within), sl_lots_within⟩)
    (co_lots_within : PySem.W.codeIn K cd_lots_within "lots_within" = true)
    (k_lots_within : PySem.W.keepIn K (.ref a_lots_within) = true)
    {a_orders_of : Addr} {od_orders_of an_orders_of : Option Addr} {sl_orders_of : Array (Option Value)} {oc_orders_of kV_orders_of dc_orders_of pm_orders_of cd_orders_of ct_orders_of : Value}
    (ga_orders_of : PySem.W.nsIn K mainGlobals "orders_of" = some (some (.ref a_orders_of)))
    (l_orders_of : K.lookup a_orders_of = some ⟨oc_orders_of, od_orders_of, .func (PySem.W.fnOf "orders_of" "orders_of" (defArgs s_orders_of) (defBody s_orders_of) (defScope s_orders_of) .none kV_orders_of dc_orders_of pm_orders_of an_orders_of cd_orders_of ct_orders_of), sl_orders_of⟩)
    (co_orders_of : PySem.W.codeIn K cd_orders_of "orders_of" = true)
    (k_orders_of : PySem.W.keepIn K (.ref a_orders_of) = true)
    {a_orders_left : Addr} {od_orders_left an_orders_left : Option Addr} {sl_orders_left : Array (Option Value)} {oc_orders_left kV_orders_left dc_orders_left pm_orders_left cd_orders_left ct_orders_left : Value}
    (ga_orders_left : PySem.W.nsIn K mainGlobals "orders_left" = some (some (.ref a_orders_left)))
    (l_orders_left : K.lookup a_orders_left = some ⟨oc_orders_left, od_orders_left, .func (PySem.W.fnOf "orders_left" "orders_left" (defArgs s_orders_left) (defBody s_orders_left) (defScope s_orders_left) .none kV_orders_left dc_orders_left pm_orders_left an_orders_left cd_orders_left ct_orders_left), sl_orders_left⟩)
    (co_orders_left : PySem.W.codeIn K cd_orders_left "orders_left" = true)
    (k_orders_left : PySem.W.keepIn K (.ref a_orders_left) = true)
    {a__law_begun : Addr} {od__law_begun an__law_begun : Option Addr} {sl__law_begun : Array (Option Value)} {oc__law_begun kV__law_begun dc__law_begun pm__law_begun cd__law_begun ct__law_begun : Value}
    (ga__law_begun : PySem.W.nsIn K mainGlobals "_law_begun" = some (some (.ref a__law_begun)))
    (l__law_begun : K.lookup a__law_begun = some ⟨oc__law_begun, od__law_begun, .func (PySem.W.fnOf "_law_begun" "_law_begun" (defArgs s__law_begun) (defBody s__law_begun) (defScope s__law_begun) .none kV__law_begun dc__law_begun pm__law_begun an__law_begun cd__law_begun ct__law_begun), sl__law_begun⟩)
    (co__law_begun : PySem.W.codeIn K cd__law_begun "_law_begun" = true)
    (k__law_begun : PySem.W.keepIn K (.ref a__law_begun) = true)
    {a__law_draw : Addr} {od__law_draw an__law_draw : Option Addr} {sl__law_draw : Array (Option Value)} {oc__law_draw kV__law_draw dc__law_draw pm__law_draw cd__law_draw ct__law_draw : Value}
    (ga__law_draw : PySem.W.nsIn K mainGlobals "_law_draw" = some (some (.ref a__law_draw)))
    (l__law_draw : K.lookup a__law_draw = some ⟨oc__law_draw, od__law_draw, .func (PySem.W.fnOf "_law_draw" "_law_draw" (defArgs s__law_draw) (defBody s__law_draw) (defScope s__law_draw) .none kV__law_draw dc__law_draw pm__law_draw an__law_draw cd__law_draw ct__law_draw), sl__law_draw⟩)
    (co__law_draw : PySem.W.codeIn K cd__law_draw "_law_draw" = true)
    (k__law_draw : PySem.W.keepIn K (.ref a__law_draw) = true)
    {a__law_pick : Addr} {od__law_pick an__law_pick : Option Addr} {sl__law_pick : Array (Option Value)} {oc__law_pick kV__law_pick dc__law_pick pm__law_pick cd__law_pick ct__law_pick : Value}
    (ga__law_pick : PySem.W.nsIn K mainGlobals "_law_pick" = some (some (.ref a__law_pick)))
    (l__law_pick : K.lookup a__law_pick = some ⟨oc__law_pick, od__law_pick, .func (PySem.W.fnOf "_law_pick" "_law_pick" (defArgs s__law_pick) (defBody s__law_pick) (defScope s__law_pick) .none kV__law_pick dc__law_pick pm__law_pick an__law_pick cd__law_pick ct__law_pick), sl__law_pick⟩)
    (co__law_pick : PySem.W.codeIn K cd__law_pick "_law_pick" = true)
    (k__law_pick : PySem.W.keepIn K (.ref a__law_pick) = true)
    {a__law_closure : Addr} {od__law_closure an__law_closure : Option Addr} {sl__law_closure : Array (Option Value)} {oc__law_closure kV__law_closure dc__law_closure pm__law_closure cd__law_closure ct__law_closure : Value}
    (ga__law_closure : PySem.W.nsIn K mainGlobals "_law_closure" = some (some (.ref a__law_closure)))
    (l__law_closure : K.lookup a__law_closure = some ⟨oc__law_closure, od__law_closure, .func (PySem.W.fnOf "_law_closure" "_law_closure" (defArgs s__law_closure) (defBody s__law_closure) (defScope s__law_closure) .none kV__law_closure dc__law_closure pm__law_closure an__law_closure cd__law_closure ct__law_closure), sl__law_closure⟩)
    (co__law_closure : PySem.W.codeIn K cd__law_closure "_law_closure" = true)
    (k__law_closure : PySem.W.keepIn K (.ref a__law_closure) = true)
    {a__law_have_heights : Addr} {od__law_have_heights an__law_have_heights : Option Addr} {sl__law_have_heights : Array (Option Value)} {oc__law_have_heights kV__law_have_heights dc__law_have_heights pm__law_have_heights cd__law_have_heights ct__law_have_heights : Value}
    (ga__law_have_heights : PySem.W.nsIn K mainGlobals "_law_have_heights" = some (some (.ref a__law_have_heights)))
    (l__law_have_heights : K.lookup a__law_have_heights = some ⟨oc__law_have_heights, od__law_have_heights, .func (PySem.W.fnOf "_law_have_heights" "_law_have_heights" (defArgs s__law_have_heights) (defBody s__law_have_heights) (defScope s__law_have_heights) .none kV__law_have_heights dc__law_have_heights pm__law_have_heights an__law_have_heights cd__law_have_heights ct__law_have_heights), sl__law_have_heights⟩)
    (co__law_have_heights : PySem.W.codeIn K cd__law_have_heights "_law_have_heights" = true)
    (k__law_have_heights : PySem.W.keepIn K (.ref a__law_have_heights) = true)
    {a__law_orders : Addr} {od__law_orders an__law_orders : Option Addr} {sl__law_orders : Array (Option Value)} {oc__law_orders kV__law_orders dc__law_orders pm__law_orders cd__law_orders ct__law_orders : Value}
    (ga__law_orders : PySem.W.nsIn K mainGlobals "_law_orders" = some (some (.ref a__law_orders)))
    (l__law_orders : K.lookup a__law_orders = some ⟨oc__law_orders, od__law_orders, .func (PySem.W.fnOf "_law_orders" "_law_orders" (defArgs s__law_orders) (defBody s__law_orders) (defScope s__law_orders) .none kV__law_orders dc__law_orders pm__law_orders an__law_orders cd__law_orders ct__law_orders), sl__law_orders⟩)
    (co__law_orders : PySem.W.codeIn K cd__law_orders "_law_orders" = true)
    (k__law_orders : PySem.W.keepIn K (.ref a__law_orders) = true)
    {a__law_number : Addr} {od__law_number an__law_number : Option Addr} {sl__law_number : Array (Option Value)} {oc__law_number kV__law_number dc__law_number pm__law_number cd__law_number ct__law_number : Value}
    (ga__law_number : PySem.W.nsIn K mainGlobals "_law_number" = some (some (.ref a__law_number)))
    (l__law_number : K.lookup a__law_number = some ⟨oc__law_number, od__law_number, .func (PySem.W.fnOf "_law_number" "_law_number" (defArgs s__law_number) (defBody s__law_number) (defScope s__law_number) .none kV__law_number dc__law_number pm__law_number an__law_number cd__law_number ct__law_number), sl__law_number⟩)
    (co__law_number : PySem.W.codeIn K cd__law_number "_law_number" = true)
    (k__law_number : PySem.W.keepIn K (.ref a__law_number) = true)
    {a__law_heard : Addr} {od__law_heard an__law_heard : Option Addr} {sl__law_heard : Array (Option Value)} {oc__law_heard kV__law_heard dc__law_heard pm__law_heard cd__law_heard ct__law_heard : Value}
    (ga__law_heard : PySem.W.nsIn K mainGlobals "_law_heard" = some (some (.ref a__law_heard)))
    (l__law_heard : K.lookup a__law_heard = some ⟨oc__law_heard, od__law_heard, .func (PySem.W.fnOf "_law_heard" "_law_heard" (defArgs s__law_heard) (defBody s__law_heard) (defScope s__law_heard) .none kV__law_heard dc__law_heard pm__law_heard an__law_heard cd__law_heard ct__law_heard), sl__law_heard⟩)
    (co__law_heard : PySem.W.codeIn K cd__law_heard "_law_heard" = true)
    (k__law_heard : PySem.W.keepIn K (.ref a__law_heard) = true)
    {C_BadCount I_BadCount : Addr} {od_BadCount an_BadCount : Option Addr} {sl_BadCount : Array (Option Value)} {oc_BadCount dc_BadCount pm_BadCount cd_BadCount ct_BadCount : Value} {p1_BadCount p2_BadCount q1_BadCount q2_BadCount q3_BadCount q4_BadCount : Pos}
    (x_g_BadCount : PySem.W.nsIn K mainGlobals "BadCount" = some (some (.ref C_BadCount)))
    (x_ini_BadCount : PySem.W.excInitIn K C_BadCount exTail "Exception.__new__" = true)
    (x_ovr_BadCount : PySem.W.excOver K C_BadCount exTail = true)
    (x_iC_BadCount : PySem.W.findIn K (.ref C_BadCount) "__init__" = some (some (.ref I_BadCount)))
    (x_sa_BadCount : PySem.W.findIn K (.ref C_BadCount) "__setattr__" = some (some (.builtin "object.__setattr__")))
    (x_tkr_BadCount : PySem.W.takerIn K C_BadCount "thing" = some none)
    (x_noT_BadCount : PySem.W.findIn K (.ref C_BadCount) "thing" = some none)
    (x_hd_BadCount : PySem.W.hasDictIn K C_BadCount = true)
    (x_kC_BadCount : PySem.W.keepIn K (.ref C_BadCount) = true)
    (x_exC_BadCount : PySem.W.subIn K (.ref C_BadCount) (.type "BaseException") = some true)
    (x_tyC_BadCount : PySem.W.typeIn K (.ref C_BadCount) = some (.type "type"))
    (x_tI_BadCount : PySem.W.typeIn K (.ref I_BadCount) = some (.type "function"))
    (x_ga_BadCount : PySem.W.findIn K (.ref C_BadCount) "__getattribute__" = some (some (.builtin "BaseException.__getattribute__")))
    (x_gg_BadCount : PySem.W.findIn K (.ref C_BadCount) "__getattr__" = some none)
    (x_cl_BadCount : PySem.W.findIn K (.ref C_BadCount) "__class__" = some (some (.builtin "object.__class__")))
    (x_mr_BadCount : PySem.W.mroIn K C_BadCount (.type "object") = some true)
    (x_fn_BadCount : K.lookup I_BadCount = some ⟨oc_BadCount, od_BadCount, .func (PySem.W.fnOf "__init__" "BadCount.__init__" (thA p1_BadCount p2_BadCount) (thB q1_BadCount q2_BadCount q3_BadCount q4_BadCount) thS .none .none dc_BadCount pm_BadCount an_BadCount cd_BadCount ct_BadCount), sl_BadCount⟩)
    (x_co_BadCount : PySem.W.codeIn K cd_BadCount "BadCount.__init__" = true)
    {C_BadRows I_BadRows : Addr} {od_BadRows an_BadRows : Option Addr} {sl_BadRows : Array (Option Value)} {oc_BadRows dc_BadRows pm_BadRows cd_BadRows ct_BadRows : Value} {p1_BadRows p2_BadRows q1_BadRows q2_BadRows q3_BadRows q4_BadRows : Pos}
    (x_g_BadRows : PySem.W.nsIn K mainGlobals "BadRows" = some (some (.ref C_BadRows)))
    (x_ini_BadRows : PySem.W.excInitIn K C_BadRows exTail "Exception.__new__" = true)
    (x_ovr_BadRows : PySem.W.excOver K C_BadRows exTail = true)
    (x_iC_BadRows : PySem.W.findIn K (.ref C_BadRows) "__init__" = some (some (.ref I_BadRows)))
    (x_sa_BadRows : PySem.W.findIn K (.ref C_BadRows) "__setattr__" = some (some (.builtin "object.__setattr__")))
    (x_tkr_BadRows : PySem.W.takerIn K C_BadRows "thing" = some none)
    (x_noT_BadRows : PySem.W.findIn K (.ref C_BadRows) "thing" = some none)
    (x_hd_BadRows : PySem.W.hasDictIn K C_BadRows = true)
    (x_kC_BadRows : PySem.W.keepIn K (.ref C_BadRows) = true)
    (x_exC_BadRows : PySem.W.subIn K (.ref C_BadRows) (.type "BaseException") = some true)
    (x_tyC_BadRows : PySem.W.typeIn K (.ref C_BadRows) = some (.type "type"))
    (x_tI_BadRows : PySem.W.typeIn K (.ref I_BadRows) = some (.type "function"))
    (x_ga_BadRows : PySem.W.findIn K (.ref C_BadRows) "__getattribute__" = some (some (.builtin "BaseException.__getattribute__")))
    (x_gg_BadRows : PySem.W.findIn K (.ref C_BadRows) "__getattr__" = some none)
    (x_cl_BadRows : PySem.W.findIn K (.ref C_BadRows) "__class__" = some (some (.builtin "object.__class__")))
    (x_mr_BadRows : PySem.W.mroIn K C_BadRows (.type "object") = some true)
    (x_fn_BadRows : K.lookup I_BadRows = some ⟨oc_BadRows, od_BadRows, .func (PySem.W.fnOf "__init__" "BadRows.__init__" (thA p1_BadRows p2_BadRows) (thB q1_BadRows q2_BadRows q3_BadRows q4_BadRows) thS .none .none dc_BadRows pm_BadRows an_BadRows cd_BadRows ct_BadRows), sl_BadRows⟩)
    (x_co_BadRows : PySem.W.codeIn K cd_BadRows "BadRows.__init__" = true)
    {C_NoHeights I_NoHeights : Addr} {od_NoHeights an_NoHeights : Option Addr} {sl_NoHeights : Array (Option Value)} {oc_NoHeights dc_NoHeights pm_NoHeights cd_NoHeights ct_NoHeights : Value} {p1_NoHeights p2_NoHeights q1_NoHeights q2_NoHeights q3_NoHeights q4_NoHeights : Pos}
    (x_g_NoHeights : PySem.W.nsIn K mainGlobals "NoHeights" = some (some (.ref C_NoHeights)))
    (x_ini_NoHeights : PySem.W.excInitIn K C_NoHeights exTail "Exception.__new__" = true)
    (x_ovr_NoHeights : PySem.W.excOver K C_NoHeights exTail = true)
    (x_iC_NoHeights : PySem.W.findIn K (.ref C_NoHeights) "__init__" = some (some (.ref I_NoHeights)))
    (x_sa_NoHeights : PySem.W.findIn K (.ref C_NoHeights) "__setattr__" = some (some (.builtin "object.__setattr__")))
    (x_tkr_NoHeights : PySem.W.takerIn K C_NoHeights "thing" = some none)
    (x_noT_NoHeights : PySem.W.findIn K (.ref C_NoHeights) "thing" = some none)
    (x_hd_NoHeights : PySem.W.hasDictIn K C_NoHeights = true)
    (x_kC_NoHeights : PySem.W.keepIn K (.ref C_NoHeights) = true)
    (x_exC_NoHeights : PySem.W.subIn K (.ref C_NoHeights) (.type "BaseException") = some true)
    (x_tyC_NoHeights : PySem.W.typeIn K (.ref C_NoHeights) = some (.type "type"))
    (x_tI_NoHeights : PySem.W.typeIn K (.ref I_NoHeights) = some (.type "function"))
    (x_ga_NoHeights : PySem.W.findIn K (.ref C_NoHeights) "__getattribute__" = some (some (.builtin "BaseException.__getattribute__")))
    (x_gg_NoHeights : PySem.W.findIn K (.ref C_NoHeights) "__getattr__" = some none)
    (x_cl_NoHeights : PySem.W.findIn K (.ref C_NoHeights) "__class__" = some (some (.builtin "object.__class__")))
    (x_mr_NoHeights : PySem.W.mroIn K C_NoHeights (.type "object") = some true)
    (x_fn_NoHeights : K.lookup I_NoHeights = some ⟨oc_NoHeights, od_NoHeights, .func (PySem.W.fnOf "__init__" "NoHeights.__init__" (thA p1_NoHeights p2_NoHeights) (thB q1_NoHeights q2_NoHeights q3_NoHeights q4_NoHeights) thS .none .none dc_NoHeights pm_NoHeights an_NoHeights cd_NoHeights ct_NoHeights), sl_NoHeights⟩)
    (x_co_NoHeights : PySem.W.codeIn K cd_NoHeights "NoHeights.__init__" = true)
    {R : Addr}
    (x_R : PySem.W.nsIn K mainGlobals "RockError" = some (some (.ref R)))
    (tg1 : PySem.W.specialIn K (.builtin "object.__class__") "__get__" = some (some (.builtin "getset_descriptor.__get__")))
    (tg2 : PySem.W.takesIn K (.builtin "object.__class__") = some true)
    (ee_BadCount_BadCount : PySem.W.subIn K (.ref C_BadCount) (.ref C_BadCount) = some true)
    (ee_BadCount_BadRows : PySem.W.subIn K (.ref C_BadCount) (.ref C_BadRows) = some false)
    (ee_BadCount_NoHeights : PySem.W.subIn K (.ref C_BadCount) (.ref C_NoHeights) = some false)
    (ki_BadCount : PySem.W.subIn K (.ref C_BadCount) (.ref R) = some true)
    (ee_BadRows_BadCount : PySem.W.subIn K (.ref C_BadRows) (.ref C_BadCount) = some false)
    (ee_BadRows_BadRows : PySem.W.subIn K (.ref C_BadRows) (.ref C_BadRows) = some true)
    (ee_BadRows_NoHeights : PySem.W.subIn K (.ref C_BadRows) (.ref C_NoHeights) = some false)
    (ki_BadRows : PySem.W.subIn K (.ref C_BadRows) (.ref R) = some true)
    (ee_NoHeights_BadCount : PySem.W.subIn K (.ref C_NoHeights) (.ref C_BadCount) = some false)
    (ee_NoHeights_BadRows : PySem.W.subIn K (.ref C_NoHeights) (.ref C_BadRows) = some false)
    (ee_NoHeights_NoHeights : PySem.W.subIn K (.ref C_NoHeights) (.ref C_NoHeights) = some true)
    (ki_NoHeights : PySem.W.subIn K (.ref C_NoHeights) (.ref R) = some true)
    (Rhd : PySem.W.hasDictIn K R = true)
    (Rty : PySem.W.typeIn K (.ref R) = some (.type "type"))
 : Env K mg where
  z_all := PySem.W.mg_none_of X G z_all
  z_any := PySem.W.mg_none_of X G z_any
  z_bool := PySem.W.mg_none_of X G z_bool
  z_int := PySem.W.mg_none_of X G z_int
  z_isinstance := PySem.W.mg_none_of X G z_isinstance
  z_len := PySem.W.mg_none_of X G z_len
  z_list := PySem.W.mg_none_of X G z_list
  z_max := PySem.W.mg_none_of X G z_max
  z_range := PySem.W.mg_none_of X G z_range
  z_repr := PySem.W.mg_none_of X G z_repr
  z_sum := PySem.W.mg_none_of X G z_sum
  z_tuple := PySem.W.mg_none_of X G z_tuple
  c_NONE := ⟨t_NONE, PySem.W.mg_of X G c_NONE⟩
  c_PLAIN := ⟨t_PLAIN, PySem.W.mg_of X G c_PLAIN⟩
  c_ROW_PARTS := ⟨t_ROW_PARTS, PySem.W.mg_of X G c_ROW_PARTS⟩
  c_STRICT := ⟨t_STRICT, PySem.W.mg_of X G c_STRICT⟩
  f_is_whole := ⟨a_is_whole, _, fun_mk (st := s_is_whole) l_is_whole co_is_whole k_is_whole, PySem.W.mg_of X G ga_is_whole, (fun_mk (st := s_is_whole) l_is_whole co_is_whole k_is_whole).binds (ps := ["thing"]) fun _ _ _ _ _ _ us hl => match us, hl with | [_], _ => rfl⟩
  f_is_between := ⟨a_is_between, _, fun_mk (st := s_is_between) l_is_between co_is_between k_is_between, PySem.W.mg_of X G ga_is_between, (fun_mk (st := s_is_between) l_is_between co_is_between k_is_between).binds (ps := ["thing", "least", "most"]) fun _ _ _ _ _ _ us hl => match us, hl with | [_, _, _], _ => rfl⟩
  f_is_truth := ⟨a_is_truth, _, fun_mk (st := s_is_truth) l_is_truth co_is_truth k_is_truth, PySem.W.mg_of X G ga_is_truth, (fun_mk (st := s_is_truth) l_is_truth co_is_truth k_is_truth).binds (ps := ["thing"]) fun _ _ _ _ _ _ us hl => match us, hl with | [_], _ => rfl⟩
  f_is_tuple_of := ⟨a_is_tuple_of, _, fun_mk (st := s_is_tuple_of) l_is_tuple_of co_is_tuple_of k_is_tuple_of, PySem.W.mg_of X G ga_is_tuple_of, (fun_mk (st := s_is_tuple_of) l_is_tuple_of co_is_tuple_of k_is_tuple_of).binds (ps := ["thing", "many"]) fun _ _ _ _ _ _ us hl => match us, hl with | [_, _], _ => rfl⟩
  f_need_count := ⟨a_need_count, _, fun_mk (st := s_need_count) l_need_count co_need_count k_need_count, PySem.W.mg_of X G ga_need_count, (fun_mk (st := s_need_count) l_need_count co_need_count k_need_count).binds (ps := ["count"]) fun _ _ _ _ _ _ us hl => match us, hl with | [_], _ => rfl⟩
  f_is_order_row := ⟨a_is_order_row, _, fun_mk (st := s_is_order_row) l_is_order_row co_is_order_row k_is_order_row, PySem.W.mg_of X G ga_is_order_row, (fun_mk (st := s_is_order_row) l_is_order_row co_is_order_row k_is_order_row).binds (ps := ["count", "thing"]) fun _ _ _ _ _ _ us hl => match us, hl with | [_, _], _ => rfl⟩
  f_need_orders := ⟨a_need_orders, _, fun_mk (st := s_need_orders) l_need_orders co_need_orders k_need_orders, PySem.W.mg_of X G ga_need_orders, (fun_mk (st := s_need_orders) l_need_orders co_need_orders k_need_orders).binds (ps := ["count", "orders"]) fun _ _ _ _ _ _ us hl => match us, hl with | [_, _], _ => rfl⟩
  f_grade_of := ⟨a_grade_of, _, fun_mk (st := s_grade_of) l_grade_of co_grade_of k_grade_of, PySem.W.mg_of X G ga_grade_of, (fun_mk (st := s_grade_of) l_grade_of co_grade_of k_grade_of).binds (ps := ["strict"]) fun _ _ _ _ _ _ us hl => match us, hl with | [_], _ => rfl⟩
  f_chained := ⟨a_chained, _, fun_mk (st := s_chained) l_chained co_chained k_chained, PySem.W.mg_of X G ga_chained, (fun_mk (st := s_chained) l_chained co_chained k_chained).binds (ps := ["one", "other"]) fun _ _ _ _ _ _ us hl => match us, hl with | [_, _], _ => rfl⟩
  f_closure := ⟨a_closure, _, fun_mk (st := s_closure) l_closure co_closure k_closure, PySem.W.mg_of X G ga_closure, (fun_mk (st := s_closure) l_closure co_closure k_closure).binds (ps := ["count", "orders"]) fun _ _ _ _ _ _ us hl => match us, hl with | [_, _], _ => rfl⟩
  f_sure_grades := ⟨a_sure_grades, _, fun_mk (st := s_sure_grades) l_sure_grades co_sure_grades k_sure_grades, PySem.W.mg_of X G ga_sure_grades, (fun_mk (st := s_sure_grades) l_sure_grades co_sure_grades k_sure_grades).binds (ps := ["count", "orders"]) fun _ _ _ _ _ _ us hl => match us, hl with | [_, _], _ => rfl⟩
  f_can_be_lowest := ⟨a_can_be_lowest, _, fun_mk (st := s_can_be_lowest) l_can_be_lowest co_can_be_lowest k_can_be_lowest, PySem.W.mg_of X G ga_can_be_lowest, (fun_mk (st := s_can_be_lowest) l_can_be_lowest co_can_be_lowest k_can_be_lowest).binds (ps := ["orders", "left", "lot"]) fun _ _ _ _ _ _ us hl => match us, hl with | [_, _, _], _ => rfl⟩
  f_lots_within := ⟨a_lots_within, _, fun_mk (st := s_lots_within) l_lots_within co_lots_within k_lots_within, PySem.W.mg_of X G ga_lots_within, (fun_mk (st := s_lots_within) l_lots_within co_lots_within k_lots_within).binds (ps := ["left"]) fun _ _ _ _ _ _ us hl => match us, hl with | [_], _ => rfl⟩
  f_orders_of := ⟨a_orders_of, _, fun_mk (st := s_orders_of) l_orders_of co_orders_of k_orders_of, PySem.W.mg_of X G ga_orders_of, (fun_mk (st := s_orders_of) l_orders_of co_orders_of k_orders_of).binds (ps := ["count", "orders"]) fun _ _ _ _ _ _ us hl => match us, hl with | [_, _], _ => rfl⟩
  f_orders_left := ⟨a_orders_left, _, fun_mk (st := s_orders_left) l_orders_left co_orders_left k_orders_left, PySem.W.mg_of X G ga_orders_left, (fun_mk (st := s_orders_left) l_orders_left co_orders_left k_orders_left).binds (ps := ["count", "orders"]) fun _ _ _ _ _ _ us hl => match us, hl with | [_, _], _ => rfl⟩
  f__law_begun := ⟨a__law_begun, _, fun_mk (st := s__law_begun) l__law_begun co__law_begun k__law_begun, PySem.W.mg_of X G ga__law_begun, (fun_mk (st := s__law_begun) l__law_begun co__law_begun k__law_begun).binds (ps := ["script", "salt"]) fun _ _ _ _ _ _ us hl => match us, hl with | [_, _], _ => rfl⟩
  f__law_draw := ⟨a__law_draw, _, fun_mk (st := s__law_draw) l__law_draw co__law_draw k__law_draw, PySem.W.mg_of X G ga__law_draw, (fun_mk (st := s__law_draw) l__law_draw co__law_draw k__law_draw).binds (ps := ["deck", "below"]) fun _ _ _ _ _ _ us hl => match us, hl with | [_, _], _ => rfl⟩
  f__law_pick := ⟨a__law_pick, _, fun_mk (st := s__law_pick) l__law_pick co__law_pick k__law_pick, PySem.W.mg_of X G ga__law_pick, (fun_mk (st := s__law_pick) l__law_pick co__law_pick k__law_pick).binds (ps := ["deck", "some"]) fun _ _ _ _ _ _ us hl => match us, hl with | [_, _], _ => rfl⟩
  f__law_closure := ⟨a__law_closure, _, fun_mk (st := s__law_closure) l__law_closure co__law_closure k__law_closure, PySem.W.mg_of X G ga__law_closure, (fun_mk (st := s__law_closure) l__law_closure co__law_closure k__law_closure).binds (ps := ["count", "orders"]) fun _ _ _ _ _ _ us hl => match us, hl with | [_, _], _ => rfl⟩
  f__law_have_heights := ⟨a__law_have_heights, _, fun_mk (st := s__law_have_heights) l__law_have_heights co__law_have_heights k__law_have_heights, PySem.W.mg_of X G ga__law_have_heights, (fun_mk (st := s__law_have_heights) l__law_have_heights co__law_have_heights k__law_have_heights).binds (ps := ["count", "found"]) fun _ _ _ _ _ _ us hl => match us, hl with | [_, _], _ => rfl⟩
  f__law_orders := ⟨a__law_orders, _, fun_mk (st := s__law_orders) l__law_orders co__law_orders k__law_orders, PySem.W.mg_of X G ga__law_orders, (fun_mk (st := s__law_orders) l__law_orders co__law_orders k__law_orders).binds (ps := ["deck", "most"]) fun _ _ _ _ _ _ us hl => match us, hl with | [_, _], _ => rfl⟩
  f__law_number := ⟨a__law_number, _, fun_mk (st := s__law_number) l__law_number co__law_number k__law_number, PySem.W.mg_of X G ga__law_number, (fun_mk (st := s__law_number) l__law_number co__law_number k__law_number).binds (ps := ["count", "orders"]) fun _ _ _ _ _ _ us hl => match us, hl with | [_, _], _ => rfl⟩
  f__law_heard := ⟨a__law_heard, _, fun_mk (st := s__law_heard) l__law_heard co__law_heard k__law_heard, PySem.W.mg_of X G ga__law_heard, (fun_mk (st := s__law_heard) l__law_heard co__law_heard k__law_heard).binds (ps := ["count", "orders", "by_name"]) fun _ _ _ _ _ _ us hl => match us, hl with | [_, _, _], _ => rfl⟩
  x_BadCount := ⟨C_BadCount, I_BadCount, PySem.W.mg_of X G x_g_BadCount, x_ini_BadCount, x_ovr_BadCount, x_iC_BadCount, x_sa_BadCount, x_tkr_BadCount, x_noT_BadCount, x_hd_BadCount, x_kC_BadCount, x_exC_BadCount, x_tyC_BadCount, x_tI_BadCount, x_ga_BadCount, x_gg_BadCount, x_cl_BadCount, x_mr_BadCount, _, _, _, _, _, _, _, _, _, _, _, _, _, _, x_fn_BadCount, x_co_BadCount⟩
  x_BadRows := ⟨C_BadRows, I_BadRows, PySem.W.mg_of X G x_g_BadRows, x_ini_BadRows, x_ovr_BadRows, x_iC_BadRows, x_sa_BadRows, x_tkr_BadRows, x_noT_BadRows, x_hd_BadRows, x_kC_BadRows, x_exC_BadRows, x_tyC_BadRows, x_tI_BadRows, x_ga_BadRows, x_gg_BadRows, x_cl_BadRows, x_mr_BadRows, _, _, _, _, _, _, _, _, _, _, _, _, _, _, x_fn_BadRows, x_co_BadRows⟩
  x_NoHeights := ⟨C_NoHeights, I_NoHeights, PySem.W.mg_of X G x_g_NoHeights, x_ini_NoHeights, x_ovr_NoHeights, x_iC_NoHeights, x_sa_NoHeights, x_tkr_NoHeights, x_noT_NoHeights, x_hd_NoHeights, x_kC_NoHeights, x_exC_NoHeights, x_tyC_NoHeights, x_tI_NoHeights, x_ga_NoHeights, x_gg_NoHeights, x_cl_NoHeights, x_mr_NoHeights, _, _, _, _, _, _, _, _, _, _, _, _, _, _, x_fn_NoHeights, x_co_NoHeights⟩
  x_root := ⟨R, PySem.W.mg_of X G x_R, trivial⟩
  tg := ⟨tg1, tg2⟩
  e_ex := by
    intro a ha b hb Ca Cb h1 h2
    simp only [List.mem_cons, List.not_mem_nil, or_false] at ha hb
    rcases ha with rfl | rfl | rfl <;> rcases hb with rfl | rfl | rfl
    · rw [PySem.W.mg_of X G x_g_BadCount] at h1; rw [PySem.W.mg_of X G x_g_BadCount] at h2; cases Option.some.inj h1; cases Option.some.inj h2; exact PySem.W.exm_ref x_exC_BadCount x_hd_BadCount x_tyC_BadCount ee_BadCount_BadCount
    · rw [PySem.W.mg_of X G x_g_BadCount] at h1; rw [PySem.W.mg_of X G x_g_BadRows] at h2; cases Option.some.inj h1; cases Option.some.inj h2; exact PySem.W.exm_ref x_exC_BadRows x_hd_BadRows x_tyC_BadRows ee_BadCount_BadRows
    · rw [PySem.W.mg_of X G x_g_BadCount] at h1; rw [PySem.W.mg_of X G x_g_NoHeights] at h2; cases Option.some.inj h1; cases Option.some.inj h2; exact PySem.W.exm_ref x_exC_NoHeights x_hd_NoHeights x_tyC_NoHeights ee_BadCount_NoHeights
    · rw [PySem.W.mg_of X G x_g_BadRows] at h1; rw [PySem.W.mg_of X G x_g_BadCount] at h2; cases Option.some.inj h1; cases Option.some.inj h2; exact PySem.W.exm_ref x_exC_BadCount x_hd_BadCount x_tyC_BadCount ee_BadRows_BadCount
    · rw [PySem.W.mg_of X G x_g_BadRows] at h1; rw [PySem.W.mg_of X G x_g_BadRows] at h2; cases Option.some.inj h1; cases Option.some.inj h2; exact PySem.W.exm_ref x_exC_BadRows x_hd_BadRows x_tyC_BadRows ee_BadRows_BadRows
    · rw [PySem.W.mg_of X G x_g_BadRows] at h1; rw [PySem.W.mg_of X G x_g_NoHeights] at h2; cases Option.some.inj h1; cases Option.some.inj h2; exact PySem.W.exm_ref x_exC_NoHeights x_hd_NoHeights x_tyC_NoHeights ee_BadRows_NoHeights
    · rw [PySem.W.mg_of X G x_g_NoHeights] at h1; rw [PySem.W.mg_of X G x_g_BadCount] at h2; cases Option.some.inj h1; cases Option.some.inj h2; exact PySem.W.exm_ref x_exC_BadCount x_hd_BadCount x_tyC_BadCount ee_NoHeights_BadCount
    · rw [PySem.W.mg_of X G x_g_NoHeights] at h1; rw [PySem.W.mg_of X G x_g_BadRows] at h2; cases Option.some.inj h1; cases Option.some.inj h2; exact PySem.W.exm_ref x_exC_BadRows x_hd_BadRows x_tyC_BadRows ee_NoHeights_BadRows
    · rw [PySem.W.mg_of X G x_g_NoHeights] at h1; rw [PySem.W.mg_of X G x_g_NoHeights] at h2; cases Option.some.inj h1; cases Option.some.inj h2; exact PySem.W.exm_ref x_exC_NoHeights x_hd_NoHeights x_tyC_NoHeights ee_NoHeights_NoHeights
  e_ki := by
    intro a ha Ca R0 h1 h2
    simp only [List.mem_cons, List.not_mem_nil, or_false] at ha
    rw [PySem.W.mg_of X G x_R] at h2; cases Option.some.inj h2
    rcases ha with rfl | rfl | rfl
    · rw [PySem.W.mg_of X G x_g_BadCount] at h1; cases Option.some.inj h1; exact PD.kit_ref Rhd Rty ki_BadCount
    · rw [PySem.W.mg_of X G x_g_BadRows] at h1; cases Option.some.inj h1; exact PD.kit_ref Rhd Rty ki_BadRows
    · rw [PySem.W.mg_of X G x_g_NoHeights] at h1; cases Option.some.inj h1; exact PD.kit_ref Rhd Rty ki_NoHeights
end K15
namespace K15
open PySem PySem.Spec PyProof.Rows L2 PD
abbrev lawN : List Str := ["script", "deck", "numbers", "k", "turn", "count", "ranks", "rows", "one", "other", "strict", "orders", "found", "due", "turned", "many", "more", "told"]
theorem law_mk {P : Program} {w : World} {K : Kf} {h : Heap} {mg : Str → Option Value} {fa : Addr} (X : K.In h) (G : h.Ns mainGlobals mg) (hmg : mg "law" = some (.ref fa))
    {a_l : Addr} {od an : Option Addr} {sl : Array (Option Value)} {oc kV dc pm cd ct : Value}
    (plain : ∀ mg, Env K mg → ∀ ns : List Int, ns.length ≤ 63 → ∃ m', b_law mg (PD.enter lawN.length [.fz (.scr ns)] []) = .ok (.rt (.fz (.bl true))) m')
    (ga : PySem.W.nsIn K mainGlobals "law" = some (some (.ref a_l))) (l : K.lookup a_l = some ⟨oc, od, .func (PySem.W.fnOf "law" "law" (defArgs s_law) (defBody s_law) (defScope s_law) .none kV dc pm an cd ct), sl⟩) (co : PySem.W.codeIn K cd "law" = true) (k : PySem.W.keepIn K (.ref a_l) = true) (E : Env K mg) :
    ∃ fd : FuncData, Fun K "law" "law" s_law fa fd ∧ FnScope lawN ["script"] (defScope s_law) ∧ (∀ (s : Shared) (u : Value), BindsTo s fd ⟨[u], []⟩ [("script", u)]) ∧
      ∀ (base : Heap) (cdv : Value) (s : Shared) (H : Hp), K.In base → base.Ns mainGlobals mg → ∀ (a : Addr) (ns : List Int), ns.length ≤ 63 → SqL K H a (ns.map V.int) →
        Cxt (cxOf (L2.CX P w) P w K mg base lawN "law" (defScope s_law) fa cdv callerA [] s H (fun _ _ _ => False)) P w K K mg base 6 (fun _ _ _ _ => False) →
        ∃ t, PSs (cxOf (L2.CX P w) P w K mg base lawN "law" (defScope s_law) fa cdv callerA [] s H (fun _ _ _ => False)) (defBody s_law) t ∧ t { nx := fun _ _ => V.non = .bl true, rt := fun v _ => v = .bl true } (L2.start lawN [.ref a]) H := by
  have e := hmg.symm.trans (PySem.W.mg_of X G ga)
  cases e
  refine ⟨_, fun_mk (st := s_law) l co k, sc_law, fun s v => .of_eq rfl, fun base cdv s H _ _ a ns hl hS C => ?_⟩
  obtain ⟨t, D⟩ := d_law (up_refl K) E C rfl
  refine ⟨t, D.pe, ?_⟩
  have S0 : StF K H H [] ⟨[], []⟩ [] H H (fun _ => []) := ⟨rfl, rfl, Same.refl _, Same.refl _, Same.refl _, fun a h => .inl h, fun o s e => (by cases o <;> simp [PD.get] at e), fun o h => rfl, fun i k e => (by simp at e), fun o => List.nodup_nil, fun o o' a h => (by cases h), fun o a h => (by cases h)⟩
  have S1 := S0.enter (N := lawN) (as := [.fz (.scr ns)]) (vs := [.ref a]) ⟨.ref a, [], rfl, ⟨a, rfl, hS⟩, rfl⟩ (by show 1 ≤ 18; decide)
  refine D.ok H H [] _ _ H H _ _ S1 ?_
  obtain ⟨m', e⟩ := plain mg E ns hl
  rw [e]
  intro v σ' F' H' fp' S' ev
  obtain ⟨q, o, _⟩ := ev
  exact o.1
end K15
namespace K15
open PySem PySem.Spec PyProof.Rows L2 PD
variable {mg : Str → Option Value}
theorem eqv_int (i j : Int) : PyData.eqv (.int i) (.int j) = decide (i = j) := by
  by_cases h : i = j <;> simp [PyData.eqv, h]
theorem call1 {f : Den} {m : M} {d : D} {s : SV} (h : Rn (f [.fz d] []) s []) : callK 1 f m [.v d] = .ok (resE s) m := call_v (ds := [d]) rfl h
theorem call2 {f : Den} {m : M} {d e : D} {s : SV} (h : Rn (f [.fz d, .fz e] []) s []) : callK 2 f m [.v d, .v e] = .ok (resE s) m := call_v (ds := [d, e]) rfl h
theorem call3 {f : Den} {m : M} {d e g : D} {s : SV} (h : Rn (f [.fz d, .fz e, .fz g] []) s []) : callK 3 f m [.v d, .v e, .v g] = .ok (resE s) m := call_v (ds := [d, e, g]) rfl h
theorem callX2 {f : Den} {m : M} {d e : D} {c : Str} {x : D} (h : RnX (f [.fz d, .fz e] []) c x []) : callK 2 f m [.v d, .v e] = .exc c x m := callX_v (ds := [d, e]) rfl h
theorem callX1 {f : Den} {m : M} {d : D} {c : Str} {x : D} (h : RnX (f [.fz d] []) c x []) : callK 1 f m [.v d] = .exc c x m := callX_v (ds := [d]) rfl h
theorem e_is_whole {d : D} {n : String} (h : tyOfS (.fz d) = some n) : Rn (den_is_whole mg [.fz d] []) (.fz (.bl (isB "int" n && !isB "bool" n))) [] := by
  unfold den_is_whole dDef b_is_whole
  simp [PD.enter, arSl, dRet, dAndV, dUn, dVar, opd, frE, Out.bind, kV1, PD.view, pIsi, h, dNotV]
  cases isB "int" n <;> cases isB "bool" n <;> simp [Rn_ok]
theorem e_whole_int (i : Int) : Rn (den_is_whole mg [.fz (.int i)] []) (.fz (.bl true)) [] := e_is_whole (n := "int") rfl
theorem e_is_truth {d : D} {n : String} (h : tyOfS (.fz d) = some n) : Rn (den_is_truth mg [.fz d] []) (.fz (.bl (isB "bool" n))) [] := by
  unfold den_is_truth dDef b_is_truth
  simp [PD.enter, arSl, dRet, dUn, dVar, opd, frE, Out.bind, kV1, PD.view, pIsi, h, Rn_ok]
theorem e_is_between {d : D} {n : String} (h : tyOfS (.fz d) = some n) (hn : (isB "int" n && !isB "bool" n) = false) (a b : Int) : Rn (den_is_between mg [.fz d, .fz (.int a), .fz (.int b)] []) (.fz (.bl false)) [] := by
  unfold den_is_between dDef b_is_between
  simp [PD.enter, arSl, dRet, dAndV, dApp, dCons, dNil, dVar, opd, frE, stable, Out.bind, call1 (e_is_whole h), hn, resE, Rn_ok]
theorem e_between_int (i a b : Int) : Rn (den_is_between mg [.fz (.int i), .fz (.int a), .fz (.int b)] []) (.fz (.bl (decide (a ≤ i) && decide (i ≤ b)))) [] := by
  unfold den_is_between dDef b_is_between
  by_cases h1 : a ≤ i
  · simp [PD.enter, arSl, dRet, dAndV, dApp, dCons, dNil, dVar, opd, frE, stable, Out.bind, call1 (e_whole_int i), resE, dChain, kV2, PD.view, pLe, orOp, int2, tt2, h1, Rn_ok]
  · simp [PD.enter, arSl, dRet, dAndV, dApp, dCons, dNil, dVar, opd, frE, stable, Out.bind, call1 (e_whole_int i), resE, dChain, kV2, PD.view, pLe, orOp, int2, tt2, h1, Rn_ok]
theorem e_is_tuple_of (ds : List D) (k : Int) : Rn (den_is_tuple_of mg [.fz (.tup ds), .fz (.int k)] []) (.fz (.bl (decide ((ds.length : Int) = k)))) [] := by
  unfold den_is_tuple_of dDef b_is_tuple_of
  simp [PD.enter, arSl, dRet, dAndV, dApp, dCons, dNil, dVar, opd, frE, stable, Out.bind, dUn, kV1, PD.view, pIsi, tyOfS, isB, dBin, kVN, views, pLen, lenS, kV2, bin2, toPyS, toPy, pEq, dMin, PyData.depth, eqv_int, Rn_ok]
theorem e_not_tuple {d : D} {n : String} (h : tyOfS (.fz d) = some n) (hn : isB "tuple" n = false) (k : Int) : Rn (den_is_tuple_of mg [.fz d, .fz (.int k)] []) (.fz (.bl false)) [] := by
  unfold den_is_tuple_of dDef b_is_tuple_of
  simp [PD.enter, arSl, dRet, dAndV, dApp, dCons, dNil, dVar, opd, frE, stable, Out.bind, dUn, kV1, PD.view, pIsi, h, hn, Rn_ok]
theorem e_need_count (i : Int) (h : 1 ≤ i) : Rn (den_need_count mg [.fz (.int i)] []) (.fz .non) [] := by
  unfold den_need_count dDef b_need_count
  simp [PD.enter, arSl, dIf, dOrT, dNotT, dTest, dApp, dCons, dNil, dVar, opd, frE, stable, Out.bind, call1 (e_whole_int i), resE, dBin, dC, kV2, PD.view, pLt, orOp, int2, tt2, show ¬ i < 1 by omega, dSkip, Rn_ok]
theorem x_need_count_int (i : Int) (h : ¬ 1 ≤ i) : RnX (den_need_count mg [.fz (.int i)] []) "BadCount" (.int i) [] := by
  unfold den_need_count dDef b_need_count
  simp [PD.enter, arSl, dIf, dOrT, dNotT, dTest, dApp, dCons, dNil, dVar, opd, frE, stable, Out.bind, call1 (e_whole_int i), resE, dBin, dC, kV2, PD.view, pLt, orOp, int2, tt2, show i < 1 by omega, dRaise, dFzE, RnX_exc]
theorem x_need_count {d : D} {n : String} (h : tyOfS (.fz d) = some n) (hn : (isB "int" n && !isB "bool" n) = false) : RnX (den_need_count mg [.fz d] []) "BadCount" d [] := by
  unfold den_need_count dDef b_need_count
  simp [PD.enter, arSl, dIf, dOrT, dNotT, dTest, dApp, dCons, dNil, dVar, opd, frE, stable, Out.bind, call1 (e_is_whole h), hn, resE, dRaise, dFzE, RnX_exc]
theorem e_grade_of (b : Bool) : Rn (den_grade_of mg [.fz (.bl b)] []) (.fz (.int (if b then 2 else 1))) [] := by
  unfold den_grade_of dDef b_grade_of
  cases b <;> simp [PD.enter, arSl, dRet, dIfE, dTest, dVar, Out.bind, dC, Rn_ok]
def chainI (a b : Int) : Int := if a = 0 ∨ b = 0 then 0 else if b > a then b else a
theorem e_chained (a b : Int) : Rn (den_chained mg [.fz (.int a), .fz (.int b)] []) (.fz (.int (chainI a b))) [] := by
  unfold den_chained dDef b_chained
  by_cases h1 : a = 0
  · simp [PD.enter, arSl, dRet, dIfE, dTest, dApp, dCons, dNil, dVar, opd, frE, stable, Out.bind, dBin, dC, PD.kTup, bigLen, evD, dFzE, kV2, PD.view, pInA, orOp, pInS, bin2, toPyS, toPy, toPyL, pIn, seqP, PyData.depth, PyData.depthAll, eqv_int, h1, chainI, Rn_ok]
  · by_cases h2 : b = 0
    · simp [PD.enter, arSl, dRet, dIfE, dTest, dApp, dCons, dNil, dVar, opd, frE, stable, Out.bind, dBin, dC, PD.kTup, bigLen, evD, dFzE, kV2, PD.view, pInA, orOp, pInS, bin2, toPyS, toPy, toPyL, pIn, seqP, PyData.depth, PyData.depthAll, eqv_int, h1, h2, chainI, Rn_ok]
    · simp [PD.enter, arSl, dRet, dIfE, dTest, dApp, dCons, dNil, dVar, opd, frE, stable, Out.bind, dBin, dC, PD.kTup, bigLen, evD, dFzE, kV2, PD.view, pInA, orOp, pInS, bin2, toPyS, toPy, toPyL, pIn, seqP, PyData.depth, PyData.depthAll, eqv_int, h1, h2, chainI, Rn_ok, kVN, views, pMax2]
end K15
namespace K15
open PySem PySem.Spec PyProof.Rows L2 PD
variable {mg : Str → Option Value}
def betwD (n : Int) : D → Bool
  | .int i => decide (0 ≤ i) && decide (i ≤ n - 1)
  | _ => false
def truthD : D → Bool
  | .bl _ => true
  | _ => false
/-- its type is a built-in one -/
def tyK (d : D) : Bool := (tyOfS (.fz d)).isSome
theorem e_betw {d : D} (h : tyK d = true) (n : Int) : Rn (den_is_between mg [.fz d, .fz (.int 0), .fz (.int (n - 1))] []) (.fz (.bl (betwD n d))) [] := by
  cases d with
  | int i => exact e_between_int i 0 (n - 1)
  | fn _ => cases h
  | scr _ => cases h
  | non => exact e_is_between (n := "NoneType") rfl rfl _ _
  | bl _ => exact e_is_between (n := "bool") rfl rfl _ _
  | str _ => exact e_is_between (n := "str") rfl rfl _ _
  | tup _ => exact e_is_between (n := "tuple") rfl rfl _ _
  | lst _ => exact e_is_between (n := "list") rfl rfl _ _
  | dk _ => exact e_is_between (n := "dict") rfl rfl _ _
  | dt _ => exact e_is_between (n := "dict") rfl rfl _ _
theorem e_truth {d : D} (h : tyK d = true) : Rn (den_is_truth mg [.fz d] []) (.fz (.bl (truthD d))) [] := by
  cases d with
  | int i => exact e_is_truth (n := "int") rfl
  | fn _ => cases h
  | scr _ => cases h
  | non => exact e_is_truth (n := "NoneType") rfl
  | bl _ => exact e_is_truth (n := "bool") rfl
  | str _ => exact e_is_truth (n := "str") rfl
  | tup _ => exact e_is_truth (n := "tuple") rfl
  | lst _ => exact e_is_truth (n := "list") rfl
  | dk _ => exact e_is_truth (n := "dict") rfl
  | dt _ => exact e_is_truth (n := "dict") rfl
def rowOk (n : Int) : D → Bool
  | .tup [a, b, c] => betwD n a && betwD n b && truthD c
  | _ => false
/-- a row whose parts have built-in types -/
def rowK : D → Bool
  | .tup ds => ds.all tyK
  | d => tyK d
theorem ixN_nat {n j : Nat} (h : j < n) : ixN n (j : Int) = some j := by
  unfold ixN
  rw [if_pos (by omega), if_pos (by omega)]
  simp
theorem e_row3 {a b c : D} (ha : tyK a = true) (hb : tyK b = true) (hc : tyK c = true) (n : Int) : Rn (den_is_order_row mg [.fz (.int n), .fz (.tup [a, b, c])] []) (.fz (.bl (betwD n a && betwD n b && truthD c))) [] := by
  have t := call2 (m := ⟨[some (.sv (.fz (.int n))), some (.sv (.fz (.tup [a, b, c])))], []⟩) (e_is_tuple_of (mg := mg) [a, b, c] 3)
  have h1 := call3 (m := ⟨[some (.sv (.fz (.int n))), some (.sv (.fz (.tup [a, b, c])))], []⟩) (e_betw (mg := mg) ha n)
  have h2 := call3 (m := ⟨[some (.sv (.fz (.int n))), some (.sv (.fz (.tup [a, b, c])))], []⟩) (e_betw (mg := mg) hb n)
  have h3 := call1 (m := ⟨[some (.sv (.fz (.int n))), some (.sv (.fz (.tup [a, b, c])))], []⟩) (e_truth (mg := mg) hc)
  unfold den_is_order_row dDef b_is_order_row
  simp only [resE] at t h1 h2 h3
  have i0 : ixN 3 0 = some 0 := rfl
  have i1 : ixN 3 1 = some 1 := rfl
  have i2 : ixN 3 2 = some 2 := rfl
  cases e1 : betwD n a <;> cases e2 : betwD n b <;> cases e3 : truthD c <;> rw [e1] at h1 <;> rw [e2] at h2 <;> rw [e3] at h3 <;>
  simp [PD.enter, arSl, dSeq, dIf, dOrT, dNotT, dTest, dApp, dCons, dNil, dVar, opd, frE, stable, Out.bind, dC, t, dBin, kIx, PD.view, stepIx, i0, i1, i2, kV2, int2, tt2, h1, h2, h3, dSkip, dRet, dAndV, Rn_ok]
theorem e_row {d : D} (h : rowK d = true) (n : Int) : Rn (den_is_order_row mg [.fz (.int n), .fz d] []) (.fz (.bl (rowOk n d))) [] := by
  have no : ∀ s : String, tyOfS (.fz d) = some s → isB "tuple" s = false → Rn (den_is_order_row mg [.fz (.int n), .fz d] []) (.fz (.bl false)) [] := fun s h1 h2 => by
    have t := call2 (m := ⟨[some (.sv (.fz (.int n))), some (.sv (.fz d))], []⟩) (e_not_tuple (mg := mg) h1 h2 3)
    simp only [resE] at t
    unfold den_is_order_row dDef b_is_order_row
    simp [PD.enter, arSl, dSeq, dIf, dOrT, dNotT, dTest, dApp, dCons, dNil, dVar, opd, frE, stable, Out.bind, dC, t, dRet, Rn_ok]
  have len : ∀ ds : List D, d = .tup ds → ds.length ≠ 3 → Rn (den_is_order_row mg [.fz (.int n), .fz d] []) (.fz (.bl false)) [] := fun ds h1 h2 => by
    subst h1
    have t := call2 (m := ⟨[some (.sv (.fz (.int n))), some (.sv (.fz (.tup ds)))], []⟩) (e_is_tuple_of (mg := mg) ds 3)
    have e : decide ((ds.length : Int) = 3) = false := decide_eq_false (by omega)
    rw [e] at t
    simp only [resE] at t
    unfold den_is_order_row dDef b_is_order_row
    simp [PD.enter, arSl, dSeq, dIf, dOrT, dNotT, dTest, dApp, dCons, dNil, dVar, opd, frE, stable, Out.bind, dC, t, dRet, Rn_ok]
  cases d with
  | fn _ => cases h
  | scr _ => cases h
  | int i => exact no "int" rfl rfl
  | non => exact no "NoneType" rfl rfl
  | bl _ => exact no "bool" rfl rfl
  | str _ => exact no "str" rfl rfl
  | lst _ => exact no "list" rfl rfl
  | dk _ => exact no "dict" rfl rfl
  | dt _ => exact no "dict" rfl rfl
  | tup ds =>
    match ds, h with
    | [a, b, c], h =>
      simp only [rowK, List.all_cons, List.all_nil, Bool.and_true, Bool.and_eq_true] at h
      exact e_row3 h.1 h.2.1 h.2.2 n
    | [], _ => exact len [] rfl (by decide)
    | [_], _ => exact len _ rfl (by simp)
    | [_, _], _ => exact len _ rfl (by simp)
    | _ :: _ :: _ :: _ :: _, _ => exact len _ rfl (by simp)
end K15
namespace K15
open PySem PySem.Spec PyProof.Rows L2 PD
variable {mg : Str → Option Value}
theorem allFz_map : ∀ ds : List D, allFz (ds.map SV.fz) = some ds
  | [] => rfl
  | d :: ds => by simp [allFz, allFz_map ds]
theorem boolsD_map (f : D → Bool) : ∀ ds : List D, boolsD (ds.map fun d => .bl (f d)) = some (ds.map f)
  | [] => rfl
  | d :: ds => by simp [boolsD, boolsD_map f ds]
theorem comp_rows (n : Int) (ds : List D) (hk : ds.all rowK = true) (hl : ds.length ≤ bigLen) :
    dComp (dISeq (dVar 1)) [2] (bName 2) (fun m => .ok true m) (dApp (dCons true (dVar 0) (dCons true (dVar 2) dNil)) (callK 2 (den_is_order_row mg))) ⟨[some (.sv (.fz (.int n))), some (.sv (.fz (.tup ds))), none], []⟩ =
      .ok (.fr (.ol (ds.map fun d => .fz (.bl (rowOk n d))))) ⟨[some (.sv (.fz (.int n))), some (.sv (.fz (.tup ds))), none], []⟩ := by
  refine comp_all (fun d => .fz (.bl (rowOk n d))) (ds := ds) ?_ hl rfl rfl fun d hd => ?_
  · simp [dISeq, dFz, dVar, seqOf, Out.bind, dFzE]
  · have hr := call2 (m := ⟨[some (.sv (.fz (.int n))), some (.sv (.fz (.tup ds))), some (.sv (.fz d))], []⟩) (e_row (mg := mg) (List.all_eq_true.mp hk d hd) n)
    simp only [resE] at hr
    refine ⟨⟨[some (.sv (.fz (.int n))), some (.sv (.fz (.tup ds))), some (.sv (.fz d))], []⟩, .v (.bl (rowOk n d)), ⟨[some (.sv (.fz (.int n))), some (.sv (.fz (.tup ds))), some (.sv (.fz d))], []⟩, ⟨[some (.sv (.fz (.int n))), some (.sv (.fz (.tup ds))), some (.sv (.fz d))], []⟩, rfl, ?_, rfl, rfl⟩
    simp [dApp, dCons, dNil, dVar, opd, frE, stable, Out.bind, hr]
theorem frzL_map {α : Type} (f : α → D) : ∀ ds : List α, frzL (ds.map fun d => SV.fz (f d)) = ds.map f
  | [] => rfl
  | d :: ds => by simp [frzL, frz, frzL_map f ds]
theorem all_id (f : D → Bool) (ds : List D) : (ds.map f).all id = ds.all f := by
  induction ds with
  | nil => rfl
  | cons d ds ih => simp [ih]
theorem e_need_orders (n : Int) (ds : List D) (h1 : 1 ≤ n) (hk : ds.all rowK = true) (hl : ds.length ≤ bigLen) (ho : ds.all (rowOk n) = true) : Rn (den_need_orders mg [.fz (.int n), .fz (.tup ds)] []) (.fz .non) [] := by
  have c := comp_rows (mg := mg) n ds hk hl
  have k := call1 (m := ⟨[some (.sv (.fz (.int n))), some (.sv (.fz (.tup ds))), none], []⟩) (e_need_count (mg := mg) n h1)
  simp only [resE] at k
  have fz := frzL_map (fun d => D.bl (rowOk n d)) ds
  unfold den_need_orders dDef b_need_orders
  simp [PD.enter, arSl, dSeq, dDrop, dApp, dCons, dNil, dVar, opd, frE, stable, Out.bind, k, dIf, dOrT, dNotT, dTest, dUn, kV1, PD.view, pIsi, tyOfS, isB, c, frz, fz, kVN, views, pAll, lstD, boolsD_map, all_id, ho, dSkip, Rn_ok]
theorem x_need_orders_rows (n : Int) (ds : List D) (h1 : 1 ≤ n) (hk : ds.all rowK = true) (hl : ds.length ≤ bigLen) (ho : ds.all (rowOk n) = false) : RnX (den_need_orders mg [.fz (.int n), .fz (.tup ds)] []) "BadRows" (.tup ds) [] := by
  have c := comp_rows (mg := mg) n ds hk hl
  have k := call1 (m := ⟨[some (.sv (.fz (.int n))), some (.sv (.fz (.tup ds))), none], []⟩) (e_need_count (mg := mg) n h1)
  simp only [resE] at k
  have fz := frzL_map (fun d => D.bl (rowOk n d)) ds
  unfold den_need_orders dDef b_need_orders
  simp [PD.enter, arSl, dSeq, dDrop, dApp, dCons, dNil, dVar, opd, frE, stable, Out.bind, k, dIf, dOrT, dNotT, dTest, dUn, kV1, PD.view, pIsi, tyOfS, isB, c, frz, fz, kVN, views, pAll, lstD, boolsD_map, all_id, ho, dRaise, dFzE, RnX_exc]
theorem x_need_orders (n : Int) {d : D} {s : String} (h1 : 1 ≤ n) (h : tyOfS (.fz d) = some s) (hs : isB "tuple" s = false) : RnX (den_need_orders mg [.fz (.int n), .fz d] []) "BadRows" d [] := by
  have k := call1 (m := ⟨[some (.sv (.fz (.int n))), some (.sv (.fz d)), none], []⟩) (e_need_count (mg := mg) n h1)
  simp only [resE] at k
  unfold den_need_orders dDef b_need_orders
  simp [PD.enter, arSl, dSeq, dDrop, dApp, dCons, dNil, dVar, opd, frE, stable, Out.bind, k, dIf, dOrT, dNotT, dTest, dUn, kV1, PD.view, pIsi, h, hs, dRaise, dFzE, RnX_exc]
theorem x_need_orders_count {c d : D} {x : D} (h : RnX (den_need_count mg [.fz c] []) "BadCount" x []) : RnX (den_need_orders mg [.fz c, .fz d] []) "BadCount" x [] := by
  have k := callX1 (m := ⟨[some (.sv (.fz c)), some (.sv (.fz d)), none], []⟩) h
  unfold den_need_orders dDef b_need_orders
  simp [PD.enter, arSl, dSeq, dDrop, dApp, dCons, dNil, dVar, opd, frE, stable, Out.bind, k, RnX_exc]
end K15
namespace K15
open PySem PySem.Spec PyProof.Rows L2 PD
variable {mg : Str → Option Value}
/-! ## matrices -/
def getM (G : List (List Int)) (i j : Nat) : Int := ((G[i]?).bind (·[j]?)).getD 0
def wfM (n : Nat) (G : List (List Int)) : Prop := G.length = n ∧ ∀ r ∈ G, r.length = n
theorem wf_get {n : Nat} {G : List (List Int)} (h : wfM n G) {i j : Nat} (hi : i < n) (hj : j < n) : ∃ r, G[i]? = some r ∧ r[j]? = some (getM G i j) ∧ r.length = n := by
  have h1 : i < G.length := by rw [h.1]; exact hi
  have h2 : G[i].length = n := h.2 _ (List.getElem_mem h1)
  have h3 : j < G[i].length := by rw [h2]; exact hj
  refine ⟨G[i], List.getElem?_eq_getElem h1, ?_, h2⟩
  unfold getM
  rw [List.getElem?_eq_getElem h1, List.getElem?_eq_getElem h3]
  simp [List.getElem?_eq_getElem h3]
theorem wf_set {n : Nat} {G : List (List Int)} (h : wfM n G) (i j : Nat) (v : Int) : wfM n (setM G i j v) := by
  unfold setM
  cases e : G[i]? with
  | none => exact h
  | some r =>
    refine ⟨by simp [h.1], fun r' hr' => ?_⟩
    rcases List.mem_or_eq_of_mem_set hr' with h1 | h1
    · exact h.2 _ h1
    · rw [h1, List.length_set]
      exact h.2 _ (List.mem_of_getElem? e)
theorem get_set {n : Nat} {G : List (List Int)} (h : wfM n G) {i j : Nat} (hi : i < n) (hj : j < n) (v : Int) (a b : Nat) : getM (setM G i j v) a b = if a = i ∧ b = j then v else getM G a b := by
  obtain ⟨r, h1, h2, h3⟩ := wf_get h hi hj
  have li : i < G.length := by rw [h.1]; exact hi
  have lj : j < r.length := by rw [h3]; exact hj
  unfold setM
  rw [h1]
  by_cases ea : a = i
  · subst ea
    by_cases eb : b = j
    · subst eb
      simp [getM, li, lj]
    · have : (r.set j v)[b]? = r[b]? := by rw [List.getElem?_set_ne (fun e => eb e.symm)]
      have hr : G[a] = r := by have := List.getElem?_eq_getElem li; rw [h1] at this; exact (Option.some.inj this).symm
      simp [getM, li, eb, this, hr]
  · have : (G.set i (r.set j v))[a]? = G[a]? := by rw [List.getElem?_set_ne (fun e => ea e.symm)]
    simp [getM, ea, this]
def mkM (n : Nat) (f : Nat → Nat → Int) : List (List Int) := (List.range n).map fun i => (List.range n).map fun j => f i j
theorem wf_mk (n : Nat) (f : Nat → Nat → Int) : wfM n (mkM n f) := ⟨by simp [mkM], fun r h => by
  obtain ⟨i, _, rfl⟩ := List.mem_map.mp h
  simp⟩
theorem get_mk {n : Nat} (f : Nat → Nat → Int) {i j : Nat} (hi : i < n) (hj : j < n) : getM (mkM n f) i j = f i j := by
  simp [getM, mkM, hi, hj]
theorem ext_M {n : Nat} {G G' : List (List Int)} (h : wfM n G) (h' : wfM n G') (e : ∀ i j, i < n → j < n → getM G i j = getM G' i j) : G = G' := by
  apply List.ext_getElem?
  intro i
  by_cases hi : i < n
  · have l : i < G.length := by rw [h.1]; exact hi
    have l' : i < G'.length := by rw [h'.1]; exact hi
    rw [List.getElem?_eq_getElem l, List.getElem?_eq_getElem l']
    congr 1
    apply List.ext_getElem?
    intro j
    have k : G[i].length = n := h.2 _ (List.getElem_mem l)
    have k' : G'[i].length = n := h'.2 _ (List.getElem_mem l')
    by_cases hj : j < n
    · obtain ⟨r, a1, a2, _⟩ := wf_get h hi hj
      obtain ⟨r', b1, b2, _⟩ := wf_get h' hi hj
      rw [List.getElem?_eq_getElem l] at a1
      rw [List.getElem?_eq_getElem l'] at b1
      cases a1
      cases b1
      rw [a2, b2, e i j hi hj]
    · rw [List.getElem?_eq_none (by omega), List.getElem?_eq_none (by omega)]
  · have l : G.length ≤ i := by rw [h.1]; omega
    have l' : G'.length ≤ i := by rw [h'.1]; omega
    rw [List.getElem?_eq_none l, List.getElem?_eq_none l']
/-! ## the closure -/
abbrev Row := Nat × Nat × Bool
def rowT (r : Row) : D := .tup [.int r.1, .int r.2.1, .bl r.2.2]
def idG (n : Nat) : List (List Int) := mkM n fun i j => if i = j then 1 else 0
def mx (a b : Int) : Int := if b > a then b else a
def addR (G : List (List Int)) (r : Row) : List (List Int) := setM G r.1 r.2.1 (mx (getM G r.1 r.2.1) (if r.2.2 then 2 else 1))
def rlx (G : List (List Int)) (c a b : Nat) : List (List Int) := setM G a b (mx (getM G a b) (chainI (getM G a c) (getM G c b)))
def clos (n : Nat) (rows : List Row) : List (List Int) :=
  (List.range n).foldl (fun G c => (List.range n).foldl (fun G a => (List.range n).foldl (fun G b => rlx G c a b) G) G) (rows.foldl addR (idG n))
theorem wf_addR {n : Nat} : ∀ (rows : List Row) {G : List (List Int)}, wfM n G → wfM n (rows.foldl addR G)
  | [], _, h => h
  | r :: rs, _, h => wf_addR rs (wf_set h _ _ _)
theorem wf_fold {n : Nat} {α : Type} {f : List (List Int) → α → List (List Int)} (hf : ∀ G x, wfM n G → wfM n (f G x)) : ∀ (l : List α) {G : List (List Int)}, wfM n G → wfM n (l.foldl f G)
  | [], _, h => h
  | x :: l, _, h => wf_fold hf l (hf _ x h)
theorem wf_clos (n : Nat) (rows : List Row) : wfM n (clos n rows) := wf_fold (fun G c h => wf_fold (fun G a h => wf_fold (fun G b h => wf_set h _ _ _) _ h) _ h) _ (wf_addR rows (wf_mk n _))
theorem rng1 {i : Nat} {m : M} {n : Nat} (h : dVar i m = .ok (.v (.int n)) m) (hn : n ≤ bigLen) : dIter (dCons true (dVar i) dNil) kRange1 m = .ok ⟨(List.range n).map fun i => .int (i : Nat), always⟩ m := by
  have hb : bigLen = 1000000 := rfl
  have h1 : (-(2 ^ 62) ≤ (n : Int) ∧ (n : Int) < 2 ^ 62) := ⟨by omega, by omega⟩
  simp only [dIter, dCons, dNil, opd_of h, Out.bind, stable, kRange1, if_pos h1, if_true, Int.toNat_natCast]
theorem comp_id (n : Nat) (hn : n ≤ bigLen) (d : D) : dComp (dIter (dCons true (dVar 0) dNil) kRange1) [3] (bName 3) (fun m => .ok true m) (dComp (dIter (dCons true (dVar 0) dNil) kRange1) [4] (bName 4) (fun m => .ok true m) (dIfE (dTest (dBin true (dVar 3) (dVar 4) (kV2 (bin2 pEq)))) (dC (.int 1)) (dC (.int 0)))) ⟨[some (.sv (.fz (.int n))), some (.sv (.fz d)), none, none, none, none, none, none], []⟩ =
    .ok (.fr (matS (idG n))) ⟨[some (.sv (.fz (.int n))), some (.sv (.fz d)), none, none, none, none, none, none], []⟩ := by
  have key := comp_all (vs := [3]) (b := bName 3) (ge := (dComp (dIter (dCons true (dVar 0) dNil) kRange1) [4] (bName 4) (fun m => .ok true m) (dIfE (dTest (dBin true (dVar 3) (dVar 4) (kV2 (bin2 pEq)))) (dC (.int 1)) (dC (.int 0))))) (m := ⟨[some (.sv (.fz (.int n))), some (.sv (.fz d)), none, none, none, none, none, none], []⟩)
    (fun x => SV.ol (((List.range n).map fun i => D.int (i : Nat)).map fun y => .fz (.int (match x, y with | .int i, .int j => if i = j then 1 else 0 | _, _ => 0))))
    (rng1 (i := 0) rfl hn) (by simpa using hn) rfl rfl fun x hx => by
      obtain ⟨i, hi, rfl⟩ := List.mem_map.mp hx
      have inner := comp_all (vs := [4]) (b := bName 4) (ge := dIfE (dTest (dBin true (dVar 3) (dVar 4) (kV2 (bin2 pEq)))) (dC (.int 1)) (dC (.int 0))) (m := ⟨[some (.sv (.fz (.int n))), some (.sv (.fz d)), none, some (.sv (.fz (.int i))), none, none, none, none], []⟩)
        (fun y => .fz (.int (match D.int i, y with | .int i, .int j => if i = j then 1 else 0 | _, _ => 0)))
        (rng1 (i := 0) rfl hn) (by simpa using hn) rfl rfl fun y hy => by
          obtain ⟨j, hj, rfl⟩ := List.mem_map.mp hy
          refine ⟨⟨[some (.sv (.fz (.int n))), some (.sv (.fz d)), none, some (.sv (.fz (.int i))), some (.sv (.fz (.int j))), none, none, none], []⟩, .v (.int (if (i : Int) = j then 1 else 0)), ⟨[some (.sv (.fz (.int n))), some (.sv (.fz d)), none, some (.sv (.fz (.int i))), some (.sv (.fz (.int j))), none, none, none], []⟩, _, rfl, ?_, rfl, rfl⟩
          by_cases e : i = j
          · subst e
            simp [dIfE, dTest, dBin, dVar, opd, frE, stable, Out.bind, wipeM, kV2, PD.view, bin2, toPyS, toPy, pEq, dMin, PyData.depth, eqv_int, dC]
          · have e' : ¬ (i : Int) = (j : Int) := by omega
            simp [dIfE, dTest, dBin, dVar, opd, frE, stable, Out.bind, wipeM, kV2, PD.view, bin2, toPyS, toPy, pEq, dMin, PyData.depth, eqv_int, dC, e']
      exact ⟨_, _, _, _, rfl, inner, rfl, rfl⟩
  rw [key]
  have e : ∀ (xs ys : List SV) (m : M), xs = ys → Out.ok (EV.fr (SV.ol xs)) m = Out.ok (EV.fr (SV.ol ys)) m := fun xs ys m h => by rw [h]
  refine e _ _ _ ?_
  unfold idG mkM
  rw [List.map_map, List.map_map]
  refine List.map_congr_left fun i _ => ?_
  show SV.ol _ = rowS _
  unfold rowS
  rw [List.map_map, List.map_map]
  refine congrArg SV.ol (List.map_congr_left fun j _ => ?_)
  show SV.fz (.int (if (i : Int) = (j : Int) then 1 else 0)) = SV.fz (.int (if i = j then 1 else 0))
  by_cases h : i = j
  · rw [if_pos h, if_pos (by omega)]
  · rw [if_neg h, if_neg (by omega)]
end K15
namespace K15
open PySem PySem.Spec PyProof.Rows L2 PD
/-! # the mathematics of the closure -/
theorem fold_inv {σ : Type} (P : Nat → σ → Prop) (f : σ → Nat → σ) : ∀ (n : Nat) (s : σ), P 0 s → (∀ i, i < n → ∀ s, P i s → P (i + 1) (f s i)) → P n ((List.range n).foldl f s)
  | 0, s, h, _ => h
  | n + 1, s, h, k => by
    rw [List.range_succ, List.foldl_append]
    exact k n (by omega) _ (fold_inv P f n s h fun i hi => k i (by omega))
theorem chain_le {a b x : Int} (ha : 0 ≤ a) (hb : 0 ≤ b) (hx : 0 ≤ x) : chainI a b ≤ x ↔ (0 < a → 0 < b → a ≤ x ∧ b ≤ x) := by
  unfold chainI
  split <;> (try split) <;> omega
theorem chain_bnd {a b : Int} (ha : 0 ≤ a ∧ a ≤ 2) (hb : 0 ≤ b ∧ b ≤ 2) : 0 ≤ chainI a b ∧ chainI a b ≤ 2 := by
  unfold chainI
  split <;> (try split) <;> omega
theorem chain_ge {a b : Int} (ha : 0 < a) (hb : 0 < b) : a ≤ chainI a b ∧ b ≤ chainI a b := by
  unfold chainI
  split <;> (try split) <;> omega
theorem chain_one {a : Int} (ha : 0 ≤ a) : chainI a 1 = a ∧ chainI 1 a = a := by
  unfold chainI
  constructor <;> split <;> (try split) <;> omega
theorem mx_le {a b x : Int} : mx a b ≤ x ↔ a ≤ x ∧ b ≤ x := by unfold mx; split <;> omega
theorem mx_l (a b : Int) : a ≤ mx a b := by unfold mx; split <;> omega
theorem mx_r (a b : Int) : b ≤ mx a b := by unfold mx; split <;> omega
theorem mx_bnd {a b : Int} (ha : 0 ≤ a ∧ a ≤ 2) (hb : 0 ≤ b ∧ b ≤ 2) : 0 ≤ mx a b ∧ mx a b ≤ 2 := by unfold mx; split <;> omega
def Bnd (n : Nat) (G : List (List Int)) : Prop := ∀ i j, i < n → j < n → 0 ≤ getM G i j ∧ getM G i j ≤ 2
def Le (n : Nat) (G H : List (List Int)) : Prop := ∀ i j, i < n → j < n → getM G i j ≤ getM H i j
def Clo (n : Nat) (G : List (List Int)) : Prop := ∀ a b c, a < n → b < n → c < n → chainI (getM G a c) (getM G c b) ≤ getM G a b
def rnd (n : Nat) (c : Nat) (G : List (List Int)) : List (List Int) := (List.range n).foldl (fun G a => (List.range n).foldl (fun G b => rlx G c a b) G) G
def fw (n : Nat) (G : List (List Int)) : List (List Int) := (List.range n).foldl (fun G c => rnd n c G) G
theorem clos_fw (n : Nat) (rows : List Row) : clos n rows = fw n (rows.foldl addR (idG n)) := rfl
theorem rnd_keep {n : Nat} (P : List (List Int) → Prop) {c : Nat} (h : ∀ G a b, a < n → b < n → P G → P (rlx G c a b)) (G : List (List Int)) (hG : P G) : P (rnd n c G) :=
  fold_inv (fun _ => P) _ n G hG fun a ha G hG => fold_inv (fun _ => P) _ n G hG fun b hb G hG => h G a b ha hb hG
theorem fw_keep {n : Nat} (P : List (List Int) → Prop) (h : ∀ G c a b, c < n → a < n → b < n → P G → P (rlx G c a b)) (G : List (List Int)) (hG : P G) : P (fw n G) :=
  fold_inv (fun _ => P) _ n G hG fun c hc G hG => rnd_keep P (fun G a b ha hb => h G c a b hc ha hb) G hG
theorem rlx_get {n : Nat} {G : List (List Int)} (w : wfM n G) {c a b : Nat} (ha : a < n) (hb : b < n) (i j : Nat) : getM (rlx G c a b) i j = if i = a ∧ j = b then mx (getM G a b) (chainI (getM G a c) (getM G c b)) else getM G i j := get_set w ha hb _ i j
theorem wf_rlx {n : Nat} {G : List (List Int)} (w : wfM n G) (c a b : Nat) : wfM n (rlx G c a b) := wf_set w _ _ _
theorem bnd_rlx {n : Nat} {G : List (List Int)} (w : wfM n G) (B : Bnd n G) {c a b : Nat} (hc : c < n) (ha : a < n) (hb : b < n) : Bnd n (rlx G c a b) := fun i j hi hj => by
  rw [rlx_get w ha hb]
  split
  · exact mx_bnd (B _ _ ha hb) (chain_bnd (B _ _ ha hc) (B _ _ hc hb))
  · exact B i j hi hj
theorem up_rlx {n : Nat} {G0 G : List (List Int)} (w : wfM n G) (L : Le n G0 G) {c a b : Nat} (ha : a < n) (hb : b < n) : Le n G0 (rlx G c a b) := fun i j hi hj => by
  rw [rlx_get w ha hb]
  split
  · rename_i e
    have := mx_l (getM G a b) (chainI (getM G a c) (getM G c b))
    have := L i j hi hj
    rw [e.1, e.2] at this ⊢
    omega
  · exact L i j hi hj
theorem le_rlx {n : Nat} {G H : List (List Int)} (w : wfM n G) (B : Bnd n G) (BH : Bnd n H) (C : Clo n H) (L : Le n G H) {c a b : Nat} (hc : c < n) (ha : a < n) (hb : b < n) : Le n (rlx G c a b) H := fun i j hi hj => by
  rw [rlx_get w ha hb]
  split
  · rename_i e
    rw [e.1, e.2, mx_le]
    refine ⟨L a b ha hb, ?_⟩
    have l1 := L a c ha hc
    have l2 := L c b hc hb
    have k := C a b c ha hb hc
    rw [chain_le (BH _ _ ha hc).1 (BH _ _ hc hb).1 (BH _ _ ha hb).1] at k
    rw [chain_le (B _ _ ha hc).1 (B _ _ hc hb).1 (BH _ _ ha hb).1]
    intro p1 p2
    have := k (by omega) (by omega)
    omega
  · exact L i j hi hj
theorem wf_rnd {n : Nat} {G : List (List Int)} (w : wfM n G) (c : Nat) : wfM n (rnd n c G) := rnd_keep (wfM n) (fun G a b _ _ w => wf_rlx w c a b) G w
theorem bnd_rnd {n : Nat} {G : List (List Int)} (w : wfM n G) (B : Bnd n G) {c : Nat} (hc : c < n) : Bnd n (rnd n c G) := (rnd_keep (fun G => wfM n G ∧ Bnd n G) (fun G a b ha hb h => ⟨wf_rlx h.1 c a b, bnd_rlx h.1 h.2 hc ha hb⟩) G ⟨w, B⟩).2
theorem le_refl' (n : Nat) (G : List (List Int)) : Le n G G := fun _ _ _ _ => Int.le_refl _
theorem up_rnd {n : Nat} {G : List (List Int)} (w : wfM n G) (c : Nat) : Le n G (rnd n c G) := (rnd_keep (fun G' => wfM n G' ∧ Le n G G') (fun G a b ha hb h => ⟨wf_rlx h.1 c a b, up_rlx h.1 h.2 ha hb⟩) G ⟨w, le_refl' n G⟩).2
theorem wf_fw {n : Nat} {G : List (List Int)} (w : wfM n G) : wfM n (fw n G) := fw_keep (wfM n) (fun G c a b _ _ _ w => wf_rlx w c a b) G w
theorem bnd_fw {n : Nat} {G : List (List Int)} (w : wfM n G) (B : Bnd n G) : Bnd n (fw n G) := (fw_keep (fun G => wfM n G ∧ Bnd n G) (fun G c a b hc ha hb h => ⟨wf_rlx h.1 c a b, bnd_rlx h.1 h.2 hc ha hb⟩) G ⟨w, B⟩).2
theorem up_fw {n : Nat} {G : List (List Int)} (w : wfM n G) : Le n G (fw n G) := (fw_keep (fun G' => wfM n G' ∧ Le n G G') (fun G c a b _ ha hb h => ⟨wf_rlx h.1 c a b, up_rlx h.1 h.2 ha hb⟩) G ⟨w, le_refl' n G⟩).2
theorem le_fw {n : Nat} {G H : List (List Int)} (w : wfM n G) (B : Bnd n G) (BH : Bnd n H) (C : Clo n H) (L : Le n G H) : Le n (fw n G) H := (fw_keep (fun G => wfM n G ∧ Bnd n G ∧ Le n G H) (fun G c a b hc ha hb h => ⟨wf_rlx h.1 c a b, bnd_rlx h.1 h.2.1 hc ha hb, le_rlx h.1 h.2.1 BH C h.2.2 hc ha hb⟩) G ⟨w, B, L⟩).2.2
/-- one round, when the middle is not over itself -/
theorem rnd_get {n : Nat} {G : List (List Int)} (w : wfM n G) (B : Bnd n G) {c : Nat} (hc : c < n) (h1 : getM G c c = 1) : ∀ i j, i < n → j < n → getM (rnd n c G) i j = mx (getM G i j) (chainI (getM G i c) (getM G c j)) := by
  let F : Nat → Nat → Int := fun i j => mx (getM G i j) (chainI (getM G i c) (getM G c j))
  have fc : ∀ i, i < n → F i c = getM G i c := fun i hi => by
    show mx _ _ = _
    rw [h1, (chain_one (B _ _ hi hc).1).1]
    unfold mx
    simp
  have fr : ∀ j, j < n → F c j = getM G c j := fun j hj => by
    show mx _ _ = _
    rw [h1, (chain_one (B _ _ hc hj).1).2]
    unfold mx
    simp
  have key := fold_inv (fun a G' => wfM n G' ∧ ∀ i j, i < n → j < n → getM G' i j = if i < a then F i j else getM G i j) (fun G a => (List.range n).foldl (fun G b => rlx G c a b) G) n G ⟨w, fun i j _ _ => by simp⟩ fun a ha G1 h => by
    have k2 := fold_inv (fun b G' => wfM n G' ∧ ∀ i j, i < n → j < n → getM G' i j = if i < a ∨ (i = a ∧ j < b) then F i j else getM G i j) (fun G b => rlx G c a b) n G1 ⟨h.1, fun i j hi hj => by rw [h.2 i j hi hj]; simp⟩ fun b hb G2 h2 => by
      refine ⟨wf_rlx h2.1 c a b, fun i j hi hj => ?_⟩
      rw [rlx_get h2.1 ha hb]
      have e1 : getM G2 a b = getM G a b := by rw [h2.2 a b ha hb, if_neg (by omega)]
      have e2 : getM G2 a c = getM G a c := by
        rw [h2.2 a c ha hc]
        split
        · exact fc a ha
        · rfl
      have e3 : getM G2 c b = getM G c b := by
        rw [h2.2 c b hc hb]
        split
        · exact fr b hb
        · rfl
      rw [e1, e2, e3]
      by_cases e : i = a ∧ j = b
      · rw [if_pos e, if_pos (by omega), e.1, e.2]
      · rw [if_neg e, h2.2 i j hi hj]
        by_cases e' : i < a ∨ (i = a ∧ j < b)
        · rw [if_pos e', if_pos (by omega)]
        · rw [if_neg e', if_neg (by omega)]
    refine ⟨k2.1, fun i j hi hj => ?_⟩
    rw [k2.2 i j hi hj]
    by_cases e : i < a + 1
    · rw [if_pos e, if_pos (by omega)]
    · rw [if_neg e, if_neg (by omega)]
  intro i j hi hj
  have := key.2 i j hi hj
  rw [if_pos hi] at this
  exact this
theorem arith1 {ak kb ab ac cb ck kc cc Fak Fkb Fab : Int} (p1 : 0 ≤ ak) (p2 : 0 ≤ kb) (p3 : 0 ≤ ab) (p4 : 0 ≤ ac) (p5 : 0 ≤ cb) (p6 : 0 ≤ ck) (p7 : 0 ≤ kc) (hcc : cc = 1)
    (f1 : Fak = mx ak (chainI ac ck)) (f2 : Fkb = mx kb (chainI kc cb)) (f3 : Fab = mx ab (chainI ac cb))
    (k1 : 0 < ak → 0 < kb → ak ≤ ab ∧ kb ≤ ab) (k2 : 0 < ak → 0 < kc → ak ≤ ac ∧ kc ≤ ac) (k3 : 0 < ck → 0 < kb → ck ≤ cb ∧ kb ≤ cb) (k4 : 0 < ck → 0 < kc → ck ≤ cc ∧ kc ≤ cc) :
    0 < Fak → 0 < Fkb → Fak ≤ Fab ∧ Fkb ≤ Fab := by
  subst hcc
  have e : ∀ {x y z : Int}, 0 ≤ x → 0 ≤ y → 0 ≤ z → (mx x (chainI y z) = x ∨ (0 < y ∧ 0 < z ∧ (mx x (chainI y z) = y ∨ mx x (chainI y z) = z))) ∧ x ≤ mx x (chainI y z) ∧ (0 < y → 0 < z → y ≤ mx x (chainI y z) ∧ z ≤ mx x (chainI y z)) := by
    intro x y z hx hy hz
    unfold mx chainI
    refine ⟨?_, ?_, ?_⟩
    · split <;> (try split) <;> (try split) <;> omega
    · split <;> (try split) <;> (try split) <;> omega
    · intro _ _
      split <;> (try split) <;> (try split) <;> omega
  obtain ⟨a1, a2, a3⟩ := e p1 p4 p6
  obtain ⟨b1, b2, b3⟩ := e p2 p7 p5
  obtain ⟨c1, c2, c3⟩ := e p3 p4 p5
  rw [← f1] at a1 a2 a3
  rw [← f2] at b1 b2 b3
  rw [← f3] at c1 c2 c3
  clear f1 f2 f3 e
  intro h1 h2
  rcases a1 with a1 | ⟨a1, a4, a5⟩ <;> rcases b1 with b1 | ⟨b1, b4, b5⟩
  · have := k1 (by omega) (by omega); omega
  · have := k2 (by omega) (by omega); have := c3 (by omega) (by omega); omega
  · have := k3 (by omega) (by omega); have := c3 (by omega) (by omega); omega
  · have := k4 (by omega) (by omega); have := c3 (by omega) (by omega); omega
theorem fw_closed {n : Nat} {G : List (List Int)} (w : wfM n G) (B : Bnd n G) (dg : ∀ i, i < n → 1 ≤ getM G i i) (df : ∀ i, i < n → getM (fw n G) i i ≤ 1) : Clo n (fw n G) := by
  have key := fold_inv (fun c G => wfM n G ∧ Bnd n G ∧ (∀ i, i < n → 1 ≤ getM G i i) ∧ ((∀ i, i < n → getM G i i ≤ 1) → ∀ a b k, k < c → k < n → a < n → b < n → chainI (getM G a k) (getM G k b) ≤ getM G a b)) (fun G c => rnd n c G) n G ⟨w, B, dg, fun _ a b k hk => by omega⟩ fun c hc G h => by
    obtain ⟨w, B, dg, P⟩ := h
    have up := up_rnd w c
    have B' := bnd_rnd w B hc
    refine ⟨wf_rnd w c, B', fun i hi => Int.le_trans (dg i hi) (up i i hi hi), fun df a b k hk hkn ha hb => ?_⟩
    have dG : ∀ i, i < n → getM G i i ≤ 1 := fun i hi => Int.le_trans (up i i hi hi) (df i hi)
    have hcc : getM G c c = 1 := by have := dG c hc; have := dg c hc; omega
    have g := rnd_get w B hc hcc
    rw [chain_le (B' _ _ ha hkn).1 (B' _ _ hkn hb).1 (B' _ _ ha hb).1]
    by_cases e : k = c
    · subst e
      rw [g a k ha hkn, g k b hkn hb, g a b ha hb, hcc, (chain_one (B _ _ ha hkn).1).1, (chain_one (B _ _ hkn hb).1).2]
      have h1 := mx_r (getM G a b) (chainI (getM G a k) (getM G k b))
      have z : ∀ x, mx x x = x := fun x => by unfold mx; simp
      rw [z, z]
      intro p1 p2
      have := chain_ge p1 p2
      omega
    · have hk' : k < c := by omega
      have P' := fun x y (hx : x < n) (hy : y < n) => (chain_le (B _ _ hx hkn).1 (B _ _ hkn hy).1 (B _ _ hx hy).1).mp (P dG x y k hk' hkn hx hy)
      exact arith1 (B _ _ ha hkn).1 (B _ _ hkn hb).1 (B _ _ ha hb).1 (B _ _ ha hc).1 (B _ _ hc hb).1 (B _ _ hc hkn).1 (B _ _ hkn hc).1 hcc (g a k ha hkn) (g k b hkn hb) (g a b ha hb) (P' a b ha hb) (P' a c ha hc) (P' c b hc hb) (P' c c hc hc)
  exact fun a b c ha hb hc => key.2.2.2 df a b c hc hc ha hb
/-! ## rows -/
abbrev grd (s : Bool) : Int := if s then 2 else 1
def In (n : Nat) (rows : List Row) : Prop := ∀ r ∈ rows, r.1 < n ∧ r.2.1 < n
def RLe (rows : List Row) (H : List (List Int)) : Prop := ∀ r ∈ rows, grd r.2.2 ≤ getM H r.1 r.2.1
theorem grd_bnd (s : Bool) : 0 ≤ grd s ∧ grd s ≤ 2 := by cases s <;> decide
theorem addR_get {n : Nat} {G : List (List Int)} (w : wfM n G) {r : Row} (h : r.1 < n ∧ r.2.1 < n) (i j : Nat) : getM (addR G r) i j = if i = r.1 ∧ j = r.2.1 then mx (getM G r.1 r.2.1) (grd r.2.2) else getM G i j := get_set w h.1 h.2 _ i j
theorem base_inv {n : Nat} : ∀ (rows : List Row) {G : List (List Int)}, In n rows → wfM n G → Bnd n G → wfM n (rows.foldl addR G) ∧ Bnd n (rows.foldl addR G) ∧ Le n G (rows.foldl addR G) ∧ RLe rows (rows.foldl addR G) ∧ ∀ H, Le n G H → RLe rows H → Le n (rows.foldl addR G) H
  | [], G, _, w, B => ⟨w, B, le_refl' n G, fun r h => (by cases h), fun H h _ => h⟩
  | r :: rs, G, I, w, B => by
    have hr := I r List.mem_cons_self
    have g := addR_get w hr
    have w1 : wfM n (addR G r) := wf_set w _ _ _
    have B1 : Bnd n (addR G r) := fun i j hi hj => by
      rw [g]
      split
      · exact mx_bnd (B _ _ hr.1 hr.2) (grd_bnd _)
      · exact B i j hi hj
    have L1 : Le n G (addR G r) := fun i j hi hj => by
      rw [g]
      split
      · rename_i e
        rw [e.1, e.2]
        exact mx_l _ _
      · exact Int.le_refl _
    have g1 : grd r.2.2 ≤ getM (addR G r) r.1 r.2.1 := by
      rw [g, if_pos ⟨rfl, rfl⟩]
      exact mx_r _ _
    obtain ⟨w2, B2, L2, R2, M2⟩ := base_inv rs (G := addR G r) (fun r' h => I r' (List.mem_cons_of_mem _ h)) w1 B1
    refine ⟨w2, B2, fun i j hi hj => Int.le_trans (L1 i j hi hj) (L2 i j hi hj), fun r' h => ?_, fun H h hR => M2 H (fun i j hi hj => ?_) fun r' h' => hR r' (List.mem_cons_of_mem _ h')⟩
    · rcases List.mem_cons.mp h with rfl | h
      · exact Int.le_trans g1 (L2 _ _ hr.1 hr.2)
      · exact R2 r' h
    · rw [g]
      split
      · rename_i e
        rw [e.1, e.2, mx_le]
        exact ⟨h _ _ hr.1 hr.2, hR r List.mem_cons_self⟩
      · exact h i j hi hj
theorem bnd_id (n : Nat) : Bnd n (idG n) := fun i j hi hj => by
  rw [show getM (idG n) i j = if i = j then 1 else 0 from get_mk _ hi hj]
  split <;> omega
theorem clos_facts {n : Nat} {rows : List Row} (I : In n rows) : wfM n (clos n rows) ∧ Bnd n (clos n rows) ∧ (∀ i, i < n → 1 ≤ getM (clos n rows) i i) ∧ RLe rows (clos n rows) ∧ ((∀ i, i < n → getM (clos n rows) i i ≤ 1) → Clo n (clos n rows)) ∧
    ∀ H, Bnd n H → Clo n H → (∀ i, i < n → 1 ≤ getM H i i) → RLe rows H → Le n (clos n rows) H := by
  obtain ⟨w, B, L, R, M⟩ := base_inv rows I (wf_mk n _) (bnd_id n)
  have dg : ∀ i, i < n → 1 ≤ getM (rows.foldl addR (idG n)) i i := fun i hi => by
    have := L i i hi hi
    rw [get_mk _ hi hi, if_pos rfl] at this
    exact this
  rw [clos_fw]
  have U := up_fw w
  refine ⟨wf_fw w, bnd_fw w B, fun i hi => Int.le_trans (dg i hi) (U i i hi hi), fun r hr => Int.le_trans (R r hr) (U _ _ (I r hr).1 (I r hr).2), fw_closed w B dg, fun H BH C dH RH => le_fw w B BH C (M H (fun i j hi hj => ?_) RH)⟩
  rw [show getM (mkM n fun i j => if i = j then 1 else 0) i j = if i = j then 1 else 0 from get_mk _ hi hj]
  split
  · rename_i e
    subst e
    exact dH i hi
  · exact (BH i j hi hj).1
theorem le_anti {n : Nat} {G H : List (List Int)} (w : wfM n G) (w' : wfM n H) (h : Le n G H) (h' : Le n H G) : G = H := ext_M w w' fun i j hi hj => Int.le_antisymm (h i j hi hj) (h' i j hi hj)
/-- two lists of rows with one closure -/
theorem clos_same {n : Nat} {rows rows' : List Row} (I : In n rows) (I' : In n rows') (dg : ∀ i, i < n → getM (clos n rows) i i ≤ 1) (h : RLe rows' (clos n rows)) (h' : (∀ i, i < n → getM (clos n rows') i i ≤ 1) → Le n (clos n rows') (clos n rows) → RLe rows (clos n rows')) : clos n rows' = clos n rows := by
  obtain ⟨w, B, d1, R, C, M⟩ := clos_facts I
  obtain ⟨w', B', d1', R', C', M'⟩ := clos_facts I'
  have l := M' _ B (C dg) d1 h
  have dg' : ∀ i, i < n → getM (clos n rows') i i ≤ 1 := fun i hi => Int.le_trans (l i i hi hi) (dg i hi)
  exact le_anti w' w l (M _ B' (C' dg') d1' (h' dg' l))
theorem clos_set {n : Nat} {rows rows' : List Row} (I : In n rows) (dg : ∀ i, i < n → getM (clos n rows) i i ≤ 1) (e : ∀ r, r ∈ rows' ↔ r ∈ rows) : clos n rows' = clos n rows := by
  have I' : In n rows' := fun r h => I r ((e r).mp h)
  exact clos_same I I' dg (fun r h => (clos_facts I).2.2.2.1 r ((e r).mp h)) fun _ _ r h => (clos_facts I').2.2.2.1 r ((e r).mpr h)
/-! ## the rows that are sure -/
def ordL (n : Nat) (G : List (List Int)) : List Row := (List.range n).flatMap fun i => ((List.range n).filter fun j => decide (i ≠ j ∧ getM G i j ≠ 0)).map fun j => (i, j, decide (getM G i j = 2))
theorem mem_ord {n : Nat} {G : List (List Int)} {r : Row} : r ∈ ordL n G ↔ r.1 < n ∧ r.2.1 < n ∧ r.1 ≠ r.2.1 ∧ getM G r.1 r.2.1 ≠ 0 ∧ r.2.2 = decide (getM G r.1 r.2.1 = 2) := by
  unfold ordL
  rw [List.mem_flatMap]
  constructor
  · rintro ⟨i, hi, h⟩
    obtain ⟨j, hj, rfl⟩ := List.mem_map.mp h
    obtain ⟨hj, p⟩ := List.mem_filter.mp hj
    have p := of_decide_eq_true p
    exact ⟨List.mem_range.mp hi, List.mem_range.mp hj, p.1, p.2, rfl⟩
  · obtain ⟨i, j, s⟩ := r
    rintro ⟨hi, hj, h1, h2, h3⟩
    simp only at hi hj h1 h2 h3
    rw [h3]
    exact ⟨i, List.mem_range.mpr hi, List.mem_map.mpr ⟨j, List.mem_filter.mpr ⟨List.mem_range.mpr hj, decide_eq_true ⟨h1, h2⟩⟩, rfl⟩⟩
theorem ord_in (n : Nat) (G : List (List Int)) : In n (ordL n G) := fun r h => ⟨(mem_ord.mp h).1, (mem_ord.mp h).2.1⟩
theorem clos_ord {n : Nat} {rows : List Row} (I : In n rows) (dg : ∀ i, i < n → getM (clos n rows) i i ≤ 1) : clos n (ordL n (clos n rows)) = clos n rows := by
  obtain ⟨w, B, d1, R, C, M⟩ := clos_facts I
  refine clos_same I (ord_in n _) dg (fun r h => ?_) fun dg' l r h => ?_
  · obtain ⟨h1, h2, h3, h4, h5⟩ := mem_ord.mp h
    have := B _ _ h1 h2
    rw [h5]
    unfold grd
    by_cases e : getM (clos n rows) r.1 r.2.1 = 2
    · simp [e]
    · simp [e]; omega
  · have hr := I r h
    have g := R r h
    obtain ⟨w', B', d1', R', C', M'⟩ := clos_facts (ord_in n (clos n rows))
    have b := B _ _ hr.1 hr.2
    have gp : 0 < grd r.2.2 := by unfold grd; split <;> omega
    by_cases e : r.1 = r.2.1
    · have := dg r.1 hr.1
      rw [← e] at g ⊢
      have := d1' r.1 hr.1
      omega
    · have m : (r.1, r.2.1, decide (getM (clos n rows) r.1 r.2.1 = 2)) ∈ ordL n (clos n rows) := mem_ord.mpr ⟨hr.1, hr.2, e, by show getM (clos n rows) r.1 r.2.1 ≠ 0; omega, rfl⟩
      have := R' _ m
      refine Int.le_trans ?_ this
      show grd r.2.2 ≤ grd (decide (getM (clos n rows) r.1 r.2.1 = 2))
      cases hs : r.2.2 with
      | false => unfold grd; simp; split <;> omega
      | true =>
        rw [hs] at g
        have : getM (clos n rows) r.1 r.2.1 = 2 := by unfold grd at g; simp at g; omega
        simp [this]
end K15
namespace K15
open PySem PySem.Spec PyProof.Rows L2 PD
/-! # classes -/
def ownC (n : Nat) (G : List (List Int)) (p : Nat) : List Nat := (List.range n).filter fun o => decide (0 < getM G p o ∧ 0 < getM G o p)
def inF (fd : List (List Nat)) (p : Nat) : Bool := fd.any fun c => c.contains p
theorem inF_iff {fd : List (List Nat)} {p : Nat} : inF fd p = true ↔ ∃ c ∈ fd, p ∈ c := by
  unfold inF
  rw [List.any_eq_true]
  constructor
  · rintro ⟨c, h, h'⟩; exact ⟨c, h, List.contains_iff_mem.mp h'⟩
  · rintro ⟨c, h, h'⟩; exact ⟨c, h, List.contains_iff_mem.mpr h'⟩
def clsStep (n : Nat) (G : List (List Int)) (fd : List (List Nat)) (p : Nat) : List (List Nat) := if inF fd p = true then fd else fd ++ [ownC n G p]
def clsL (n : Nat) (G : List (List Int)) : List (List Nat) := (List.range n).foldl (clsStep n G) []
theorem mem_own {n : Nat} {G : List (List Int)} {p o : Nat} : o ∈ ownC n G p ↔ o < n ∧ 0 < getM G p o ∧ 0 < getM G o p := by
  unfold ownC
  rw [List.mem_filter, List.mem_range, decide_eq_true_iff]
def HeadLt (a b : List Nat) : Prop := ∃ x y r s, a = x :: r ∧ b = y :: s ∧ x < y
theorem own_head {n : Nat} {G : List (List Int)} {p : Nat} (hp : p < n) (d : 0 < getM G p p) (h : ∀ o, o < p → o ∈ ownC n G p → False) : ∃ r, ownC n G p = p :: r := by
  have m : p ∈ ownC n G p := mem_own.mpr ⟨hp, d, d⟩
  have s : (ownC n G p).Pairwise (· < ·) := List.Pairwise.filter _ List.pairwise_lt_range
  cases e : ownC n G p with
  | nil => rw [e] at m; cases m
  | cons x r =>
    rw [e] at m s
    rcases List.mem_cons.mp m with rfl | m
    · exact ⟨r, rfl⟩
    · have := (List.pairwise_cons.mp s).1 p m
      exact (h x this (by rw [e]; exact List.mem_cons_self)).elim
theorem cls_inv {n : Nat} {G : List (List Int)} (B : Bnd n G) (C : Clo n G) (dg : ∀ i, i < n → 1 ≤ getM G i i) :
    (∀ c ∈ clsL n G, ∃ q, q < n ∧ c = ownC n G q ∧ ∃ r, c = q :: r) ∧ (clsL n G).Pairwise HeadLt := by
  have tr : ∀ {a b c : Nat}, a < n → b < n → c < n → 0 < getM G a b → 0 < getM G b c → 0 < getM G a c := fun {a b c} ha hb hc h1 h2 => by
    have := C a c b ha hc hb
    have := chain_ge h1 h2
    omega
  have key := fold_inv (fun p fd => (∀ q, q < p → ∃ c ∈ fd, q ∈ c) ∧ (∀ c ∈ fd, ∃ q, q < p ∧ q < n ∧ c = ownC n G q ∧ ∃ r, c = q :: r) ∧ fd.Pairwise HeadLt) (clsStep n G) n [] ⟨fun q hq => by omega, fun c h => (by cases h), .nil⟩ fun p hp fd h => by
    obtain ⟨h1, h2, h3⟩ := h
    unfold clsStep
    split
    · rename_i e
      refine ⟨fun q hq => ?_, fun c hc => ?_, h3⟩
      · by_cases e' : q = p
        · subst e'; exact inF_iff.mp e
        · exact h1 q (by omega)
      · obtain ⟨q, a, b⟩ := h2 c hc
        exact ⟨q, by omega, b⟩
    · rename_i e
      have no : ∀ o, o < p → o ∈ ownC n G p → False := fun o ho hm => by
        obtain ⟨c, hc, hoc⟩ := h1 o ho
        obtain ⟨q, _, hq, rfl, _⟩ := h2 c hc
        obtain ⟨on, g1, g2⟩ := mem_own.mp hm
        obtain ⟨_, g3, g4⟩ := mem_own.mp hoc
        exact e (inF_iff.mpr ⟨_, hc, mem_own.mpr ⟨hp, tr hq on hp g3 g2, tr hp on hq g1 g4⟩⟩)
      obtain ⟨r, hr⟩ := own_head hp (by have := dg p hp; omega) no
      refine ⟨fun q hq => ?_, fun c hc => ?_, List.pairwise_append.mpr ⟨h3, List.pairwise_singleton _ _, fun a ha b hb => ?_⟩⟩
      · by_cases e' : q = p
        · subst e'; exact ⟨_, List.mem_append_right _ List.mem_cons_self, by rw [hr]; exact List.mem_cons_self⟩
        · obtain ⟨c, hc, hq⟩ := h1 q (by omega)
          exact ⟨c, List.mem_append_left _ hc, hq⟩
      · rcases List.mem_append.mp hc with hc | hc
        · obtain ⟨q, a, b⟩ := h2 c hc
          exact ⟨q, by omega, b⟩
        · rw [List.mem_singleton] at hc
          exact ⟨p, by omega, hp, hc, r, hc.trans hr⟩
      · rw [List.mem_singleton] at hb
        obtain ⟨q, hq, _, _, r', e'⟩ := h2 a ha
        exact ⟨q, p, r', r, e', hb.trans hr, hq⟩
  exact ⟨fun c hc => let ⟨q, _, h⟩ := key.2.1 c hc; ⟨q, h⟩, key.2.2⟩
def rowLt3 (r t : Row) : Prop := r.1 < t.1 ∨ (r.1 = t.1 ∧ r.2.1 < t.2.1)
theorem ord_pair (n : Nat) (G : List (List Int)) : (ordL n G).Pairwise rowLt3 := by
  unfold ordL
  rw [List.pairwise_flatMap]
  refine ⟨fun i hi => ?_, List.Pairwise.imp (fun {i i'} h => ?_) List.pairwise_lt_range⟩
  · rw [List.pairwise_map]
    exact List.Pairwise.imp (fun {j j'} h => .inr ⟨rfl, h⟩) (List.Pairwise.filter _ List.pairwise_lt_range)
  · intro x hx y hy
    obtain ⟨j, _, rfl⟩ := List.mem_map.mp hx
    obtain ⟨j', _, rfl⟩ := List.mem_map.mp hy
    exact .inl h
theorem ord_len (n : Nat) (G : List (List Int)) : (ordL n G).length ≤ n * n := by
  have key : ∀ l : List Nat, (l.flatMap fun i => ((List.range n).filter fun j => decide (i ≠ j ∧ getM G i j ≠ 0)).map fun j => (i, j, decide (getM G i j = 2))).length ≤ l.length * n := fun l => by
    induction l with
    | nil => simp
    | cons i l ih =>
      rw [List.flatMap_cons, List.length_append, List.length_map, List.length_cons, Nat.add_mul]
      have := List.length_filter_le (fun j => decide (i ≠ j ∧ getM G i j ≠ 0)) (List.range n)
      rw [List.length_range] at this
      omega
  have := key (List.range n)
  rw [List.length_range] at this
  exact this
theorem own_len (n : Nat) (G : List (List Int)) (p : Nat) : (ownC n G p).length ≤ n := by
  have := List.length_filter_le (fun o => decide (0 < getM G p o ∧ 0 < getM G o p)) (List.range n)
  rw [List.length_range] at this
  exact this
theorem cls_len (n : Nat) (G : List (List Int)) : (clsL n G).length ≤ n :=
  fold_inv (fun p fd => fd.length ≤ p) (clsStep n G) n [] (Nat.le_refl _) fun p hp fd h => by
    unfold clsStep
    split
    · omega
    · rw [List.length_append]; simp; omega
/-- the law's turn of the closure -/
def lrlx (G : List (List Int)) (c a b : Nat) : List (List Int) := if 0 < getM G a c ∧ 0 < getM G c b then setM G a b (max (max (getM G a b) (getM G a c)) (getM G c b)) else G
theorem mx_max {g x y : Int} (hx : 0 < x) (hy : 0 < y) : max (max g x) y = mx g (chainI x y) := by
  unfold mx chainI
  rw [if_neg (by omega : ¬ (x = 0 ∨ y = 0))]
  by_cases h : y > x
  · rw [if_pos h]
    split <;> omega
  · rw [if_neg h]
    split <;> omega
theorem mx_none {g x y : Int} (hg : 0 ≤ g) (h : x = 0 ∨ y = 0) : mx g (chainI x y) = g := by
  unfold mx chainI
  rw [if_pos h, if_neg (by omega)]
theorem lrlx_eq {n : Nat} {G : List (List Int)} (w : wfM n G) (B : Bnd n G) {c a b : Nat} (hc : c < n) (ha : a < n) (hb : b < n) : lrlx G c a b = rlx G c a b := by
  have b1 := B a c ha hc
  have b2 := B c b hc hb
  have b3 := B a b ha hb
  unfold lrlx
  split
  · rename_i e
    unfold rlx
    rw [mx_max e.1 e.2]
  · rename_i e
    refine ext_M w (wf_rlx w c a b) fun i j hi hj => ?_
    rw [rlx_get w ha hb]
    split
    · rename_i e'
      rw [e'.1, e'.2, mx_none b3.1 (by omega)]
    · rfl
end K15
namespace K15
open PySem PySem.Spec PyProof.Rows L2 PD
variable {mg : Str → Option Value}
theorem max2_of {p q : Bool} {ga gb : M → Out EV} {m : M} {x y : Int} (h1 : ga m = .ok (.v (.int x)) m) (h2 : gb m = .ok (.v (.int y)) m) : dApp (dCons p ga (dCons q gb dNil)) (kVN pMax2) m = .ok (.v (.int (mx x y))) m := by
  simp [dApp, dCons, dNil, opd_of h1, opd_of h2, Out.bind, stable, kVN, views, PD.view, pMax2, mx]
theorem app1_of {ga : M → Out EV} {k : M → List EV → Out EV} {m : M} {x : EV} (h1 : ga m = .ok x m) (n : nofr x = true := by rfl) : dApp (dCons true ga dNil) k m = k m [x] := by
  cases x with
  | fr s => cases n
  | v d => simp [dApp, dCons, dNil, opd_of h1, Out.bind, stable]
  | br o p => cases p <;> simp [dApp, dCons, dNil, opd_of h1, Out.bind, stable]
theorem app2_of {ga gb : M → Out EV} {k : M → List EV → Out EV} {m : M} {x y : EV} (h1 : ga m = .ok x m) (h2 : gb m = .ok y m) (n : nofr x = true := by rfl) (n' : nofr y = true := by rfl) : dApp (dCons true ga (dCons true gb dNil)) k m = k m [x, y] := by
  have s : ∀ e : EV, stable true e = true := fun e => by
    cases e with
    | br o p => cases p <;> rfl
    | _ => rfl
  simp [dApp, dCons, dNil, opd_of h1 n, opd_of h2 n', Out.bind, s]
/-- the machine of closure -/
def clM (n : Nat) (d : D) (G : List (List Int)) (a b c e f : Option Sl) : M := ⟨[some (.sv (.fz (.int n))), some (.sv (.fz d)), some (.sv (matS G)), a, b, c, e, f], []⟩
def ClR (n : Nat) (d : D) (G : List (List Int)) (m : M) : Prop := wfM n G ∧ ∃ a b c e f, m = clM n d G a b c e f
theorem matS_v (n : Nat) (d : D) (G : List (List Int)) (a b c e f : Option Sl) : dVar 2 (clM n d G a b c e f) = .ok (.br (.s 2) []) (clM n d G a b c e f) := rfl
theorem rows_for (n : Nat) (dd : D) (rows : List Row) (hr : ∀ r ∈ rows, r.1 < n ∧ r.2.1 < n) (G : List (List Int)) (m : M) (h : ClR n dd G m) :
    ∃ m', forI always (bTup 3 (bCons (bName 3) (bCons (bName 4) (bCons (bName 5) bNil))))
      (dAsg (dApp (dCons false (dBin true (dBin true (dVar 2) (dVar 3) kIx) (dVar 4) kIx) (dCons true (dApp (dCons true (dVar 5) dNil) (callK 1 (den_grade_of mg))) dNil)) (kVN pMax2)) (bSubA (dBin true (dVar 2) (dVar 3) kIx) (dVar 4))) (rows.map rowT) m = .ok .nx m' ∧ ClR n dd (rows.foldl addR G) m' := by
  have key := forI_rel (tg := bTup 3 (bCons (bName 3) (bCons (bName 4) (bCons (bName 5) bNil)))) (gb := (dAsg (dApp (dCons false (dBin true (dBin true (dVar 2) (dVar 3) kIx) (dVar 4) kIx) (dCons true (dApp (dCons true (dVar 5) dNil) (callK 1 (den_grade_of mg))) dNil)) (kVN pMax2)) (bSubA (dBin true (dVar 2) (dVar 3) kIx) (dVar 4)))) (ClR n dd) (fun d G => match d with | .tup [.int a, .int b, .bl s] => addR G (a.toNat, b.toNat, s) | _ => G) (rows.map rowT) G m h fun d hd G m hm => by
    obtain ⟨r, hr', rfl⟩ := List.mem_map.mp hd
    obtain ⟨w, x3, x4, x5, x6, x7, rfl⟩ := hm
    obtain ⟨a, b, s⟩ := r
    obtain ⟨ha, hb⟩ := hr _ hr'
    have ha : a < n := ha
    have hb : b < n := hb
    obtain ⟨r, g1, g2, g3⟩ := wf_get w ha hb
    have e1 := ev_mat (m := clM n dd G (some (.sv (.fz (.int a)))) (some (.sv (.fz (.int b)))) (some (.sv (.fz (.bl s)))) x6 x7) (a := 2) (b := 3) (c := 4) (o := .s 2) (i := a) (j := b) rfl rfl rfl rfl g1 g2
    have e2 : dApp (dCons true (dVar 5) dNil) (callK 1 (den_grade_of mg)) (clM n dd G (some (.sv (.fz (.int a)))) (some (.sv (.fz (.int b)))) (some (.sv (.fz (.bl s)))) x6 x7) = .ok (.v (.int (if s then 2 else 1))) (clM n dd G (some (.sv (.fz (.int a)))) (some (.sv (.fz (.int b)))) (some (.sv (.fz (.bl s)))) x6 x7) := by
      rw [app1_of (ga := dVar 5) (x := .v (.bl s)) rfl, call1 (e_grade_of (mg := mg) s)]
      rfl
    have e3 := st_mat (a := 2) (b := 3) (c := 4) (o := .s 2) (i := a) (j := b) (max2_of (p := false) (q := true) e1 e2) rfl rfl rfl rfl g1 (by omega)
    exact ⟨clM n dd G (some (.sv (.fz (.int a)))) (some (.sv (.fz (.int b)))) (some (.sv (.fz (.bl s)))) x6 x7, clM n dd (addR G (a, b, s)) (some (.sv (.fz (.int a)))) (some (.sv (.fz (.int b)))) (some (.sv (.fz (.bl s)))) x6 x7, rfl, .inl e3, wf_set w _ _ _, _, _, _, _, _, rfl⟩
  rw [List.foldl_map] at key
  have e : (fun (G : List (List Int)) (r : Row) => (match rowT r with | .tup [.int a, .int b, .bl s] => addR G (a.toNat, b.toNat, s) | _ => G)) = addR := by
    funext G r
    rfl
  exact key
theorem forR_rel {β : Type} {tg : EV → M → Out Unit} {gb : M → Out Ctl} (Rp : β → M → Prop) (step : β → Nat → β) (n : Nat) (b : β) (m : M) (h : Rp b m)
    (k : ∀ i, i < n → ∀ b m, Rp b m → ∃ m1 m2, tg (.v (.int i)) m = .ok () m1 ∧ (gb m1 = .ok .nx m2 ∨ gb m1 = .ok .ct m2) ∧ Rp (step b i) m2) :
    ∃ m', forI always tg gb ((List.range n).map fun i => D.int (i : Nat)) m = .ok .nx m' ∧ Rp ((List.range n).foldl step b) m' := by
  have key := forI_rel Rp (fun d b => match d with | .int i => step b i.toNat | _ => b) ((List.range n).map fun i => D.int (i : Nat)) b m h fun d hd b m hm => by
    obtain ⟨i, hi, rfl⟩ := List.mem_map.mp hd
    exact k i (List.mem_range.mp hi) b m hm
  rw [List.foldl_map] at key
  exact key
theorem cl_loop (n : Nat) (hn : n ≤ bigLen) (dd : D) (G : List (List Int)) (m : M) (h : ClR n dd G m) :
    ∃ m', (dFor (dIter (dCons true (dVar 0) dNil) kRange1) (bName 6)
 (dFor (dIter (dCons true (dVar 0) dNil) kRange1) (bName 3)
 (dFor (dIter (dCons true (dVar 0) dNil) kRange1) (bName 4)
 (dSeq (dAsg (dApp (dCons true (dBin true (dBin true (dVar 2) (dVar 3) kIx) (dVar 6) kIx) (dCons true (dBin true (dBin true (dVar 2) (dVar 6) kIx) (dVar 4) kIx) dNil)) (callK 2 (den_chained mg))) (bName 7))
 (dAsg (dApp (dCons true (dBin true (dBin true (dVar 2) (dVar 3) kIx) (dVar 4) kIx) (dCons true (dVar 7) dNil)) (kVN pMax2)) (bSubA (dBin true (dVar 2) (dVar 3) kIx) (dVar 4))))))) m = .ok .nx m' ∧
      ClR n dd ((List.range n).foldl (fun G c => (List.range n).foldl (fun G a => (List.range n).foldl (fun G b => rlx G c a b) G) G) G) m' := by
  have rg : ∀ G m, ClR n dd G m → dIter (dCons true (dVar 0) dNil) kRange1 m = .ok ⟨(List.range n).map fun i => .int (i : Nat), always⟩ m := fun G m h => by
    obtain ⟨_, a, b, c, e, f, rfl⟩ := h
    exact rng1 (i := 0) rfl hn
  have fr : ∀ {tg gb} {G : List (List Int)} {m : M}, ClR n dd G m → dFor (dIter (dCons true (dVar 0) dNil) kRange1) tg gb m = forI always tg gb ((List.range n).map fun i => .int (i : Nat)) m := fun h => by
    unfold dFor
    rw [rg _ _ h]
    rfl
  rw [fr h]
  refine forR_rel (ClR n dd) _ n G m h fun c hc G m hm => ?_
  obtain ⟨w, x3, x4, x5, x6, x7, rfl⟩ := hm
  refine ⟨clM n dd G x3 x4 x5 (some (.sv (.fz (.int c)))) x7, ?_⟩
  let R2 : List (List Int) → M → Prop := fun G m => wfM n G ∧ ∃ a b d f, m = clM n dd G a b d (some (.sv (.fz (.int c)))) f
  have r2 : ∀ {G m}, R2 G m → ClR n dd G m := fun ⟨w, a, b, d, f, e⟩ => ⟨w, a, b, d, _, f, e⟩
  have h2 : R2 G (clM n dd G x3 x4 x5 (some (.sv (.fz (.int c)))) x7) := ⟨w, _, _, _, _, rfl⟩
  rw [fr (r2 h2)]
  have l2 := forR_rel (tg := bName 3) (gb := (dFor (dIter (dCons true (dVar 0) dNil) kRange1) (bName 4)
 (dSeq (dAsg (dApp (dCons true (dBin true (dBin true (dVar 2) (dVar 3) kIx) (dVar 6) kIx) (dCons true (dBin true (dBin true (dVar 2) (dVar 6) kIx) (dVar 4) kIx) dNil)) (callK 2 (den_chained mg))) (bName 7))
 (dAsg (dApp (dCons true (dBin true (dBin true (dVar 2) (dVar 3) kIx) (dVar 4) kIx) (dCons true (dVar 7) dNil)) (kVN pMax2)) (bSubA (dBin true (dVar 2) (dVar 3) kIx) (dVar 4)))))) R2 (fun G a => (List.range n).foldl (fun G b => rlx G c a b) G) n G _ h2 fun a ha G m hm => by
    obtain ⟨w, x3, x4, x5, x7, rfl⟩ := hm
    refine ⟨clM n dd G (some (.sv (.fz (.int a)))) x4 x5 (some (.sv (.fz (.int c)))) x7, ?_⟩
    let R3 : List (List Int) → M → Prop := fun G m => wfM n G ∧ ∃ b d f, m = clM n dd G (some (.sv (.fz (.int a)))) b d (some (.sv (.fz (.int c)))) f
    have r3 : ∀ {G m}, R3 G m → R2 G m := fun ⟨w, b, d, f, e⟩ => ⟨w, _, b, d, f, e⟩
    have h3 : R3 G (clM n dd G (some (.sv (.fz (.int a)))) x4 x5 (some (.sv (.fz (.int c)))) x7) := ⟨w, _, _, _, rfl⟩
    rw [fr (r2 (r3 h3))]
    have l3 := forR_rel (tg := bName 4) (gb := (dSeq (dAsg (dApp (dCons true (dBin true (dBin true (dVar 2) (dVar 3) kIx) (dVar 6) kIx) (dCons true (dBin true (dBin true (dVar 2) (dVar 6) kIx) (dVar 4) kIx) dNil)) (callK 2 (den_chained mg))) (bName 7))
 (dAsg (dApp (dCons true (dBin true (dBin true (dVar 2) (dVar 3) kIx) (dVar 4) kIx) (dCons true (dVar 7) dNil)) (kVN pMax2)) (bSubA (dBin true (dVar 2) (dVar 3) kIx) (dVar 4))))) R3 (fun G b => rlx G c a b) n G _ h3 fun b hb G m hm => by
      obtain ⟨w, x4, x5, x7, rfl⟩ := hm
      refine ⟨clM n dd G (some (.sv (.fz (.int a)))) (some (.sv (.fz (.int b)))) x5 (some (.sv (.fz (.int c)))) x7, ?_⟩
      obtain ⟨r1, p1, p2, p3⟩ := wf_get w ha hc
      obtain ⟨r2, q1, q2, q3⟩ := wf_get w hc hb
      obtain ⟨r3, s1, s2, s3⟩ := wf_get w ha hb
      have e1 := ev_mat (m := clM n dd G (some (.sv (.fz (.int a)))) (some (.sv (.fz (.int b)))) x5 (some (.sv (.fz (.int c)))) x7) (a := 2) (b := 3) (c := 6) (o := .s 2) (i := a) (j := c) rfl rfl rfl rfl p1 p2
      have e2 := ev_mat (m := clM n dd G (some (.sv (.fz (.int a)))) (some (.sv (.fz (.int b)))) x5 (some (.sv (.fz (.int c)))) x7) (a := 2) (b := 6) (c := 4) (o := .s 2) (i := c) (j := b) rfl rfl rfl rfl q1 q2
      have e3 := app2_of (k := callK 2 (den_chained mg)) e1 e2
      rw [call2 (e_chained (mg := mg) _ _)] at e3
      have e4 := ev_mat (m := clM n dd G (some (.sv (.fz (.int a)))) (some (.sv (.fz (.int b)))) x5 (some (.sv (.fz (.int c)))) (some (.sv (.fz (.int (chainI (getM G a c) (getM G c b))))))) (a := 2) (b := 3) (c := 4) (o := .s 2) (i := a) (j := b) rfl rfl rfl rfl s1 s2
      have e5 := st_mat (a := 2) (b := 3) (c := 4) (o := .s 2) (i := a) (j := b) (max2_of (p := true) (q := true) (gb := dVar 7) e4 rfl) rfl rfl rfl rfl s1 (by omega)
      refine ⟨clM n dd (rlx G c a b) (some (.sv (.fz (.int a)))) (some (.sv (.fz (.int b)))) x5 (some (.sv (.fz (.int c)))) (some (.sv (.fz (.int (chainI (getM G a c) (getM G c b)))))), rfl, .inl ?_, wf_set w _ _ _, _, _, _, rfl⟩
      unfold dSeq
      have e6 : dAsg (dApp (dCons true (dBin true (dBin true (dVar 2) (dVar 3) kIx) (dVar 6) kIx) (dCons true (dBin true (dBin true (dVar 2) (dVar 6) kIx) (dVar 4) kIx) dNil)) (callK 2 (den_chained mg))) (bName 7) (clM n dd G (some (.sv (.fz (.int a)))) (some (.sv (.fz (.int b)))) x5 (some (.sv (.fz (.int c)))) x7) = .ok .nx (clM n dd G (some (.sv (.fz (.int a)))) (some (.sv (.fz (.int b)))) x5 (some (.sv (.fz (.int c)))) (some (.sv (.fz (.int (chainI (getM G a c) (getM G c b))))))) := by
        unfold dAsg
        rw [e3]
        rfl
      rw [e6]
      exact e5
    obtain ⟨m', e, h'⟩ := l3
    exact ⟨m', rfl, .inl e, r3 h'⟩
  obtain ⟨m', e, h'⟩ := l2
  exact ⟨m', rfl, .inl e, r2 h'⟩
theorem seq_nx {g1 g2 : M → Out Ctl} {m m1 : M} (h : g1 m = .ok .nx m1) : dSeq g1 g2 m = g2 m1 := by unfold dSeq; rw [h]; rfl
theorem seq_rt {g1 g2 : M → Out Ctl} {m m1 : M} {s : SV} (h : g1 m = .ok (.rt s) m1) : dSeq g1 g2 m = .ok (.rt s) m1 := by unfold dSeq; rw [h]; rfl
theorem seq_exc {g1 g2 : M → Out Ctl} {m m1 : M} {c : Str} {d : D} (h : g1 m = .exc c d m1) : dSeq g1 g2 m = .exc c d m1 := by unfold dSeq; rw [h]; rfl
theorem def_rt {n : Nat} {b : M → Out Ctl} {as : List Ar} {pins : List SV} {s : SV} {m : M} (h : b (enter n as pins) = .ok (.rt s) m) : Rn (dDef n b as pins) s m.pp := rn_eq (by unfold dDef; rw [h])
theorem def_nx {n : Nat} {b : M → Out Ctl} {as : List Ar} {pins : List SV} {m : M} (h : b (enter n as pins) = .ok .nx m) : Rn (dDef n b as pins) (.fz .non) m.pp := rn_eq (by unfold dDef; rw [h])
theorem def_exc {n : Nat} {b : M → Out Ctl} {as : List Ar} {pins : List SV} {c : Str} {d : D} {m : M} (h : b (enter n as pins) = .exc c d m) : RnX (dDef n b as pins) c d m.pp := rnX_eq (by unfold dDef; rw [h])
theorem cl_run (n : Nat) (hn : n ≤ bigLen) (rows : List Row) (hr : ∀ r ∈ rows, r.1 < n ∧ r.2.1 < n) : ∃ m1 m2,
    (dAsg (dComp (dIter (dCons true (dVar 0) dNil) kRange1) [3] (bName 3) (fun m => .ok true m) (dComp (dIter (dCons true (dVar 0) dNil) kRange1) [4] (bName 4) (fun m => .ok true m) (dIfE (dTest (dBin true (dVar 3) (dVar 4) (kV2 (bin2 pEq)))) (dC (.int 1)) (dC (.int 0))))) (bName 2)) (enter 8 [.fz (.int n), .fz (.tup (rows.map rowT))] []) = .ok .nx (clM n (.tup (rows.map rowT)) (idG n) none none none none none) ∧
    (dFor (dISeq (dVar 1)) (bTup 3 (bCons (bName 3) (bCons (bName 4) (bCons (bName 5) bNil))))
      (dAsg (dApp (dCons false (dBin true (dBin true (dVar 2) (dVar 3) kIx) (dVar 4) kIx) (dCons true (dApp (dCons true (dVar 5) dNil) (callK 1 (den_grade_of mg))) dNil)) (kVN pMax2)) (bSubA (dBin true (dVar 2) (dVar 3) kIx) (dVar 4)))) (clM n (.tup (rows.map rowT)) (idG n) none none none none none) = .ok .nx m1 ∧
    (dFor (dIter (dCons true (dVar 0) dNil) kRange1) (bName 6)
 (dFor (dIter (dCons true (dVar 0) dNil) kRange1) (bName 3)
 (dFor (dIter (dCons true (dVar 0) dNil) kRange1) (bName 4)
 (dSeq (dAsg (dApp (dCons true (dBin true (dBin true (dVar 2) (dVar 3) kIx) (dVar 6) kIx) (dCons true (dBin true (dBin true (dVar 2) (dVar 6) kIx) (dVar 4) kIx) dNil)) (callK 2 (den_chained mg))) (bName 7))
 (dAsg (dApp (dCons true (dBin true (dBin true (dVar 2) (dVar 3) kIx) (dVar 4) kIx) (dCons true (dVar 7) dNil)) (kVN pMax2)) (bSubA (dBin true (dVar 2) (dVar 3) kIx) (dVar 4))))))) m1 = .ok .nx m2 ∧ ClR n (.tup (rows.map rowT)) (clos n rows) m2 := by
  have c0 := comp_id n hn (.tup (rows.map rowT))
  have w0 : wfM n (idG n) := wf_mk n fun i j => if i = j then 1 else 0
  have h0 : ClR n (.tup (rows.map rowT)) (idG n) (clM n (.tup (rows.map rowT)) (idG n) none none none none none) := ⟨w0, none, none, none, none, none, rfl⟩
  obtain ⟨m1, l1, h1⟩ := rows_for (mg := mg) n (.tup (rows.map rowT)) rows hr (idG n) _ h0
  obtain ⟨m2, l2, h2⟩ := cl_loop (mg := mg) n hn _ _ m1 h1
  refine ⟨m1, m2, ?_, l1, l2, h2⟩
  unfold dAsg
  rw [show enter 8 [.fz (.int n), .fz (.tup (rows.map rowT))] [] = ⟨[some (.sv (.fz (.int n))), some (.sv (.fz (.tup (rows.map rowT)))), none, none, none, none, none, none], []⟩ from rfl, c0]
  rfl
theorem e_closure (n : Nat) (hn : n ≤ bigLen) (rows : List Row) (hr : ∀ r ∈ rows, r.1 < n ∧ r.2.1 < n) : Rn (den_closure mg [.fz (.int n), .fz (.tup (rows.map rowT))] []) (matS (clos n rows)) [] := by
  have key : ∃ sl, b_closure mg (enter 8 [.fz (.int n), .fz (.tup (rows.map rowT))] []) = .ok (.rt (matS (clos n rows))) ⟨sl, []⟩ := by
    obtain ⟨m1, m2, e1, e2, e3, w, a, b, c, e, f, rfl⟩ := cl_run (mg := mg) n hn rows hr
    unfold b_closure
    rw [seq_nx e1, seq_nx e2, seq_nx e3]
    exact ⟨_, rfl⟩
  obtain ⟨sl, h⟩ := key
  exact def_rt (n := 8) (b := b_closure mg) (as := [.fz (.int n), .fz (.tup (rows.map rowT))]) (pins := []) h
end K15
namespace PD
open PySem PySem.Spec PyProof.Rows L2
/-! # walks over what a list of parts makes -/
theorem compI_map {α : Type} {vs : List Nat} {b : EV → M → Out Unit} {gt : M → Out Bool} {ge : M → Out EV} (h : α → D) (p : α → Bool) (f : α → SV) : ∀ (l : List α) (acc : List SV) (m : M), acc.length + l.length ≤ bigLen →
    (∀ x ∈ l, ∃ m1 m2, b (.v (h x)) m = .ok () m1 ∧ gt m1 = .ok (p x) m2 ∧ (p x = false → wipeM m2 vs = m) ∧ (p x = true → ∃ ev m3 m4, ge m2 = .ok ev m3 ∧ elem m3 ev = .ok (f x) m4 ∧ wipeM m4 vs = m)) →
    compI always vs b gt ge (l.map h) acc m = .ok (acc ++ (l.filter p).map f) m
  | [], acc, m, _, _ => by simp [compI, always]
  | x :: r, acc, m, hl, k => by
    obtain ⟨m1, m2, h1, h2, h3, h4⟩ := k x List.mem_cons_self
    rw [List.map_cons]
    unfold compI
    rw [List.length_cons] at hl
    cases hp : p x with
    | false =>
      rw [hp] at h2
      simp only [always, if_true, h1, h2, h3 hp]
      rw [compI_map h p f r acc m (by omega) fun d hd => k d (List.mem_cons_of_mem _ hd)]
      simp [List.filter_cons, hp]
    | true =>
      rw [hp] at h2
      obtain ⟨ev, m3, m4, h5, h6, h7⟩ := h4 hp
      have hb : acc.length < bigLen := by omega
      simp only [always, if_true, h1, h2, h5, h6, hb, h7]
      rw [compI_map h p f r (acc ++ [f x]) m (by rw [List.length_append]; simp; omega) fun d hd => k d (List.mem_cons_of_mem _ hd)]
      simp [List.filter_cons, hp]
theorem comp_ifm {α : Type} (h : α → D) (p : α → Bool) (f : α → SV) {gi : M → Out Wk} {vs : List Nat} {b : EV → M → Out Unit} {gt : M → Out Bool} {ge : M → Out EV} {m m0 : M} {l : List α} (hi : gi m0 = .ok ⟨l.map h, always⟩ m) (hl : l.length ≤ bigLen) (al : vs.all (fun v => plainSl (m.sl[v]?.join)) = true) (hr : restM (wipeM m vs) m vs = m)
    (k : ∀ x ∈ l, ∃ m1 m2, b (.v (h x)) (wipeM m vs) = .ok () m1 ∧ gt m1 = .ok (p x) m2 ∧ (p x = false → wipeM m2 vs = wipeM m vs) ∧ (p x = true → ∃ ev m3 m4, ge m2 = .ok ev m3 ∧ elem m3 ev = .ok (f x) m4 ∧ wipeM m4 vs = wipeM m vs)) :
    dComp gi vs b gt ge m0 = .ok (.fr (.ol ((l.filter p).map f))) m := by
  have c := compI_map (vs := vs) (b := b) (gt := gt) (ge := ge) h p f l [] (wipeM m vs) (by simpa using hl) k
  unfold dComp
  rw [hi]
  show (if vs.all (fun v => plainSl (m.sl[v]?.join)) = true then _ else _) = _
  rw [if_pos al]
  show (match compI always vs b gt ge (l.map h) [] (wipeM m vs) with
    | .ok xs m2 => Out.ok (EV.fr (.ol xs)) (restM m2 m vs)
    | _ => .bad) = _
  rw [c, List.nil_append]
  show Out.ok (EV.fr (.ol ((l.filter p).map f))) (restM (wipeM m vs) m vs) = _
  rw [hr]
theorem comp_allm {α : Type} (h : α → D) (f : α → SV) {gi : M → Out Wk} {vs : List Nat} {b : EV → M → Out Unit} {ge : M → Out EV} {m m0 : M} {l : List α} (hi : gi m0 = .ok ⟨l.map h, always⟩ m) (hl : l.length ≤ bigLen) (al : vs.all (fun v => plainSl (m.sl[v]?.join)) = true) (hr : restM (wipeM m vs) m vs = m)
    (k : ∀ x ∈ l, ∃ m1 ev m3 m4, b (.v (h x)) (wipeM m vs) = .ok () m1 ∧ ge m1 = .ok ev m3 ∧ elem m3 ev = .ok (f x) m4 ∧ wipeM m4 vs = wipeM m vs) :
    dComp gi vs b (fun m => .ok true m) ge m0 = .ok (.fr (.ol (l.map f))) m := by
  have := comp_ifm (gt := fun m => .ok true m) (ge := ge) (b := b) h (fun _ => true) f hi hl al hr fun x hx => by
    obtain ⟨m1, ev, m3, m4, h1, h2, h3, h4⟩ := k x hx
    exact ⟨m1, m1, h1, rfl, ⟨fun h => (by cases h), fun _ => ⟨ev, m3, m4, h2, h3, h4⟩⟩⟩
  rw [this, List.filter_eq_self.mpr (fun _ _ => rfl)]
/-- the turns of a for keep a relation -/
theorem for_map {α β : Type} (h : α → D) (Rp : β → M → Prop) (step : β → α → β) {gi : M → Out Wk} {tg : EV → M → Out Unit} {gb : M → Out Ctl} {m0 m : M} {l : List α} {b : β} (hi : gi m0 = .ok ⟨l.map h, always⟩ m) (hb : Rp b m)
    (k : ∀ x ∈ l, ∀ b m, Rp b m → ∃ m1 m2, tg (.v (h x)) m = .ok () m1 ∧ (gb m1 = .ok .nx m2 ∨ gb m1 = .ok .ct m2) ∧ Rp (step b x) m2) :
    ∃ m', dFor gi tg gb m0 = .ok .nx m' ∧ Rp (l.foldl step b) m' := by
  have key : ∀ (l : List α) (b : β) (m : M), Rp b m → (∀ x ∈ l, ∀ b m, Rp b m → ∃ m1 m2, tg (.v (h x)) m = .ok () m1 ∧ (gb m1 = .ok .nx m2 ∨ gb m1 = .ok .ct m2) ∧ Rp (step b x) m2) → ∃ m', forI always tg gb (l.map h) m = .ok .nx m' ∧ Rp (l.foldl step b) m' := by
    intro l
    induction l with
    | nil => exact fun b m h _ => ⟨m, by simp [forI, always], h⟩
    | cons x r ih =>
      intro b m hb k
      obtain ⟨m1, m2, h1, h2, h3⟩ := k x List.mem_cons_self b m hb
      obtain ⟨m', e, h4⟩ := ih (step b x) m2 h3 fun d hd => k d (List.mem_cons_of_mem _ hd)
      refine ⟨m', ?_, h4⟩
      rw [List.map_cons]
      unfold forI
      rcases h2 with h2 | h2 <;> simp [always, h1, h2, e]
  obtain ⟨m', e, h'⟩ := key l b m hb k
  refine ⟨m', ?_, h'⟩
  unfold dFor
  rw [hi]
  exact e
/-- the same over range(n), with the position -/
theorem for_rng {gi : M → Out Wk} {tg : EV → M → Out Unit} {gb : M → Out Ctl} {m0 m : M} {n : Nat} (Rp : Nat → M → Prop) (hi : gi m0 = .ok ⟨(List.range n).map fun i => .int (i : Nat), always⟩ m) (h0 : Rp 0 m)
    (k : ∀ i, i < n → ∀ m, Rp i m → ∃ m1 m2, tg (.v (.int i)) m = .ok () m1 ∧ (gb m1 = .ok .nx m2 ∨ gb m1 = .ok .ct m2) ∧ Rp (i + 1) m2) :
    ∃ m', dFor gi tg gb m0 = .ok .nx m' ∧ Rp n m' := by
  obtain ⟨m', e, h⟩ := forI_at (tg := tg) (gb := gb) Rp ((List.range n).map fun i => D.int (i : Nat)) 0 m h0 fun j d m hd hm => by
    rw [List.getElem?_map] at hd
    have hj : j < n := by
      by_cases h : j < n
      · exact h
      · rw [List.getElem?_eq_none (by simp; omega)] at hd; cases hd
    rw [List.getElem?_range hj] at hd
    cases hd
    rw [Nat.zero_add] at hm ⊢
    exact k j hj m hm
  refine ⟨m', ?_, by simpa using h⟩
  unfold dFor
  rw [hi]
  exact e
/-! # evaluation, step by step -/
section
variable {m m1 : M}
@[simp] theorem bind_ok {α β : Type} (a : α) (m : M) (f : α → M → Out β) : (Out.ok a m).bind f = f a m := rfl
@[simp] theorem bind_exc {α β : Type} (c : Str) (d : D) (m : M) (f : α → M → Out β) : (Out.exc c d m : Out α).bind f = .exc c d m := rfl
@[simp] theorem bind_bad {α β : Type} (f : α → M → Out β) : (Out.bad : Out α).bind f = .bad := rfl
@[simp] theorem s_seq (g1 g2 : M → Out Ctl) (m : M) : dSeq g1 g2 m = (g1 m).bind fun c m1 => match c with
  | .nx => g2 m1
  | c => .ok c m1 := rfl
@[simp] theorem s_skip (m : M) : dSkip m = .ok .nx m := rfl
@[simp] theorem s_if (gt : M → Out Bool) (g1 g2 : M → Out Ctl) (m : M) : dIf gt g1 g2 m = (gt m).bind fun b m1 => if b = true then g1 m1 else g2 m1 := rfl
@[simp] theorem s_ife (gt : M → Out Bool) (ga gb : M → Out EV) (m : M) : dIfE gt ga gb m = (gt m).bind fun b m1 => if b = true then ga m1 else gb m1 := rfl
@[simp] theorem s_and (ga gb : M → Out Bool) (m : M) : dAndT ga gb m = (ga m).bind fun b m1 => if b = true then gb m1 else .ok false m1 := rfl
@[simp] theorem s_or (ga gb : M → Out Bool) (m : M) : dOrT ga gb m = (ga m).bind fun b m1 => if b = true then .ok true m1 else gb m1 := rfl
@[simp] theorem s_not (ga : M → Out Bool) (m : M) : dNotT ga m = (ga m).bind fun b m1 => .ok (!b) m1 := rfl
@[simp] theorem s_test (g : M → Out EV) (m : M) : dTest g m = (g m).bind fun ev m' => match ev with
  | .v (.bl b) => .ok b m'
  | _ => .bad := rfl
@[simp] theorem s_andv (ga gb : M → Out EV) (m : M) : dAndV ga gb m = (ga m).bind fun ev m1 => match ev with
  | .v (.bl true) => gb m1
  | .v (.bl false) => .ok (.v (.bl false)) m1
  | _ => .bad := rfl
@[simp] theorem s_drop (g : M → Out EV) (m : M) : dDrop g m = (g m).bind fun _ m1 => .ok .nx m1 := rfl
@[simp] theorem s_asg (g : M → Out EV) (b : EV → M → Out Unit) (m : M) : dAsg g b m = (g m).bind fun ev m1 => match b ev m1 with
  | .ok _ m2 => .ok .nx m2
  | _ => .bad := rfl
@[simp] theorem s_app (gs : M → Out (List EV)) (k : M → List EV → Out EV) (m : M) : dApp gs k m = (gs m).bind fun xs m1 => k m1 xs := rfl
@[simp] theorem s_nil (m : M) : dNil m = .ok [] m := rfl
@[simp] theorem s_cons (pb : Bool) (ga : M → Out EV) (gs : M → Out (List EV)) (m : M) : dCons pb ga gs m = (opd ga m).bind fun x m1 => (gs m1).bind fun xs m2 => if stable pb x = true then .ok (x :: xs) m2 else .bad := rfl
@[simp] theorem s_opd (g : M → Out EV) (m : M) : opd g m = (g m).bind fun ev m' => .ok (frE ev) m' := rfl
@[simp] theorem s_frv (d : D) : frE (.v d) = .v d := rfl
@[simp] theorem s_frf (s : SV) : frE (.fr s) = .v (frz s) := rfl
@[simp] theorem s_frb (o : Ow) (p : List Pth) : frE (.br o p) = .br o p := rfl
@[simp] theorem s_stv (pb : Bool) (d : D) : stable pb (.v d) = true := rfl
@[simp] theorem s_stb (pb : Bool) (o : Ow) : stable pb (.br o []) = true := rfl
@[simp] theorem s_stc (o : Ow) (p : List Pth) : stable true (.br o p) = true := by cases p <;> rfl
@[simp] theorem s_c (d : D) (m : M) : dC d m = .ok (.v d) m := rfl
@[simp] theorem s_bin (pb : Bool) (ga gb : M → Out EV) (k : M → EV → EV → Out EV) (m : M) : dBin pb ga gb k m = (opd ga m).bind fun x m1 => (opd gb m1).bind fun y m2 => if stable pb x = true then k m2 x y else .bad := rfl
@[simp] theorem s_un (ga : M → Out EV) (k : M → EV → Out EV) (m : M) : dUn ga k m = (opd ga m).bind fun x m1 => k m1 x := rfl
@[simp] theorem s_kv2 (op : SV → SV → Option EV) (m : M) (d e : D) : kV2 op m (.v d) (.v e) = match op (.fz d) (.fz e) with
  | some ev => .ok ev m
  | none => .bad := rfl
@[simp] theorem s_kv1 (op : SV → Option EV) (m : M) (d : D) : kV1 op m (.v d) = match op (.fz d) with
  | some ev => .ok ev m
  | none => .bad := rfl
@[simp] theorem s_retv (g : M → Out EV) (m m1 : M) (d : D) (h : g m = .ok (.v d) m1) : dRet g m = .ok (.rt (.fz d)) m1 := by unfold dRet; rw [h]; rfl
end
end PD
namespace PD
open PySem PySem.Spec PyProof.Rows L2
/-! # dicts: which keys they have -/
section
variable {κ β : Type} [DecidableEq κ]
theorem look_some (kvs : List (κ × β)) (k : κ) : (look kvs k).isSome = true ↔ k ∈ kvs.map (·.1) := by
  induction kvs with
  | nil => simp [look]
  | cons p r ih =>
    unfold look at ih ⊢
    rw [List.find?_cons]
    by_cases h : p.1 = k
    · simp [h]
    · have h' : ¬ k = p.1 := fun e => h e.symm
      simp only [h, decide_false]
      rw [ih]
      simp [h']
theorem mem_putG (kvs : List (κ × β)) (k k' : κ) (x : β) : k' ∈ (putG kvs k x).map (·.1) ↔ k' ∈ kvs.map (·.1) ∨ k' = k := by
  unfold putG
  split
  · rename_i h
    have e : (kvs.map fun kv => if kv.1 = k then (kv.1, x) else kv).map (·.1) = kvs.map (·.1) := by
      rw [List.map_map]
      refine List.map_congr_left fun kv _ => ?_
      show (if kv.1 = k then (kv.1, x) else kv).1 = kv.1
      split <;> rfl
    rw [e]
    refine ⟨.inl, fun h' => ?_⟩
    rcases h' with h' | rfl
    · exact h'
    · obtain ⟨kv, hk, e⟩ := List.any_eq_true.mp h
      rw [← of_decide_eq_true e]
      exact List.mem_map_of_mem hk
  · simp
theorem len_putG (kvs : List (κ × β)) (k : κ) (x : β) : (putG kvs k x).length ≤ kvs.length + 1 := by
  unfold putG
  split <;> simp
theorem mem_mergeG (more : List (κ × β)) (k' : κ) : ∀ kvs : List (κ × β), k' ∈ (mergeG kvs more).map (·.1) ↔ k' ∈ kvs.map (·.1) ∨ k' ∈ more.map (·.1) := by
  unfold mergeG
  induction more with
  | nil => simp
  | cons p r ih =>
    intro kvs
    rw [List.foldl_cons, ih, mem_putG]
    simp [or_assoc]
theorem len_mergeG (more : List (κ × β)) : ∀ kvs : List (κ × β), (mergeG kvs more).length ≤ kvs.length + more.length := by
  unfold mergeG
  induction more with
  | nil => simp
  | cons p r ih =>
    intro kvs
    rw [List.foldl_cons, List.length_cons]
    have := ih (putG kvs p.1 p.2)
    have := len_putG kvs p.1 p.2
    omega
theorem mem_foldG {α : Type} (kf : α → κ) (vf : α → β) (k' : κ) : ∀ (l : List α) (acc : List (κ × β)), k' ∈ (l.foldl (fun acc x => putG acc (kf x) (vf x)) acc).map (·.1) ↔ k' ∈ acc.map (·.1) ∨ k' ∈ l.map kf
  | [], acc => by simp
  | x :: l, acc => by
    rw [List.foldl_cons, mem_foldG kf vf k' l, mem_putG]
    simp [or_assoc]
theorem len_foldG {α : Type} (kf : α → κ) (vf : α → β) : ∀ (l : List α) (acc : List (κ × β)), (l.foldl (fun acc x => putG acc (kf x) (vf x)) acc).length ≤ acc.length + l.length
  | [], acc => by simp
  | x :: l, acc => by
    rw [List.foldl_cons, List.length_cons]
    have := len_foldG kf vf l (putG acc (kf x) (vf x))
    have := len_putG acc (kf x) (vf x)
    omega
end
/-- k not in d, d a dict -/
theorem nin_dict (m : M) (o : Ow) (i : Int) (kvs : List (Key × SV)) (h : get m o = some (.ok kvs)) : kV2 pNotInA m (.v (.int i)) (.br o []) = .ok (.v (.bl (!(look kvs (.inl i : Key)).isSome))) m := by
  have v : PD.view m (.br o []) = some (.ok kvs) := by simp [PD.view, h, PD.sub]
  have e : pNotInA (.fz (.int i)) (.ok kvs) = some (.v (.bl (!(look kvs (.inl i : Key)).isSome))) := rfl
  unfold kV2
  rw [v]
  show (match pNotInA (.fz (.int i)) (.ok kvs) with
    | some ev => Out.ok ev m
    | none => .bad) = _
  rw [e]
theorem compK_map {α : Type} {vs : List Nat} {b : EV → M → Out Unit} {gk gv : M → Out EV} (h : α → D) (kf : α → Key) (vf : α → D) : ∀ (l : List α) (acc : List (Key × D)) (m : M), acc.length + l.length ≤ bigLen →
    (∀ x ∈ l, ∃ m1 ek m3 ev m4 m5, b (.v (h x)) m = .ok () m1 ∧ gk m1 = .ok ek m3 ∧ keyEV ek = some (kf x) ∧ gv m3 = .ok ev m4 ∧ dFzE m4 ev = .ok (vf x) m5 ∧ wipeM m5 vs = m) →
    compK always vs b (fun m => .ok true m) gk gv (l.map h) acc m = .ok (l.foldl (fun acc x => putG acc (kf x) (vf x)) acc) m
  | [], acc, m, _, _ => by simp [compK, always]
  | x :: r, acc, m, hl, k => by
    obtain ⟨m1, ek, m3, ev, m4, m5, h1, h2, h3, h4, h5, h6⟩ := k x List.mem_cons_self
    rw [List.map_cons]
    unfold compK
    rw [List.length_cons] at hl
    have hb : acc.length < bigLen := by omega
    simp only [always, if_true, h1, h2, h3, h4, h5, hb, h6]
    rw [compK_map h kf vf r (putG acc (kf x) (vf x)) m (by have := len_putG acc (kf x) (vf x); omega) fun d hd => k d (List.mem_cons_of_mem _ hd)]
    rfl
theorem compK_of {α : Type} (h : α → D) (kf : α → Key) (vf : α → D) {gi : M → Out Wk} {vs : List Nat} {b : EV → M → Out Unit} {gk gv : M → Out EV} {m m0 : M} {l : List α} (hi : gi m0 = .ok ⟨l.map h, always⟩ m) (hl : l.length ≤ bigLen) (al : vs.all (fun v => plainSl (m.sl[v]?.join)) = true) (hr : restM (wipeM m vs) m vs = m)
    (k : ∀ x ∈ l, ∃ m1 ek m3 ev m4 m5, b (.v (h x)) (wipeM m vs) = .ok () m1 ∧ gk m1 = .ok ek m3 ∧ keyEV ek = some (kf x) ∧ gv m3 = .ok ev m4 ∧ dFzE m4 ev = .ok (vf x) m5 ∧ wipeM m5 vs = wipeM m vs) :
    dCompK gi vs b (fun m => .ok true m) gk gv m0 = .ok (.fr (.ok ((l.foldl (fun acc x => putG acc (kf x) (vf x)) ([] : List (Key × D))).map fun kv => (kv.1, SV.fz kv.2)))) m := by
  have c := compK_map (vs := vs) (b := b) (gk := gk) (gv := gv) h kf vf l [] (wipeM m vs) (by simpa using hl) k
  unfold dCompK
  rw [hi]
  show (if vs.all (fun v => plainSl (m.sl[v]?.join)) = true then _ else _) = _
  rw [if_pos al]
  show (match compK always vs b (fun m => .ok true m) gk gv (l.map h) [] (wipeM m vs) with
    | .ok xs m2 => Out.ok (EV.fr (.ok (xs.map fun (kv : Key × D) => (kv.1, SV.fz kv.2)))) (restM m2 m vs)
    | _ => .bad) = _
  rw [c]
  show Out.ok _ (restM (wipeM m vs) m vs) = _
  rw [hr]
/-! # what a list or a dict of one's own takes up -/
theorem append_of {a : Nat} {pb : Bool} {ga : M → Out EV} {m : M} {xs : List SV} {d : D} (hv : dVar a m = .ok (.br (.s a) []) m) (hg : get m (.s a) = some (.ol xs)) (h : ga m = .ok (.v d) m) (hl : xs.length < bigLen) :
    dDrop (dMt1 "list" pb (dVar a) ga fAppend) m = .ok .nx (setO m (.s a) (.ol (xs ++ [.fz d]))) := by
  have it : isTy m (.br (.s a) []) "list" = true := by simp [isTy, PD.view, hg, PD.sub, tyS]
  unfold dDrop dMt1
  rw [hv]
  simp only [Out.bind, it, nofr, stable, Bool.and_self, if_true, h, ownE, kMut, hg, PD.sub, fAppend, hl, PD.put]
theorem appendF_of {a : Nat} {pb : Bool} {ga : M → Out EV} {m : M} {xs : List SV} {s : SV} (hv : dVar a m = .ok (.br (.s a) []) m) (hg : get m (.s a) = some (.ol xs)) (h : ga m = .ok (.fr s) m) (hl : xs.length < bigLen) :
    dDrop (dMt1 "list" pb (dVar a) ga fAppend) m = .ok .nx (setO m (.s a) (.ol (xs ++ [s]))) := by
  have it : isTy m (.br (.s a) []) "list" = true := by simp [isTy, PD.view, hg, PD.sub, tyS]
  unfold dDrop dMt1
  rw [hv]
  simp only [Out.bind, it, nofr, stable, Bool.and_self, if_true, h, ownE, kMut, hg, PD.sub, fAppend, hl, PD.put]
theorem update_of {a : Nat} {pb : Bool} {ga : M → Out EV} {m m1 : M} {kvs more : List (Key × SV)} (hv : dVar a m = .ok (.br (.s a) []) m) (hm : get m (.s a) = some (.ok kvs)) (hg : get m1 (.s a) = some (.ok kvs)) (h : ga m = .ok (.fr (.ok more)) m1) (hl : kvs.length + more.length ≤ bigLen) :
    dDrop (dMt "dict" pb (dVar a) (dCons true ga dNil) fUpd) m = .ok .nx (setO m1 (.s a) (.ok (mergeG kvs ((frzK more).map fun kv => (kv.1, .fz kv.2))))) := by
  have it : isTy m (.br (.s a) []) "dict" = true := by simp [isTy, PD.view, hm, PD.sub, tyS]
  have lf : ∀ l : List (Key × SV), (frzK l).length = l.length := fun l => by
    induction l with
    | nil => rfl
    | cons p r ih => simp [frzK, ih]
  have hl' : kvs.length + (frzK more).length ≤ bigLen := by rw [lf]; exact hl
  unfold dDrop dMt
  rw [hv]
  simp only [Out.bind, it, nofr, stable, Bool.and_self, if_true, dCons, opd, h, frE, dNil, evD, dFzE, frz, List.map_cons, List.map_nil, kMut, hg, PD.sub, fUpd, hl', PD.put]
theorem keys_frzK : ∀ l : List (Key × SV), (frzK l).map (·.1) = l.map (·.1)
  | [] => rfl
  | (k, x) :: r => by simp [frzK, keys_frzK r]
theorem len_frzK : ∀ l : List (Key × SV), (frzK l).length = l.length
  | [] => rfl
  | (k, x) :: r => by simp [frzK, len_frzK r]
/-! # calls of one argument that is new -/
theorem appF_of {pb : Bool} {ga : M → Out EV} {k : M → List EV → Out EV} {m m1 : M} {s : SV} (h : ga m = .ok (.fr s) m1) : dApp (dCons pb ga dNil) k m = k m1 [.v (frz s)] := by
  simp only [dApp, dCons, opd, h, Out.bind, frE, dNil, stable, if_true]
theorem bools_map {α : Type} (f : α → Bool) : ∀ l : List α, boolsD (l.map fun x => D.bl (f x)) = some (l.map f)
  | [] => rfl
  | x :: l => by rw [List.map_cons, boolsD, bools_map f l]; rfl
theorem any_of {α : Type} (f : α → Bool) (l : List α) (m : M) : kVN pAny m [.v (.lst (l.map fun x => .bl (f x)))] = .ok (.v (.bl (l.any f))) m := by
  have e : pAny [.fz (.lst (l.map fun x => .bl (f x)))] = some (.v (.bl ((l.map f).any id))) := by
    show ((lstD (.fz (.lst (l.map fun x => .bl (f x))))).bind boolsD).map _ = _
    show ((boolsD (l.map fun x => D.bl (f x)))).map _ = _
    rw [bools_map]
    rfl
  show (match pAny [.fz (.lst (l.map fun x => .bl (f x)))] with
    | some ev => Out.ok ev m
    | none => .bad) = _
  rw [e, List.any_map]
  rfl
theorem frzL_fm {α : Type} (f : α → D) : ∀ ds : List α, frzL (ds.map fun d => SV.fz (f d)) = ds.map f
  | [] => rfl
  | d :: ds => by rw [List.map_cons, frzL, frz, frzL_fm f ds]; rfl
theorem frz_fm {α : Type} (f : α → D) (ds : List α) : frz (.ol (ds.map fun d => SV.fz (f d))) = .lst (ds.map f) := by
  rw [frz, frzL_fm]
/-! # calls, by their arguments -/
theorem opdF_of {ga : M → Out EV} {m m1 : M} {s : SV} (h : ga m = .ok (.fr s) m1) : opd ga m = .ok (.v (frz s)) m1 := by unfold opd; rw [h]; rfl
theorem opdX_of {ga : M → Out EV} {m m1 : M} {c : Str} {d : D} (h : ga m = .exc c d m1) : opd ga m = .exc c d m1 := by unfold opd; rw [h]; rfl
theorem cons_of {pb : Bool} {ga : M → Out EV} {gs : M → Out (List EV)} {m m1 m2 : M} {x : EV} {xs : List EV} (h1 : opd ga m = .ok x m1) (h2 : gs m1 = .ok xs m2) (s1 : stable pb x = true := by rfl) : dCons pb ga gs m = .ok (x :: xs) m2 := by
  unfold dCons; rw [h1]; simp only [Out.bind]; rw [h2]; simp only [s1, if_true]
theorem consX1 {pb : Bool} {ga : M → Out EV} {gs : M → Out (List EV)} {m m1 : M} {c : Str} {d : D} (h1 : opd ga m = .exc c d m1) : dCons pb ga gs m = .exc c d m1 := by
  unfold dCons; rw [h1]; rfl
theorem consX2 {pb : Bool} {ga : M → Out EV} {gs : M → Out (List EV)} {m m1 m2 : M} {x : EV} {c : Str} {d : D} (h1 : opd ga m = .ok x m1) (h2 : gs m1 = .exc c d m2) : dCons pb ga gs m = .exc c d m2 := by
  unfold dCons; rw [h1]; simp only [Out.bind]; rw [h2]
theorem app_of {gs : M → Out (List EV)} {k : M → List EV → Out EV} {m m1 : M} {xs : List EV} (h : gs m = .ok xs m1) : dApp gs k m = k m1 xs := by unfold dApp; rw [h]; rfl
theorem appX_of {gs : M → Out (List EV)} {k : M → List EV → Out EV} {m m1 : M} {c : Str} {d : D} (h : gs m = .exc c d m1) : dApp gs k m = .exc c d m1 := by unfold dApp; rw [h]; rfl
theorem nil_of (m : M) : dNil m = .ok [] m := rfl
theorem iseq_of {g : M → Out EV} {m m1 m2 : M} {ev : EV} {d : D} {ds : List D} (h : g m = .ok ev m1) (h1 : dFzE m1 ev = .ok d m2) (h2 : seqOf (.v d) = some ds) : dISeq g m = .ok ⟨ds, fun _ => True⟩ m2 := by
  unfold dISeq dFz; rw [h]; simp only [Out.bind]; rw [h1]; simp only [h2]
theorem iseqX_of {g : M → Out EV} {m m1 : M} {c : Str} {d : D} (h : g m = .exc c d m1) : dISeq g m = .exc c d m1 := by
  unfold dISeq dFz; rw [h]; rfl
theorem compX_of {gi : M → Out Wk} {vs : List Nat} {b : EV → M → Out Unit} {gt : M → Out Bool} {ge : M → Out EV} {m m1 : M} {c : Str} {d : D} (h : gi m = .exc c d m1) : dComp gi vs b gt ge m = .exc c d m1 := by
  unfold dComp; rw [h]; rfl
theorem lr_of {g : M → Out EV} {m m1 : M} {n : Nat} (h : g m = .ok (.v (.int n)) m1) (hn : n ≤ bigLen) : dLR g m = .ok (.fr (.ol ((rgD n).map .fz))) m1 := by
  unfold dLR; rw [h]; simp only [Out.bind]; rw [if_pos ⟨by omega, by omega⟩]
theorem frz_fz (ds : List D) : frz (.ol (ds.map SV.fz)) = .lst ds := by
  have := frz_fm (fun d : D => d) ds
  rw [List.map_id'] at this
  exact this
end PD
namespace PD
open PySem PySem.Spec PyProof.Rows L2
/-! # values, one operation after another -/
section
variable {m m1 m2 : M}
theorem bin3 {pb : Bool} {ga gb : M → Out EV} {k : M → EV → EV → Out EV} {x y : D} {z : EV} (h1 : ga m = .ok (.v x) m1) (h2 : gb m1 = .ok (.v y) m2) (h3 : k m2 (.v x) (.v y) = .ok z m2) : dBin pb ga gb k m = .ok z m2 := by
  unfold dBin
  rw [opd_of h1]
  simp only [Out.bind]
  rw [opd_of h2]
  simp only [stable, if_true]
  exact h3
/-- a part of a thing with a name of its own -/
theorem binP {ga gb : M → Out EV} {k : M → EV → EV → Out EV} {o : Ow} {p : List Pth} {y : D} {z : EV} (h1 : ga m = .ok (.br o p) m1) (h2 : gb m1 = .ok (.v y) m2) (h3 : k m2 (.br o p) (.v y) = .ok z m2) : dBin true ga gb k m = .ok z m2 := by
  unfold dBin
  rw [opd_of h1]
  simp only [Out.bind]
  rw [opd_of h2]
  simp only [s_stc, if_true]
  exact h3
theorem un3 {ga : M → Out EV} {k : M → EV → Out EV} {x : D} {z : EV} (h1 : ga m = .ok (.v x) m1) (h3 : k m1 (.v x) = .ok z m1) : dUn ga k m = .ok z m1 := by
  unfold dUn
  rw [opd_of h1]
  exact h3
theorem plusI (i j : Int) : kV2 pPlus m (.v (.int i)) (.v (.int j)) = .ok (.v (.int (i + j))) m := rfl
theorem subI (i j : Int) : kV2 pSub m (.v (.int i)) (.v (.int j)) = .ok (.v (.int (i - j))) m := rfl
theorem mulI {i j : Int} (h : CMul i j) : kV2 pMul m (.v (.int i)) (.v (.int j)) = .ok (.v (.int (i * j))) m := by
  have e : pMul (.fz (.int i)) (.fz (.int j)) = some (.v (.int (i * j))) := by
    show orOp (int2 CMul fun i j => D.int (i * j)) pRep (.fz (.int i)) (.fz (.int j)) = _
    unfold orOp
    rw [show int2 CMul (fun i j => D.int (i * j)) (.fz (.int i)) (.fz (.int j)) = some (.v (.int (i * j))) from if_pos h]
  rw [s_kv2, e]
theorem modI {i j : Int} (h : 0 < j) : kV2 pMod m (.v (.int i)) (.v (.int j)) = .ok (.v (.int (i % j))) m := by
  have e : pMod (.fz (.int i)) (.fz (.int j)) = some (.v (.int (i % j))) := if_pos h
  rw [s_kv2, e]
theorem divI {i j : Int} (h : CDiv i j) : kV2 pDiv m (.v (.int i)) (.v (.int j)) = .ok (.v (.int (i / j))) m := by
  have e : pDiv (.fz (.int i)) (.fz (.int j)) = some (.v (.int (i / j))) := if_pos h
  rw [s_kv2, e]
theorem powI {i j : Int} (h : CPow i j) : kV2 pPow m (.v (.int i)) (.v (.int j)) = .ok (.v (.int (i ^ j.toNat))) m := by
  have e : pPow (.fz (.int i)) (.fz (.int j)) = some (.v (.int (i ^ j.toNat))) := if_pos h
  rw [s_kv2, e]
theorem geI (i j : Int) : kV2 pGe m (.v (.int i)) (.v (.int j)) = .ok (.v (.bl (decide (j ≤ i)))) m := rfl
theorem ltI (i j : Int) : kV2 pLt m (.v (.int i)) (.v (.int j)) = .ok (.v (.bl (decide (i < j)))) m := rfl
theorem gtI (i j : Int) : kV2 pGt m (.v (.int i)) (.v (.int j)) = .ok (.v (.bl (decide (j < i)))) m := rfl
theorem negI (i : Int) : kV1 pNeg m (.v (.int i)) = .ok (.v (.int (-i))) m := rfl
theorem cmulR {i j : Int} (h : -(2 ^ 64) < j ∧ j < 2 ^ 64) : CMul i j := .inr h
theorem cmulL {i j : Int} (h : -(2 ^ 64) < i ∧ i < 2 ^ 64) : CMul i j := .inl h
end
theorem look_cons {κ β : Type} [DecidableEq κ] (k k' : κ) (x : β) (r : List (κ × β)) : look ((k, x) :: r) k' = if k = k' then some x else look r k' := by
  unfold look
  rw [List.find?_cons]
  by_cases h : k = k'
  · simp [h]
  · simp [h]
/-! # the law's deck -/
def intsS (cells : List Int) : SV := .ol (cells.map fun i => .fz (.int i))
def deckS (cells : List Int) (mixed turn : Int) : SV := .ok [(.inr "cells", intsS cells), (.inr "mixed", .fz (.int mixed)), (.inr "turn", .fz (.int turn))]
theorem k_cm : ((.inr "cells" : Key) = .inr "mixed") = False := eq_false (by decide)
theorem k_ct : ((.inr "cells" : Key) = .inr "turn") = False := eq_false (by decide)
theorem k_mt : ((.inr "mixed" : Key) = .inr "turn") = False := eq_false (by decide)
theorem s_cm : (("cells" : Str) = "mixed") = False := eq_false (by decide)
theorem s_ct : (("cells" : Str) = "turn") = False := eq_false (by decide)
theorem s_mt : (("mixed" : Str) = "turn") = False := eq_false (by decide)
theorem dk_cells (m : M) (o : Ow) {c : List Int} {x t : Int} (h : get m o = some (deckS c x t)) : kIx m (.br o []) (.v (.str "cells")) = .ok (.br o [.k (.inr "cells")]) m := by
  have e : stepIx (deckS c x t) (.fz (.str "cells")) = some (intsS c, .k (.inr "cells")) := by
    unfold deckS stepIx
    simp [dlook, keyOf, keyD, dctK, look_cons]
  have v : PD.view m (.br o []) = some (deckS c x t) := by simp [PD.view, h, PD.sub]
  unfold kIx
  rw [v]
  simp only [PD.view, e]
  rfl
theorem dk_mixed (m : M) (o : Ow) {c : List Int} {x t : Int} (h : get m o = some (deckS c x t)) : kIx m (.br o []) (.v (.str "mixed")) = .ok (.v (.int x)) m := by
  have e : stepIx (deckS c x t) (.fz (.str "mixed")) = some (.fz (.int x), .k (.inr "mixed")) := by
    unfold deckS stepIx
    simp [dlook, keyOf, keyD, dctK, look_cons, s_cm]
  have v : PD.view m (.br o []) = some (deckS c x t) := by simp [PD.view, h, PD.sub]
  unfold kIx
  rw [v]
  simp only [PD.view, e]
theorem dk_turn (m : M) (o : Ow) {c : List Int} {x t : Int} (h : get m o = some (deckS c x t)) : kIx m (.br o []) (.v (.str "turn")) = .ok (.v (.int t)) m := by
  have e : stepIx (deckS c x t) (.fz (.str "turn")) = some (.fz (.int t), .k (.inr "turn")) := by
    unfold deckS stepIx
    simp [dlook, keyOf, keyD, dctK, look_cons, s_ct, s_mt]
  have v : PD.view m (.br o []) = some (deckS c x t) := by simp [PD.view, h, PD.sub]
  unfold kIx
  rw [v]
  simp only [PD.view, e]
theorem dk_sub (c : List Int) (x t : Int) : PD.sub (deckS c x t) [.k (.inr "cells")] = some (intsS c) := by
  unfold deckS
  simp [PD.sub, look_cons]
theorem dk_put (c c' : List Int) (x t : Int) : PD.put (deckS c x t) [.k (.inr "cells")] (intsS c') = deckS c' x t := by
  unfold deckS
  simp [PD.put, look_cons, repl, s_cm, s_ct]
/-! # slices, several targets, displays -/
theorem cut_take {α : Type} (l : List α) (k : Nat) : PD.cutD l none (some (k : Int)) = l.take k := by
  unfold PD.cutD
  rw [HT.sIx_none, HT.sIx_nat, List.drop_zero, Nat.sub_zero]
  by_cases h : k ≤ l.length
  · rw [Nat.min_eq_left h]
  · rw [Nat.min_eq_right (by omega), List.take_of_length_le (Nat.le_refl _), List.take_of_length_le (by omega)]
theorem sl_of {pl ph : Bool} {ga : M → Out EV} {m m1 : M} {x ev : EV} {s : SV} {k : Int} (h : opd ga m = .ok x m1) (hv : PD.view m1 x = some s) (hp : pSl s none (some k) = some ev) (st : stable (pl && ph) x = true := by rfl) : dSl pl ph ga dNoPart (dPart (dC (.int k))) m = .ok ev m1 := by
  unfold dSl
  rw [h]
  simp only [Out.bind, dNoPart, dPart, dC, st, if_true, hv, hp]
theorem raw_of {gv : M → Out EV} {gr : M → Out (List SV)} {m m1 m2 m3 : M} {ev : EV} {s : SV} {ss : List SV} (h : gv m = .ok ev m1) (h1 : ownE m1 ev = .ok s m2) (h2 : gr m2 = .ok ss m3) : dRaw gv gr m = .ok (s :: ss) m3 := by
  unfold dRaw; rw [h]; simp only [Out.bind]; rw [h1]; simp only [h2]
theorem par_of {is : List Nat} {g : M → Out (List SV)} {m m1 m2 : M} {ss : List SV} (h : g m = .ok ss m1) (h2 : putSl is ss m1 = .ok () m2) : dPar is g m = .ok .nx m2 := by
  unfold dPar; rw [h]; simp only [Out.bind]; rw [h2]
theorem pair_of {gk gv : M → Out EV} {gr : M → Out (List (Key × SV))} {m m1 m2 m3 m4 : M} {ek ev : EV} {k : Key} {s : SV} {kvs : List (Key × SV)} (h : gk m = .ok ek m1) (hk : keyEV ek = some k) (h1 : gv m1 = .ok ev m2) (h2 : ownE m2 ev = .ok s m3) (h3 : gr m3 = .ok kvs m4) : dPairs gk gv gr m = .ok ((k, s) :: kvs) m4 := by
  unfold dPairs; rw [h]; simp only [Out.bind, hk]; rw [h1]; simp only []; rw [h2]; simp only [h3]
theorem disp_of {g : M → Out (List (Key × SV))} {m m1 : M} {kvs : List (Key × SV)} (h : g m = .ok kvs m1) (hl : kvs.length ≤ 15) (nd : (kvs.map (·.1)).Nodup) : dDisp g m = .ok (.fr (.ok kvs)) m1 := by
  unfold dDisp; rw [h]; simp only [Out.bind]; rw [if_pos ⟨hl, nd⟩]
theorem retF_of {g : M → Out EV} {m m1 : M} {s : SV} (h : g m = .ok (.fr s) m1) : dRet g m = .ok (.rt s) m1 := by unfold dRet; rw [h]; rfl
theorem appendM_of {a : Nat} {pb : Bool} {ga : M → Out EV} {m m1 : M} {xs : List SV} {d : D} (hv : dVar a m = .ok (.br (.s a) []) m) (hg : get m (.s a) = some (.ol xs)) (hg' : get m1 (.s a) = some (.ol xs)) (h : ga m = .ok (.v d) m1) (hl : xs.length < bigLen) :
    dDrop (dMt1 "list" pb (dVar a) ga fAppend) m = .ok .nx (setO m1 (.s a) (.ol (xs ++ [.fz d]))) := by
  have it : isTy m (.br (.s a) []) "list" = true := by simp [isTy, PD.view, hg, PD.sub, tyS]
  unfold dDrop dMt1
  rw [hv]
  simp only [Out.bind, it, nofr, stable, Bool.and_self, if_true, h, ownE, kMut, hg', PD.sub, fAppend, hl, PD.put]
end PD
namespace K15
open PySem PySem.Spec PyProof.Rows L2 PD
variable {mg : Str → Option Value}
theorem eqI (m : M) (i j : Int) : kV2 (bin2 pEq) m (.v (.int i)) (.v (.int j)) = .ok (.v (.bl (decide (i = j)))) m := by
  simp [kV2, PD.view, bin2, toPyS, toPy, pEq, dMin, PyData.depth, eqv_int]
theorem neI (m : M) (i j : Int) : kV2 (bin2 pNe) m (.v (.int i)) (.v (.int j)) = .ok (.v (.bl (!decide (i = j)))) m := by
  simp [kV2, PD.view, bin2, toPyS, toPy, pNe, dMin, PyData.depth, eqv_int]
theorem test_of {g : M → Out EV} {m m1 : M} {b : Bool} (h : g m = .ok (.v (.bl b)) m1) : dTest g m = .ok b m1 := by
  unfold dTest; rw [h]; rfl
theorem and_of {ga gb : M → Out Bool} {m m1 m2 : M} {a b : Bool} (h1 : ga m = .ok a m1) (h2 : a = true → gb m1 = .ok b m2) (h3 : a = false → m1 = m2) : dAndT ga gb m = .ok (a && b) m2 := by
  unfold dAndT
  rw [h1]
  cases a with
  | true => simp [h2 rfl]
  | false => simp [h3 rfl]
theorem if_of {gt : M → Out Bool} {g1 g2 : M → Out Ctl} {m m1 : M} {b : Bool} (h : gt m = .ok b m1) : dIf gt g1 g2 m = if b = true then g1 m1 else g2 m1 := by
  unfold dIf; rw [h]; rfl
/-! ### sure_grades -/
def sgM (n : Nat) (d : D) (G : List (List Int)) : M := ⟨[some (.sv (.fz (.int n))), some (.sv (.fz d)), some (.sv (matS G)), none], []⟩
theorem sg_any (n : Nat) (hn : n ≤ bigLen) (d : D) (G : List (List Int)) (w : wfM n G) :
    dApp (dCons true (dComp (dIter (dCons true (dVar 0) dNil) kRange1) [3] (bName 3) (fun m => .ok true m) (dBin true (dBin true (dBin true (dVar 2) (dVar 3) kIx) (dVar 3) kIx) (dC (.int 2)) (kV2 (bin2 pEq)))) dNil) (kVN pAny) (sgM n d G) = .ok (.v (.bl ((List.range n).any fun i => decide (getM G i i = 2)))) (sgM n d G) := by
  have key := comp_allm (vs := [3]) (b := bName 3) (ge := dBin true (dBin true (dBin true (dVar 2) (dVar 3) kIx) (dVar 3) kIx) (dC (.int 2)) (kV2 (bin2 pEq))) (m := sgM n d G) (fun i : Nat => D.int i) (fun i => .fz (.bl (decide (getM G i i = 2)))) (rng1 (i := 0) (m := sgM n d G) rfl hn) (by simpa using hn) rfl rfl fun i hi => by
    have hi := List.mem_range.mp hi
    obtain ⟨r, p1, p2, p3⟩ := wf_get w hi hi
    have e := ev_mat (m := ⟨[some (.sv (.fz (.int n))), some (.sv (.fz d)), some (.sv (matS G)), some (.sv (.fz (.int i)))], []⟩) (a := 2) (b := 3) (c := 3) (o := .s 2) (i := i) (j := i) rfl rfl rfl rfl p1 p2
    refine ⟨⟨[some (.sv (.fz (.int n))), some (.sv (.fz d)), some (.sv (matS G)), some (.sv (.fz (.int i)))], []⟩, .v (.bl (decide (getM G i i = 2))), ⟨[some (.sv (.fz (.int n))), some (.sv (.fz d)), some (.sv (matS G)), some (.sv (.fz (.int i)))], []⟩, ⟨[some (.sv (.fz (.int n))), some (.sv (.fz d)), some (.sv (matS G)), some (.sv (.fz (.int i)))], []⟩, rfl, ?_, rfl, rfl⟩
    rw [bin_of (opd_of e) (opd_of (g := dC (.int 2)) (x := .v (.int 2)) rfl)]
    exact eqI _ _ _
  rw [appF_of key, frz_fm (fun i : Nat => D.bl (decide (getM G i i = 2)))]
  exact any_of (fun i : Nat => decide (getM G i i = 2)) _ _
theorem e_sure (n : Nat) (hn : n ≤ bigLen) (rows : List Row) (hr : In n rows) (dg : ∀ i, i < n → getM (clos n rows) i i ≤ 1) : Rn (den_sure_grades mg [.fz (.int n), .fz (.tup (rows.map rowT))] []) (matS (clos n rows)) [] := by
  have c := call2 (m := ⟨[some (.sv (.fz (.int n))), some (.sv (.fz (.tup (rows.map rowT)))), none, none], []⟩) (e_closure (mg := mg) n hn rows hr)
  have a := sg_any n hn (.tup (rows.map rowT)) (clos n rows) (wf_clos n rows)
  have no : ((List.range n).any fun i => decide (getM (clos n rows) i i = 2)) = false := by
    rw [List.any_eq_false]
    intro i hi
    have := dg i (List.mem_range.mp hi)
    simp; omega
  rw [no] at a
  have key : b_sure_grades mg (enter 4 [.fz (.int n), .fz (.tup (rows.map rowT))] []) = .ok (.rt (matS (clos n rows))) ⟨[some (.sv (.fz (.int n))), some (.sv (.fz (.tup (rows.map rowT)))), none, none], []⟩ := by
    unfold b_sure_grades
    have e1 : dAsg (dApp (dCons true (dVar 0) (dCons true (dVar 1) dNil)) (callK 2 (den_closure mg))) (bName 2) (enter 4 [.fz (.int n), .fz (.tup (rows.map rowT))] []) = .ok .nx (sgM n (.tup (rows.map rowT)) (clos n rows)) := by
      unfold dAsg
      rw [app2_of (ga := dVar 0) (gb := dVar 1) (x := .v (.int n)) (y := .v (.tup (rows.map rowT))) rfl rfl]
      rw [show enter 4 [.fz (.int n), .fz (.tup (rows.map rowT))] [] = ⟨[some (.sv (.fz (.int n))), some (.sv (.fz (.tup (rows.map rowT)))), none, none], []⟩ from rfl, c]
      rfl
    rw [seq_nx e1, seq_nx (m1 := sgM n (.tup (rows.map rowT)) (clos n rows)) (by rw [if_of (test_of a)]; rfl)]
    rfl
  exact def_rt (n := 4) (b := b_sure_grades mg) (as := [.fz (.int n), .fz (.tup (rows.map rowT))]) (pins := []) key
theorem x_sure (n : Nat) (hn : n ≤ bigLen) (rows : List Row) (hr : In n rows) (dg : ∃ i, i < n ∧ getM (clos n rows) i i = 2) : RnX (den_sure_grades mg [.fz (.int n), .fz (.tup (rows.map rowT))] []) "NoHeights" (.tup (rows.map rowT)) [] := by
  have c := call2 (m := ⟨[some (.sv (.fz (.int n))), some (.sv (.fz (.tup (rows.map rowT)))), none, none], []⟩) (e_closure (mg := mg) n hn rows hr)
  have a := sg_any n hn (.tup (rows.map rowT)) (clos n rows) (wf_clos n rows)
  have no : ((List.range n).any fun i => decide (getM (clos n rows) i i = 2)) = true := by
    rw [List.any_eq_true]
    obtain ⟨i, hi, e⟩ := dg
    exact ⟨i, List.mem_range.mpr hi, by simp [e]⟩
  rw [no] at a
  have key : b_sure_grades mg (enter 4 [.fz (.int n), .fz (.tup (rows.map rowT))] []) = .exc "NoHeights" (.tup (rows.map rowT)) (sgM n (.tup (rows.map rowT)) (clos n rows)) := by
    unfold b_sure_grades
    have e1 : dAsg (dApp (dCons true (dVar 0) (dCons true (dVar 1) dNil)) (callK 2 (den_closure mg))) (bName 2) (enter 4 [.fz (.int n), .fz (.tup (rows.map rowT))] []) = .ok .nx (sgM n (.tup (rows.map rowT)) (clos n rows)) := by
      unfold dAsg
      rw [app2_of (ga := dVar 0) (gb := dVar 1) (x := .v (.int n)) (y := .v (.tup (rows.map rowT))) rfl rfl]
      rw [show enter 4 [.fz (.int n), .fz (.tup (rows.map rowT))] [] = ⟨[some (.sv (.fz (.int n))), some (.sv (.fz (.tup (rows.map rowT)))), none, none], []⟩ from rfl, c]
      rfl
    rw [seq_nx e1]
    refine seq_exc ?_
    rw [if_of (test_of a)]
    rfl
  exact def_exc (n := 4) (b := b_sure_grades mg) (as := [.fz (.int n), .fz (.tup (rows.map rowT))]) (pins := []) key
/-! ### order_of -/
theorem tyK_int (i : Int) : tyK (.int i) = true := rfl
theorem rows_ok {n : Nat} {rows : List Row} (hr : In n rows) : (rows.map rowT).all rowK = true ∧ (rows.map rowT).all (rowOk n) = true := by
  rw [List.all_eq_true, List.all_eq_true]
  refine ⟨fun d hd => ?_, fun d hd => ?_⟩ <;> obtain ⟨r, h, rfl⟩ := List.mem_map.mp hd
  · rfl
  · have := hr r h
    show (betwD n (.int r.1) && betwD n (.int r.2.1) && true) = true
    simp [betwD]
    omega
theorem mem_len {n : Nat} (p : Nat → Bool) (j : Nat) : ((List.range j).filter p).length ≤ j := by
  have := List.length_filter_le p (List.range j)
  rw [List.length_range] at this
  exact this
def ordJ (G : List (List Int)) (i j : Nat) : List Row := ((List.range j).filter fun j => decide (i ≠ j ∧ getM G i j ≠ 0)).map fun j => (i, j, decide (getM G i j = 2))
def ordI (n : Nat) (G : List (List Int)) (i : Nat) : List Row := (List.range i).flatMap fun i => ordJ G i n
theorem ordJ_succ (G : List (List Int)) (i j : Nat) : ordJ G i (j + 1) = ordJ G i j ++ if i ≠ j ∧ getM G i j ≠ 0 then [(i, j, decide (getM G i j = 2))] else [] := by
  unfold ordJ
  rw [List.range_succ, List.filter_append, List.map_append]
  congr 1
  by_cases h : i ≠ j ∧ getM G i j ≠ 0
  · simp [h]
  · simp [h]
theorem ordI_succ (n : Nat) (G : List (List Int)) (i : Nat) : ordI n G (i + 1) = ordI n G i ++ ordJ G i n := by
  unfold ordI
  rw [List.range_succ, List.flatMap_append]
  simp
theorem ordJ_len (G : List (List Int)) (i j : Nat) : (ordJ G i j).length ≤ j := by
  unfold ordJ
  rw [List.length_map]
  exact mem_len (n := j) _ j
theorem ordI_len (n : Nat) (G : List (List Int)) : ∀ i, (ordI n G i).length ≤ i * n
  | 0 => by simp [ordI]
  | i + 1 => by
    rw [ordI_succ, List.length_append, Nat.add_mul]
    have := ordI_len n G i
    have := ordJ_len G i n
    omega
def orM (n : Nat) (d : D) (G : List (List Int)) (fd : List Row) (a b : Option Sl) : M := ⟨[some (.sv (.fz (.int n))), some (.sv (.fz d)), some (.sv (matS G)), some (.sv (.ol (fd.map fun r => .fz (rowT r)))), a, b], []⟩
theorem or_loop (n : Nat) (hn : n ≤ 1000) (d : D) (G : List (List Int)) (w : wfM n G) :
    ∃ m', (dFor (dIter (dCons true (dVar 0) dNil) kRange1) (bName 4)
 (dFor (dIter (dCons true (dVar 0) dNil) kRange1) (bName 5)
 (dIf (dAndT (dTest (dBin true (dVar 4) (dVar 5) (kV2 (bin2 pNe)))) (dTest (dBin true (dBin true (dBin true (dVar 2) (dVar 4) kIx) (dVar 5) kIx) (dC (.int 0)) (kV2 (bin2 pNe))))) (dDrop (dMt1 "list" false (dVar 3) (dApp (dCons true (dVar 4) (dCons true (dVar 5) (dCons true (dBin true (dBin true (dBin true (dVar 2) (dVar 4) kIx) (dVar 5) kIx) (dC (.int 2)) (kV2 (bin2 pEq))) dNil))) PD.kTup) fAppend))
 dSkip))) (orM n d G [] none none) = .ok .nx m' ∧ ∃ a b, m' = orM n d G (ordL n G) a b := by
  have hb : n ≤ bigLen := Nat.le_trans hn (by decide)
  obtain ⟨m', e, a, b, h⟩ := for_rng (tg := bName 4) (gb := (dFor (dIter (dCons true (dVar 0) dNil) kRange1) (bName 5)
 (dIf (dAndT (dTest (dBin true (dVar 4) (dVar 5) (kV2 (bin2 pNe)))) (dTest (dBin true (dBin true (dBin true (dVar 2) (dVar 4) kIx) (dVar 5) kIx) (dC (.int 0)) (kV2 (bin2 pNe))))) (dDrop (dMt1 "list" false (dVar 3) (dApp (dCons true (dVar 4) (dCons true (dVar 5) (dCons true (dBin true (dBin true (dBin true (dVar 2) (dVar 4) kIx) (dVar 5) kIx) (dC (.int 2)) (kV2 (bin2 pEq))) dNil))) PD.kTup) fAppend))
 dSkip))) (fun i m => ∃ a b, m = orM n d G (ordI n G i) a b) (rng1 (i := 0) (m := orM n d G [] none none) rfl hb) ⟨none, none, rfl⟩ fun i hi m h => by
    obtain ⟨a, b, rfl⟩ := h
    obtain ⟨m', e, b', h⟩ := for_rng (tg := bName 5) (gb := (dIf (dAndT (dTest (dBin true (dVar 4) (dVar 5) (kV2 (bin2 pNe)))) (dTest (dBin true (dBin true (dBin true (dVar 2) (dVar 4) kIx) (dVar 5) kIx) (dC (.int 0)) (kV2 (bin2 pNe))))) (dDrop (dMt1 "list" false (dVar 3) (dApp (dCons true (dVar 4) (dCons true (dVar 5) (dCons true (dBin true (dBin true (dBin true (dVar 2) (dVar 4) kIx) (dVar 5) kIx) (dC (.int 2)) (kV2 (bin2 pEq))) dNil))) PD.kTup) fAppend))
 dSkip)) (fun j m => ∃ b, m = orM n d G (ordI n G i ++ ordJ G i j) (some (.sv (.fz (.int i)))) b) (rng1 (i := 0) (m := orM n d G (ordI n G i) (some (.sv (.fz (.int i)))) b) rfl hb) ⟨b, by simp [ordJ]⟩ fun j hj m h => by
      obtain ⟨b, rfl⟩ := h
      obtain ⟨r, p1, p2, p3⟩ := wf_get w hi hj
      have e1 := ev_mat (m := orM n d G (ordI n G i ++ ordJ G i j) (some (.sv (.fz (.int i)))) (some (.sv (.fz (.int j))))) (a := 2) (b := 4) (c := 5) (o := .s 2) (i := i) (j := j) rfl rfl rfl rfl p1 p2
      have c1 : dTest (dBin true (dVar 4) (dVar 5) (kV2 (bin2 pNe))) (orM n d G (ordI n G i ++ ordJ G i j) (some (.sv (.fz (.int i)))) (some (.sv (.fz (.int j))))) = .ok (!decide ((i : Int) = j)) (orM n d G (ordI n G i ++ ordJ G i j) (some (.sv (.fz (.int i)))) (some (.sv (.fz (.int j))))) := test_of (by
        rw [bin_of (ga := dVar 4) (gb := dVar 5) (x := .v (.int i)) (y := .v (.int j)) (opd_of rfl) (opd_of rfl)]
        exact neI _ _ _)
      have c2 : dTest (dBin true (dBin true (dBin true (dVar 2) (dVar 4) kIx) (dVar 5) kIx) (dC (.int 0)) (kV2 (bin2 pNe))) (orM n d G (ordI n G i ++ ordJ G i j) (some (.sv (.fz (.int i)))) (some (.sv (.fz (.int j))))) = .ok (!decide (getM G i j = 0)) (orM n d G (ordI n G i ++ ordJ G i j) (some (.sv (.fz (.int i)))) (some (.sv (.fz (.int j))))) := test_of (by
        rw [bin_of (opd_of e1) (opd_of (g := dC (.int 0)) (x := .v (.int 0)) rfl)]
        exact neI _ _ _)
      have c3 := and_of c1 (fun _ => c2) (fun _ => rfl)
      have e2 : dBin true (dBin true (dBin true (dVar 2) (dVar 4) kIx) (dVar 5) kIx) (dC (.int 2)) (kV2 (bin2 pEq)) (orM n d G (ordI n G i ++ ordJ G i j) (some (.sv (.fz (.int i)))) (some (.sv (.fz (.int j))))) = .ok (.v (.bl (decide (getM G i j = 2)))) (orM n d G (ordI n G i ++ ordJ G i j) (some (.sv (.fz (.int i)))) (some (.sv (.fz (.int j))))) := by
        rw [bin_of (opd_of e1) (opd_of (g := dC (.int 2)) (x := .v (.int 2)) rfl)]
        exact eqI _ _ _
      refine ⟨orM n d G (ordI n G i ++ ordJ G i j) (some (.sv (.fz (.int i)))) (some (.sv (.fz (.int j)))), orM n d G (ordI n G i ++ ordJ G i (j + 1)) (some (.sv (.fz (.int i)))) (some (.sv (.fz (.int j)))), rfl, .inl ?_, _, rfl⟩
      rw [if_of c3]
      have len : (ordI n G i ++ ordJ G i j).length < bigLen := by
        rw [List.length_append]
        have := ordI_len n G i
        have := ordJ_len G i j
        have : i * n ≤ 999 * 1000 := Nat.mul_le_mul (by omega) hn
        have : bigLen = 1000000 := rfl
        omega
      by_cases h : i ≠ j ∧ getM G i j ≠ 0
      · have ht : ((!decide ((i : Int) = j)) && !decide (getM G i j = 0)) = true := by
          have : ¬ (i : Int) = j := by omega
          simp [this, h.2]
        rw [if_pos ht, ordJ_succ, if_pos h]
        have e3 : dApp (dCons true (dVar 4) (dCons true (dVar 5) (dCons true (dBin true (dBin true (dBin true (dVar 2) (dVar 4) kIx) (dVar 5) kIx) (dC (.int 2)) (kV2 (bin2 pEq))) dNil))) PD.kTup (orM n d G (ordI n G i ++ ordJ G i j) (some (.sv (.fz (.int i)))) (some (.sv (.fz (.int j))))) = .ok (.v (rowT (i, j, decide (getM G i j = 2)))) (orM n d G (ordI n G i ++ ordJ G i j) (some (.sv (.fz (.int i)))) (some (.sv (.fz (.int j))))) := by
          have o2 := opd_of e2
          have v4 : dVar 4 (orM n d G (ordI n G i ++ ordJ G i j) (some (.sv (.fz (.int i)))) (some (.sv (.fz (.int j))))) = .ok (.v (.int i)) (orM n d G (ordI n G i ++ ordJ G i j) (some (.sv (.fz (.int i)))) (some (.sv (.fz (.int j))))) := rfl
          have v5 : dVar 5 (orM n d G (ordI n G i ++ ordJ G i j) (some (.sv (.fz (.int i)))) (some (.sv (.fz (.int j))))) = .ok (.v (.int j)) (orM n d G (ordI n G i ++ ordJ G i j) (some (.sv (.fz (.int i)))) (some (.sv (.fz (.int j))))) := rfl
          have o4 := opd_of v4
          have o5 := opd_of v5
          simp only [dApp, dCons, o4, o5, o2, dNil, Out.bind, stable, if_true]
          rfl
        rw [append_of (a := 3) (pb := false) (xs := (ordI n G i ++ ordJ G i j).map fun r => .fz (rowT r)) (d := rowT (i, j, decide (getM G i j = 2))) rfl rfl e3 (by rw [List.length_map]; exact len)]
        show Out.ok Ctl.nx (setO (orM n d G _ _ _) (.s 3) (.ol ((ordI n G i ++ ordJ G i j).map (fun r => SV.fz (rowT r)) ++ [.fz (rowT (i, j, decide (getM G i j = 2)))]))) = _
        rw [show (ordI n G i ++ ordJ G i j).map (fun r => SV.fz (rowT r)) ++ [.fz (rowT (i, j, decide (getM G i j = 2)))] = (ordI n G i ++ (ordJ G i j ++ [(i, j, decide (getM G i j = 2))])).map (fun r => SV.fz (rowT r)) by simp]
        rfl
      · have ht : ((!decide ((i : Int) = j)) && !decide (getM G i j = 0)) = false := by
          by_cases h1 : i = j
          · simp [h1]
          · by_cases h2 : getM G i j = 0
            · simp [h2]
            · exact (h ⟨h1, h2⟩).elim
        rw [if_neg (by rw [ht]; decide), ordJ_succ, if_neg h, List.append_nil]
        rfl
    refine ⟨orM n d G (ordI n G i) (some (.sv (.fz (.int i)))) b, m', rfl, .inl e, some (.sv (.fz (.int i))), b', ?_⟩
    show m' = orM n d G (ordI n G (i + 1)) (some (.sv (.fz (.int i)))) b'
    rw [ordI_succ]
    exact h
  exact ⟨m', e, a, b, h⟩
end K15
namespace K15
open PySem PySem.Spec PyProof.Rows L2 PD
variable {mg : Str → Option Value}
/-! ### order_of, tied, orders_left -/
theorem drop_of {g : M → Out EV} {m m1 : M} {e : EV} (h : g m = .ok e m1) : dDrop g m = .ok .nx m1 := by unfold dDrop; rw [h]; rfl
theorem dropX_of {g : M → Out EV} {m m1 : M} {c : Str} {d : D} (h : g m = .exc c d m1) : dDrop g m = .exc c d m1 := by unfold dDrop; rw [h]; rfl
theorem retV_of {g : M → Out EV} {m m1 : M} {d : D} (h : g m = .ok (.v d) m1) : dRet g m = .ok (.rt (.fz d)) m1 := by unfold dRet; rw [h]; rfl
theorem retX_of {g : M → Out EV} {m m1 : M} {c : Str} {d : D} (h : g m = .exc c d m1) : dRet g m = .exc c d m1 := by unfold dRet; rw [h]; rfl
theorem asgV_of {g : M → Out EV} {m m1 : M} {d : D} {i : Nat} (h : g m = .ok (.v d) m1) : dAsg g (bName i) m = .ok .nx { m1 with sl := m1.sl.set i (some (.sv (.fz d))) } := by unfold dAsg; rw [h]; rfl
theorem asgF_of {g : M → Out EV} {m m1 : M} {s : SV} {i : Nat} (h : g m = .ok (.fr s) m1) (hi : i < m1.sl.length) : dAsg g (bName i) m = .ok .nx { m1 with sl := m1.sl.set i (some (.sv s)) } := by
  unfold dAsg; rw [h]
  simp only [Out.bind, bName, if_pos hi]
theorem asgX_of {g : M → Out EV} {m m1 : M} {c : Str} {d : D} {b : EV → M → Out Unit} (h : g m = .exc c d m1) : dAsg g b m = .exc c d m1 := by unfold dAsg; rw [h]; rfl
theorem tupL_of {m : M} {ds : List D} : kVN pTuple m [.v (.lst ds)] = .ok (.v (.tup ds)) m := rfl
theorem tupO_of {α : Type} {m : M} {o : Ow} (f : α → D) {l : List α} (h : get m o = some (.ol (l.map fun x => .fz (f x)))) : kVN pTuple m [.br o []] = .ok (.v (.tup (l.map f))) m := by
  have v : PD.view m (.br o []) = some (.ol (l.map fun x => SV.fz (f x))) := by simp [PD.view, h, PD.sub]
  have a : allFz (l.map fun x => SV.fz (f x)) = some (l.map f) := by
    have := allFz_map (l.map f)
    rw [List.map_map] at this
    exact this
  have e : pTuple [.ol (l.map fun x => SV.fz (f x))] = some (.v (.tup (l.map f))) := by
    show (seqS (.ol (l.map fun x => SV.fz (f x)))).map _ = _
    show (allFz (l.map fun x => SV.fz (f x))).map _ = _
    rw [a]
    rfl
  simp only [kVN, views, v, e]
/-- the two first arguments, frozen -/
def m2 (k : Nat) (c d : D) : M := ⟨some (.sv (.fz c)) :: some (.sv (.fz d)) :: List.replicate k none, []⟩
theorem args2 {f : Den} {k : Nat} {c d : D} : dApp (dCons true (dVar 0) (dCons true (dVar 1) dNil)) (callK 2 f) (m2 k c d) = callK 2 f (m2 k c d) [.v c, .v d] :=
  app2_of (ga := dVar 0) (gb := dVar 1) (x := .v c) (y := .v d) rfl rfl
end K15
namespace K15
open PySem PySem.Spec PyProof.Rows L2 PD
variable {mg : Str → Option Value}
/-! ### the deck -/
def Dk (k : Nat) (s : SV) : Prop := ∃ c x t, s = deckS c x t ∧ c.length ≤ 63 ∧ 0 ≤ t ∧ t ≤ k
theorem Dk.up {k j : Nat} {s : SV} (h : Dk k s) (e : k ≤ j) : Dk j s := by
  obtain ⟨c, x, t, a, b, c', d⟩ := h
  exact ⟨c, x, t, a, b, c', by omega⟩
theorem pyL_ints : ∀ l : List Int, toPyL (l.map .int) = some (l.map .int)
  | [] => rfl
  | x :: l => by rw [List.map_cons, toPyL, pyL_ints l]; rfl
theorem pyS_ints : ∀ l : List Int, toPyS (intsS l) = some (.list (l.map .int)) := fun l => by
  have e : ∀ l : List Int, toPySL (l.map fun i => SV.fz (.int i)) = some (l.map .int) := fun l => by
    induction l with
    | nil => rfl
    | cons x l ih => rw [List.map_cons, toPySL, ih]; rfl
  unfold intsS
  rw [toPyS, e]
  rfl
theorem eqv_nil (ps : List PyData) : PyData.eqv (.list ps) (.list []) = ps.isEmpty := by
  cases ps with
  | nil => simp [PyData.eqv, PyData.eqvAll]
  | cons p ps => simp [PyData.eqv, PyData.eqvAll]
theorem ne_nil {s : SV} {ps : List PyData} (h : toPyS s = some (.list ps)) : bin2 pNe s (.fz (.lst [])) = some (.v (.bl (!ps.isEmpty))) := by
  have e : toPyS (.fz (.lst [])) = some (.list []) := rfl
  unfold bin2
  rw [h, e]
  show pNe (.list ps) (.list []) = _
  unfold pNe
  rw [if_pos (by unfold dMin; simp [PyData.depth, PyData.depthAll]), eqv_nil]
def dm (b : Int) (v x : Option Sl) (c : List Int) (i t : Int) : M := ⟨[some (.pa 0), some (.sv (.fz (.int b))), v, x], [deckS c i t]⟩
theorem dk_setT (c : List Int) (x t t' : Int) : fSet (deckS c x t) [.fz (.str "turn"), .fz (.int t')] = some (deckS c x t', .non) := by
  unfold deckS fSet
  simp [PD.keyOf, keyD, isFz, bigLen, putG, s_ct, s_mt]
theorem vcells (b : Int) (v x : Option Sl) (c : List Int) (i t : Int) : dBin true (dVar 0) (dC (.str "cells")) kIx (dm b v x c i t) = .ok (.br (.p 0) [.k (.inr "cells")]) (dm b v x c i t) :=
  binP (o := .p 0) (p := []) (ga := dVar 0) (gb := dC (.str "cells")) rfl rfl (dk_cells _ _ rfl)
theorem vmixed (b : Int) (v x : Option Sl) (c : List Int) (i t : Int) : dBin true (dVar 0) (dC (.str "mixed")) kIx (dm b v x c i t) = .ok (.v (.int i)) (dm b v x c i t) :=
  binP (o := .p 0) (p := []) (ga := dVar 0) (gb := dC (.str "mixed")) rfl rfl (dk_mixed _ _ rfl)
theorem vturn (b : Int) (v x : Option Sl) (c : List Int) (i t : Int) : dBin true (dVar 0) (dC (.str "turn")) kIx (dm b v x c i t) = .ok (.v (.int t)) (dm b v x c i t) :=
  binP (o := .p 0) (p := []) (ga := dVar 0) (gb := dC (.str "turn")) rfl rfl (dk_turn _ _ rfl)
theorem dr_turn (b : Int) (v x : Option Sl) (c : List Int) (i t : Int) : dAsg (dBin true (dBin true (dVar 0) (dC (.str "turn")) kIx) (dC (.int 1)) (kV2 pPlus)) (bSubA (dVar 0) (dC (.str "turn"))) (dm b v x c i t) = .ok .nx (dm b v x c i (t + 1)) := by
  have e := bin3 (pb := true) (k := kV2 pPlus) (gb := dC (.int 1)) (vturn b v x c i t) rfl (plusI t 1)
  unfold dAsg
  rw [e]
  have o1 : opd (dVar 0) (dm b v x c i t) = .ok (.br (.p 0) []) (dm b v x c i t) := rfl
  have o2 : opd (dC (.str "turn")) (dm b v x c i t) = .ok (.v (.str "turn")) (dm b v x c i t) := rfl
  have g : get (dm b v x c i t) (.p 0) = some (deckS c i t) := rfl
  simp only [Out.bind, bSubA, ownE, o1, o2, PD.view, kMut, g, PD.sub, dk_setT, PD.put]
  rfl
theorem erase_map {α β : Type} (f : α → β) : ∀ (l : List α) (i : Nat), (l.map f).eraseIdx i = (l.eraseIdx i).map f
  | [], _ => rfl
  | x :: l, 0 => rfl
  | x :: l, i + 1 => by rw [List.map_cons, List.eraseIdx_cons_succ, erase_map f l i]; rfl
theorem fPop_ol {xs : List SV} {d : D} (h : xs[xs.length - 1]? = some (.fz d)) : fPop (.ol xs) [] = some (.ol (xs.eraseIdx (xs.length - 1)), d) := by
  unfold fPop
  simp only [h]
theorem dr_pop (b : Int) (v x : Option Sl) (c : List Int) (i t : Int) (h : c ≠ []) : ∃ d, dMt "list" true (dBin true (dVar 0) (dC (.str "cells")) kIx) dNil fPop (dm b v x c i t) = .ok (.v (.int d)) (dm b v x (c.eraseIdx (c.length - 1)) i t) := by
  have hl : c.length - 1 < c.length := by
    have := List.length_pos_iff.mpr h
    omega
  refine ⟨c[c.length - 1], ?_⟩
  have g : get (dm b v x c i t) (.p 0) = some (deckS c i t) := rfl
  have it : isTy (dm b v x c i t) (.br (.p 0) [.k (.inr "cells")]) "list" = true := by
    simp only [isTy, PD.view, g, dk_sub]
    rfl
  have fp : fPop (intsS c) [] = some (intsS (c.eraseIdx (c.length - 1)), .int c[c.length - 1]) := by
    have q := fPop_ol (xs := c.map fun i => .fz (.int i)) (d := .int c[c.length - 1]) (by rw [List.length_map, List.getElem?_map, List.getElem?_eq_getElem hl]; rfl)
    rw [List.length_map, erase_map] at q
    exact q
  unfold dMt
  rw [vcells]
  simp only [Out.bind, it, nofr, s_stc, Bool.and_self, if_true, dNil, evD, List.map_nil, kMut, g, dk_sub, fp, dk_put]
  rfl
theorem dr_push (b : Int) (v x : Option Sl) (c : List Int) (i t w : Int) {ga : M → Out EV} (h : ga (dm b v x c i t) = .ok (.v (.int w)) (dm b v x c i t)) (hc : c.length ≤ 63) :
    dDrop (dMt1 "list" true (dBin true (dVar 0) (dC (.str "cells")) kIx) ga fAppend) (dm b v x c i t) = .ok .nx (dm b v x (c ++ [w]) i t) := by
  have g : get (dm b v x c i t) (.p 0) = some (deckS c i t) := rfl
  have it : isTy (dm b v x c i t) (.br (.p 0) [.k (.inr "cells")]) "list" = true := by
    simp only [isTy, PD.view, g, dk_sub]
    rfl
  have fp : fAppend (intsS c) [.fz (.int w)] = some (intsS (c ++ [w]), .non) := by
    unfold intsS fAppend
    have : (c.map fun i => SV.fz (.int i)).length < bigLen := by rw [List.length_map]; have : bigLen = 1000000 := rfl; omega
    simp only [this, if_true]
    simp
  unfold dDrop dMt1
  rw [vcells]
  simp only [Out.bind, it, nofr, s_stc, Bool.and_self, if_true, h, ownE, kMut, g, dk_sub, fp, dk_put]
  rfl
theorem int_of (m : M) (i : Int) : kVN pInt m [.v (.int i)] = .ok (.v (.int i)) m := rfl
theorem emod_rng (i : Int) {j : Int} (h : 0 < j) : 0 ≤ i % j ∧ i % j < j := ⟨Int.emod_nonneg _ (by omega), Int.emod_lt_of_pos _ h⟩
/-- the end of a draw -/
theorem dr_end (b : Int) (hb : 0 < b) (v : Int) (x : Option Sl) (c : List Int) (i t : Int) (ht : 0 ≤ t ∧ t < 2 ^ 60) : ∃ r x', 0 ≤ r ∧ r < b ∧
    (dSeq (dAsg (dBin true (dBin true (dBin true (dBin true (dBin true (dVar 2) (dC (.int 2147483629)) (kV2 pMod)) (dBin true (dBin true (dC (.int 60013)) (dBin true (dVar 0) (dC (.str "turn")) kIx) (kV2 pMul)) (dBin true (dVar 0) (dC (.str "turn")) kIx) (kV2 pMul)) (kV2 pPlus)) (dC (.int 47)) (kV2 pPlus)) (dC (.int 40692)) (kV2 pMul)) (dC (.int 2147483647)) (kV2 pMod)) (bName 3))
 (dSeq (dAsg (dBin true (dBin true (dBin true (dBin true (dVar 3) (dVar 3) (kV2 pMul)) (dBin true (dC (.int 69997)) (dBin true (dVar 0) (dC (.str "turn")) kIx) (kV2 pMul)) (kV2 pPlus)) (dC (.int 31)) (kV2 pPlus)) (dC (.int 2147483587)) (kV2 pMod)) (bName 3))
 (dRet (dApp (dCons true (dBin true (dBin true (dBin true (dBin true (dVar 3) (dC (.int 39373)) (kV2 pMul)) (dC (.int 2147483563)) (kV2 pMod)) (dC (.int 64)) (kV2 pDiv)) (dVar 1) (kV2 pMod)) dNil) (kVN pInt))))) (dm b (some (.sv (.fz (.int v)))) x c i t) = .ok (.rt (.fz (.int r))) (dm b (some (.sv (.fz (.int v)))) x' c i t) := by
  have a1 := bin3 (pb := true) (k := kV2 pMod) (ga := dVar 2) (gb := dC (.int 2147483629)) (m := dm b (some (.sv (.fz (.int v)))) x c i t) (x := .int v) rfl rfl (modI (by decide))
  have a2 := bin3 (pb := true) (k := kV2 pMul) (ga := dC (.int 60013)) (x := .int 60013) (m := dm b (some (.sv (.fz (.int v)))) x c i t) rfl (vturn b (some (.sv (.fz (.int v)))) x c i t) (mulI (cmulL (by decide)))
  have a3 := bin3 (pb := true) (k := kV2 pMul) a2 (vturn b (some (.sv (.fz (.int v)))) x c i t) (mulI (cmulR (by omega)))
  have a4 := bin3 (pb := true) (k := kV2 pPlus) a1 a3 (plusI _ _)
  have a5 := bin3 (pb := true) (k := kV2 pPlus) (gb := dC (.int 47)) a4 rfl (plusI _ _)
  have a6 := bin3 (pb := true) (k := kV2 pMul) (gb := dC (.int 40692)) a5 rfl (mulI (cmulR (by decide)))
  have a7 := bin3 (pb := true) (k := kV2 pMod) (gb := dC (.int 2147483647)) a6 rfl (modI (by decide))
  have r7 := emod_rng ((v % 2147483629 + 60013 * t * t + 47) * 40692) (j := 2147483647) (by decide)
  generalize (v % 2147483629 + 60013 * t * t + 47) * 40692 % 2147483647 = y at a7 r7
  have b1 := bin3 (pb := true) (k := kV2 pMul) (ga := dVar 3) (gb := dVar 3) (m := dm b (some (.sv (.fz (.int v)))) (some (.sv (.fz (.int y)))) c i t) (x := .int y) rfl rfl (mulI (cmulL (by omega)))
  have b2 := bin3 (pb := true) (k := kV2 pMul) (ga := dC (.int 69997)) (x := .int 69997) (m := dm b (some (.sv (.fz (.int v)))) (some (.sv (.fz (.int y)))) c i t) rfl (vturn b (some (.sv (.fz (.int v)))) (some (.sv (.fz (.int y)))) c i t) (mulI (cmulL (by decide)))
  have b3 := bin3 (pb := true) (k := kV2 pPlus) b1 b2 (plusI _ _)
  have b4 := bin3 (pb := true) (k := kV2 pPlus) (gb := dC (.int 31)) b3 rfl (plusI _ _)
  have b5 := bin3 (pb := true) (k := kV2 pMod) (gb := dC (.int 2147483587)) b4 rfl (modI (by decide))
  generalize (y * y + 69997 * t + 31) % 2147483587 = z at b5
  have c1 := bin3 (pb := true) (k := kV2 pMul) (ga := dVar 3) (gb := dC (.int 39373)) (m := dm b (some (.sv (.fz (.int v)))) (some (.sv (.fz (.int z)))) c i t) (x := .int z) rfl rfl (mulI (cmulR (by decide)))
  have c2 := bin3 (pb := true) (k := kV2 pMod) (gb := dC (.int 2147483563)) c1 rfl (modI (by decide))
  have c3 := bin3 (pb := true) (k := kV2 pDiv) (gb := dC (.int 64)) c2 rfl (divI ⟨by decide, by decide⟩)
  have c4 := bin3 (pb := true) (k := kV2 pMod) (gb := dVar 1) (y := .int b) c3 rfl (modI hb)
  have rr := emod_rng (z * 39373 % 2147483563 / 64) hb
  refine ⟨_, some (.sv (.fz (.int z))), rr.1, rr.2, ?_⟩
  rw [seq_nx (asgV_of a7)]
  rw [show ({ (dm b (some (.sv (.fz (.int v)))) x c i t) with sl := (dm b (some (.sv (.fz (.int v)))) x c i t).sl.set 3 (some (.sv (.fz (.int y)))) } : M) = dm b (some (.sv (.fz (.int v)))) (some (.sv (.fz (.int y)))) c i t from rfl]
  rw [seq_nx (asgV_of b5)]
  rw [show ({ (dm b (some (.sv (.fz (.int v)))) (some (.sv (.fz (.int y)))) c i t) with sl := (dm b (some (.sv (.fz (.int v)))) (some (.sv (.fz (.int y)))) c i t).sl.set 3 (some (.sv (.fz (.int z)))) } : M) = dm b (some (.sv (.fz (.int v)))) (some (.sv (.fz (.int z)))) c i t from rfl]
  exact retV_of ((app1_of c4).trans (int_of _ _))
theorem e_draw (c : List Int) (i t b : Int) (hc : c.length ≤ 63) (ht : 0 ≤ t ∧ t < 2 ^ 59) (hb : 0 < b ∧ b < 2 ^ 29) : ∃ c' r, c'.length ≤ 63 ∧ 0 ≤ r ∧ r < b ∧ Rn (den__law_draw mg [.pin 0, .fz (.int b)] [deckS c i t]) (.fz (.int r)) [deckS c' i (t + 1)] := by
  have key : ∃ c' r v x, c'.length ≤ 63 ∧ 0 ≤ r ∧ r < b ∧ b__law_draw mg (dm b none none c i t) = .ok (.rt (.fz (.int r))) (dm b v x c' i (t + 1)) := by
    unfold b__law_draw
    rw [seq_nx (dr_turn b none none c i t)]
    rw [seq_nx (asgV_of (vmixed b none none c i (t + 1)))]
    rw [show ({ (dm b none none c i (t + 1)) with sl := (dm b none none c i (t + 1)).sl.set 2 (some (.sv (.fz (.int i)))) } : M) = dm b (some (.sv (.fz (.int i)))) none c i (t + 1) from rfl]
    have tst : dTest (dBin true (dBin true (dVar 0) (dC (.str "cells")) kIx) (dApp dNil kLst0) (kV2 (bin2 pNe))) (dm b (some (.sv (.fz (.int i)))) none c i (t + 1)) = .ok (!(c.map PyData.int).isEmpty) (dm b (some (.sv (.fz (.int i)))) none c i (t + 1)) := test_of (by
      have o1 := opd_of (vcells b (some (.sv (.fz (.int i)))) none c i (t + 1))
      have o2 : opd (dApp dNil kLst0) (dm b (some (.sv (.fz (.int i)))) none c i (t + 1)) = .ok (.v (.lst [])) (dm b (some (.sv (.fz (.int i)))) none c i (t + 1)) := rfl
      have g : PD.view (dm b (some (.sv (.fz (.int i)))) none c i (t + 1)) (.br (.p 0) [.k (.inr "cells")]) = some (intsS c) := dk_sub c i (t + 1)
      unfold dBin
      rw [show (opd (fun m => (opd (dVar 0) m).bind fun x m1 => (opd (dC (.str "cells")) m1).bind fun y m2 => if stable true x = true then kIx m2 x y else .bad)) = opd (dBin true (dVar 0) (dC (.str "cells")) kIx) from rfl, o1]
      simp only [Out.bind]
      rw [o2]
      simp only [s_stc, if_true]
      unfold kV2
      rw [g]
      simp only [PD.view, ne_nil (pyS_ints c)])
    rw [dm] at *
    by_cases h : c = []
    · subst h
      have tst' : dTest (dBin true (dBin true (dVar 0) (dC (.str "cells")) kIx) (dApp dNil kLst0) (kV2 (bin2 pNe))) (dm b (some (.sv (.fz (.int i)))) none [] i (t + 1)) = .ok false (dm b (some (.sv (.fz (.int i)))) none [] i (t + 1)) := tst
      obtain ⟨r, x', h1, h2, e⟩ := dr_end b hb.1 i none [] i (t + 1) (by omega)
      refine ⟨[], r, some (.sv (.fz (.int i))), x', by simp, h1, h2, ?_⟩
      show dSeq _ _ (dm b (some (.sv (.fz (.int i)))) none [] i (t + 1)) = _
      rw [seq_nx (m1 := dm b (some (.sv (.fz (.int i)))) none [] i (t + 1)) (by rw [if_of tst']; rfl)]
      exact e
    · have tst' : dTest (dBin true (dBin true (dVar 0) (dC (.str "cells")) kIx) (dApp dNil kLst0) (kV2 (bin2 pNe))) (dm b (some (.sv (.fz (.int i)))) none c i (t + 1)) = .ok true (dm b (some (.sv (.fz (.int i)))) none c i (t + 1)) := by
        have z : (!(c.map PyData.int).isEmpty) = true := by cases c with
          | nil => exact (h rfl).elim
          | cons _ _ => rfl
        rw [z] at tst
        exact tst
      obtain ⟨d, hp⟩ := dr_pop b (some (.sv (.fz (.int i)))) none c i (t + 1) h
      have hl : (c.eraseIdx (c.length - 1)).length ≤ 62 := by
        have := List.length_pos_iff.mpr h
        rw [List.length_eraseIdx_of_lt (by omega)]
        omega
      generalize c.eraseIdx (c.length - 1) = c1 at hp hl
      have g1 := bin3 (pb := true) (k := kV2 pPow) (ga := dC (.int 10)) (gb := dC (.int 18)) (m := dm b (some (.sv (.fz (.int d)))) none c1 i (t + 1)) (x := .int 10) (y := .int 18) rfl rfl (powI (by decide))
      have g2 := test_of (bin3 (pb := true) (k := kV2 pGe) (ga := dVar 2) (m := dm b (some (.sv (.fz (.int d)))) none c1 i (t + 1)) (x := .int d) rfl g1 (geI _ _))
      by_cases hv : (10 : Int) ^ (18 : Int).toNat ≤ d
      · rw [decide_eq_true hv] at g2
        have p1 := max2_of (p := true) (q := true) (ga := dC (.int 2)) (gb := dVar 1) (x := 2) (y := b) (m := dm b (some (.sv (.fz (.int d)))) none c1 i (t + 1)) rfl rfl
        have mb : CDiv d (mx 2 b) := by
          unfold mx
          split
          · exact ⟨by omega, by omega⟩
          · exact ⟨by decide, by decide⟩
        have p2 := bin3 (pb := true) (k := kV2 pDiv) (ga := dVar 2) (m := dm b (some (.sv (.fz (.int d)))) none c1 i (t + 1)) (x := .int d) rfl p1 (divI mb)
        have p3 := dr_push b (some (.sv (.fz (.int d)))) none c1 i (t + 1) _ p2 (by omega)
        have p4 := bin3 (pb := true) (k := kV2 pMod) (ga := dVar 2) (gb := dVar 1) (m := dm b (some (.sv (.fz (.int d)))) none (c1 ++ [d / mx 2 b]) i (t + 1)) (x := .int d) (y := .int b) rfl rfl (modI hb.1)
        have rr := emod_rng d hb.1
        refine ⟨c1 ++ [d / mx 2 b], d % b, some (.sv (.fz (.int d))), none, by rw [List.length_append]; simp; omega, rr.1, rr.2, ?_⟩
        show dSeq _ _ (dm b (some (.sv (.fz (.int i)))) none c i (t + 1)) = _
        refine seq_rt ?_
        rw [if_of tst', if_pos rfl, seq_nx (asgV_of hp)]
        show dSeq _ _ (dm b (some (.sv (.fz (.int d)))) none c1 i (t + 1)) = _
        refine seq_rt ?_
        rw [if_of g2, if_pos rfl, seq_nx p3]
        exact retV_of ((app1_of p4).trans (int_of _ _))
      · rw [decide_eq_false hv] at g2
        have p1 := bin3 (pb := true) (k := kV2 pPlus) (ga := dVar 2) (m := dm b (some (.sv (.fz (.int d)))) none c1 i (t + 1)) (x := .int d) rfl (vmixed b (some (.sv (.fz (.int d)))) none c1 i (t + 1)) (plusI _ _)
        obtain ⟨r, x', h1, h2, e⟩ := dr_end b hb.1 (d + i) none c1 i (t + 1) (by omega)
        refine ⟨c1, r, some (.sv (.fz (.int (d + i)))), x', by omega, h1, h2, ?_⟩
        show dSeq _ _ (dm b (some (.sv (.fz (.int i)))) none c i (t + 1)) = _
        rw [seq_nx (m1 := dm b (some (.sv (.fz (.int (d + i))))) none c1 i (t + 1)) (by
          rw [if_of tst', if_pos rfl, seq_nx (asgV_of hp)]
          show dSeq _ _ (dm b (some (.sv (.fz (.int d)))) none c1 i (t + 1)) = _
          rw [seq_nx (m1 := dm b (some (.sv (.fz (.int d)))) none c1 i (t + 1)) (by rw [if_of g2]; rfl)]
          rw [asgV_of p1]
          rfl)]
        exact e
  obtain ⟨c', r, v, x, h1, h2, h3, e⟩ := key
  exact ⟨c', r, h1, h2, h3, def_rt (n := 4) (b := b__law_draw mg) (as := [.pin 0, .fz (.int b)]) (pins := [deckS c i t]) (m := dm b v x c' i (t + 1)) e⟩
theorem Dk.draw {k : Nat} {s : SV} (h : Dk k s) (hk : k < 2 ^ 58) {b : Int} (hb : 0 < b ∧ b < 2 ^ 29) : ∃ s' r, Dk (k + 1) s' ∧ 0 ≤ r ∧ r < b ∧ Rn (den__law_draw mg [.pin 0, .fz (.int b)] [s]) (.fz (.int r)) [s'] := by
  obtain ⟨c, i, t, rfl, hc, h0, h1⟩ := h
  obtain ⟨c', r, a1, a2, a3, e⟩ := e_draw (mg := mg) c i t b hc (by omega) hb
  exact ⟨_, r, ⟨c', i, t + 1, rfl, a1, by omega, by omega⟩, a2, a3, e⟩
end K15
namespace K15
open PySem PySem.Spec PyProof.Rows L2 PD
variable {mg : Str → Option Value}
/-- a draw, called -/
theorem draw_call {p q : Bool} {a : Nat} {o : Ow} {gb : M → Out EV} {m : M} {k : Nat} {s : SV} {b : Int} (hv : dVar a m = .ok (.br o []) m) (hg : get m o = some s) (h : Dk k s) (hk : k < 2 ^ 58) (hb : 0 < b ∧ b < 2 ^ 29) (hgb : gb m = .ok (.v (.int b)) m) :
    ∃ s' r, Dk (k + 1) s' ∧ 0 ≤ r ∧ r < b ∧ dApp (dCons p (dVar a) (dCons q gb dNil)) (callK 2 (den__law_draw mg)) m = .ok (.v (.int r)) (setO m o s') := by
  obtain ⟨s', r, h1, h2, h3, e⟩ := h.draw (mg := mg) hk hb
  refine ⟨s', r, h1, h2, h3, ?_⟩
  have c := app_of (k := callK 2 (den__law_draw mg)) (cons_of (pb := p) (opd_of hv) (cons_of (pb := q) (opd_of hgb) (nil_of m)))
  rw [c]
  exact call_p (ds := [.int b]) rfl hg e
theorem ix_lst {m : M} {items : List D} {r : Int} {d : D} (h0 : 0 ≤ r) (h1 : items[r.toNat]? = some d) : kIx m (.v (.lst items)) (.v (.int r)) = .ok (.v d) m := by
  have hl : r.toNat < items.length := (List.getElem?_eq_some_iff.mp h1).1
  have e : ixN items.length r = some r.toNat := by
    have := ixN_at hl
    rw [Int.toNat_of_nonneg h0] at this
    exact this
  have s : stepIx (.fz (.lst items)) (.fz (.int r)) = some (.fz d, .i r.toNat) := by
    show (ixN items.length r).bind _ = _
    rw [e]
    show (items[r.toNat]?).map _ = _
    rw [h1]
    rfl
  unfold kIx
  simp only [PD.view, s]
def pm (s : SV) (items : List D) : M := ⟨[some (.pa 0), some (.sv (.fz (.lst items)))], [s]⟩
theorem e_pick {k : Nat} {s : SV} (h : Dk k s) (hk : k < 2 ^ 58) {items : List D} (hi : items ≠ []) (hl : items.length < 2 ^ 29) : ∃ s' d, d ∈ items ∧ Dk (k + 1) s' ∧ Rn (den__law_pick mg [.pin 0, .fz (.lst items)] [s]) (.fz d) [s'] := by
  have hp := List.length_pos_iff.mpr hi
  have len : dApp (dCons true (dVar 1) dNil) (kVN pLen) (pm s items) = .ok (.v (.int items.length)) (pm s items) := (app1_of (ga := dVar 1) (x := .v (.lst items)) rfl).trans rfl
  obtain ⟨s', r, h1, h2, h3, e⟩ := draw_call (mg := mg) (p := true) (q := true) (a := 0) (o := .p 0) (m := pm s items) (s := s) (b := items.length) rfl rfl h hk (by omega) len
  have hr : r.toNat < items.length := by omega
  refine ⟨s', items[r.toNat], List.getElem_mem hr, h1, ?_⟩
  have key : b__law_pick mg (pm s items) = .ok (.rt (.fz items[r.toNat])) (pm s' items) := by
    unfold b__law_pick
    exact retV_of (bin3 (pb := false) (ga := dVar 1) (m := pm s items) (x := .lst items) rfl e (ix_lst h2 (List.getElem?_eq_getElem hr)))
  exact def_rt (n := 2) (b := b__law_pick mg) (as := [.pin 0, .fz (.lst items)]) (pins := [s]) (m := pm s' items) key
theorem pick_call {p q : Bool} {a : Nat} {o : Ow} {gl : M → Out EV} {m : M} {k : Nat} {s : SV} {items : List D} (hv : dVar a m = .ok (.br o []) m) (hg : get m o = some s) (h : Dk k s) (hk : k < 2 ^ 58) (hi : items ≠ []) (hl : items.length < 2 ^ 29) (hgb : opd gl m = .ok (.v (.lst items)) m) :
    ∃ s' d, d ∈ items ∧ Dk (k + 1) s' ∧ dApp (dCons p (dVar a) (dCons q gl dNil)) (callK 2 (den__law_pick mg)) m = .ok (.v d) (setO m o s') := by
  obtain ⟨s', d, h1, h2, e⟩ := e_pick (mg := mg) h hk hi hl
  refine ⟨s', d, h1, h2, ?_⟩
  have c := app_of (k := callK 2 (den__law_pick mg)) (cons_of (pb := p) (opd_of hv) (cons_of (pb := q) hgb (nil_of m)))
  rw [c]
  exact call_p (ds := [.lst items]) rfl hg e
/-! ### _law_begun -/
def bgM (ns : List Int) (salt : D) (c : SV) (x : Int) (v : Option Sl) : M := ⟨[some (.sv (.fz (.scr ns))), some (.sv (.fz salt)), some (.sv c), some (.sv (.fz (.int x))), v], []⟩
theorem e_begun (ns : List Int) (salt : Int) (hs : -(2 ^ 60) < salt ∧ salt < 2 ^ 60) : ∃ s, Dk 0 s ∧ Rn (den__law_begun mg [.fz (.scr ns), .fz (.int salt)] []) s [] := by
  let cs := ns.take 63
  have hc : cs.length ≤ 63 := by rw [List.length_take]; omega
  let m0 : M := ⟨[some (.sv (.fz (.scr ns))), some (.sv (.fz (.int salt))), none, none, none], []⟩
  have e1 : dSl true true (dVar 0) dNoPart (dPart (dC (.int 63))) m0 = .ok (.fr (intsS cs)) m0 :=
    sl_of (x := .v (.scr ns)) (s := .fz (.scr ns)) rfl rfl (by
      show some (EV.fr (.ol ((PD.cutD ns none (some ((63 : Nat) : Int))).map fun i => .fz (.int i)))) = _
      rw [cut_take]
      rfl)
  have e2 : dApp (dCons true (dSl true true (dVar 0) dNoPart (dPart (dC (.int 63)))) dNil) (kVN pList) m0 = .ok (.fr (intsS cs)) m0 := by
    rw [appF_of e1]
    unfold intsS
    rw [frz_fm (fun i => D.int i)]
    show Out.ok (EV.fr (.ol ((cs.map D.int).map SV.fz))) m0 = _
    rw [List.map_map]
    rfl
  have e3 : dPar [2, 3] (dRaw (dApp (dCons true (dSl true true (dVar 0) dNoPart (dPart (dC (.int 63)))) dNil) (kVN pList)) (dRaw (dVar 1) dRaw0)) m0 = .ok .nx (bgM ns (.int salt) (intsS cs) salt none) :=
    par_of (raw_of e2 rfl (raw_of (gv := dVar 1) (ev := .v (.int salt)) rfl rfl rfl)) rfl
  have e4 : dISeq (dVar 2) (bgM ns (.int salt) (intsS cs) salt none) = .ok ⟨cs.map D.int, always⟩ (bgM ns (.int salt) (.fz (.lst (cs.map D.int))) salt none) := by
    refine iseq_of (g := dVar 2) (ev := .br (.s 2) []) (m1 := bgM ns (.int salt) (intsS cs) salt none) (d := .lst (cs.map D.int)) rfl ?_ rfl
    have f : frz (intsS cs) = .lst (cs.map D.int) := frz_fm (fun i => D.int i) cs
    show Out.ok (frz (intsS cs)) (bgM ns (.int salt) (.fz (frz (intsS cs))) salt none) = _
    rw [f]
  obtain ⟨m', e5, x, v, hx, rfl⟩ := for_map (tg := bName 4) (gb := dAsg (dBin true (dBin true (dBin true (dBin true (dVar 3) (dC (.int 48271)) (kV2 pMul)) (dBin true (dVar 4) (dC (.int 2147483629)) (kV2 pMod)) (kV2 pPlus)) (dC (.int 37)) (kV2 pPlus)) (dC (.int 2147483587)) (kV2 pMod)) (bName 3)) (fun i : Int => D.int i) (fun (_ : Unit) m => ∃ x v, (-(2 ^ 60) < x ∧ x < 2 ^ 60) ∧ m = bgM ns (.int salt) (.fz (.lst (cs.map D.int))) x v) (fun u _ => u) (b := ()) e4 ⟨salt, none, hs, rfl⟩ fun y _ _ m h => by
    obtain ⟨x, v, hx, rfl⟩ := h
    have a1 := bin3 (pb := true) (k := kV2 pMul) (ga := dVar 3) (gb := dC (.int 48271)) (m := bgM ns (.int salt) (.fz (.lst (cs.map D.int))) x (some (.sv (.fz (.int y))))) (x := .int x) rfl rfl (mulI (cmulR (by decide)))
    have a2 := bin3 (pb := true) (k := kV2 pMod) (ga := dVar 4) (gb := dC (.int 2147483629)) (m := bgM ns (.int salt) (.fz (.lst (cs.map D.int))) x (some (.sv (.fz (.int y))))) (x := .int y) rfl rfl (modI (by decide))
    have a3 := bin3 (pb := true) (k := kV2 pPlus) a1 a2 (plusI _ _)
    have a4 := bin3 (pb := true) (k := kV2 pPlus) (gb := dC (.int 37)) a3 rfl (plusI _ _)
    have a5 := bin3 (pb := true) (k := kV2 pMod) (gb := dC (.int 2147483587)) a4 rfl (modI (by decide))
    have r := emod_rng (x * 48271 + y % 2147483629 + 37) (j := 2147483587) (by decide)
    exact ⟨bgM ns (.int salt) (.fz (.lst (cs.map D.int))) x (some (.sv (.fz (.int y)))), bgM ns (.int salt) (.fz (.lst (cs.map D.int))) _ (some (.sv (.fz (.int y)))), rfl, .inl (asgV_of a5), _, _, ⟨by omega, by omega⟩, rfl⟩
  have rv : dUn (dVar 2) (kV1 pRev) (bgM ns (.int salt) (.fz (.lst (cs.map D.int))) x v) = .ok (.fr (intsS cs.reverse)) (bgM ns (.int salt) (.fz (.lst (cs.map D.int))) x v) := by
    refine (un3 (ga := dVar 2) (x := .lst (cs.map D.int)) rfl ?_)
    show Out.ok (EV.fr (.ol ((cs.map D.int).reverse.map SV.fz))) _ = _
    unfold intsS
    rw [← List.map_reverse, List.map_map]
    rfl
  refine ⟨deckS cs.reverse x 0, ⟨cs.reverse, x, 0, rfl, by simpa using hc, by omega, by omega⟩, ?_⟩
  have key : b__law_begun mg m0 = .ok (.rt (deckS cs.reverse x 0)) (bgM ns (.int salt) (.fz (.lst (cs.map D.int))) x v) := by
    unfold b__law_begun
    rw [seq_nx e3, seq_nx e5]
    refine retF_of (disp_of (pair_of (gk := dC (.str "cells")) (ek := .v (.str "cells")) rfl rfl rv rfl (pair_of (gk := dC (.str "mixed")) (ek := .v (.str "mixed")) rfl rfl (gv := dVar 3) (ev := .v (.int x)) rfl rfl (pair_of (gk := dC (.str "turn")) (ek := .v (.str "turn")) rfl rfl (gv := dC (.int 0)) (ev := .v (.int 0)) rfl rfl (gr := dPairs0) rfl))) (by show 3 ≤ 15; decide) ?_)
    show ([.inr "cells", .inr "mixed", .inr "turn"] : List Key).Nodup
    decide
  exact def_rt (n := 5) (b := b__law_begun mg) (as := [.fz (.scr ns), .fz (.int salt)]) (pins := []) (m := bgM ns (.int salt) (.fz (.lst (cs.map D.int))) x v) key
end K15
namespace K15
open PySem PySem.Spec PyProof.Rows L2 PD
variable {mg : Str → Option Value}
/-! ### the law's own closure -/
def lcM (n : Nat) (d : D) (f : SV) (a b c e g h : Option Sl) : M := ⟨[some (.sv (.fz (.int n))), some (.sv (.fz d)), some (.sv f), a, b, c, e, g, h], []⟩
def idRow (n i : Nat) : List Int := (List.range n).map fun j => if i = j then 1 else 0
theorem lc_row (n : Nat) (hn : n ≤ 900) (d : D) (f : SV) (i : Nat) : dComp (dIter (dCons true (dVar 0) dNil) kRange1) [8] (bName 8) (fun m => .ok true m) (dIfE (dTest (dBin true (dVar 3) (dVar 8) (kV2 (bin2 pEq)))) (dC (.int 1)) (dC (.int 0))) (lcM n d f (some (.sv (.fz (.int i)))) none none none none none) =
    .ok (.fr (rowS (idRow n i))) (lcM n d f (some (.sv (.fz (.int i)))) none none none none none) := by
  have key := comp_allm (vs := [8]) (b := bName 8) (ge := dIfE (dTest (dBin true (dVar 3) (dVar 8) (kV2 (bin2 pEq)))) (dC (.int 1)) (dC (.int 0))) (m := lcM n d f (some (.sv (.fz (.int i)))) none none none none none) (fun j : Nat => D.int j) (fun j => .fz (.int (if i = j then 1 else 0))) (rng1 (i := 0) (m := lcM n d f (some (.sv (.fz (.int i)))) none none none none none) (n := n) rfl (Nat.le_trans hn (by decide))) (by rw [List.length_range]; exact Nat.le_trans hn (by decide)) rfl rfl fun j hj => by
    let mm : M := lcM n d f (some (.sv (.fz (.int i)))) none none none none (some (.sv (.fz (.int j))))
    have t : dTest (dBin true (dVar 3) (dVar 8) (kV2 (bin2 pEq))) mm = .ok (decide ((i : Int) = j)) mm := test_of (bin3 (ga := dVar 3) (gb := dVar 8) (x := .int i) (y := .int j) rfl rfl (eqI _ _ _))
    refine ⟨mm, .v (.int (if i = j then 1 else 0)), mm, mm, rfl, ?_, rfl, rfl⟩
    show dIfE (dTest (dBin true (dVar 3) (dVar 8) (kV2 (bin2 pEq)))) (dC (.int 1)) (dC (.int 0)) mm = _
    unfold dIfE
    rw [t]
    by_cases e : i = j
    · rw [decide_eq_true (show (i : Int) = j by omega), if_pos e]; rfl
    · rw [decide_eq_false (show ¬ (i : Int) = j by omega), if_neg e]; rfl
  rw [key]
  unfold rowS idRow
  rw [List.map_map]
  rfl
theorem lc_id (n : Nat) (hn : n ≤ 900) (d : D) : ∃ m' a, dFor (dIter (dCons true (dVar 0) dNil) kRange1) (bName 3)
 (dDrop (dMt1 "list" false (dVar 2) (dComp (dIter (dCons true (dVar 0) dNil) kRange1) [8] (bName 8) (fun m => .ok true m) (dIfE (dTest (dBin true (dVar 3) (dVar 8) (kV2 (bin2 pEq)))) (dC (.int 1)) (dC (.int 0)))) fAppend)) (lcM n d (.ol []) none none none none none none) = .ok .nx m' ∧ m' = lcM n d (matS (idG n)) a none none none none none := by
  obtain ⟨m', e, a, h⟩ := for_rng (gb := (dDrop (dMt1 "list" false (dVar 2) (dComp (dIter (dCons true (dVar 0) dNil) kRange1) [8] (bName 8) (fun m => .ok true m) (dIfE (dTest (dBin true (dVar 3) (dVar 8) (kV2 (bin2 pEq)))) (dC (.int 1)) (dC (.int 0)))) fAppend))) (tg := bName 3) (fun i m => ∃ a, m = lcM n d (.ol ((List.range i).map fun i => rowS (idRow n i))) a none none none none none) (rng1 (i := 0) (m := lcM n d (.ol []) none none none none none none) (n := n) rfl (Nat.le_trans hn (by decide))) ⟨none, rfl⟩ fun i hi m h => by
    obtain ⟨a, rfl⟩ := h
    refine ⟨lcM n d (.ol ((List.range i).map fun i => rowS (idRow n i))) (some (.sv (.fz (.int i)))) none none none none none, lcM n d (.ol ((List.range (i + 1)).map fun i => rowS (idRow n i))) (some (.sv (.fz (.int i)))) none none none none none, rfl, .inl ?_, _, rfl⟩
    have := appendF_of (a := 2) (pb := false) rfl rfl (lc_row n hn d (.ol ((List.range i).map fun i => rowS (idRow n i))) i) (by rw [List.length_map, List.length_range]; have : bigLen = 1000000 := rfl; omega)
    rw [this, List.range_succ, List.map_append]
    rfl
  refine ⟨m', a, e, ?_⟩
  rw [h]
  unfold idG mkM matS
  rw [List.map_map]
  rfl
theorem bnd_addR {n : Nat} {G : List (List Int)} (w : wfM n G) (B : Bnd n G) {r : Row} (h : r.1 < n ∧ r.2.1 < n) : wfM n (addR G r) ∧ Bnd n (addR G r) := by
  obtain ⟨a, b, _⟩ := base_inv (n := n) [r] (G := G) (fun r' hr => by
    rw [List.mem_singleton] at hr
    subst hr
    exact h) w B
  exact ⟨a, b⟩
theorem lc_rows (n : Nat) (rows : List Row) (hr : In n rows) (a : Option Sl) : ∃ m' x y z, dFor (dISeq (dVar 1)) (bTup 3 (bCons (bName 4) (bCons (bName 5) (bCons (bName 6) bNil))))
 (dAsg (dApp (dCons true (dBin true (dBin true (dVar 2) (dVar 4) kIx) (dVar 5) kIx) (dCons true (dIfE (dTest (dVar 6)) (dC (.int 2)) (dC (.int 1))) dNil)) (kVN pMax2)) (bSubA (dBin true (dVar 2) (dVar 4) kIx) (dVar 5))) (lcM n (.tup (rows.map rowT)) (matS (idG n)) a none none none none none) = .ok .nx m' ∧ m' = lcM n (.tup (rows.map rowT)) (matS (rows.foldl addR (idG n))) a x y z none none := by
  obtain ⟨m', e, w, B, x, y, z, h⟩ := for_map (gi := dISeq (dVar 1)) (tg := bTup 3 (bCons (bName 4) (bCons (bName 5) (bCons (bName 6) bNil)))) (gb := (dAsg (dApp (dCons true (dBin true (dBin true (dVar 2) (dVar 4) kIx) (dVar 5) kIx) (dCons true (dIfE (dTest (dVar 6)) (dC (.int 2)) (dC (.int 1))) dNil)) (kVN pMax2)) (bSubA (dBin true (dVar 2) (dVar 4) kIx) (dVar 5)))) (m0 := lcM n (.tup (rows.map rowT)) (matS (idG n)) a none none none none none) (m := lcM n (.tup (rows.map rowT)) (matS (idG n)) a none none none none none) (l := rows) (b := idG n) rowT (fun G m => wfM n G ∧ Bnd n G ∧ ∃ x y z, m = lcM n (.tup (rows.map rowT)) (matS G) a x y z none none) addR (iseq_of (g := dVar 1) (ev := .v (.tup (rows.map rowT))) (d := .tup (rows.map rowT)) rfl rfl rfl) ⟨wf_mk n _, bnd_id n, none, none, none, rfl⟩ fun r hr' G m h => by
    obtain ⟨w, B, x, y, z, rfl⟩ := h
    obtain ⟨i, j, s⟩ := r
    obtain ⟨hi, hj⟩ := hr _ hr'
    have hi : i < n := hi
    have hj : j < n := hj
    obtain ⟨r, g1, g2, g3⟩ := wf_get w hi hj
    let mm : M := lcM n (.tup (rows.map rowT)) (matS G) a (some (.sv (.fz (.int i)))) (some (.sv (.fz (.int j)))) (some (.sv (.fz (.bl s)))) none none
    have e1 := ev_mat (m := mm) (a := 2) (b := 4) (c := 5) (o := .s 2) (i := i) (j := j) rfl rfl rfl rfl g1 g2
    have e2 : dIfE (dTest (dVar 6)) (dC (.int 2)) (dC (.int 1)) mm = .ok (.v (.int (grd s))) mm := by cases s <;> rfl
    have e3 := st_mat (a := 2) (b := 4) (c := 5) (o := .s 2) (i := i) (j := j) (max2_of (p := true) (q := true) e1 e2) rfl rfl rfl rfl g1 (by omega)
    obtain ⟨w', B'⟩ := bnd_addR (r := (i, j, s)) w B ⟨hi, hj⟩
    exact ⟨mm, lcM n (.tup (rows.map rowT)) (matS (addR G (i, j, s))) a (some (.sv (.fz (.int i)))) (some (.sv (.fz (.int j)))) (some (.sv (.fz (.bl s)))) none none, rfl, .inl e3, w', B', _, _, _, rfl⟩
  exact ⟨m', x, y, z, e, h⟩
theorem max3_of {p q r : Bool} {ga gb gc : M → Out EV} {m : M} {x y z : Int} (h1 : ga m = .ok (.v (.int x)) m) (h2 : gb m = .ok (.v (.int y)) m) (h3 : gc m = .ok (.v (.int z)) m) : dApp (dCons p ga (dCons q gb (dCons r gc dNil))) (kVN pMax3) m = .ok (.v (.int (max (max x y) z))) m :=
  (app_of (k := kVN pMax3) (cons_of (pb := p) (opd_of h1) (cons_of (pb := q) (opd_of h2) (cons_of (pb := r) (opd_of h3) (nil_of m))))).trans rfl
theorem lc_turn (n : Nat) (d : D) (G : List (List Int)) (w : wfM n G) (B : Bnd n G) (c a b : Nat) (hc : c < n) (ha : a < n) (hb : b < n) (x y z : Option Sl) :
    dIf (dAndT (dTest (dBin true (dBin true (dBin true (dVar 2) (dVar 3) kIx) (dVar 7) kIx) (dC (.int 0)) (kV2 pGt))) (dTest (dBin true (dBin true (dBin true (dVar 2) (dVar 7) kIx) (dVar 8) kIx) (dC (.int 0)) (kV2 pGt)))) (dAsg (dApp (dCons true (dBin true (dBin true (dVar 2) (dVar 3) kIx) (dVar 8) kIx) (dCons true (dBin true (dBin true (dVar 2) (dVar 3) kIx) (dVar 7) kIx) (dCons true (dBin true (dBin true (dVar 2) (dVar 7) kIx) (dVar 8) kIx) dNil))) (kVN pMax3)) (bSubA (dBin true (dVar 2) (dVar 3) kIx) (dVar 8)))
 dSkip (lcM n d (matS G) (some (.sv (.fz (.int a)))) x y z (some (.sv (.fz (.int c)))) (some (.sv (.fz (.int b))))) = .ok .nx (lcM n d (matS (rlx G c a b)) (some (.sv (.fz (.int a)))) x y z (some (.sv (.fz (.int c)))) (some (.sv (.fz (.int b))))) := by
  rw [← lrlx_eq w B hc ha hb]
  obtain ⟨r1, p1, p2, p3⟩ := wf_get w ha hc
  obtain ⟨r2, q1, q2, q3⟩ := wf_get w hc hb
  obtain ⟨r3, s1, s2, s3⟩ := wf_get w ha hb
  let mm : M := lcM n d (matS G) (some (.sv (.fz (.int a)))) x y z (some (.sv (.fz (.int c)))) (some (.sv (.fz (.int b))))
  have e1 := ev_mat (m := mm) (a := 2) (b := 3) (c := 7) (o := .s 2) (i := a) (j := c) rfl rfl rfl rfl p1 p2
  have e2 := ev_mat (m := mm) (a := 2) (b := 7) (c := 8) (o := .s 2) (i := c) (j := b) rfl rfl rfl rfl q1 q2
  have e3 := ev_mat (m := mm) (a := 2) (b := 3) (c := 8) (o := .s 2) (i := a) (j := b) rfl rfl rfl rfl s1 s2
  have t1 := test_of (bin3 (pb := true) (gb := dC (.int 0)) e1 rfl (gtI _ _))
  have t2 := test_of (bin3 (pb := true) (gb := dC (.int 0)) e2 rfl (gtI _ _))
  have t3 := and_of t1 (fun _ => t2) (fun _ => rfl)
  show dIf _ _ _ mm = _
  rw [if_of t3]
  unfold lrlx
  by_cases h : 0 < getM G a c ∧ 0 < getM G c b
  · rw [if_pos (by simp [h.1, h.2]), if_pos h]
    exact st_mat (a := 2) (b := 3) (c := 8) (o := .s 2) (i := a) (j := b) (max3_of (p := true) (q := true) (r := true) e3 e1 e2) rfl rfl rfl rfl s1 (by omega)
  · rw [if_neg (by simpa using h), if_neg h]
    rfl
theorem lc_loop (n : Nat) (hn : n ≤ 900) (d : D) (G : List (List Int)) (w : wfM n G) (B : Bnd n G) (a0 x y z : Option Sl) :
    ∃ m' a b c, dFor (dIter (dCons true (dVar 0) dNil) kRange1) (bName 7)
 (dFor (dIter (dCons true (dVar 0) dNil) kRange1) (bName 3)
 (dFor (dIter (dCons true (dVar 0) dNil) kRange1) (bName 8)
 (dIf (dAndT (dTest (dBin true (dBin true (dBin true (dVar 2) (dVar 3) kIx) (dVar 7) kIx) (dC (.int 0)) (kV2 pGt))) (dTest (dBin true (dBin true (dBin true (dVar 2) (dVar 7) kIx) (dVar 8) kIx) (dC (.int 0)) (kV2 pGt)))) (dAsg (dApp (dCons true (dBin true (dBin true (dVar 2) (dVar 3) kIx) (dVar 8) kIx) (dCons true (dBin true (dBin true (dVar 2) (dVar 3) kIx) (dVar 7) kIx) (dCons true (dBin true (dBin true (dVar 2) (dVar 7) kIx) (dVar 8) kIx) dNil))) (kVN pMax3)) (bSubA (dBin true (dVar 2) (dVar 3) kIx) (dVar 8)))
 dSkip))) (lcM n d (matS G) a0 x y z none none) = .ok .nx m' ∧ m' = lcM n d (matS (fw n G)) a x y z b c := by
  have hb : n ≤ bigLen := Nat.le_trans hn (by decide)
  obtain ⟨m', e, _, _, a, b, c, h⟩ := for_map (gi := dIter (dCons true (dVar 0) dNil) kRange1) (tg := bName 7) (gb := (dFor (dIter (dCons true (dVar 0) dNil) kRange1) (bName 3)
 (dFor (dIter (dCons true (dVar 0) dNil) kRange1) (bName 8)
 (dIf (dAndT (dTest (dBin true (dBin true (dBin true (dVar 2) (dVar 3) kIx) (dVar 7) kIx) (dC (.int 0)) (kV2 pGt))) (dTest (dBin true (dBin true (dBin true (dVar 2) (dVar 7) kIx) (dVar 8) kIx) (dC (.int 0)) (kV2 pGt)))) (dAsg (dApp (dCons true (dBin true (dBin true (dVar 2) (dVar 3) kIx) (dVar 8) kIx) (dCons true (dBin true (dBin true (dVar 2) (dVar 3) kIx) (dVar 7) kIx) (dCons true (dBin true (dBin true (dVar 2) (dVar 7) kIx) (dVar 8) kIx) dNil))) (kVN pMax3)) (bSubA (dBin true (dVar 2) (dVar 3) kIx) (dVar 8)))
 dSkip)))) (l := List.range n) (b := G) (fun i : Nat => D.int i) (fun G m => wfM n G ∧ Bnd n G ∧ ∃ a b c, m = lcM n d (matS G) a x y z b c) (fun G c => rnd n c G) (rng1 (i := 0) (m := lcM n d (matS G) a0 x y z none none) (n := n) rfl hb) ⟨w, B, a0, none, none, rfl⟩ fun c hc G m h => by
    obtain ⟨w, B, a1, b1, c1, rfl⟩ := h
    have hc := List.mem_range.mp hc
    obtain ⟨m', e, w', B', a2, c2, h⟩ := for_map (gi := dIter (dCons true (dVar 0) dNil) kRange1) (tg := bName 3) (gb := (dFor (dIter (dCons true (dVar 0) dNil) kRange1) (bName 8)
 (dIf (dAndT (dTest (dBin true (dBin true (dBin true (dVar 2) (dVar 3) kIx) (dVar 7) kIx) (dC (.int 0)) (kV2 pGt))) (dTest (dBin true (dBin true (dBin true (dVar 2) (dVar 7) kIx) (dVar 8) kIx) (dC (.int 0)) (kV2 pGt)))) (dAsg (dApp (dCons true (dBin true (dBin true (dVar 2) (dVar 3) kIx) (dVar 8) kIx) (dCons true (dBin true (dBin true (dVar 2) (dVar 3) kIx) (dVar 7) kIx) (dCons true (dBin true (dBin true (dVar 2) (dVar 7) kIx) (dVar 8) kIx) dNil))) (kVN pMax3)) (bSubA (dBin true (dVar 2) (dVar 3) kIx) (dVar 8)))
 dSkip))) (l := List.range n) (b := G) (fun i : Nat => D.int i) (fun G m => wfM n G ∧ Bnd n G ∧ ∃ a e, m = lcM n d (matS G) a x y z (some (.sv (.fz (.int c)))) e) (fun G a => (List.range n).foldl (fun G b => rlx G c a b) G) (rng1 (i := 0) (m := lcM n d (matS G) a1 x y z (some (.sv (.fz (.int c)))) c1) (n := n) rfl hb) ⟨w, B, a1, c1, rfl⟩ fun a ha G m h => by
      obtain ⟨w, B, a2, c2, rfl⟩ := h
      have ha := List.mem_range.mp ha
      obtain ⟨m', e, w', B', c3, h⟩ := for_map (gi := dIter (dCons true (dVar 0) dNil) kRange1) (tg := bName 8) (gb := (dIf (dAndT (dTest (dBin true (dBin true (dBin true (dVar 2) (dVar 3) kIx) (dVar 7) kIx) (dC (.int 0)) (kV2 pGt))) (dTest (dBin true (dBin true (dBin true (dVar 2) (dVar 7) kIx) (dVar 8) kIx) (dC (.int 0)) (kV2 pGt)))) (dAsg (dApp (dCons true (dBin true (dBin true (dVar 2) (dVar 3) kIx) (dVar 8) kIx) (dCons true (dBin true (dBin true (dVar 2) (dVar 3) kIx) (dVar 7) kIx) (dCons true (dBin true (dBin true (dVar 2) (dVar 7) kIx) (dVar 8) kIx) dNil))) (kVN pMax3)) (bSubA (dBin true (dVar 2) (dVar 3) kIx) (dVar 8)))
 dSkip)) (l := List.range n) (b := G) (fun i : Nat => D.int i) (fun G m => wfM n G ∧ Bnd n G ∧ ∃ e, m = lcM n d (matS G) (some (.sv (.fz (.int a)))) x y z (some (.sv (.fz (.int c)))) e) (fun G b => rlx G c a b) (rng1 (i := 0) (m := lcM n d (matS G) (some (.sv (.fz (.int a)))) x y z (some (.sv (.fz (.int c)))) c2) (n := n) rfl hb) ⟨w, B, c2, rfl⟩ fun b hb' G m h => by
        obtain ⟨w, B, c3, rfl⟩ := h
        have hb' := List.mem_range.mp hb'
        exact ⟨lcM n d (matS G) (some (.sv (.fz (.int a)))) x y z (some (.sv (.fz (.int c)))) (some (.sv (.fz (.int b)))), lcM n d (matS (rlx G c a b)) (some (.sv (.fz (.int a)))) x y z (some (.sv (.fz (.int c)))) (some (.sv (.fz (.int b)))), rfl, .inl (lc_turn n d G w B c a b hc ha hb' x y z), wf_rlx w c a b, bnd_rlx w B hc ha hb', _, rfl⟩
      exact ⟨lcM n d (matS G) (some (.sv (.fz (.int a)))) x y z (some (.sv (.fz (.int c)))) c2, m', rfl, .inl e, w', B', _, _, h⟩
    exact ⟨lcM n d (matS G) a1 x y z (some (.sv (.fz (.int c)))) c1, m', rfl, .inl e, w', B', _, _, _, h⟩
  exact ⟨m', a, b, c, e, h⟩
theorem e_lclosure (n : Nat) (hn : n ≤ 900) (rows : List Row) (hr : In n rows) : Rn (den__law_closure mg [.fz (.int n), .fz (.tup (rows.map rowT))] []) (matS (clos n rows)) [] := by
  have key : ∃ m', m'.pp = [] ∧ b__law_closure mg (enter 9 [.fz (.int n), .fz (.tup (rows.map rowT))] []) = .ok (.rt (matS (clos n rows))) m' := by
    obtain ⟨m1, a1, e1, h1⟩ := lc_id n hn (.tup (rows.map rowT))
    obtain ⟨m2, x, y, z, e2, h2⟩ := lc_rows n rows hr a1
    obtain ⟨wb, Bb, _⟩ := base_inv rows hr (wf_mk n _) (bnd_id n)
    obtain ⟨m3, a, b, c, e3, h3⟩ := lc_loop n hn (.tup (rows.map rowT)) (rows.foldl addR (idG n)) wb Bb a1 x y z
    unfold b__law_closure
    rw [seq_nx (g1 := dAsg (dApp dNil kLst0) (bName 2)) (m1 := lcM n (.tup (rows.map rowT)) (.ol []) none none none none none none) rfl]
    rw [seq_nx e1, h1, seq_nx e2, h2, seq_nx e3, h3]
    rw [clos_fw]
    exact ⟨⟨[some (.sv (.fz (.int n))), some (.sv (.fz (.tup (rows.map rowT)))), none, a, x, y, z, b, c], []⟩, rfl, rfl⟩
  obtain ⟨m', hp, e⟩ := key
  have := def_rt (n := 9) (b := b__law_closure mg) (as := [.fz (.int n), .fz (.tup (rows.map rowT))]) (pins := []) (m := m') e
  rw [hp] at this
  exact this
end K15
namespace K15
open PySem PySem.Spec PyProof.Rows L2 PD
variable {mg : Str → Option Value}
/-! ### _law_have_heights -/
def hhM (n : Nat) (G : List (List Int)) : M := ⟨[some (.sv (.fz (.int n))), some (.pa 0), none], [matS G]⟩
theorem eq_nil {s : SV} {ps : List PyData} (h : toPyS s = some (.list ps)) : bin2 pEq s (.fz (.lst [])) = some (.v (.bl ps.isEmpty)) := by
  have e : toPyS (.fz (.lst [])) = some (.list []) := rfl
  unfold bin2
  rw [h, e]
  show pEq (.list ps) (.list []) = _
  unfold pEq
  rw [if_pos (by unfold dMin; simp [PyData.depth, PyData.depthAll]), eqv_nil]
theorem e_have (n : Nat) (hn : n ≤ 900) (G : List (List Int)) (w : wfM n G) : Rn (den__law_have_heights mg [.fz (.int n), .pin 0] [matS G]) (.fz (.bl (((List.range n).filter fun i => decide (getM G i i = 2)).isEmpty))) [matS G] := by
  have key := comp_ifm (vs := [2]) (b := bName 2) (gt := dTest (dBin true (dBin true (dBin true (dVar 1) (dVar 2) kIx) (dVar 2) kIx) (dC (.int 2)) (kV2 (bin2 pEq)))) (ge := dC (.int 1)) (m := hhM n G) (l := List.range n) (fun i : Nat => D.int i) (fun i => decide (getM G i i = 2)) (fun _ => .fz (.int 1)) (rng1 (i := 0) (m := hhM n G) (n := n) rfl (Nat.le_trans hn (by decide))) (by rw [List.length_range]; exact Nat.le_trans hn (by decide)) rfl rfl fun i hi => by
    have hi := List.mem_range.mp hi
    obtain ⟨r, p1, p2, _⟩ := wf_get w hi hi
    let mm : M := ⟨[some (.sv (.fz (.int n))), some (.pa 0), some (.sv (.fz (.int i)))], [matS G]⟩
    have e := ev_mat (m := mm) (a := 1) (b := 2) (c := 2) (o := .p 0) (i := i) (j := i) rfl rfl rfl rfl p1 p2
    exact ⟨mm, mm, rfl, test_of (bin3 (pb := true) (gb := dC (.int 2)) e rfl (eqI _ _ _)), fun _ => rfl, fun _ => ⟨.v (.int 1), mm, mm, rfl, rfl, rfl⟩⟩
  have o1 := opdF_of key
  rw [frz_fm (fun _ => D.int 1)] at o1
  have o2 : opd (dApp dNil kLst0) (hhM n G) = .ok (.v (.lst [])) (hhM n G) := rfl
  have run : b__law_have_heights mg (hhM n G) = .ok (.rt (.fz (.bl (((List.range n).filter fun i => decide (getM G i i = 2)).isEmpty)))) (hhM n G) := by
    unfold b__law_have_heights
    refine retV_of ?_
    rw [bin_of o1 o2]
    have py : toPyS (.fz (.lst (((List.range n).filter fun i => decide (getM G i i = 2)).map fun _ => D.int 1))) = some (.list (((List.range n).filter fun i => decide (getM G i i = 2)).map fun _ => PyData.int 1)) := by
      have : ∀ l : List Nat, toPyL (l.map fun _ => D.int 1) = some (l.map fun _ => PyData.int 1) := fun l => by
        induction l with
        | nil => rfl
        | cons x l ih => rw [List.map_cons, toPyL, ih]; rfl
      show (toPyL _).map _ = _
      rw [this]
      rfl
    rw [s_kv2, eq_nil py]
    simp
  exact def_rt (n := 3) (b := b__law_have_heights mg) (as := [.fz (.int n), .pin 0]) (pins := [matS G]) (m := hhM n G) run
end K15
namespace K15
open PySem PySem.Spec PyProof.Rows L2 PD
variable {mg : Str → Option Value}
/-- a comprehension whose turns draw -/
theorem compI_rel {vs : List Nat} {b : EV → M → Out Unit} {ge : M → Out EV} (N : Nat) (P : SV → Prop) (Rp : Nat → M → Prop) : ∀ (l : List D) (i : Nat) (acc : List SV) (m : M), acc.length + l.length ≤ bigLen → i + l.length ≤ N → Rp i m →
    (∀ d ∈ l, ∀ i m, i < N → Rp i m → ∃ m1 ev m3 m4 s, b (.v d) m = .ok () m1 ∧ ge m1 = .ok ev m3 ∧ elem m3 ev = .ok s m4 ∧ P s ∧ Rp (i + 1) (wipeM m4 vs)) →
    ∃ ys m', compI always vs b (fun m => .ok true m) ge l acc m = .ok (acc ++ ys) m' ∧ Rp (i + l.length) m' ∧ ys.length = l.length ∧ ∀ s ∈ ys, P s
  | [], i, acc, m, _, _, h, _ => ⟨[], m, by simp [compI, always], h, rfl, fun s h => by cases h⟩
  | d :: r, i, acc, m, hl, hN, h, k => by
    rw [List.length_cons] at hN
    obtain ⟨m1, ev, m3, m4, s, h1, h2, h3, h4, h5⟩ := k d List.mem_cons_self i m (by omega) h
    rw [List.length_cons] at hl
    obtain ⟨ys, m', e, h6, h7, h8⟩ := compI_rel N P Rp r (i + 1) (acc ++ [s]) (wipeM m4 vs) (by rw [List.length_append]; simp; omega) (by omega) h5 fun d hd => k d (List.mem_cons_of_mem _ hd)
    refine ⟨s :: ys, m', ?_, by rw [List.length_cons, show i + (r.length + 1) = i + 1 + r.length by omega]; exact h6, by simp [h7], fun t ht => ?_⟩
    · unfold compI
      have hb : acc.length < bigLen := by omega
      simp only [always, if_true, h1, h2, h3, hb]
      rw [e]
      simp
    · rcases List.mem_cons.mp ht with rfl | ht
      · exact h4
      · exact h8 t ht
/-! ### _law_orders -/
def loM (mo : Int) (s : SV) (c : Option Sl) (rk o a5 a6 a7 : Option Sl) : M := ⟨[some (.pa 0), some (.sv (.fz (.int mo))), c, rk, o, a5, a6, a7, none], [s]⟩
theorem ix_ints {m : M} {o : Ow} {a b : Nat} {l : List Int} {i : Nat} (ha : dVar a m = .ok (.br o []) m) (hg : get m o = some (intsS l)) (hb : dVar b m = .ok (.v (.int i)) m) (hi : i < l.length) : dBin true (dVar a) (dVar b) kIx m = .ok (.v (.int l[i])) m := by
  rw [bin_of (opd_of ha) (opd_of hb)]
  have v : PD.view m (.br o []) = some (intsS l) := by simp [PD.view, hg, PD.sub]
  have s : stepIx (intsS l) (.fz (.int i)) = some (.fz (.int l[i]), .i i) := by
    show (ixN (l.map fun i => SV.fz (.int i)).length i).bind _ = _
    rw [List.length_map, ixN_at hi]
    show (((l.map fun i => SV.fz (.int i))[i]?).map fun x => (x, Pth.i i)) = _
    rw [List.getElem?_map, List.getElem?_eq_getElem hi]
    rfl
  unfold kIx
  rw [v]
  simp only [PD.view, s]
theorem andv_of {ga gb : M → Out EV} {m m1 m2 : M} {a b : Bool} (h1 : ga m = .ok (.v (.bl a)) m1) (h2 : a = true → gb m1 = .ok (.v (.bl b)) m2) (h3 : a = false → m1 = m2) : dAndV ga gb m = .ok (.v (.bl (a && b))) m2 := by
  unfold dAndV
  rw [h1]
  cases a with
  | true => simp [h2 rfl]
  | false => simp [h3 rfl]
theorem coin {p : Bool} {a : Nat} {o : Ow} {m : M} {k : Nat} {s : SV} (hv : dVar a m = .ok (.br o []) m) (hg : get m o = some s) (h : Dk k s) (hk : k < 2 ^ 58) : ∃ s' b, Dk (k + 1) s' ∧ dBin true (dApp (dCons p (dVar a) (dCons true (dC (.int 2)) dNil)) (callK 2 (den__law_draw mg))) (dC (.int 0)) (kV2 (bin2 pEq)) m = .ok (.v (.bl b)) (setO m o s') := by
  obtain ⟨s', r, h1, h2, h3, e⟩ := draw_call (mg := mg) (p := p) (q := true) hv hg h hk (b := 2) (by decide) (gb := dC (.int 2)) rfl
  exact ⟨s', _, h1, bin3 (pb := true) (gb := dC (.int 0)) e rfl (eqI _ _ _)⟩
def ordS (o : List Row) : SV := .ol (o.map fun r => .fz (rowT r))
def vN (n : Nat) : Option Sl := some (.sv (.fz (.int n)))
theorem in_app {n : Nat} {o : List Row} (h : In n o) {r : Row} (hr : r.1 < n ∧ r.2.1 < n) : In n (o ++ [r]) := fun r' h' => by
  rcases List.mem_append.mp h' with h' | h'
  · exact h r' h'
  · rw [List.mem_singleton] at h'
    subst h'
    exact hr
theorem ord_app (o : List Row) (r : Row) : SV.ol (o.map (fun r => SV.fz (rowT r)) ++ [.fz (rowT r)]) = ordS (o ++ [r]) := by
  unfold ordS
  rw [List.map_append]
  rfl
theorem lo_turn {mo : Int} {k : Nat} {s : SV} (h : Dk k s) (hk : k < 2 ^ 57) (n : Nat) (hn : 1 ≤ n ∧ n ≤ 900) (rk : List Int) (hrk : rk.length = n) (o : List Row) (ho : In n o) (hol : o.length ≤ 900) (a5 a6 a7 : Option Sl) :
    ∃ s' o' b6 b7, Dk (k + 4) s' ∧ In n o' ∧ o'.length ≤ o.length + 2 ∧
    (dSeq (dPar [6, 7] (dRaw (dApp (dCons true (dVar 0) (dCons true (dVar 2) dNil)) (callK 2 (den__law_draw mg))) (dRaw (dApp (dCons true (dVar 0) (dCons true (dVar 2) dNil)) (callK 2 (den__law_draw mg))) dRaw0)))
 (dSeq (dIf (dTest (dBin true (dBin true (dVar 3) (dVar 6) kIx) (dBin true (dVar 3) (dVar 7) kIx) (kV2 pLt))) (dPar [6, 7] (dRaw (dVar 7) (dRaw (dVar 6) dRaw0)))
 dSkip)
 (dSeq (dDrop (dMt1 "list" false (dVar 4) (dApp (dCons false (dVar 6) (dCons false (dVar 7) (dCons true (dAndV (dBin true (dBin true (dVar 3) (dVar 6) kIx) (dBin true (dVar 3) (dVar 7) kIx) (kV2 pGt)) (dBin true (dApp (dCons true (dVar 0) (dCons true (dC (.int 2)) dNil)) (callK 2 (den__law_draw mg))) (dC (.int 0)) (kV2 (bin2 pEq)))) dNil))) PD.kTup) fAppend))
 (dIf (dAndT (dTest (dBin true (dBin true (dVar 3) (dVar 6) kIx) (dBin true (dVar 3) (dVar 7) kIx) (kV2 (bin2 pEq)))) (dTest (dBin true (dApp (dCons true (dVar 0) (dCons true (dC (.int 2)) dNil)) (callK 2 (den__law_draw mg))) (dC (.int 0)) (kV2 (bin2 pEq))))) (dDrop (dMt1 "list" false (dVar 4) (dApp (dCons true (dVar 7) (dCons true (dVar 6) (dCons true (dC (.bl false)) dNil))) PD.kTup) fAppend))
 dSkip)))) (loM mo s (vN n) (some (.sv (intsS rk))) (some (.sv (ordS o))) a5 a6 a7) = .ok .nx (loM mo s' (vN n) (some (.sv (intsS rk))) (some (.sv (ordS o'))) a5 b6 b7) := by
  have hbl : bigLen = 1000000 := rfl
  obtain ⟨s1, r1, d1, g1, g1', e1⟩ := draw_call (mg := mg) (p := true) (q := true) (a := 0) (o := .p 0) (gb := dVar 2) (m := loM mo s (vN n) (some (.sv (intsS rk))) (some (.sv (ordS o))) a5 a6 a7) (b := n) rfl rfl h (by omega) (by omega) rfl
  obtain ⟨s2, r2, d2, g2, g2', e2⟩ := draw_call (mg := mg) (p := true) (q := true) (a := 0) (o := .p 0) (gb := dVar 2) (m := loM mo s1 (vN n) (some (.sv (intsS rk))) (some (.sv (ordS o))) a5 a6 a7) (b := n) rfl rfl d1 (by omega) (by omega) rfl
  obtain ⟨i, rfl⟩ := Int.eq_ofNat_of_zero_le g1
  obtain ⟨j, rfl⟩ := Int.eq_ofNat_of_zero_le g2
  have hi : i < n := by omega
  have hj : j < n := by omega
  have p1 : dPar [6, 7] (dRaw (dApp (dCons true (dVar 0) (dCons true (dVar 2) dNil)) (callK 2 (den__law_draw mg))) (dRaw (dApp (dCons true (dVar 0) (dCons true (dVar 2) dNil)) (callK 2 (den__law_draw mg))) dRaw0)) (loM mo s (vN n) (some (.sv (intsS rk))) (some (.sv (ordS o))) a5 a6 a7) = .ok .nx (loM mo s2 (vN n) (some (.sv (intsS rk))) (some (.sv (ordS o))) a5 (vN i) (vN j)) :=
    par_of (raw_of e1 rfl (raw_of e2 rfl rfl)) rfl
  have x6 : ∀ (s : SV) (o : List Row) (i j : Nat), i < n → dBin true (dVar 3) (dVar 6) kIx (loM mo s (vN n) (some (.sv (intsS rk))) (some (.sv (ordS o))) a5 (vN i) (vN j)) = .ok (.v (.int (rk[i]?.getD 0))) (loM mo s (vN n) (some (.sv (intsS rk))) (some (.sv (ordS o))) a5 (vN i) (vN j)) := fun s o i j hi => by
    have := ix_ints (m := loM mo s (vN n) (some (.sv (intsS rk))) (some (.sv (ordS o))) a5 (vN i) (vN j)) (a := 3) (b := 6) (o := .s 3) (l := rk) (i := i) rfl rfl rfl (by omega)
    rw [this, List.getElem?_eq_getElem (by omega)]
    rfl
  have x7 : ∀ (s : SV) (o : List Row) (i j : Nat), j < n → dBin true (dVar 3) (dVar 7) kIx (loM mo s (vN n) (some (.sv (intsS rk))) (some (.sv (ordS o))) a5 (vN i) (vN j)) = .ok (.v (.int (rk[j]?.getD 0))) (loM mo s (vN n) (some (.sv (intsS rk))) (some (.sv (ordS o))) a5 (vN i) (vN j)) := fun s o i j hj => by
    have := ix_ints (m := loM mo s (vN n) (some (.sv (intsS rk))) (some (.sv (ordS o))) a5 (vN i) (vN j)) (a := 3) (b := 7) (o := .s 3) (l := rk) (i := j) rfl rfl rfl (by omega)
    rw [this, List.getElem?_eq_getElem (by omega)]
    rfl
  have p2 : ∃ i' j', i' < n ∧ j' < n ∧ dIf (dTest (dBin true (dBin true (dVar 3) (dVar 6) kIx) (dBin true (dVar 3) (dVar 7) kIx) (kV2 pLt))) (dPar [6, 7] (dRaw (dVar 7) (dRaw (dVar 6) dRaw0))) dSkip (loM mo s2 (vN n) (some (.sv (intsS rk))) (some (.sv (ordS o))) a5 (vN i) (vN j)) = .ok .nx (loM mo s2 (vN n) (some (.sv (intsS rk))) (some (.sv (ordS o))) a5 (vN i') (vN j')) := by
    have t := test_of (bin3 (pb := true) (x6 s2 o i j hi) (x7 s2 o i j hj) (ltI _ _))
    rw [if_of t]
    split
    · exact ⟨j, i, hj, hi, par_of (raw_of (gv := dVar 7) (ev := .v (.int j)) rfl rfl (raw_of (gv := dVar 6) (ev := .v (.int i)) rfl rfl rfl)) rfl⟩
    · exact ⟨i, j, hi, hj, rfl⟩
  obtain ⟨i', j', hi', hj', p2⟩ := p2
  have p3 : ∃ s3 st, Dk (k + 3) s3 ∧ dAndV (dBin true (dBin true (dVar 3) (dVar 6) kIx) (dBin true (dVar 3) (dVar 7) kIx) (kV2 pGt)) (dBin true (dApp (dCons true (dVar 0) (dCons true (dC (.int 2)) dNil)) (callK 2 (den__law_draw mg))) (dC (.int 0)) (kV2 (bin2 pEq))) (loM mo s2 (vN n) (some (.sv (intsS rk))) (some (.sv (ordS o))) a5 (vN i') (vN j')) = .ok (.v (.bl st)) (loM mo s3 (vN n) (some (.sv (intsS rk))) (some (.sv (ordS o))) a5 (vN i') (vN j')) := by
    have t := bin3 (pb := true) (x6 s2 o i' j' hi') (x7 s2 o i' j' hj') (gtI _ _)
    obtain ⟨s3, b, d3, e3⟩ := coin (mg := mg) (p := true) (a := 0) (o := .p 0) (m := loM mo s2 (vN n) (some (.sv (intsS rk))) (some (.sv (ordS o))) a5 (vN i') (vN j')) rfl rfl d2 (by omega)
    cases hc : decide (rk[j']?.getD 0 < rk[i']?.getD 0) with
    | true => rw [hc] at t; exact ⟨s3, true && b, d3, andv_of t (fun _ => e3) (fun h => by cases h)⟩
    | false => rw [hc] at t; exact ⟨s2, false && b, d2.up (by omega), andv_of t (fun h => by cases h) (fun _ => rfl)⟩
  obtain ⟨s3, st, d3, e3⟩ := p3
  have p4 := append_of (a := 4) (pb := false) (m := loM mo s3 (vN n) (some (.sv (intsS rk))) (some (.sv (ordS o))) a5 (vN i') (vN j')) (ga := dC (rowT (i', j', st))) (xs := o.map fun r => .fz (rowT r)) (d := rowT (i', j', st)) rfl rfl rfl (by rw [List.length_map]; omega)
  have p5 : dDrop (dMt1 "list" false (dVar 4) (dApp (dCons false (dVar 6) (dCons false (dVar 7) (dCons true (dAndV (dBin true (dBin true (dVar 3) (dVar 6) kIx) (dBin true (dVar 3) (dVar 7) kIx) (kV2 pGt)) (dBin true (dApp (dCons true (dVar 0) (dCons true (dC (.int 2)) dNil)) (callK 2 (den__law_draw mg))) (dC (.int 0)) (kV2 (bin2 pEq)))) dNil))) PD.kTup) fAppend) (loM mo s2 (vN n) (some (.sv (intsS rk))) (some (.sv (ordS o))) a5 (vN i') (vN j')) = .ok .nx (loM mo s3 (vN n) (some (.sv (intsS rk))) (some (.sv (ordS (o ++ [(i', j', st)])))) a5 (vN i') (vN j')) := by
    have tp := (app_of (k := PD.kTup) (cons_of (pb := false) (opd_of (g := dVar 6) (m := loM mo s2 (vN n) (some (.sv (intsS rk))) (some (.sv (ordS o))) a5 (vN i') (vN j')) (x := .v (.int i')) rfl) (cons_of (pb := false) (opd_of (g := dVar 7) (x := .v (.int j')) rfl) (cons_of (pb := true) (opd_of e3) (nil_of _)))))
    have tq : PD.kTup (loM mo s3 (vN n) (some (.sv (intsS rk))) (some (.sv (ordS o))) a5 (vN i') (vN j')) [.v (.int i'), .v (.int j'), .v (.bl st)] = .ok (.v (rowT (i', j', st))) (loM mo s3 (vN n) (some (.sv (intsS rk))) (some (.sv (ordS o))) a5 (vN i') (vN j')) := rfl
    have := appendM_of (a := 4) (pb := false) (m1 := loM mo s3 (vN n) (some (.sv (intsS rk))) (some (.sv (ordS o))) a5 (vN i') (vN j')) (xs := o.map fun r => .fz (rowT r)) rfl rfl rfl (tp.trans tq) (by rw [List.length_map]; omega)
    rw [this, ord_app]
    rfl
  have len1 : (o ++ [(i', j', st)]).length = o.length + 1 := by simp
  have in1 := in_app ho (r := (i', j', st)) ⟨hi', hj'⟩
  have tt := test_of (bin3 (pb := true) (x6 s3 (o ++ [(i', j', st)]) i' j' hi') (x7 s3 (o ++ [(i', j', st)]) i' j' hj') (eqI _ _ _))
  obtain ⟨s4, b, d4, e4⟩ := coin (mg := mg) (p := true) (a := 0) (o := .p 0) (m := loM mo s3 (vN n) (some (.sv (intsS rk))) (some (.sv (ordS (o ++ [(i', j', st)])))) a5 (vN i') (vN j')) rfl rfl d3 (by omega)
  have p6 : ∃ s5 o', Dk (k + 4) s5 ∧ In n o' ∧ o'.length ≤ o.length + 2 ∧ (dIf (dAndT (dTest (dBin true (dBin true (dVar 3) (dVar 6) kIx) (dBin true (dVar 3) (dVar 7) kIx) (kV2 (bin2 pEq)))) (dTest (dBin true (dApp (dCons true (dVar 0) (dCons true (dC (.int 2)) dNil)) (callK 2 (den__law_draw mg))) (dC (.int 0)) (kV2 (bin2 pEq))))) (dDrop (dMt1 "list" false (dVar 4) (dApp (dCons true (dVar 7) (dCons true (dVar 6) (dCons true (dC (.bl false)) dNil))) PD.kTup) fAppend))
 dSkip) (loM mo s3 (vN n) (some (.sv (intsS rk))) (some (.sv (ordS (o ++ [(i', j', st)])))) a5 (vN i') (vN j')) = .ok .nx (loM mo s5 (vN n) (some (.sv (intsS rk))) (some (.sv (ordS o'))) a5 (vN i') (vN j')) := by
    cases hc : decide (rk[i']?.getD 0 = rk[j']?.getD 0) with
    | false =>
      rw [hc] at tt
      refine ⟨s3, o ++ [(i', j', st)], d3.up (by omega), in1, by omega, ?_⟩
      rw [if_of (and_of (b := true) tt (fun h => by cases h) (fun _ => rfl))]
      rfl
    | true =>
      rw [hc] at tt
      cases b with
      | false =>
        refine ⟨s4, o ++ [(i', j', st)], d4, in1, by omega, ?_⟩
        rw [if_of (and_of tt (fun _ => test_of e4) (fun h => by cases h))]
        rfl
      | true =>
        refine ⟨s4, o ++ [(i', j', st)] ++ [(j', i', false)], d4, in_app in1 ⟨hj', hi'⟩, by rw [List.length_append, len1]; simp, ?_⟩
        rw [if_of (and_of tt (fun _ => test_of e4) (fun h => by cases h))]
        have tp := (app_of (k := PD.kTup) (cons_of (pb := true) (opd_of (g := dVar 7) (m := loM mo s4 (vN n) (some (.sv (intsS rk))) (some (.sv (ordS (o ++ [(i', j', st)])))) a5 (vN i') (vN j')) (x := .v (.int j')) rfl) (cons_of (pb := true) (opd_of (g := dVar 6) (x := .v (.int i')) rfl) (cons_of (pb := true) (opd_of (g := dC (.bl false)) (x := .v (.bl false)) rfl) (nil_of _)))))
        have := append_of (a := 4) (pb := false) (xs := (o ++ [(i', j', st)]).map fun r => .fz (rowT r)) (d := rowT (j', i', false)) rfl rfl (tp.trans rfl) (by rw [List.length_map]; omega)
        rw [Bool.and_self, if_pos rfl]
        refine this.trans ?_
        rw [ord_app]
        rfl
  obtain ⟨s5, o', d5, in2, l2, p6⟩ := p6
  exact ⟨s5, o', vN i', vN j', d5, in2, l2, by rw [seq_nx p1, seq_nx p2, seq_nx p5]; exact p6⟩
end K15
namespace K15
open PySem PySem.Spec PyProof.Rows L2 PD
variable {mg : Str → Option Value}
theorem draw_call2 {p q : Bool} {a : Nat} {o : Ow} {gb : M → Out EV} {m m1 : M} {k : Nat} {s : SV} {b : Int} (hv : dVar a m = .ok (.br o []) m) (hg : get m1 o = some s) (h : Dk k s) (hk : k < 2 ^ 58) (hb : 0 < b ∧ b < 2 ^ 29) (hgb : gb m = .ok (.v (.int b)) m1) :
    ∃ s' r, Dk (k + 1) s' ∧ 0 ≤ r ∧ r < b ∧ dApp (dCons p (dVar a) (dCons q gb dNil)) (callK 2 (den__law_draw mg)) m = .ok (.v (.int r)) (setO m1 o s') := by
  obtain ⟨s', r, h1, h2, h3, e⟩ := h.draw (mg := mg) hk hb
  refine ⟨s', r, h1, h2, h3, ?_⟩
  have c := app_of (k := callK 2 (den__law_draw mg)) (cons_of (pb := p) (opd_of hv) (cons_of (pb := q) (opd_of hgb) (nil_of m1)))
  rw [c]
  exact call_p (ds := [.int b]) rfl hg e
theorem rg_k {m1 : M} {n : Nat} (hn : n ≤ bigLen) : kRange1 m1 [.v (.int n)] = .ok ⟨(List.range n).map fun i => .int (i : Nat), always⟩ m1 := by
  have h1 : (-(2 ^ 62) ≤ (n : Int) ∧ (n : Int) < 2 ^ 62) := by
    have hb : bigLen = 1000000 := rfl
    exact ⟨by omega, by omega⟩
  unfold kRange1
  simp only []
  rw [if_pos h1, Int.toNat_natCast]
theorem rng_of {gs : M → Out (List EV)} {m m1 : M} {n : Nat} (h : gs m = .ok [.v (.int n)] m1) (hn : n ≤ bigLen) : dIter gs kRange1 m = .ok ⟨(List.range n).map fun i => .int (i : Nat), always⟩ m1 := by
  unfold dIter
  rw [h, bind_ok]
  exact rg_k hn
theorem lst_of {m m1 : M} {es : List EV} {ds : List D} (h : es.length ≤ bigLen) (e : evD m es = .ok ds m1) : kLst m es = .ok (.fr (.ol (ds.map .fz))) m1 := by
  have k : kLst m es = (evD m es).bind fun ds m1 => .ok (.fr (.ol (ds.map .fz))) m1 := if_pos h
  rw [k, e]
  rfl
def rkL : List D := [.int 0, .int 0, .int 1, .int 1, .int 2, .int 3, .int 7, .int (-4), .int ((10 : Int) ^ (6 : Int).toNat)]
theorem rk_lit (m : M) : opd (dApp (dCons true (dC (.int 0)) (dCons true (dC (.int 0)) (dCons true (dC (.int 1)) (dCons true (dC (.int 1)) (dCons true (dC (.int 2)) (dCons true (dC (.int 3)) (dCons true (dC (.int 7)) (dCons true (dUn (dC (.int 4)) (kV1 pNeg)) (dCons true (dBin true (dC (.int 10)) (dC (.int 6)) (kV2 pPow)) dNil))))))))) kLst) m = .ok (.v (.lst rkL)) m := by
  have p := bin3 (pb := true) (ga := dC (.int 10)) (gb := dC (.int 6)) (m := m) (x := .int 10) (y := .int 6) rfl rfl (powI (by decide))
  have q : dUn (dC (.int 4)) (kV1 pNeg) m = .ok (.v (.int (-4))) m := un3 (ga := dC (.int 4)) (x := .int 4) rfl (negI 4)
  have c (d : D) {xs : List EV} {gs : M → Out (List EV)} (h : gs m = .ok xs m) : dCons true (dC d) gs m = .ok (.v d :: xs) m := cons_of (opd_of (g := dC d) (x := .v d) rfl) h
  have l := app_of (k := kLst) (c (.int 0) (c (.int 0) (c (.int 1) (c (.int 1) (c (.int 2) (c (.int 3) (c (.int 7) (cons_of (pb := true) (opd_of q) (cons_of (pb := true) (opd_of p) (nil_of m))))))))))
  have k : kLst m [.v (.int 0), .v (.int 0), .v (.int 1), .v (.int 1), .v (.int 2), .v (.int 3), .v (.int 7), .v (.int (-4)), .v (.int ((10 : Int) ^ (6 : Int).toNat))] = .ok (.fr (.ol (rkL.map .fz))) m := lst_of (ds := rkL) (by show 9 ≤ 1000000; omega) rfl
  have := opdF_of (l.trans k)
  rw [frz_fz] at this
  exact this
theorem dcomp_of {gi : M → Out Wk} {vs : List Nat} {b : EV → M → Out Unit} {gt : M → Out Bool} {ge : M → Out EV} {m m0 m2 : M} {l : List D} {xs : List SV} (hi : gi m0 = .ok ⟨l, always⟩ m) (al : vs.all (fun v => plainSl (m.sl[v]?.join)) = true) (c : compI always vs b gt ge l [] (wipeM m vs) = .ok xs m2) : dComp gi vs b gt ge m0 = .ok (.fr (.ol xs)) (restM m2 m vs) := by
  unfold dComp
  rw [hi, bind_ok]
  show (if vs.all (fun v => plainSl (m.sl[v]?.join)) = true then _ else _) = _
  rw [if_pos al]
  show (match compI always vs b gt ge l [] (wipeM m vs) with
    | .ok xs m2 => Out.ok (EV.fr (.ol xs)) (restM m2 m vs)
    | _ => .bad) = _
  rw [c]
theorem ints_of {ys : List SV} (h : ∀ s ∈ ys, ∃ x : Int, s = .fz (.int x)) : ∃ rk : List Int, ys = rk.map fun i => .fz (.int i) := by
  induction ys with
  | nil => exact ⟨[], rfl⟩
  | cons y ys ih =>
    obtain ⟨x, rfl⟩ := h y List.mem_cons_self
    obtain ⟨rk, rfl⟩ := ih fun s hs => h s (List.mem_cons_of_mem _ hs)
    exact ⟨x :: rk, rfl⟩
theorem pick3 (m : M) : opd (dApp (dCons true (dC (.int 4)) (dCons true (dC (.int 9)) (dCons true (dC (.int 20)) dNil))) kLst) m = .ok (.v (.lst [.int 4, .int 9, .int 20])) m := by
  have l := app_of (k := kLst) (cons_of (pb := true) (opd_of (g := dC (.int 4)) (m := m) (x := .v (.int 4)) rfl) (cons_of (pb := true) (opd_of (g := dC (.int 9)) (x := .v (.int 9)) rfl) (cons_of (pb := true) (opd_of (g := dC (.int 20)) (x := .v (.int 20)) rfl) (nil_of m))))
  have := opdF_of (l.trans (lst_of (ds := [.int 4, .int 9, .int 20]) (by show 3 ≤ 1000000; omega) rfl))
  rw [frz_fz] at this
  exact this
theorem e_orders {k : Nat} {s : SV} (h : Dk k s) (hk : k < 2 ^ 56) (mo : Int) (hmo : 0 < mo ∧ mo ≤ 100) : ∃ (s' : SV) (n : Nat) (rk : List D) (o : List Row), Dk (k + 200) s' ∧ 1 ≤ n ∧ (n : Int) ≤ mo ∧ o.length ≤ 30 ∧ In n o ∧
    Rn (den__law_orders mg [.pin 0, .fz (.int mo)] [s]) (.fz (.tup [.int (n : Nat), .tup rk, .lst (o.map rowT)])) [s'] := by
  have hbl : bigLen = 1000000 := rfl
  -- count
  obtain ⟨s1, r, d1, g0, g1, e1⟩ := draw_call (mg := mg) (p := true) (q := true) (a := 0) (o := .p 0) (gb := dVar 1) (m := loM mo s none none none none none none) (b := mo) rfl rfl h (by omega) (by omega) rfl
  obtain ⟨c, rfl⟩ := Int.eq_ofNat_of_zero_le g0
  have p1 := asgV_of (i := 2) (bin3 (pb := false) (ga := dC (.int 1)) (x := .int 1) rfl e1 (plusI _ _))
  obtain ⟨n, hn⟩ : ∃ n : Nat, (n : Int) = 1 + c := ⟨1 + c, by omega⟩
  rw [← hn] at p1
  have hn1 : 1 ≤ n ∧ (n : Int) ≤ mo := by omega
  -- ranks
  obtain ⟨ys, m2, p2, ⟨s2, d2, rfl⟩, l2, y2⟩ := compI_rel n (vs := [8]) (b := bName 8) (ge := dApp (dCons false (dVar 0) (dCons true (dApp (dCons true (dC (.int 0)) (dCons true (dC (.int 0)) (dCons true (dC (.int 1)) (dCons true (dC (.int 1)) (dCons true (dC (.int 2)) (dCons true (dC (.int 3)) (dCons true (dC (.int 7)) (dCons true (dUn (dC (.int 4)) (kV1 pNeg)) (dCons true (dBin true (dC (.int 10)) (dC (.int 6)) (kV2 pPow)) dNil))))))))) kLst) dNil)) (callK 2 (den__law_pick mg))) (fun t => ∃ x : Int, t = .fz (.int x)) (fun i m => ∃ s, Dk (k + 1 + i) s ∧ m = loM mo s (vN n) none none none none none) ((List.range n).map fun i => D.int (i : Nat)) 0 [] (loM mo s1 (vN n) none none none none none) (by simp; omega) (by simp) ⟨s1, d1, rfl⟩ fun d hd i m hi h => by
    obtain ⟨s, hs, rfl⟩ := h
    obtain ⟨s', x, hx, d', e⟩ := pick_call (mg := mg) (p := false) (q := true) (a := 0) (o := .p 0) (items := rkL) (m := ⟨[some (.pa 0), some (.sv (.fz (.int mo))), vN n, none, none, none, none, none, some (.sv (.fz d))], [s]⟩) (k := k + 1 + i) rfl rfl hs (by omega) (by unfold rkL; exact List.cons_ne_nil _ _) (by unfold rkL; decide) (rk_lit _)
    have hx' : ∃ y : Int, x = .int y := by
      unfold rkL at hx
      simp only [List.mem_cons, List.not_mem_nil, or_false] at hx
      rcases hx with rfl | rfl | rfl | rfl | rfl | rfl | rfl | rfl | rfl <;> exact ⟨_, rfl⟩
    obtain ⟨y, rfl⟩ := hx'
    exact ⟨⟨[some (.pa 0), some (.sv (.fz (.int mo))), vN n, none, none, none, none, none, some (.sv (.fz d))], [s]⟩, .v (.int y), ⟨[some (.pa 0), some (.sv (.fz (.int mo))), vN n, none, none, none, none, none, some (.sv (.fz d))], [s']⟩, ⟨[some (.pa 0), some (.sv (.fz (.int mo))), vN n, none, none, none, none, none, some (.sv (.fz d))], [s']⟩, .fz (.int y), rfl, e, rfl, ⟨y, rfl⟩, s', d', rfl⟩
  obtain ⟨rk, rfl⟩ := ints_of y2
  rw [List.length_map] at l2
  have hrk : rk.length = n := by rw [l2]; simp
  have c2 := dcomp_of (gi := dIter (dCons true (dVar 2) dNil) kRange1) (m0 := loM mo s1 (vN n) none none none none none) (m := loM mo s1 (vN n) none none none none none) (rng_of (cons_of (pb := true) (opd_of (g := dVar 2) (m := loM mo s1 (vN n) none none none none none) (x := .v (.int n)) rfl) (nil_of _)) (by omega)) rfl p2
  rw [List.nil_append] at c2
  have p3 := asgF_of (i := 3) c2 (by show 3 < 9; decide)
  -- how many
  let mA : M := loM mo s2 (vN n) (some (.sv (intsS rk))) (some (.sv (ordS []))) none none none
  have d2' : Dk (k + 101) s2 := d2.up (by simp; omega)
  obtain ⟨s3, x, hx, d3, e3⟩ := pick_call (mg := mg) (p := false) (q := true) (a := 0) (o := .p 0) (m := mA) rfl rfl d2' (by omega) (List.cons_ne_nil _ _) (by decide) (pick3 mA)
  have hx' : ∃ y : Int, x = .int y ∧ 0 < y ∧ y ≤ 20 := by
    simp only [List.mem_cons, List.not_mem_nil, or_false] at hx
    rcases hx with rfl | rfl | rfl
    · exact ⟨4, rfl, by decide, by decide⟩
    · exact ⟨9, rfl, by decide, by decide⟩
    · exact ⟨20, rfl, by decide, by decide⟩
  obtain ⟨y, rfl, y0, y1⟩ := hx'
  obtain ⟨s4, r, d4, r0, r1, e4⟩ := draw_call2 (mg := mg) (p := false) (q := true) (a := 0) (o := .p 0) (m := mA) rfl rfl d3 (by omega) ⟨y0, by omega⟩ e3
  obtain ⟨t, rfl⟩ := Int.eq_ofNat_of_zero_le r0
  have ht : t ≤ 20 := by omega
  have e5 := rng_of (cons_of (pb := true) (opd_of e4) (nil_of _)) (n := t) (by omega)
  obtain ⟨m6, e6, s6, o, a5, a6, a7, d6, in6, l6, rfl⟩ := for_rng (tg := bName 5) (gb := (dSeq (dPar [6, 7] (dRaw (dApp (dCons true (dVar 0) (dCons true (dVar 2) dNil)) (callK 2 (den__law_draw mg))) (dRaw (dApp (dCons true (dVar 0) (dCons true (dVar 2) dNil)) (callK 2 (den__law_draw mg))) dRaw0)))
 (dSeq (dIf (dTest (dBin true (dBin true (dVar 3) (dVar 6) kIx) (dBin true (dVar 3) (dVar 7) kIx) (kV2 pLt))) (dPar [6, 7] (dRaw (dVar 7) (dRaw (dVar 6) dRaw0)))
 dSkip)
 (dSeq (dDrop (dMt1 "list" false (dVar 4) (dApp (dCons false (dVar 6) (dCons false (dVar 7) (dCons true (dAndV (dBin true (dBin true (dVar 3) (dVar 6) kIx) (dBin true (dVar 3) (dVar 7) kIx) (kV2 pGt)) (dBin true (dApp (dCons true (dVar 0) (dCons true (dC (.int 2)) dNil)) (callK 2 (den__law_draw mg))) (dC (.int 0)) (kV2 (bin2 pEq)))) dNil))) PD.kTup) fAppend))
 (dIf (dAndT (dTest (dBin true (dBin true (dVar 3) (dVar 6) kIx) (dBin true (dVar 3) (dVar 7) kIx) (kV2 (bin2 pEq)))) (dTest (dBin true (dApp (dCons true (dVar 0) (dCons true (dC (.int 2)) dNil)) (callK 2 (den__law_draw mg))) (dC (.int 0)) (kV2 (bin2 pEq))))) (dDrop (dMt1 "list" false (dVar 4) (dApp (dCons true (dVar 7) (dCons true (dVar 6) (dCons true (dC (.bl false)) dNil))) PD.kTup) fAppend))
 dSkip))))) (fun i m => ∃ s o a5 a6 a7, Dk (k + 103 + 4 * i) s ∧ In n o ∧ o.length ≤ 2 * i ∧ m = loM mo s (vN n) (some (.sv (intsS rk))) (some (.sv (ordS o))) a5 a6 a7) e5 ⟨s4, [], none, none, none, d4.up (by omega), fun r h => (by cases h), Nat.zero_le _, rfl⟩ fun i hi m h => by
    obtain ⟨s, o, a5, a6, a7, ds, ins, ls, rfl⟩ := h
    obtain ⟨s', o', b6, b7, d', in', l', e'⟩ := lo_turn (mg := mg) ds (by omega) n (by omega) rk hrk o ins (by omega) (vN i) a6 a7
    exact ⟨loM mo s (vN n) (some (.sv (intsS rk))) (some (.sv (ordS o))) (vN i) a6 a7, _, rfl, .inl e', s', o', vN i, b6, b7, d'.up (by omega), in', by omega, rfl⟩
  -- the result
  let mB : M := loM mo s6 (vN n) (some (.sv (intsS rk))) (some (.sv (ordS o))) a5 a6 a7
  have u1 := (app1_of (ga := dVar 3) (k := kVN pTuple) (m := mB) (x := .br (.s 3) []) rfl).trans (tupO_of (fun i => D.int i) (l := rk) rfl)
  have ps : pSl (ordS o) none (some ((30 : Nat) : Int)) = some (.fr (.ol ((o.take 30).map fun r => .fz (rowT r)))) := by
    have a : allFz (o.map fun r => SV.fz (rowT r)) = some (o.map rowT) := by
      have := allFz_map (o.map rowT)
      rw [List.map_map] at this
      exact this
    have l : lstD (ordS o) = some (o.map rowT) := a
    unfold pSl
    rw [l]
    show some (EV.fr (.ol ((PD.cutD (o.map rowT) none (some ((30 : Nat) : Int))).map .fz))) = _
    rw [cut_take, ← List.map_take, List.map_map]
    rfl
  have u2 := opdF_of (sl_of (pl := true) (ph := true) (opd_of (g := dVar 4) (m := mB) (x := .br (.s 4) []) rfl) (s := ordS o) rfl ps)
  rw [frz_fm rowT] at u2
  have u3 := (app_of (k := PD.kTup) (cons_of (pb := true) (opd_of (g := dVar 2) (m := mB) (x := .v (.int n)) rfl) (cons_of (pb := true) (opd_of u1) (cons_of (pb := true) u2 (nil_of _)))))
  have u4 : PD.kTup mB [.v (.int n), .v (.tup (rk.map fun i => .int i)), .v (.lst ((o.take 30).map rowT))] = .ok (.v (.tup [.int n, .tup (rk.map fun i => .int i), .lst ((o.take 30).map rowT)])) mB := rfl
  refine ⟨s6, n, rk.map fun i => .int i, o.take 30, d6.up (by omega), hn1.1, hn1.2, by rw [List.length_take]; omega, fun r hr => in6 r (List.mem_of_mem_take hr), ?_⟩
  have key : b__law_orders mg (loM mo s none none none none none none) = .ok (.rt (.fz (.tup [.int n, .tup (rk.map fun i => .int i), .lst ((o.take 30).map rowT)]))) mB := by
    unfold b__law_orders
    rw [seq_nx p1]
    refine (seq_nx (m1 := loM mo s2 (vN n) (some (.sv (intsS rk))) none none none none) p3).trans ?_
    rw [seq_nx (g1 := dAsg (dApp dNil kLst0) (bName 4)) (m1 := mA) rfl]
    rw [seq_nx e6]
    exact retV_of (u3.trans u4)
  exact def_rt (n := 9) (b := b__law_orders mg) (as := [.pin 0, .fz (.int mo)]) (pins := [s]) (m := mB) key
end K15
namespace K15
open PySem PySem.Spec PyProof.Rows L2 PD
/-! ### what is shown stays small -/
structure SmP (d b : Nat) (p : PyData) : Prop where
  sh : p.showable = true
  hd : p.hasDict = false
  dp : p.depth ≤ d
  lv : p.leavesShort 13 = true
  bk : p.bulk ≤ b
theorem SmP.up {d b d' b' : Nat} {p : PyData} (h : SmP d b p) (h1 : d ≤ d') (h2 : b ≤ b') : SmP d' b' p := ⟨h.sh, h.hd, Nat.le_trans h.dp h1, h.lv, Nat.le_trans h.bk h2⟩
theorem sm_none : SmP 0 0 .none := ⟨by simp [PyData.showable], by simp [PyData.hasDict], by simp [PyData.depth], by simp [PyData.leavesShort], by simp [PyData.bulk]⟩
theorem sm_bool (b : Bool) : SmP 0 0 (.bool b) := ⟨by simp [PyData.showable], by simp [PyData.hasDict], by simp [PyData.depth], by simp [PyData.leavesShort], by simp [PyData.bulk]⟩
theorem sm_int {i : Int} (h1 : -1000000 ≤ i) (h2 : i ≤ 1000000) : SmP 0 0 (.int i) := by
  refine ⟨?_, by simp [PyData.hasDict], by simp [PyData.depth], ?_, by simp [PyData.bulk]⟩
  · have : i.natAbs.log2 < 1920 := by
      by_cases h : i.natAbs = 0
      · rw [h]; decide
      · rw [Nat.log2_lt h]
        calc i.natAbs < 2 ^ 20 := by omega
          _ ≤ 2 ^ 1920 := Nat.pow_le_pow_right (by decide) (by decide)
    simpa [PyData.showable] using this
  · have := PyData.shown_int_le2 (i := i) (by omega) (by omega)
    simpa [PyData.leavesShort] using this
theorem sm_str {x : Str} {b : Nat} (h : x.cps.toList.all (fun c => decide (c < 16 ^ 8)) = true) (hb : x.cps.size ≤ b) : SmP 0 b (.str x) := ⟨by simp [PyData.showable], by simp [PyData.hasDict], by simp [PyData.depth], by simpa [PyData.leavesShort] using h, by simpa [PyData.bulk] using hb⟩
theorem sm_all {d b : Nat} : ∀ ps : List PyData, (∀ p ∈ ps, SmP d b p) → PyData.showableAll ps = true ∧ PyData.hasDictAll ps = false ∧ PyData.depthAll ps ≤ d ∧ PyData.leavesShortAll 13 ps = true ∧ PyData.bulkAll ps ≤ ps.length * (b + 1)
  | [], _ => ⟨by simp [PyData.showableAll], by simp [PyData.hasDictAll], by simp [PyData.depthAll], by simp [PyData.leavesShortAll], by simp [PyData.bulkAll]⟩
  | p :: ps, h => by
    have hp := h p List.mem_cons_self
    obtain ⟨a1, a2, a3, a4, a5⟩ := sm_all ps fun q hq => h q (List.mem_cons_of_mem _ hq)
    refine ⟨by simp [PyData.showableAll, hp.sh, a1], by simp [PyData.hasDictAll, hp.hd, a2], ?_, by simp [PyData.leavesShortAll, hp.lv, a4], ?_⟩
    · have := hp.dp
      simp only [PyData.depthAll]
      omega
    · have := hp.bk
      simp only [PyData.bulkAll, List.length_cons, Nat.add_mul]
      omega
theorem sm_tup {d b n : Nat} {ps : List PyData} (h : ∀ p ∈ ps, SmP d b p) (hn : ps.length ≤ n) : SmP (d + 1) (n * (b + 1)) (.tuple ps) := by
  obtain ⟨a1, a2, a3, a4, a5⟩ := sm_all ps h
  refine ⟨by simpa [PyData.showable] using a1, by simpa [PyData.hasDict] using a2, by simp only [PyData.depth]; omega, by simpa [PyData.leavesShort] using a4, ?_⟩
  simp only [PyData.bulk]
  exact Nat.le_trans a5 (Nat.mul_le_mul_right _ hn)
theorem sm_lst {d b n : Nat} {ps : List PyData} (h : ∀ p ∈ ps, SmP d b p) (hn : ps.length ≤ n) : SmP (d + 1) (n * (b + 1)) (.list ps) := by
  obtain ⟨a1, a2, a3, a4, a5⟩ := sm_all ps h
  refine ⟨by simpa [PyData.showable] using a1, by simpa [PyData.hasDict] using a2, by simp only [PyData.depth]; omega, by simpa [PyData.leavesShort] using a4, ?_⟩
  simp only [PyData.bulk]
  exact Nat.le_trans a5 (Nat.mul_le_mul_right _ hn)
def Sm (d b : Nat) (x : D) : Prop := ∃ p, toPy x = some p ∧ SmP d b p
theorem Sm.up {d b d' b' : Nat} {x : D} (h : Sm d b x) (h1 : d ≤ d') (h2 : b ≤ b') : Sm d' b' x := let ⟨p, e, s⟩ := h; ⟨p, e, s.up h1 h2⟩
theorem sm_py {d b : Nat} : ∀ ds : List D, (∀ x ∈ ds, Sm d b x) → ∃ ps, toPyL ds = some ps ∧ ps.length = ds.length ∧ ∀ p ∈ ps, SmP d b p
  | [], _ => ⟨[], rfl, rfl, fun p h => by cases h⟩
  | x :: ds, h => by
    obtain ⟨p, e, s⟩ := h x List.mem_cons_self
    obtain ⟨ps, e', l, s'⟩ := sm_py ds fun q hq => h q (List.mem_cons_of_mem _ hq)
    refine ⟨p :: ps, by rw [toPyL, e, e'], by simp [l], fun q hq => ?_⟩
    rcases List.mem_cons.mp hq with rfl | hq
    · exact s
    · exact s' q hq
theorem Sm.tup {d b n : Nat} {ds : List D} (h : ∀ x ∈ ds, Sm d b x) (hn : ds.length ≤ n) : Sm (d + 1) (n * (b + 1)) (.tup ds) := by
  obtain ⟨ps, e, l, s⟩ := sm_py ds h
  exact ⟨.tuple ps, by rw [toPy, e]; rfl, sm_tup s (by omega)⟩
theorem Sm.lst {d b n : Nat} {ds : List D} (h : ∀ x ∈ ds, Sm d b x) (hn : ds.length ≤ n) : Sm (d + 1) (n * (b + 1)) (.lst ds) := by
  obtain ⟨ps, e, l, s⟩ := sm_py ds h
  exact ⟨.list ps, by rw [toPy, e]; rfl, sm_lst s (by omega)⟩
theorem Sm.int {i : Int} (h1 : -1000000 ≤ i) (h2 : i ≤ 1000000) : Sm 0 0 (.int i) := ⟨_, rfl, sm_int h1 h2⟩
theorem Sm.nat {i : Nat} (h : i ≤ 1000) : Sm 0 0 (.int i) := Sm.int (by omega) (by omega)
theorem Sm.bl (b : Bool) : Sm 0 0 (.bl b) := ⟨_, rfl, sm_bool b⟩
theorem Sm.non : Sm 0 0 .non := ⟨_, rfl, sm_none⟩
theorem Sm.str {x : Str} (h : x.cps.toList.all (fun c => decide (c < 16 ^ 8)) = true) (hb : x.cps.size ≤ 10) : Sm 0 10 (.str x) := ⟨_, rfl, sm_str h hb⟩
theorem sm_row {n : Nat} (hn : n ≤ 1000) {r : Row} (h : r.1 < n ∧ r.2.1 < n) : Sm 1 10 (rowT r) := by
  have := Sm.tup (d := 0) (b := 0) (n := 3) (ds := [.int r.1, .int r.2.1, .bl r.2.2]) (fun x hx => by
    simp only [List.mem_cons, List.not_mem_nil, or_false] at hx
    rcases hx with rfl | rfl | rfl
    · exact Sm.nat (by omega)
    · exact Sm.nat (by omega)
    · exact Sm.bl _) (by show 3 ≤ 3; decide)
  exact this.up (by omega) (by omega)
theorem sm_rows {n : Nat} (hn : n ≤ 1000) {o : List Row} (h : In n o) (hl : o.length ≤ 100) : Sm 2 1100 (.tup (o.map rowT)) :=
  Sm.tup (d := 1) (b := 10) (n := 100) (fun x hx => by
    obtain ⟨r, hr, rfl⟩ := List.mem_map.mp hx
    exact sm_row hn (h r hr)) (by simpa using hl)
def shD (x : D) : Str := (PD.encD x).shown
/-- repr of small data -/
theorem repr_v {d b : Nat} {x : D} (h : Sm d b x) (hd : d ≤ 100) (hb : b ≤ 60000) (hr : refS (.fz x) = true) (m : M) : kVN pRepr m [.v x] = .ok (.v (.str (shD x))) m := by
  obtain ⟨p, e, s⟩ := h
  have hs : shD x = p.shown := by unfold shD PD.encD; rw [e]; rfl
  have l := PyData.shown_le_bulk 13 (by decide) p s.lv
  have hl : p.showable = true ∧ p.hasDict = false ∧ p.depth ≤ 100 ∧ p.shown.length ≤ bigLen := by
    refine ⟨s.sh, s.hd, Nat.le_trans s.dp hd, ?_⟩
    have := s.bk
    have : bigLen = 1000000 := rfl
    omega
  have t : toPyS (.fz x) = some p := e
  have r : pRepr [.fz x] = some (.v (.str p.shown)) := by
    unfold pRepr
    simp only []
    rw [if_pos hr, t]
    exact if_pos hl
  rw [hs]
  show (match pRepr [.fz x] with
    | some ev => Out.ok ev m
    | none => .bad) = _
  rw [r]
theorem repr_o {d b : Nat} {ds : List D} (h : Sm d b (.lst ds)) (hd : d ≤ 100) (hb : b ≤ 60000) (m : M) (o : Ow) (hg : get m o = some (.ol (ds.map .fz))) : kVN pRepr m [.br o []] = .ok (.v (.str (shD (.lst ds)))) m := by
  obtain ⟨p, e, s⟩ := h
  have hs : shD (.lst ds) = p.shown := by unfold shD PD.encD; rw [e]; rfl
  have l := PyData.shown_le_bulk 13 (by decide) p s.lv
  have hl : p.showable = true ∧ p.hasDict = false ∧ p.depth ≤ 100 ∧ p.shown.length ≤ bigLen := by
    refine ⟨s.sh, s.hd, Nat.le_trans s.dp hd, ?_⟩
    have := s.bk
    have : bigLen = 1000000 := rfl
    omega
  have t : toPyS (.ol (ds.map .fz)) = some p := by
    have q : ∀ ds : List D, toPySL (ds.map SV.fz) = toPyL ds := fun ds => by
      induction ds with
      | nil => rfl
      | cons x ds ih => rw [List.map_cons, toPySL, ih, toPyL]; rfl
    rw [toPyS, q]
    rw [toPy] at e
    exact e
  have r : pRepr [.ol (ds.map .fz)] = some (.v (.str p.shown)) := by
    unfold pRepr
    simp only []
    rw [if_pos (show refS (.ol (ds.map .fz)) = true from rfl), t]
    exact if_pos hl
  have v : views m [.br o []] = some [.ol (ds.map .fz)] := by
    have v : PD.view m (.br o []) = some (.ol (ds.map .fz)) := by simp [PD.view, hg, PD.sub]
    simp only [views, v]
  rw [hs]
  unfold kVN
  rw [v]
  simp only [r]
theorem neS (m : M) (a : Str) : kV2 (bin2 pNe) m (.v (.str a)) (.v (.str a)) = .ok (.v (.bl false)) m := by
  have e : bin2 pNe (.fz (.str a)) (.fz (.str a)) = some (.v (.bl false)) := by
    show pNe (.str a) (.str a) = _
    unfold pNe
    rw [if_pos (by unfold dMin; simp [PyData.depth])]
    simp [PyData.eqv]
  rw [s_kv2, e]
theorem eqS (m : M) (a b : Str) : kV2 (bin2 pEq) m (.v (.str a)) (.v (.str b)) = .ok (.v (.bl (a == b))) m := by
  have e : bin2 pEq (.fz (.str a)) (.fz (.str b)) = some (.v (.bl (a == b))) := by
    show pEq (.str a) (.str b) = _
    unfold pEq
    rw [if_pos (by unfold dMin; simp [PyData.depth])]
    simp [PyData.eqv]
  rw [s_kv2, e]
end K15
namespace K15
open PySem PySem.Spec PyProof.Rows L2 PD
/-! # sets of points as numbers -/
theorem land2 (a b : Nat) : (a &&& b) = 2 * (a / 2 &&& b / 2) + (a % 2) * (b % 2) := by
  have h := Nat.div_add_mod (a &&& b) 2
  have h1 : (a &&& b) / 2 = a / 2 &&& b / 2 := Nat.and_div_two
  have h2 : (a &&& b) % 2 = (a % 2) * (b % 2) := by
    have e := @Nat.and_mod_two_eq_one a b
    rcases Nat.mod_two_eq_zero_or_one a with ha | ha <;> rcases Nat.mod_two_eq_zero_or_one b with hb | hb <;> rcases Nat.mod_two_eq_zero_or_one (a &&& b) with hc | hc <;> simp [ha, hb, hc] at e ⊢
  rw [← h, h1, h2]
def Sb (x y : Nat) : Prop := x &&& y = x
instance (x y : Nat) : Decidable (Sb x y) := inferInstanceAs (Decidable (_ = _))
theorem sb_iff {x y : Nat} : Sb x y ↔ ∀ i, x.testBit i = true → y.testBit i = true := by
  unfold Sb
  constructor
  · intro h i hi
    rw [← h, Nat.testBit_and, Bool.and_eq_true] at hi
    exact hi.2
  · intro h
    apply Nat.eq_of_testBit_eq
    intro i
    rw [Nat.testBit_and]
    cases e : x.testBit i with
    | false => rfl
    | true => rw [h i e]; rfl
theorem sb_half {x y : Nat} (h : Sb x y) : Sb (x / 2) (y / 2) ∧ x % 2 ≤ y % 2 := by
  unfold Sb at *
  have e := land2 x y
  rw [h] at e
  have h1 := Nat.div_add_mod x 2
  rcases Nat.mod_two_eq_zero_or_one x with ha | ha <;> rcases Nat.mod_two_eq_zero_or_one y with hb | hb <;> rw [ha, hb] at e ⊢ <;> omega
theorem sb_le {x y : Nat} (h : Sb x y) : x ≤ y := by
  unfold Sb at h
  rw [← h]
  exact Nat.and_le_right
/-- the next lot below -/
theorem sub_step : ∀ (lot left x : Nat), Sb lot left → Sb x left → x < lot → x ≤ ((lot - 1) &&& left) := by
  intro lot
  induction lot using Nat.strongRecOn with
  | _ lot ih =>
    intro left x hl hx h
    obtain ⟨l1, l2⟩ := sb_half hl
    obtain ⟨x1, x2⟩ := sb_half hx
    have d1 := Nat.div_add_mod lot 2
    have d2 := Nat.div_add_mod x 2
    rw [land2]
    rcases Nat.mod_two_eq_zero_or_one lot with e | e
    · have e1 : (lot - 1) / 2 = lot / 2 - 1 := by omega
      have e2 : (lot - 1) % 2 = 1 := by omega
      have := ih (lot / 2) (by omega) (left / 2) (x / 2) l1 x1 (by omega)
      rw [e1, e2]
      omega
    · have e1 : (lot - 1) / 2 = lot / 2 := by omega
      have e2 : (lot - 1) % 2 = 0 := by omega
      rw [e1, e2]
      have : lot / 2 &&& left / 2 = lot / 2 := l1
      omega
def subsF (left : Nat) : Nat → Nat → List Nat
  | 0, _ => []
  | f + 1, lot => if lot = 0 then [] else lot :: subsF left f ((lot - 1) &&& left)
def subs (left : Nat) : List Nat := subsF left left left
theorem mem_subsF (left : Nat) : ∀ (f lot x : Nat), lot ≤ f → Sb lot left → (x ∈ subsF left f lot ↔ 0 < x ∧ x ≤ lot ∧ Sb x left)
  | 0, lot, x, h, _ => by
    have : lot = 0 := by omega
    subst this
    simp [subsF]
    omega
  | f + 1, lot, x, h, hl => by
    unfold subsF
    by_cases e : lot = 0
    · subst e
      simp
      omega
    · rw [if_neg e, List.mem_cons]
      have hn : ((lot - 1) &&& left) ≤ lot - 1 := Nat.and_le_left
      have hs : Sb ((lot - 1) &&& left) left := by
        unfold Sb
        rw [Nat.and_assoc, Nat.and_self]
      rw [mem_subsF left f _ x (by omega) hs]
      constructor
      · rintro (rfl | ⟨h1, h2, h3⟩)
        · exact ⟨by omega, Nat.le_refl _, hl⟩
        · exact ⟨h1, by omega, h3⟩
      · rintro ⟨h1, h2, h3⟩
        by_cases e' : x = lot
        · exact .inl e'
        · exact .inr ⟨h1, sub_step lot left x hl h3 (by omega), h3⟩
theorem mem_subs {left x : Nat} : x ∈ subs left ↔ 0 < x ∧ Sb x left := by
  unfold subs
  rw [mem_subsF left left left x (Nat.le_refl _) (Nat.and_self _)]
  exact ⟨fun h => ⟨h.1, h.2.2⟩, fun h => ⟨h.1, sb_le h.2, h.2⟩⟩
theorem nodup_subsF (left : Nat) : ∀ (f lot : Nat), (subsF left f lot).Pairwise (· > ·)
  | 0, _ => .nil
  | f + 1, lot => by
    unfold subsF
    split
    · exact .nil
    · refine List.pairwise_cons.mpr ⟨fun y hy => ?_, nodup_subsF left f _⟩
      have bound : ∀ (f lot y : Nat), y ∈ subsF left f lot → y ≤ lot := by
        intro f
        induction f with
        | zero => intro lot y h; cases h
        | succ f ih =>
          intro lot y h
          unfold subsF at h
          split at h
          · cases h
          · rcases List.mem_cons.mp h with rfl | h
            · exact Nat.le_refl _
            · have := ih _ y h
              have hn : ((lot - 1) &&& left) ≤ lot - 1 := Nat.and_le_left
              omega
      have := bound f _ y hy
      have hn : ((lot - 1) &&& left) ≤ lot - 1 := Nat.and_le_left
      omega
theorem nodup_subs (left : Nat) : (subs left).Nodup := (nodup_subsF left left left).imp fun h => by omega
theorem xor_sub {S L : Nat} (h : Sb L S) : S ^^^ L = S - L := by
  have key : ∀ S L : Nat, Sb L S → (S ^^^ L) + L = S := by
    intro S
    induction S using Nat.strongRecOn with
    | _ S ih =>
      intro L h
      by_cases e : S = 0
      · subst e
        have := sb_le h
        have : L = 0 := by omega
        subst this
        rfl
      · obtain ⟨h1, h2⟩ := sb_half h
        have i := ih (S / 2) (by omega) (L / 2) h1
        have d := Nat.div_add_mod (S ^^^ L) 2
        have x1 : (S ^^^ L) / 2 = S / 2 ^^^ L / 2 := Nat.xor_div_two
        have x2 : (S ^^^ L) % 2 = (S % 2 + L % 2) % 2 := by
          have e := @Nat.xor_mod_two_eq_one S L
          rcases Nat.mod_two_eq_zero_or_one S with ha | ha <;> rcases Nat.mod_two_eq_zero_or_one L with hb | hb <;> rcases Nat.mod_two_eq_zero_or_one (S ^^^ L) with hc | hc <;> simp [ha, hb, hc] at e ⊢
        rw [x1, x2] at d
        have d1 := Nat.div_add_mod S 2
        have d2 := Nat.div_add_mod L 2
        rcases Nat.mod_two_eq_zero_or_one S with ha | ha <;> rcases Nat.mod_two_eq_zero_or_one L with hb | hb <;> rw [ha, hb] at d h2 <;> rw [ha] at d1 <;> rw [hb] at d2 <;> omega
  have := key S L h
  omega
/-! # lots, one after another -/
def okB (rows : List Row) (left lot : Nat) : Bool := rows.all fun r => !(lot.testBit r.1 && left.testBit r.2.1 && (r.2.2 || !(lot.testBit r.2.1)))
def enum (rows : List Row) : Nat → Nat → List (List Nat)
  | 0, S => if S = 0 then [[]] else []
  | f + 1, S => if S = 0 then [[]] else ((subs S).filter (okB rows S)).flatMap fun L => (enum rows f (S ^^^ L)).map (L :: ·)
def valN (rows : List Row) (S : Nat) : Nat := (enum rows S S).length
theorem xor_lt {S L : Nat} (h : L ∈ subs S) : S ^^^ L < S := by
  obtain ⟨h1, h2⟩ := mem_subs.mp h
  have := sb_le h2
  rw [xor_sub h2]
  omega
theorem enum_fuel (rows : List Row) : ∀ (f f' S : Nat), S ≤ f → S ≤ f' → enum rows f S = enum rows f' S := by
  intro f
  induction f with
  | zero =>
    intro f' S h h'
    have : S = 0 := by omega
    subst this
    cases f' <;> simp [enum]
  | succ f ih =>
    intro f' S h h'
    by_cases e : S = 0
    · subst e
      cases f' <;> simp [enum]
    · cases f' with
      | zero => omega
      | succ f' =>
        unfold enum
        rw [if_neg e, if_neg e]
        have key : ∀ l : List Nat, (∀ L ∈ l, L ∈ subs S) → (l.flatMap fun L => (enum rows f (S ^^^ L)).map (L :: ·)) = l.flatMap fun L => (enum rows f' (S ^^^ L)).map (L :: ·) := by
          intro l
          induction l with
          | nil => intro _; rfl
          | cons L l ihl =>
            intro hm
            have := xor_lt (hm L List.mem_cons_self)
            rw [List.flatMap_cons, List.flatMap_cons, ihl fun x hx => hm x (List.mem_cons_of_mem _ hx), ih f' (S ^^^ L) (by omega) (by omega)]
        exact key _ fun L hL => (List.mem_filter.mp hL).1
theorem val_zero (rows : List Row) : valN rows 0 = 1 := rfl
theorem val_step (rows : List Row) {S : Nat} (h : S ≠ 0) : valN rows S = (((subs S).filter (okB rows S)).map fun L => valN rows (S ^^^ L)).sum := by
  obtain ⟨f, rfl⟩ : ∃ f, S = f + 1 := ⟨S - 1, by omega⟩
  unfold valN
  rw [enum, if_neg h]
  have key : ∀ l : List Nat, (∀ L ∈ l, L ∈ subs (f + 1)) → (l.flatMap fun L => (enum rows f ((f + 1) ^^^ L)).map (L :: ·)).length = (l.map fun L => (enum rows ((f + 1) ^^^ L) ((f + 1) ^^^ L)).length).sum := by
    intro l
    induction l with
    | nil => intro _; rfl
    | cons L l ihl =>
      intro hm
      have := xor_lt (hm L List.mem_cons_self)
      rw [List.flatMap_cons, List.length_append, ihl fun x hx => hm x (List.mem_cons_of_mem _ hx), List.map_cons, List.sum_cons, List.length_map, enum_fuel rows f ((f + 1) ^^^ L) ((f + 1) ^^^ L) (by omega) (Nat.le_refl _)]
  exact key _ fun L hL => (List.mem_filter.mp hL).1
def Chain (rows : List Row) : Nat → List Nat → Prop
  | S, [] => S = 0
  | S, L :: w => L ≠ 0 ∧ Sb L S ∧ okB rows S L = true ∧ Chain rows (S ^^^ L) w
theorem mem_enum (rows : List Row) : ∀ (f S : Nat) (w : List Nat), S ≤ f → (w ∈ enum rows f S ↔ Chain rows S w) := by
  have zero : ∀ w : List Nat, w ∈ ([[]] : List (List Nat)) ↔ Chain rows 0 w := fun w => by
    cases w with
    | nil => simp [Chain]
    | cons L w =>
      simp only [List.mem_singleton, Chain]
      constructor
      · intro h; cases h
      · rintro ⟨h1, h2, _⟩
        have := sb_le h2
        omega
  intro f
  induction f with
  | zero =>
    intro S w h
    have : S = 0 := by omega
    subst this
    rw [enum, if_pos rfl]
    exact zero w
  | succ f ih =>
    intro S w h
    by_cases e : S = 0
    · subst e
      rw [enum, if_pos rfl]
      exact zero w
    · rw [enum, if_neg e, List.mem_flatMap]
      constructor
      · rintro ⟨L, hL, hw⟩
        obtain ⟨w', hw', rfl⟩ := List.mem_map.mp hw
        obtain ⟨h1, h2⟩ := List.mem_filter.mp hL
        have lt := xor_lt h1
        obtain ⟨h3, h4⟩ := mem_subs.mp h1
        exact ⟨by omega, h4, h2, (ih _ w' (by omega)).mp hw'⟩
      · cases w with
        | nil => intro h; exact (e h).elim
        | cons L w =>
          rintro ⟨h1, h2, h3, h4⟩
          have m : L ∈ subs S := mem_subs.mpr ⟨by omega, h2⟩
          have lt := xor_lt m
          exact ⟨L, List.mem_filter.mpr ⟨m, h3⟩, List.mem_map.mpr ⟨w, (ih _ w (by omega)).mpr h4, rfl⟩⟩
theorem nodup_enum (rows : List Row) : ∀ (f S : Nat), (enum rows f S).Nodup := by
  intro f
  induction f with
  | zero => intro S; unfold enum; split <;> simp
  | succ f ih =>
    intro S
    unfold enum
    split
    · simp
    · unfold List.Nodup
      rw [List.pairwise_flatMap]
      refine ⟨fun L _ => ?_, ?_⟩
      · rw [List.pairwise_map]
        exact (ih _).imp fun h e => h (List.cons.inj e).2
      · refine List.Pairwise.imp (fun {a b} h => ?_) (List.Pairwise.filter _ (nodup_subs S))
        intro x hx y hy e
        obtain ⟨x', _, rfl⟩ := List.mem_map.mp hx
        obtain ⟨y', _, rfl⟩ := List.mem_map.mp hy
        exact h (List.cons.inj e).1
/-! ## what a row of lots is, looked at as a whole -/
def bt (x L : Nat) : Prop := L.testBit x = true
def Dis (w : List Nat) : Prop := w.Pairwise fun L L' => ∀ x, ¬ (bt x L ∧ bt x L')
def Prt (S : Nat) (w : List Nat) : Prop := (∀ L ∈ w, L ≠ 0) ∧ Dis w ∧ ∀ x, bt x S ↔ ∃ L ∈ w, bt x L
def Cnd (r : Row) (w : List Nat) : Prop := (w.Pairwise fun L L' => ¬ (bt r.1 L ∧ bt r.2.1 L')) ∧ (r.2.2 = true → ∀ L ∈ w, ¬ (bt r.1 L ∧ bt r.2.1 L))
theorem ok_iff {rows : List Row} {S L : Nat} : okB rows S L = true ↔ ∀ r ∈ rows, bt r.1 L → bt r.2.1 S → r.2.2 = false ∧ bt r.2.1 L := by
  unfold okB
  rw [List.all_eq_true]
  constructor
  · intro h r hr h1 h2
    have := h r hr
    unfold bt at *
    rw [h1, h2] at this
    cases hs : r.2.2 <;> cases hb : L.testBit r.2.1 <;> simp [hs, hb] at this ⊢
  · intro h r hr
    have := h r hr
    unfold bt at this
    cases h1 : L.testBit r.1 with
    | false => simp
    | true =>
      cases h2 : S.testBit r.2.1 with
      | false => simp
      | true =>
        obtain ⟨h3, h4⟩ := this h1 h2
        simp [h3, h4]
theorem bt_xor {x S L : Nat} (h : Sb L S) : bt x (S ^^^ L) ↔ bt x S ∧ ¬ bt x L := by
  have s := sb_iff.mp h x
  unfold bt
  rw [Nat.testBit_xor]
  cases h1 : S.testBit x <;> cases h2 : L.testBit x <;> simp [h1, h2] at s ⊢
theorem prt_cons {S L : Nat} {w : List Nat} : Prt S (L :: w) ↔ L ≠ 0 ∧ Sb L S ∧ Prt (S ^^^ L) w := by
  unfold Prt Dis
  rw [List.pairwise_cons]
  constructor
  · rintro ⟨h1, ⟨h2, h3⟩, h4⟩
    have hs : Sb L S := sb_iff.mpr fun i hi => (h4 i).mpr ⟨L, List.mem_cons_self, hi⟩
    refine ⟨h1 L List.mem_cons_self, hs, fun L' h' => h1 L' (List.mem_cons_of_mem _ h'), h3, fun x => ?_⟩
    rw [bt_xor hs, h4 x]
    constructor
    · rintro ⟨⟨L', hL', hx⟩, hn⟩
      rcases List.mem_cons.mp hL' with rfl | hL'
      · exact (hn hx).elim
      · exact ⟨L', hL', hx⟩
    · rintro ⟨L', hL', hx⟩
      exact ⟨⟨L', List.mem_cons_of_mem _ hL', hx⟩, fun h => h2 L' hL' x ⟨h, hx⟩⟩
  · rintro ⟨h1, hs, h2, h3, h4⟩
    refine ⟨fun L' h' => ?_, ⟨fun L' h' x hx => ?_, h3⟩, fun x => ?_⟩
    · rcases List.mem_cons.mp h' with rfl | h'
      · exact h1
      · exact h2 L' h'
    · exact ((bt_xor hs).mp ((h4 x).mpr ⟨L', h', hx.2⟩)).2 hx.1
    · constructor
      · intro hx
        by_cases e : bt x L
        · exact ⟨L, List.mem_cons_self, e⟩
        · obtain ⟨L', h', hx'⟩ := (h4 x).mp ((bt_xor hs).mpr ⟨hx, e⟩)
          exact ⟨L', List.mem_cons_of_mem _ h', hx'⟩
      · rintro ⟨L', h', hx⟩
        rcases List.mem_cons.mp h' with rfl | h'
        · exact sb_iff.mp hs x hx
        · exact ((bt_xor hs).mp ((h4 x).mpr ⟨L', h', hx⟩)).1
theorem cnd_none {r : Row} {w : List Nat} (h : (∀ L ∈ w, ¬ bt r.1 L) ∨ ∀ L ∈ w, ¬ bt r.2.1 L) : Cnd r w := by
  refine ⟨?_, fun _ L hL hh => ?_⟩
  · rcases h with h | h
    · induction w with
      | nil => exact .nil
      | cons L w ih => exact List.pairwise_cons.mpr ⟨fun L' _ hh => h L List.mem_cons_self hh.1, ih fun L hL => h L (List.mem_cons_of_mem _ hL)⟩
    · induction w with
      | nil => exact .nil
      | cons L w ih => exact List.pairwise_cons.mpr ⟨fun L' hL' hh => h L' (List.mem_cons_of_mem _ hL') hh.2, ih fun L hL => h L (List.mem_cons_of_mem _ hL)⟩
  · rcases h with h | h
    · exact h L hL hh.1
    · exact h L hL hh.2
theorem chain_iff (rows : List Row) : ∀ (w : List Nat) (S : Nat), Chain rows S w ↔ Prt S w ∧ ∀ r ∈ rows, bt r.1 S → bt r.2.1 S → Cnd r w
  | [], S => by
    constructor
    · intro h
      have h : S = 0 := h
      subst h
      refine ⟨⟨fun L h => (by cases h), .nil, fun x => ⟨fun h => ?_, fun ⟨L, h, _⟩ => by cases h⟩⟩, fun r _ _ _ => cnd_none (.inl fun L h => by cases h)⟩
      unfold bt at h
      simp at h
    · rintro ⟨⟨_, _, h⟩, _⟩
      show S = 0
      apply Nat.eq_of_testBit_eq
      intro i
      have := h i
      cases e : S.testBit i with
      | false => simp
      | true =>
        obtain ⟨L, h, _⟩ := this.mp e
        cases h
  | L :: w, S => by
    show (L ≠ 0 ∧ Sb L S ∧ okB rows S L = true ∧ Chain rows (S ^^^ L) w) ↔ _
    rw [chain_iff rows w (S ^^^ L), prt_cons, ok_iff]
    constructor
    · rintro ⟨h1, h2, h3, h4, h5⟩
      refine ⟨⟨h1, h2, h4⟩, fun r hr ha hb => ?_⟩
      have tl : Cnd r w := by
        by_cases e1 : bt r.1 L
        · exact cnd_none (.inl fun L' hL' hx => ((bt_xor h2).mp ((h4.2.2 _).mpr ⟨L', hL', hx⟩)).2 e1)
        · by_cases e2 : bt r.2.1 L
          · exact cnd_none (.inr fun L' hL' hx => ((bt_xor h2).mp ((h4.2.2 _).mpr ⟨L', hL', hx⟩)).2 e2)
          · exact h5 r hr ((bt_xor h2).mpr ⟨ha, e1⟩) ((bt_xor h2).mpr ⟨hb, e2⟩)
      refine ⟨List.pairwise_cons.mpr ⟨fun L' hL' hh => ?_, tl.1⟩, fun hs L' hL' hh => ?_⟩
      · exact ((bt_xor h2).mp ((h4.2.2 _).mpr ⟨L', hL', hh.2⟩)).2 (h3 r hr hh.1 hb).2
      · rcases List.mem_cons.mp hL' with rfl | hL'
        · rw [(h3 r hr hh.1 hb).1] at hs
          cases hs
        · exact tl.2 hs L' hL' hh
    · rintro ⟨⟨h1, h2, h4⟩, h5⟩
      refine ⟨h1, h2, fun r hr ha hb => ?_, h4, fun r hr ha hb => ?_⟩
      · obtain ⟨c1, c2⟩ := h5 r hr (sb_iff.mp h2 _ ha) hb
        have hb' : bt r.2.1 L := by
          refine Classical.byContradiction fun hn => ?_
          obtain ⟨L', hL', hx⟩ := (h4.2.2 _).mp ((bt_xor h2).mpr ⟨hb, hn⟩)
          exact (List.pairwise_cons.mp c1).1 L' hL' ⟨ha, hx⟩
        refine ⟨?_, hb'⟩
        cases hs : r.2.2 with
        | false => rfl
        | true => exact (c2 hs L List.mem_cons_self ⟨ha, hb'⟩).elim
      · obtain ⟨c1, c2⟩ := h5 r hr ((bt_xor h2).mp ha).1 ((bt_xor h2).mp hb).1
        exact ⟨(List.pairwise_cons.mp c1).2, fun hs L' hL' => c2 hs L' (List.mem_cons_of_mem _ hL')⟩
/-! ## the whole -/
def full (n : Nat) : Nat := 2 ^ n - 1
theorem bt_full {n x : Nat} : bt x (full n) ↔ x < n := by
  unfold bt full
  rw [Nat.testBit_two_pow_sub_one]
  simp
def ways (n : Nat) (rows : List Row) : List (List Nat) := enum rows (full n) (full n)
theorem mem_ways {n : Nat} {rows : List Row} (I : In n rows) {w : List Nat} : w ∈ ways n rows ↔ Prt (full n) w ∧ ∀ r ∈ rows, Cnd r w := by
  unfold ways
  rw [mem_enum rows _ _ w (Nat.le_refl _), chain_iff]
  exact ⟨fun h => ⟨h.1, fun r hr => h.2 r hr (bt_full.mpr (I r hr).1) (bt_full.mpr (I r hr).2)⟩, fun h => ⟨h.1, fun r hr _ _ => h.2 r hr⟩⟩
def turnR (r : Row) : Row := (r.2.1, r.1, r.2.2)
theorem prt_rev {S : Nat} {w : List Nat} : Prt S w.reverse ↔ Prt S w := by
  unfold Prt Dis
  rw [List.pairwise_reverse]
  have e : (w.Pairwise fun a b => ∀ x, ¬ (bt x b ∧ bt x a)) ↔ w.Pairwise fun a b => ∀ x, ¬ (bt x a ∧ bt x b) := ⟨fun h => h.imp fun h x hx => h x ⟨hx.2, hx.1⟩, fun h => h.imp fun h x hx => h x ⟨hx.2, hx.1⟩⟩
  rw [e]
  simp only [List.mem_reverse]
theorem cnd_rev {r : Row} {w : List Nat} : Cnd (turnR r) w.reverse ↔ Cnd r w := by
  unfold Cnd turnR
  rw [List.pairwise_reverse]
  have e : (w.Pairwise fun a b => ¬ (bt r.2.1 b ∧ bt r.1 a)) ↔ w.Pairwise fun a b => ¬ (bt r.1 a ∧ bt r.2.1 b) := ⟨fun h => h.imp fun h hx => h ⟨hx.2, hx.1⟩, fun h => h.imp fun h hx => h ⟨hx.2, hx.1⟩⟩
  simp only [e, List.mem_reverse]
  refine and_congr Iff.rfl (imp_congr Iff.rfl (forall_congr' fun L => imp_congr Iff.rfl ?_))
  rw [and_comm]
theorem ways_turn {n : Nat} {rows : List Row} (I : In n rows) : (ways n (rows.map turnR)).length = (ways n rows).length := by
  have I' : In n (rows.map turnR) := fun r hr => by
    obtain ⟨r', hr', rfl⟩ := List.mem_map.mp hr
    exact ⟨(I r' hr').2, (I r' hr').1⟩
  have nd : ((ways n rows).map List.reverse).Nodup := by
    unfold List.Nodup
    rw [List.pairwise_map]
    exact (nodup_enum rows _ _).imp fun h e => h (List.reverse_inj.mp e)
  have p : (ways n (rows.map turnR)).Perm ((ways n rows).map List.reverse) := (List.perm_ext_iff_of_nodup (nodup_enum _ _ _) nd).mpr fun w => by
    show w ∈ ways n (rows.map turnR) ↔ _
    rw [mem_ways I', List.mem_map]
    constructor
    · rintro ⟨h1, h2⟩
      refine ⟨w.reverse, (mem_ways I).mpr ⟨prt_rev.mpr h1, fun r hr => ?_⟩, List.reverse_reverse w⟩
      have := h2 (turnR r) (List.mem_map.mpr ⟨r, hr, rfl⟩)
      rw [← List.reverse_reverse w] at this
      exact cnd_rev.mp this
    · rintro ⟨w', hw', rfl⟩
      obtain ⟨h1, h2⟩ := (mem_ways I).mp hw'
      refine ⟨prt_rev.mpr h1, fun r hr => ?_⟩
      obtain ⟨r', hr', rfl⟩ := List.mem_map.mp hr
      exact cnd_rev.mpr (h2 r' hr')
  rw [p.length_eq, List.length_map]
theorem cnd_split {p q : Nat} : ∀ (w : List Nat), Dis w → (∃ L ∈ w, bt p L) → (∃ L ∈ w, bt q L) → (Cnd (p, q, false) w ↔ ¬ Cnd (q, p, true) w)
  | [], _, ⟨L, h, _⟩, _ => by cases h
  | L :: w, hd, hp, hq => by
    obtain ⟨d1, d2⟩ := List.pairwise_cons.mp hd
    have tp : bt p L → ∀ L' ∈ w, ¬ bt p L' := fun h L' hL' h' => d1 L' hL' p ⟨h, h'⟩
    have tq : bt q L → ∀ L' ∈ w, ¬ bt q L' := fun h L' hL' h' => d1 L' hL' q ⟨h, h'⟩
    have gp : ¬ bt p L → ∃ L' ∈ w, bt p L' := fun h => by
      obtain ⟨L', h', hx⟩ := hp
      rcases List.mem_cons.mp h' with rfl | h'
      · exact (h hx).elim
      · exact ⟨L', h', hx⟩
    have gq : ¬ bt q L → ∃ L' ∈ w, bt q L' := fun h => by
      obtain ⟨L', h', hx⟩ := hq
      rcases List.mem_cons.mp h' with rfl | h'
      · exact (h hx).elim
      · exact ⟨L', h', hx⟩
    by_cases e1 : bt p L
    · by_cases e2 : bt q L
      · have c1 : Cnd (p, q, false) (L :: w) := ⟨List.pairwise_cons.mpr ⟨fun L' hL' h => tq e2 L' hL' h.2, (cnd_none (r := (p, q, false)) (.inl (tp e1))).1⟩, fun h => by cases h⟩
        exact ⟨fun _ c => c.2 rfl L List.mem_cons_self ⟨e2, e1⟩, fun _ => c1⟩
      · have c2 : Cnd (q, p, true) (L :: w) := ⟨List.pairwise_cons.mpr ⟨fun L' hL' h => e2 h.1, (cnd_none (r := (q, p, true)) (.inr (tp e1))).1⟩, fun _ L' hL' h => by
          rcases List.mem_cons.mp hL' with rfl | hL'
          · exact e2 h.1
          · exact tp e1 L' hL' h.2⟩
        obtain ⟨L', hL', hx⟩ := gq e2
        exact ⟨fun c => ((List.pairwise_cons.mp c.1).1 L' hL' ⟨e1, hx⟩).elim, fun c => (c c2).elim⟩
    · obtain ⟨L', hL', hx⟩ := gp e1
      by_cases e2 : bt q L
      · have c1 : Cnd (p, q, false) (L :: w) := ⟨List.pairwise_cons.mpr ⟨fun L' hL' h => e1 h.1, (cnd_none (r := (p, q, false)) (.inr (tq e2))).1⟩, fun h => by cases h⟩
        exact ⟨fun _ c => (List.pairwise_cons.mp c.1).1 L' hL' ⟨e2, hx⟩, fun _ => c1⟩
      · have ih := cnd_split w d2 ⟨L', hL', hx⟩ (gq e2)
        have a1 : Cnd (p, q, false) (L :: w) ↔ Cnd (p, q, false) w := ⟨fun c => ⟨(List.pairwise_cons.mp c.1).2, fun h => by cases h⟩, fun c => ⟨List.pairwise_cons.mpr ⟨fun L' _ h => e1 h.1, c.1⟩, fun h => by cases h⟩⟩
        have a2 : Cnd (q, p, true) (L :: w) ↔ Cnd (q, p, true) w := ⟨fun c => ⟨(List.pairwise_cons.mp c.1).2, fun h L' hL' => c.2 h L' (List.mem_cons_of_mem _ hL')⟩, fun c => ⟨List.pairwise_cons.mpr ⟨fun L' _ h => e2 h.1, c.1⟩, fun h L' hL' hh => by
          rcases List.mem_cons.mp hL' with rfl | hL'
          · exact e2 hh.1
          · exact c.2 h L' hL' hh⟩⟩
        rw [a1, a2, ih]
open Classical in
theorem filter_two {α : Type} (P Q : α → Prop) : ∀ l : List α, (∀ x ∈ l, P x ↔ ¬ Q x) → (l.filter fun x => decide (P x)).length + (l.filter fun x => decide (Q x)).length = l.length
  | [], _ => rfl
  | x :: l, h => by
    have ih := filter_two P Q l fun y hy => h y (List.mem_cons_of_mem _ hy)
    have hx := h x List.mem_cons_self
    rw [List.filter_cons, List.filter_cons, List.length_cons]
    by_cases hq : Q x
    · have hp : ¬ P x := fun hp => hx.mp hp hq
      simp only [hp, hq, decide_true, decide_false]
      simp
      omega
    · have hp : P x := hx.mpr hq
      simp only [hp, hq, decide_true, decide_false]
      simp
      omega
open Classical in
theorem ways_more {n : Nat} {rows : List Row} (I : In n rows) {r : Row} (hr : r.1 < n ∧ r.2.1 < n) : (ways n (rows ++ [r])).length = ((ways n rows).filter fun w => decide (Cnd r w)).length := by
  have I' : In n (rows ++ [r]) := fun r' h => by
    rcases List.mem_append.mp h with h | h
    · exact I r' h
    · rw [List.mem_singleton] at h
      subst h
      exact hr
  have p : (ways n (rows ++ [r])).Perm ((ways n rows).filter fun w => decide (Cnd r w)) := (List.perm_ext_iff_of_nodup (nodup_enum _ _ _) (List.Pairwise.filter _ (nodup_enum _ _ _))).mpr fun w => by
    rw [List.mem_filter, decide_eq_true_iff]
    show w ∈ ways n (rows ++ [r]) ↔ w ∈ ways n rows ∧ _
    rw [mem_ways I', mem_ways I]
    constructor
    · rintro ⟨h1, h2⟩
      exact ⟨⟨h1, fun r' h => h2 r' (List.mem_append_left _ h)⟩, h2 r (List.mem_append_right _ List.mem_cons_self)⟩
    · rintro ⟨⟨h1, h2⟩, h3⟩
      refine ⟨h1, fun r' h => ?_⟩
      rcases List.mem_append.mp h with h | h
      · exact h2 r' h
      · rw [List.mem_singleton] at h
        subst h
        exact h3
  exact p.length_eq
theorem ways_split {n : Nat} {rows : List Row} (I : In n rows) {p q : Nat} (hp : p < n) (hq : q < n) : (ways n (rows ++ [(p, q, false)])).length + (ways n (rows ++ [(q, p, true)])).length = (ways n rows).length := by
  rw [ways_more I (r := (p, q, false)) ⟨hp, hq⟩, ways_more I (r := (q, p, true)) ⟨hq, hp⟩]
  refine filter_two (fun w => Cnd (p, q, false) w) (fun w => Cnd (q, p, true) w) _ fun w hw => ?_
  obtain ⟨h1, _⟩ := (mem_ways I).mp hw
  exact cnd_split w h1.2.1 ((h1.2.2 p).mp (bt_full.mpr hp)) ((h1.2.2 q).mp (bt_full.mpr hq))
/-! ## no way through a strict round -/
def rk (w : List Nat) (x : Nat) : Nat := w.findIdx fun L => L.testBit x
theorem rk_le {r : Row} : ∀ (w : List Nat), Cnd r w → (∃ L ∈ w, bt r.1 L) → (∃ L ∈ w, bt r.2.1 L) → rk w r.2.1 ≤ rk w r.1 ∧ (r.2.2 = true → rk w r.2.1 < rk w r.1)
  | [], _, ⟨L, h, _⟩, _ => by cases h
  | L :: w, c, ha, hb => by
    unfold rk
    rw [List.findIdx_cons, List.findIdx_cons]
    by_cases e2 : bt r.2.1 L
    · have e2' : L.testBit r.2.1 = true := e2
      rw [e2']
      refine ⟨Nat.zero_le _, fun hs => ?_⟩
      have e1 : L.testBit r.1 = false := by
        cases e : L.testBit r.1 with
        | false => rfl
        | true => exact (c.2 hs L List.mem_cons_self ⟨e, e2⟩).elim
      rw [e1]
      exact Nat.succ_pos _
    · have gb : ∃ L' ∈ w, bt r.2.1 L' := by
        obtain ⟨L', h', hx⟩ := hb
        rcases List.mem_cons.mp h' with rfl | h'
        · exact (e2 hx).elim
        · exact ⟨L', h', hx⟩
      have e1 : ¬ bt r.1 L := fun h => by
        obtain ⟨L', hL', hx⟩ := gb
        exact (List.pairwise_cons.mp c.1).1 L' hL' ⟨h, hx⟩
      have ga : ∃ L' ∈ w, bt r.1 L' := by
        obtain ⟨L', h', hx⟩ := ha
        rcases List.mem_cons.mp h' with rfl | h'
        · exact (e1 hx).elim
        · exact ⟨L', h', hx⟩
      have ih := rk_le w ⟨(List.pairwise_cons.mp c.1).2, fun h L' hL' => c.2 h L' (List.mem_cons_of_mem _ hL')⟩ ga gb
      have f1 : L.testBit r.1 = false := by cases e : L.testBit r.1 with
        | false => rfl
        | true => exact (e1 e).elim
      have f2 : L.testBit r.2.1 = false := by cases e : L.testBit r.2.1 with
        | false => rfl
        | true => exact (e2 e).elim
      rw [f1, f2]
      unfold rk at ih
      exact ⟨Nat.succ_le_succ ih.1, fun h => Nat.succ_lt_succ (ih.2 h)⟩
def rkM (n : Nat) (w : List Nat) : List (List Int) := mkM n fun i j => if rk w j < rk w i then 2 else if rk w j = rk w i then 1 else 0
theorem ways_round {n : Nat} {rows : List Row} (I : In n rows) (h : ∃ i, i < n ∧ getM (clos n rows) i i = 2) : ways n rows = [] := by
  cases e : ways n rows with
  | nil => rfl
  | cons w l =>
    exfalso
    have hw : w ∈ ways n rows := by rw [e]; exact List.mem_cons_self
    obtain ⟨h1, h2⟩ := (mem_ways I).mp hw
    have g : ∀ i j, i < n → j < n → getM (rkM n w) i j = if rk w j < rk w i then 2 else if rk w j = rk w i then 1 else 0 := fun i j hi hj => get_mk _ hi hj
    obtain ⟨_, _, _, _, _, M⟩ := clos_facts I
    have B : Bnd n (rkM n w) := fun i j hi hj => by
      rw [g i j hi hj]
      split
      · omega
      · split <;> omega
    have C : Clo n (rkM n w) := fun a b c ha hb hc => by
      have x := (B a c ha hc).1
      have y := (B c b hc hb).1
      have z := (B a b ha hb).1
      rw [chain_le x y z]
      rw [g a c ha hc, g c b hc hb, g a b ha hb]
      intro p1 p2
      by_cases q1 : rk w c < rk w a
      · rw [if_pos q1] at p1 ⊢
        by_cases q2 : rk w b < rk w c
        · rw [if_pos q2, if_pos (by omega)]; omega
        · rw [if_neg q2] at p2 ⊢
          by_cases q3 : rk w b = rk w c
          · rw [if_pos q3, if_pos (by omega)]; omega
          · rw [if_neg q3] at p2; omega
      · rw [if_neg q1] at p1 ⊢
        by_cases q3 : rk w c = rk w a
        · rw [if_pos q3] at p1 ⊢
          by_cases q2 : rk w b < rk w c
          · rw [if_pos q2, if_pos (by omega)]; omega
          · rw [if_neg q2] at p2 ⊢
            by_cases q4 : rk w b = rk w c
            · rw [if_pos q4, if_neg (by omega), if_pos (by omega)]; omega
            · rw [if_neg q4] at p2; omega
        · rw [if_neg q3] at p1; omega
    have R : RLe rows (rkM n w) := fun r hr => by
      obtain ⟨ha, hb⟩ := I r hr
      have k := rk_le w (h2 r hr) ((h1.2.2 _).mp (bt_full.mpr ha)) ((h1.2.2 _).mp (bt_full.mpr hb))
      rw [g _ _ ha hb]
      cases hs : r.2.2 with
      | true =>
        rw [if_pos (k.2 hs)]
        decide
      | false =>
        show (1 : Int) ≤ _
        split
        · omega
        · rw [if_pos (by omega)]; omega
    obtain ⟨i, hi, e⟩ := h
    have := M (rkM n w) B C (fun i hi => by rw [g i i hi hi, if_neg (by omega), if_pos rfl]; omega) R i i hi hi
    rw [e, g i i hi hi, if_neg (by omega), if_pos rfl] at this
    omega
/-! ## the numbers without rows -/
def tab (rows : List Row) : Nat → List Nat
  | 0 => []
  | m + 1 => let t := tab rows m; t ++ [if m = 0 then 1 else (((subs m).filter (okB rows m)).map fun L => (t[m ^^^ L]?).getD 0).sum]
theorem tab_eq (rows : List Row) : ∀ m, tab rows m = (List.range m).map (valN rows)
  | 0 => rfl
  | m + 1 => by
    rw [tab, tab_eq rows m, List.range_succ, List.map_append]
    congr 1
    by_cases e : m = 0
    · subst e; rfl
    · simp only [e, if_false, List.map_cons, List.map_nil]
      rw [val_step rows e]
      congr 1
      congr 1
      refine List.map_congr_left fun L hL => ?_
      have := xor_lt (List.mem_filter.mp hL).1
      rw [List.getElem?_map, List.getElem?_range this]
      rfl
theorem none_num : ∀ n, 1 ≤ n → n ≤ 7 → valN [] (full n) = ([1, 3, 13, 75, 541, 4683, 47293] : List Nat)[n - 1]?.getD 0 := by
  have h : ([1, 3, 7, 15, 31, 63, 127] : List Nat).map (fun i => ((tab [] 128)[i]?).getD 0) = [1, 3, 13, 75, 541, 4683, 47293] := by decide +kernel
  have key : ∀ i, i < 128 → ((tab [] 128)[i]?).getD 0 = valN [] i := fun i hi => by
    rw [tab_eq, List.getElem?_map, List.getElem?_range hi]
    rfl
  intro n h1 h2
  have e : ∀ i < 128, valN [] i = ((tab [] 128)[i]?).getD 0 := fun i hi => (key i hi).symm
  match n, h1, h2 with
  | 1, _, _ => rw [e (full 1) (by decide)]; exact (List.cons.inj h).1
  | 2, _, _ => rw [e (full 2) (by decide)]; exact (List.cons.inj (List.cons.inj h).2).1
  | 3, _, _ => rw [e (full 3) (by decide)]; exact (List.cons.inj (List.cons.inj (List.cons.inj h).2).2).1
  | 4, _, _ => rw [e (full 4) (by decide)]; exact (List.cons.inj (List.cons.inj (List.cons.inj (List.cons.inj h).2).2).2).1
  | 5, _, _ => rw [e (full 5) (by decide)]; exact (List.cons.inj (List.cons.inj (List.cons.inj (List.cons.inj (List.cons.inj h).2).2).2).2).1
  | 6, _, _ => rw [e (full 6) (by decide)]; exact (List.cons.inj (List.cons.inj (List.cons.inj (List.cons.inj (List.cons.inj (List.cons.inj h).2).2).2).2).2).1
  | 7, _, _ => rw [e (full 7) (by decide)]; exact (List.cons.inj (List.cons.inj (List.cons.inj (List.cons.inj (List.cons.inj (List.cons.inj (List.cons.inj h).2).2).2).2).2).2).1
end K15
namespace K15
open PySem PySem.Spec PyProof.Rows L2 PD
variable {mg : Str → Option Value}
/-! ### bits -/
theorem shrN (m : M) (a i : Nat) : kV2 pShr m (.v (.int a)) (.v (.int i)) = .ok (.v (.int ((a / 2 ^ i : Nat) : Int))) m := by
  have e : pShr (.fz (.int a)) (.fz (.int i)) = some (.v (.int ((a : Int) / 2 ^ ((i : Int)).toNat))) := by
    show (if (0 : Int) ≤ i then some (EV.v (.int ((a : Int) / 2 ^ ((i : Int)).toNat))) else none) = _
    rw [if_pos (by omega)]
  rw [s_kv2, e, Int.toNat_natCast]
  congr 3
theorem andN (m : M) (a b : Nat) : kV2 pAnd m (.v (.int a)) (.v (.int b)) = .ok (.v (.int ((a &&& b : Nat) : Int))) m := by
  have e : pAnd (.fz (.int a)) (.fz (.int b)) = some (.v (.int (Builtin.bitAnd a b))) := by
    show (if tt2 a b then some (EV.v (.int (Builtin.bitAnd a b))) else none) = _
    rw [if_pos (show tt2 a b from trivial)]
  rw [s_kv2, e, PySem.W.os_band]
theorem bit_one (a i : Nat) : decide ((((a / 2 ^ i) &&& 1 : Nat) : Int) = ((1 : Nat) : Int)) = a.testBit i := by
  rw [Nat.and_one_is_mod, Nat.testBit_eq_decide_div_mod_eq]
  by_cases h : a / 2 ^ i % 2 = 1
  · rw [decide_eq_true h, decide_eq_true (by omega)]
  · rw [decide_eq_false h, decide_eq_false (by omega)]
theorem bit_none (a i : Nat) : decide ((((a / 2 ^ i) &&& 1 : Nat) : Int) = ((0 : Nat) : Int)) = !a.testBit i := by
  rw [Nat.and_one_is_mod, Nat.testBit_eq_decide_div_mod_eq]
  by_cases h : a / 2 ^ i % 2 = 1
  · rw [decide_eq_true h, decide_eq_false (by omega)]; rfl
  · rw [decide_eq_false h, decide_eq_true (by omega)]; rfl
theorem bit1_of {m : M} {g1 g2 : M → Out EV} {a i : Nat} (h1 : g1 m = .ok (.v (.int a)) m) (h2 : g2 m = .ok (.v (.int i)) m) : dTest (dBin true (dBin true (dBin true g1 g2 (kV2 pShr)) (dC (.int 1)) (kV2 pAnd)) (dC (.int 1)) (kV2 (bin2 pEq))) m = .ok (a.testBit i) m := by
  have e := test_of (bin3 (pb := true) (gb := dC (.int 1)) (bin3 (pb := true) (gb := dC (.int 1)) (y := .int ((1 : Nat) : Int)) (bin3 (pb := true) h1 h2 (shrN m a i)) rfl (andN m _ 1)) rfl (eqI m _ ((1 : Nat) : Int)))
  rw [bit_one] at e
  exact e
theorem bit0_of {m : M} {g1 g2 : M → Out EV} {a i : Nat} (h1 : g1 m = .ok (.v (.int a)) m) (h2 : g2 m = .ok (.v (.int i)) m) : dTest (dBin true (dBin true (dBin true g1 g2 (kV2 pShr)) (dC (.int 1)) (kV2 pAnd)) (dC (.int 0)) (kV2 (bin2 pEq))) m = .ok (!a.testBit i) m := by
  have e := test_of (bin3 (pb := true) (gb := dC (.int 0)) (bin3 (pb := true) (gb := dC (.int 1)) (y := .int ((1 : Nat) : Int)) (bin3 (pb := true) h1 h2 (shrN m a i)) rfl (andN m _ 1)) rfl (eqI m _ ((0 : Nat) : Int)))
  rw [bit_none] at e
  exact e
/-! ### can_be_lowest -/
/-- a walk that may end with a result -/
theorem for_find {α : Type} (h : α → D) (p : α → Bool) (s : SV) (Rp : M → Prop) (Rr : M → Prop) {gi : M → Out Wk} {tg : EV → M → Out Unit} {gb : M → Out Ctl} {m0 m : M} {l : List α} (hi : gi m0 = .ok ⟨l.map h, always⟩ m) (hb : Rp m)
    (k : ∀ x ∈ l, ∀ m, Rp m → ∃ m1 m2, tg (.v (h x)) m = .ok () m1 ∧ (p x = false → gb m1 = .ok .nx m2 ∧ Rp m2) ∧ (p x = true → gb m1 = .ok (.rt s) m2 ∧ Rr m2)) :
    (l.any p = false → ∃ m', dFor gi tg gb m0 = .ok .nx m' ∧ Rp m') ∧ (l.any p = true → ∃ m', dFor gi tg gb m0 = .ok (.rt s) m' ∧ Rr m') := by
  have key : ∀ (l : List α) (m : M), Rp m → (∀ x ∈ l, ∀ m, Rp m → ∃ m1 m2, tg (.v (h x)) m = .ok () m1 ∧ (p x = false → gb m1 = .ok .nx m2 ∧ Rp m2) ∧ (p x = true → gb m1 = .ok (.rt s) m2 ∧ Rr m2)) →
      (l.any p = false → ∃ m', forI always tg gb (l.map h) m = .ok .nx m' ∧ Rp m') ∧ (l.any p = true → ∃ m', forI always tg gb (l.map h) m = .ok (.rt s) m' ∧ Rr m') := by
    intro l
    induction l with
    | nil => exact fun m h _ => ⟨fun _ => ⟨m, by simp [forI, always], h⟩, fun h => by cases h⟩
    | cons x r ih =>
      intro m hb k
      obtain ⟨m1, m2, h1, h2, h3⟩ := k x List.mem_cons_self m hb
      rw [List.map_cons, List.any_cons]
      cases hp : p x with
      | true =>
        obtain ⟨e, hr⟩ := h3 hp
        refine ⟨fun h => (by cases h), fun _ => ⟨m2, ?_, hr⟩⟩
        unfold forI
        simp only [always, if_true, h1, e]
      | false =>
        obtain ⟨e, hr⟩ := h2 hp
        obtain ⟨i1, i2⟩ := ih m2 hr fun d hd => k d (List.mem_cons_of_mem _ hd)
        rw [Bool.false_or]
        have st : forI always tg gb (h x :: r.map h) m = forI always tg gb (r.map h) m2 := by
          conv => lhs; unfold forI
          simp only [always, if_true, h1, e]
        rw [st]
        exact ⟨i1, i2⟩
  obtain ⟨k1, k2⟩ := key l m hb k
  have st : dFor gi tg gb m0 = forI always tg gb (l.map h) m := by
    unfold dFor
    rw [hi]
    rfl
  rw [st]
  exact ⟨k1, k2⟩
def badR (left lot : Nat) (r : Row) : Bool := lot.testBit r.1 && left.testBit r.2.1 && (r.2.2 || !(lot.testBit r.2.1))
theorem ok_any (rows : List Row) (left lot : Nat) : okB rows left lot = !(rows.any (badR left lot)) := by
  unfold okB
  induction rows with
  | nil => rfl
  | cons r rows ih => rw [List.all_cons, ih, List.any_cons, Bool.not_or]; rfl
theorem or_of {ga gb : M → Out Bool} {m m1 m2 : M} {a b : Bool} (h1 : ga m = .ok a m1) (h2 : a = false → gb m1 = .ok b m2) (h3 : a = true → m1 = m2) : dOrT ga gb m = .ok (a || b) m2 := by
  unfold dOrT
  rw [h1]
  cases a with
  | true => simp [h3 rfl]
  | false => simp [h2 rfl]
def cbM (rows : List Row) (left lot : Nat) (a b c : Option Sl) : M := ⟨[some (.sv (.fz (.tup (rows.map rowT)))), some (.sv (.fz (.int left))), some (.sv (.fz (.int lot))), a, b, c], []⟩
theorem e_can (rows : List Row) (left lot : Nat) : Rn (den_can_be_lowest mg [.fz (.tup (rows.map rowT)), .fz (.int left), .fz (.int lot)] []) (.fz (.bl (okB rows left lot))) [] := by
  have key : ∃ m', m'.pp = [] ∧ b_can_be_lowest mg (cbM rows left lot none none none) = .ok (.rt (.fz (.bl (okB rows left lot)))) m' := by
    unfold b_can_be_lowest
    obtain ⟨k1, k2⟩ := for_find (gi := dISeq (dVar 0)) (tg := bTup 3 (bCons (bName 3) (bCons (bName 4) (bCons (bName 5) bNil)))) (gb := (dIf (dAndT (dTest (dBin true (dBin true (dBin true (dVar 2) (dVar 3) (kV2 pShr)) (dC (.int 1)) (kV2 pAnd)) (dC (.int 1)) (kV2 (bin2 pEq)))) (dTest (dBin true (dBin true (dBin true (dVar 1) (dVar 4) (kV2 pShr)) (dC (.int 1)) (kV2 pAnd)) (dC (.int 1)) (kV2 (bin2 pEq))))) (dIf (dOrT (dTest (dVar 5)) (dTest (dBin true (dBin true (dBin true (dVar 2) (dVar 4) (kV2 pShr)) (dC (.int 1)) (kV2 pAnd)) (dC (.int 0)) (kV2 (bin2 pEq))))) (dRet (dC (.bl false)))
 dSkip)
 dSkip)) (m0 := cbM rows left lot none none none) (m := cbM rows left lot none none none) (l := rows) rowT (badR left lot) (.fz (.bl false)) (fun m => ∃ a b c, m = cbM rows left lot a b c) (fun m => m.pp = []) (iseq_of (g := dVar 0) (ev := .v (.tup (rows.map rowT))) (d := .tup (rows.map rowT)) rfl rfl rfl) ⟨none, none, none, rfl⟩ fun r hr m h => by
      obtain ⟨a, b, c, rfl⟩ := h
      obtain ⟨i, j, st⟩ := r
      let mm : M := cbM rows left lot (some (.sv (.fz (.int (i : Nat))))) (some (.sv (.fz (.int (j : Nat))))) (some (.sv (.fz (.bl st))))
      have t1 := bit1_of (m := mm) (g1 := dVar 2) (g2 := dVar 3) (a := lot) (i := i) rfl rfl
      have t2 := bit1_of (m := mm) (g1 := dVar 1) (g2 := dVar 4) (a := left) (i := j) rfl rfl
      have t3 := bit0_of (m := mm) (g1 := dVar 2) (g2 := dVar 4) (a := lot) (i := j) rfl rfl
      have t12 := and_of t1 (fun _ => t2) (fun _ => rfl)
      have t35 := or_of (ga := dTest (dVar 5)) (m := mm) (m1 := mm) (a := st) rfl (fun _ => t3) (fun _ => rfl)
      refine ⟨mm, mm, rfl, fun hp => ⟨?_, _, _, _, rfl⟩, fun hp => ⟨?_, rfl⟩⟩
      · rw [if_of t12]
        unfold badR at hp
        cases hx : (lot.testBit i && left.testBit j) with
        | false => rfl
        | true =>
          simp only [hx, Bool.true_and] at hp
          rw [if_pos rfl, if_of t35, hp]
          rfl
      · rw [if_of t12]
        unfold badR at hp
        cases hx : (lot.testBit i && left.testBit j) with
        | false => simp only [hx, Bool.false_and] at hp; cases hp
        | true =>
          simp only [hx, Bool.true_and] at hp
          rw [if_pos rfl, if_of t35, hp]
          rfl
    rw [ok_any]
    cases hx : rows.any (badR left lot) with
    | false =>
      obtain ⟨m', e, a, b, c, rfl⟩ := k1 hx
      rw [seq_nx e]
      exact ⟨_, rfl, rfl⟩
    | true =>
      obtain ⟨m', e, hp⟩ := k2 hx
      rw [seq_rt e]
      exact ⟨m', hp, rfl⟩
  obtain ⟨m', hp, e⟩ := key
  have := def_rt (n := 6) (b := b_can_be_lowest mg) (as := [.fz (.tup (rows.map rowT)), .fz (.int left), .fz (.int lot)]) (pins := []) (m := m') e
  rw [hp] at this
  exact this
/-! ### lots_within -/
def natsS (l : List Nat) : SV := .ol (l.map fun (i : Nat) => .fz (.int i))
def lwM (left : Nat) (pre : List Nat) (lot : Nat) : M := ⟨[some (.sv (.fz (.int left))), some (.sv (natsS pre)), some (.sv (.fz (.int lot)))], []⟩
theorem lw_loop (left : Nat) : ∀ (f lot : Nat) (pre : List Nat), lot ≤ f → pre.length + f ≤ 1000 →
    dWhile (dTest (dBin true (dVar 2) (dC (.int 0)) (kV2 pGt))) (dSeq (dDrop (dMt1 "list" true (dVar 1) (dVar 2) fAppend))
 (dAsg (dBin true (dBin true (dVar 2) (dC (.int 1)) (kV2 pSub)) (dVar 0) (kV2 pAnd)) (bName 2))) (lwM left pre lot) = .ok .nx (lwM left (pre ++ subsF left f lot) 0) := by
  have zero : ∀ pre : List Nat, dWhile (dTest (dBin true (dVar 2) (dC (.int 0)) (kV2 pGt))) (dSeq (dDrop (dMt1 "list" true (dVar 1) (dVar 2) fAppend))
 (dAsg (dBin true (dBin true (dVar 2) (dC (.int 1)) (kV2 pSub)) (dVar 0) (kV2 pAnd)) (bName 2))) (lwM left pre 0) = .ok .nx (lwM left pre 0) := fun pre => by
    have t := test_of (bin3 (pb := true) (ga := dVar 2) (gb := dC (.int 0)) (m := lwM left pre 0) (x := .int ((0 : Nat) : Int)) rfl rfl (gtI _ _))
    unfold dWhile
    rw [loopW_eq]
    have st : stepW (dTest (dBin true (dVar 2) (dC (.int 0)) (kV2 pGt))) (dSeq (dDrop (dMt1 "list" true (dVar 1) (dVar 2) fAppend))
 (dAsg (dBin true (dBin true (dVar 2) (dC (.int 1)) (kV2 pSub)) (dVar 0) (kV2 pAnd)) (bName 2))) (lwM left pre 0) = .ok .bk (lwM left pre 0) := by
      unfold stepW
      rw [t, bind_ok]
      rfl
    rw [st]
  intro f
  induction f with
  | zero =>
    intro lot pre h _
    have : lot = 0 := by omega
    subst this
    rw [zero, subsF, List.append_nil]
  | succ f ih =>
    intro lot pre h hl
    by_cases e : lot = 0
    · subst e
      rw [zero, subsF, if_pos rfl, List.append_nil]
    · have t := test_of (bin3 (pb := true) (ga := dVar 2) (gb := dC (.int 0)) (m := lwM left pre lot) (x := .int (lot : Int)) rfl rfl (gtI _ _))
      rw [decide_eq_true (show (0 : Int) < lot by omega)] at t
      have ap := append_of (a := 1) (pb := true) (ga := dVar 2) (m := lwM left pre lot) (xs := pre.map fun (i : Nat) => .fz (.int i)) (d := .int (lot : Int)) rfl rfl rfl (by rw [List.length_map]; have : bigLen = 1000000 := rfl; omega)
      have ap2 : dDrop (dMt1 "list" true (dVar 1) (dVar 2) fAppend) (lwM left pre lot) = .ok .nx (lwM left (pre ++ [lot]) lot) := by
        rw [ap]
        unfold lwM natsS
        rw [List.map_append]
        rfl
      have sb : dBin true (dVar 2) (dC (.int 1)) (kV2 pSub) (lwM left (pre ++ [lot]) lot) = .ok (.v (.int ((lot - 1 : Nat) : Int))) (lwM left (pre ++ [lot]) lot) := by
        refine bin3 (ga := dVar 2) (gb := dC (.int 1)) (x := .int (lot : Int)) (y := .int 1) rfl rfl ?_
        rw [subI]
        have : (lot : Int) - 1 = ((lot - 1 : Nat) : Int) := by omega
        rw [this]
      have an := asgV_of (i := 2) (bin3 (pb := true) (gb := dVar 0) (y := .int (left : Int)) sb rfl (andN _ (lot - 1) left))
      have hn : ((lot - 1) &&& left) ≤ lot - 1 := Nat.and_le_left
      have ih' := ih ((lot - 1) &&& left) (pre ++ [lot]) (by omega) (by rw [List.length_append]; simp; omega)
      unfold dWhile at ih' ⊢
      rw [loopW_eq]
      have st : stepW (dTest (dBin true (dVar 2) (dC (.int 0)) (kV2 pGt))) (dSeq (dDrop (dMt1 "list" true (dVar 1) (dVar 2) fAppend))
 (dAsg (dBin true (dBin true (dVar 2) (dC (.int 1)) (kV2 pSub)) (dVar 0) (kV2 pAnd)) (bName 2))) (lwM left pre lot) = .ok .nx (lwM left (pre ++ [lot]) ((lot - 1) &&& left)) := by
        unfold stepW
        rw [t, bind_ok, if_pos rfl, seq_nx ap2]
        exact an
      rw [st]
      simp only []
      rw [ih', subsF, if_neg e, List.append_assoc]
      rfl
theorem e_lots (left : Nat) (h : left ≤ 900) : Rn (den_lots_within mg [.fz (.int left)] []) (natsS (subs left)) [] := by
  have key : b_lots_within mg ⟨[some (.sv (.fz (.int left))), none, none], []⟩ = .ok (.rt (natsS (subs left))) ⟨[some (.sv (.fz (.int left))), none, some (.sv (.fz (.int ((0 : Nat) : Int))))], []⟩ := by
    unfold b_lots_within
    rw [seq_nx (g1 := dPar [1, 2] (dRaw (dApp dNil kLst0) (dRaw (dVar 0) dRaw0))) (m1 := lwM left [] left) rfl]
    rw [seq_nx (lw_loop left left left [] (Nat.le_refl _) (by simp; omega)), List.nil_append]
    rfl
  exact def_rt (n := 3) (b := b_lots_within mg) (as := [.fz (.int left)]) (pins := []) key
end K15
namespace K15
open PySem PySem.Spec PyProof.Rows L2 PD
variable {mg : Str → Option Value}
/-! ### ranges with a start, sums, ends -/
theorem for_idx {gi : M → Out Wk} {tg : EV → M → Out Unit} {gb : M → Out Ctl} {m0 m : M} {n : Nat} (h : Nat → D) (Rp : Nat → M → Prop) (hi : gi m0 = .ok ⟨(List.range n).map h, always⟩ m) (h0 : Rp 0 m)
    (k : ∀ i, i < n → ∀ m, Rp i m → ∃ m1 m2, tg (.v (h i)) m = .ok () m1 ∧ (gb m1 = .ok .nx m2 ∨ gb m1 = .ok .ct m2) ∧ Rp (i + 1) m2) :
    ∃ m', dFor gi tg gb m0 = .ok .nx m' ∧ Rp n m' := by
  obtain ⟨m', e, h⟩ := forI_at (tg := tg) (gb := gb) Rp ((List.range n).map h) 0 m h0 fun j d m hd hm => by
    rw [List.getElem?_map] at hd
    have hj : j < n := by
      by_cases h : j < n
      · exact h
      · rw [List.getElem?_eq_none (by simp; omega)] at hd; cases hd
    rw [List.getElem?_range hj] at hd
    cases hd
    rw [Nat.zero_add] at hm ⊢
    exact k j hj m hm
  refine ⟨m', ?_, by simpa using h⟩
  unfold dFor
  rw [hi]
  exact e
theorem rg2_k {m1 : M} {n : Nat} (hn : n ≤ 1000) : kRange2 m1 [.v (.int 1), .v (.int ((n + 1 : Nat) : Int))] = .ok ⟨(List.range n).map fun k => .int ((1 + k : Nat) : Int), always⟩ m1 := by
  have h1 : (-(2 ^ 62) ≤ (1 : Int) ∧ (1 : Int) < 2 ^ 62 ∧ -(2 ^ 62) ≤ ((n + 1 : Nat) : Int) ∧ ((n + 1 : Nat) : Int) < 2 ^ 62) := ⟨by omega, by omega, by omega, by omega⟩
  unfold kRange2
  simp only []
  rw [if_pos h1]
  have e : ((((n + 1 : Nat) : Int) - 1)).toNat = n := by omega
  rw [e]
  have f : ((List.range n).map fun k => D.int (1 + (k : Nat))) = (List.range n).map fun k => D.int ((1 + k : Nat) : Int) := List.map_congr_left fun k _ => by
    show D.int (1 + (k : Int)) = D.int ((1 + k : Nat) : Int)
    rw [show (1 : Int) + (k : Int) = ((1 + k : Nat) : Int) by omega]
  rw [f]
theorem rng2_of {gs : M → Out (List EV)} {m m1 : M} {n : Nat} (h : gs m = .ok [.v (.int 1), .v (.int ((n + 1 : Nat) : Int))] m1) (hn : n ≤ 1000) : dIter gs kRange2 m = .ok ⟨(List.range n).map fun k => .int ((1 + k : Nat) : Int), always⟩ m1 := by
  unfold dIter
  rw [h, bind_ok]
  exact rg2_k hn
theorem sum_of {α : Type} (f : α → Nat) (l : List α) (m : M) : kVN pSum m [.v (.lst (l.map fun x => .int ((f x : Nat) : Int)))] = .ok (.v (.int (((l.map f).sum : Nat) : Int))) m := by
  have i : ∀ l : List α, intsD (l.map fun x => D.int ((f x : Nat) : Int)) = some (l.map fun x => ((f x : Nat) : Int)) := fun l => by
    induction l with
    | nil => rfl
    | cons x l ih => rw [List.map_cons, intsD, ih]; rfl
  have s : ∀ l : List α, (l.map fun x => ((f x : Nat) : Int)).sum = (((l.map f).sum : Nat) : Int) := fun l => by
    induction l with
    | nil => rfl
    | cons x l ih => rw [List.map_cons, List.sum_cons, ih, List.map_cons, List.sum_cons]; omega
  have e : pSum [.fz (.lst (l.map fun x => .int ((f x : Nat) : Int)))] = some (.v (.int (((l.map f).sum : Nat) : Int))) := by
    show (intsD (l.map fun x => D.int ((f x : Nat) : Int))).map _ = _
    rw [i]
    show some (EV.v (.int ((l.map fun x => ((f x : Nat) : Int)).sum))) = _
    rw [s]
  show (match pSum [.fz (.lst (l.map fun x => .int ((f x : Nat) : Int)))] with
    | some ev => Out.ok ev m
    | none => .bad) = _
  rw [e]
theorem ix_nats {m : M} {o : Ow} {a : Nat} {gb : M → Out EV} {l : List Nat} {i : Nat} {x : Nat} (ha : dVar a m = .ok (.br o []) m) (hg : get m o = some (natsS l)) (hb : gb m = .ok (.v (.int i)) m) (hx : l[i]? = some x) : dBin true (dVar a) gb kIx m = .ok (.v (.int x)) m := by
  have hi : i < l.length := (List.getElem?_eq_some_iff.mp hx).1
  rw [bin_of (opd_of ha) (opd_of hb)]
  have v : PD.view m (.br o []) = some (natsS l) := by simp [PD.view, hg, PD.sub]
  have s : stepIx (natsS l) (.fz (.int i)) = some (.fz (.int x), .i i) := by
    show (ixN (l.map fun (i : Nat) => SV.fz (.int i)).length i).bind _ = _
    rw [List.length_map, ixN_at hi]
    show (((l.map fun (i : Nat) => SV.fz (.int i))[i]?).map fun x => (x, Pth.i i)) = _
    rw [List.getElem?_map, hx]
    rfl
  unfold kIx
  rw [v]
  simp only [PD.view, s]
theorem ix_last {m : M} {o : Ow} {a : Nat} {gb : M → Out EV} {l : List Nat} {x : Nat} (ha : dVar a m = .ok (.br o []) m) (hg : get m o = some (natsS (l ++ [x]))) (hb : gb m = .ok (.v (.int (-1))) m) : dBin true (dVar a) gb kIx m = .ok (.v (.int x)) m := by
  rw [bin_of (opd_of ha) (opd_of hb)]
  have v : PD.view m (.br o []) = some (natsS (l ++ [x])) := by simp [PD.view, hg, PD.sub]
  have ix : ixN (l.length + 1) (-1) = some l.length := by
    unfold ixN
    rw [if_neg (by omega), if_pos (by omega)]
    simp
    omega
  have s : stepIx (natsS (l ++ [x])) (.fz (.int (-1))) = some (.fz (.int x), .i l.length) := by
    show (ixN ((l ++ [x]).map fun (i : Nat) => SV.fz (.int i)).length (-1)).bind _ = _
    rw [List.length_map, List.length_append]
    show (ixN (l.length + 1) (-1)).bind _ = _
    rw [ix]
    show ((((l ++ [x]).map fun (i : Nat) => SV.fz (.int i))[l.length]?).map fun x => (x, Pth.i l.length)) = _
    rw [List.getElem?_map, List.getElem?_append_right (Nat.le_refl _)]
    simp
  unfold kIx
  rw [v]
  simp only [PD.view, s]
theorem xorN {m : M} {a b : Nat} (h : Sb b a) : kV2 pXor m (.v (.int a)) (.v (.int b)) = .ok (.v (.int ((a ^^^ b : Nat) : Int))) m := by
  have e : pXor (.fz (.int a)) (.fz (.int b)) = some (.v (.int (Builtin.bitXor a b))) := by
    show (if tt2 a b then some (EV.v (.int (Builtin.bitXor a b))) else none) = _
    rw [if_pos (show tt2 a b from trivial)]
  have l := sb_le h
  have c : a &&& b = b := by rw [Nat.and_comm]; exact h
  have x := xor_sub h
  rw [s_kv2, e, bitXor_and, PySem.W.os_band, c, x]
  have z : (a : Int) + b - 2 * (b : Int) = ((a - b : Nat) : Int) := by omega
  rw [z]
/-! ### orders_of -/
def ooM (n : Nat) (rows : List Row) (fd : List Nat) (a : Option Sl) : M := ⟨[some (.sv (.fz (.int n))), some (.sv (.fz (.tup (rows.map rowT)))), some (.sv (natsS fd)), a, none], []⟩
theorem fz_nats (l : List Nat) : frz (natsS l) = .lst (l.map fun (i : Nat) => .int i) := frz_fm (fun (i : Nat) => D.int i) l
theorem oo_turn (n : Nat) (rows : List Row) (k : Nat) (hk : k < 800) : dDrop (dMt1 "list" false (dVar 2) (dApp (dCons true (dComp (dISeq (dApp (dCons true (dVar 3) dNil) (callK 1 (den_lots_within mg)))) [4] (bName 4) (dTest (dApp (dCons true (dVar 1) (dCons true (dVar 3) (dCons true (dVar 4) dNil))) (callK 3 (den_can_be_lowest mg)))) (dBin true (dVar 2) (dBin true (dVar 3) (dVar 4) (kV2 pXor)) kIx)) dNil) (kVN pSum)) fAppend)
    (ooM n rows ((List.range (1 + k)).map (valN rows)) (some (.sv (.fz (.int ((1 + k : Nat) : Int)))))) = .ok .nx (ooM n rows ((List.range (1 + (k + 1))).map (valN rows)) (some (.sv (.fz (.int ((1 + k : Nat) : Int)))))) := by
  let m0 : M := ooM n rows ((List.range (1 + k)).map (valN rows)) (some (.sv (.fz (.int ((1 + k : Nat) : Int)))))
  have cl := (app1_of (ga := dVar 3) (k := callK 1 (den_lots_within mg)) (m := m0) (x := .v (.int ((1 + k : Nat) : Int))) rfl).trans (call1 (e_lots (mg := mg) (1 + k) (by omega)))
  have it : dISeq (dApp (dCons true (dVar 3) dNil) (callK 1 (den_lots_within mg))) m0 = .ok ⟨(subs (1 + k)).map fun (L : Nat) => .int L, always⟩ m0 := by
    refine iseq_of (d := .lst ((subs (1 + k)).map fun (L : Nat) => .int L)) cl ?_ rfl
    rw [← fz_nats]
    rfl
  have ls : (subs (1 + k)).length ≤ 1 + k := by
    have : ∀ f lot, (subsF (1 + k) f lot).length ≤ f := fun f => by
      induction f with
      | zero => intro lot; exact Nat.le_refl _
      | succ f ih =>
        intro lot
        unfold subsF
        split
        · exact Nat.zero_le _
        · rw [List.length_cons]; exact Nat.succ_le_succ (ih _)
    exact this _ _
  have cm := comp_ifm (vs := [4]) (b := bName 4) (gt := dTest (dApp (dCons true (dVar 1) (dCons true (dVar 3) (dCons true (dVar 4) dNil))) (callK 3 (den_can_be_lowest mg)))) (ge := dBin true (dVar 2) (dBin true (dVar 3) (dVar 4) (kV2 pXor)) kIx) (fun (L : Nat) => D.int L) (okB rows (1 + k)) (fun L => .fz (.int ((valN rows ((1 + k) ^^^ L) : Nat) : Int))) it (by have : bigLen = 1000000 := rfl; omega) rfl rfl fun L hL => by
    let mm : M := ⟨[some (.sv (.fz (.int n))), some (.sv (.fz (.tup (rows.map rowT)))), some (.sv (natsS ((List.range (1 + k)).map (valN rows)))), some (.sv (.fz (.int ((1 + k : Nat) : Int)))), some (.sv (.fz (.int (L : Nat))))], []⟩
    have t := test_of ((app_of (k := callK 3 (den_can_be_lowest mg)) (cons_of (pb := true) (opd_of (g := dVar 1) (m := mm) (x := .v (.tup (rows.map rowT))) rfl) (cons_of (pb := true) (opd_of (g := dVar 3) (x := .v (.int ((1 + k : Nat) : Int))) rfl) (cons_of (pb := true) (opd_of (g := dVar 4) (x := .v (.int (L : Nat))) rfl) (nil_of mm))))).trans (call3 (e_can (mg := mg) rows (1 + k) L)))
    obtain ⟨h1, h2⟩ := mem_subs.mp hL
    have lt := xor_lt hL
    have ix := ix_nats (m := mm) (o := .s 2) (a := 2) (gb := dBin true (dVar 3) (dVar 4) (kV2 pXor)) (l := (List.range (1 + k)).map (valN rows)) (i := (1 + k) ^^^ L) (x := valN rows ((1 + k) ^^^ L)) rfl rfl (bin3 (ga := dVar 3) (gb := dVar 4) (x := .int ((1 + k : Nat) : Int)) (y := .int (L : Nat)) rfl rfl (xorN h2)) (by rw [List.getElem?_map, List.getElem?_range lt]; rfl)
    exact ⟨mm, mm, rfl, t, fun _ => rfl, fun _ => ⟨.v (.int ((valN rows ((1 + k) ^^^ L) : Nat) : Int)), mm, mm, ix, rfl, rfl⟩⟩
  have sm := appF_of (pb := true) (k := kVN pSum) cm
  rw [frz_fm (fun L => D.int ((valN rows ((1 + k) ^^^ L) : Nat) : Int)), sum_of (fun L => valN rows ((1 + k) ^^^ L)), ← val_step rows (by omega)] at sm
  have ap := append_of (a := 2) (pb := false) (xs := ((List.range (1 + k)).map (valN rows)).map fun (i : Nat) => .fz (.int i)) rfl rfl sm (by rw [List.length_map, List.length_map, List.length_range]; have : bigLen = 1000000 := rfl; omega)
  rw [ap]
  have e : (List.range (1 + (k + 1))).map (valN rows) = (List.range (1 + k)).map (valN rows) ++ [valN rows (1 + k)] := by
    rw [show 1 + (k + 1) = (1 + k) + 1 by omega, List.range_succ, List.map_append]
    rfl
  rw [e]
  unfold ooM natsS
  rw [List.map_append (l₁ := (List.range (1 + k)).map (valN rows))]
  rfl
theorem two_pow {n : Nat} (hn : n ≤ 7) : 1 ≤ 2 ^ n ∧ 2 ^ n ≤ 128 := by
  refine ⟨Nat.one_le_two_pow, ?_⟩
  calc 2 ^ n ≤ 2 ^ 7 := Nat.pow_le_pow_right (by decide) hn
    _ = 128 := by decide
theorem e_orders_of (n : Nat) (hn : n ≤ 7) (rows : List Row) : Rn (den_orders_of mg [.fz (.int n), .fz (.tup (rows.map rowT))] []) (.fz (.int ((valN rows (full n) : Nat) : Int))) [] := by
  obtain ⟨p1, p2⟩ := two_pow hn
  let m0 : M := ⟨[some (.sv (.fz (.int n))), some (.sv (.fz (.tup (rows.map rowT)))), none, none, none], []⟩
  have e0 : dAsg (dApp (dCons true (dC (.int 1)) dNil) kLst) (bName 2) m0 = .ok .nx (ooM n rows ((List.range (1 + 0)).map (valN rows)) none) := by
    have l := (app_of (k := kLst) (cons_of (pb := true) (opd_of (g := dC (.int 1)) (m := m0) (x := .v (.int 1)) rfl) (nil_of m0))).trans (lst_of (ds := [.int 1]) (by show 1 ≤ 1000000; omega) rfl)
    exact asgF_of (i := 2) l (by show 2 < 5; decide)
  have sh : dBin true (dC (.int 1)) (dVar 0) (kV2 pShl) (ooM n rows ((List.range (1 + 0)).map (valN rows)) none) = .ok (.v (.int ((full n + 1 : Nat) : Int))) (ooM n rows ((List.range (1 + 0)).map (valN rows)) none) := by
    refine bin3 (ga := dC (.int 1)) (gb := dVar 0) (x := .int 1) (y := .int (n : Int)) rfl rfl ?_
    have e : pShl (.fz (.int 1)) (.fz (.int n)) = some (.v (.int (1 * 2 ^ ((n : Int)).toNat))) := by
      show (if CPow 1 n then some (EV.v (.int (1 * 2 ^ ((n : Int)).toNat))) else none) = _
      rw [if_pos (show CPow 1 n from ⟨by omega, by omega, by decide⟩)]
    rw [s_kv2, e, Int.toNat_natCast]
    have : (1 : Int) * 2 ^ n = ((full n + 1 : Nat) : Int) := by
      unfold full
      rw [Nat.sub_add_cancel p1]
      simp
    rw [this]
  have it := rng2_of (cons_of (pb := true) (opd_of (g := dC (.int 1)) (x := .v (.int 1)) rfl) (cons_of (pb := true) (opd_of sh) (nil_of _))) (by unfold full; omega)
  obtain ⟨m', e1, a, h⟩ := for_idx (tg := bName 3) (gb := (dDrop (dMt1 "list" false (dVar 2) (dApp (dCons true (dComp (dISeq (dApp (dCons true (dVar 3) dNil) (callK 1 (den_lots_within mg)))) [4] (bName 4) (dTest (dApp (dCons true (dVar 1) (dCons true (dVar 3) (dCons true (dVar 4) dNil))) (callK 3 (den_can_be_lowest mg)))) (dBin true (dVar 2) (dBin true (dVar 3) (dVar 4) (kV2 pXor)) kIx)) dNil) (kVN pSum)) fAppend))) (fun k => D.int ((1 + k : Nat) : Int)) (fun k m => ∃ a, m = ooM n rows ((List.range (1 + k)).map (valN rows)) a) it ⟨none, rfl⟩ fun k hk m h => by
    obtain ⟨a, rfl⟩ := h
    exact ⟨ooM n rows ((List.range (1 + k)).map (valN rows)) (some (.sv (.fz (.int ((1 + k : Nat) : Int))))), _, rfl, .inl (oo_turn (mg := mg) n rows k (by unfold full at hk; omega)), _, rfl⟩
  have fin : (List.range (1 + full n)).map (valN rows) = (List.range (full n)).map (valN rows) ++ [valN rows (full n)] := by
    rw [show 1 + full n = full n + 1 by omega, List.range_succ, List.map_append]
    rfl
  rw [fin] at h
  have run : b_orders_of mg m0 = .ok (.rt (.fz (.int ((valN rows (full n) : Nat) : Int)))) m' := by
    unfold b_orders_of
    rw [seq_nx e0, seq_nx e1]
    subst h
    exact retV_of (ix_last (o := .s 2) (a := 2) (gb := dUn (dC (.int 1)) (kV1 pNeg)) (l := (List.range (full n)).map (valN rows)) (x := valN rows (full n)) rfl rfl (un3 (ga := dC (.int 1)) (x := .int 1) rfl (negI 1)))
  have := def_rt (n := 5) (b := b_orders_of mg) (as := [.fz (.int n), .fz (.tup (rows.map rowT))]) (pins := []) (m := m') run
  rw [h] at this
  exact this
/-! ### orders_left -/
theorem e_left (n : Nat) (h1 : 1 ≤ n) (hn : n ≤ 7) (rows : List Row) (hl : rows.length ≤ bigLen) (hr : In n rows) (dg : ∀ i, i < n → getM (clos n rows) i i ≤ 1) :
    Rn (den_orders_left mg [.fz (.int n), .fz (.tup (rows.map rowT))] []) (.fz (.int ((valN rows (full n) : Nat) : Int))) [] := by
  have nb : n ≤ bigLen := Nat.le_trans hn (by decide)
  have k1 := call2 (m := m2 0 (.int n) (.tup (rows.map rowT))) (e_need_orders (mg := mg) n (rows.map rowT) (by omega) (rows_ok hr).1 (by simpa using hl) (rows_ok hr).2)
  have k2 := call2 (m := m2 0 (.int n) (.tup (rows.map rowT))) (e_sure (mg := mg) n nb rows hr dg)
  have k3 := call2 (m := m2 0 (.int n) (.tup (rows.map rowT))) (e_orders_of (mg := mg) n hn rows)
  have key : b_orders_left mg (m2 0 (.int n) (.tup (rows.map rowT))) = .ok (.rt (.fz (.int ((valN rows (full n) : Nat) : Int)))) (m2 0 (.int n) (.tup (rows.map rowT))) := by
    unfold b_orders_left
    rw [seq_nx (drop_of (args2.trans k1)), seq_nx (drop_of (args2.trans k2))]
    exact retV_of (args2.trans k3)
  exact def_rt (n := 2) (b := b_orders_left mg) (as := [.fz (.int n), .fz (.tup (rows.map rowT))]) (pins := []) key
theorem x_left (n : Nat) (h1 : 1 ≤ n) (hn : n ≤ 7) (rows : List Row) (hl : rows.length ≤ bigLen) (hr : In n rows) (dg : ∃ i, i < n ∧ getM (clos n rows) i i = 2) :
    RnX (den_orders_left mg [.fz (.int n), .fz (.tup (rows.map rowT))] []) "NoHeights" (.tup (rows.map rowT)) [] := by
  have nb : n ≤ bigLen := Nat.le_trans hn (by decide)
  have k1 := call2 (m := m2 0 (.int n) (.tup (rows.map rowT))) (e_need_orders (mg := mg) n (rows.map rowT) (by omega) (rows_ok hr).1 (by simpa using hl) (rows_ok hr).2)
  have k2 := callX2 (m := m2 0 (.int n) (.tup (rows.map rowT))) (x_sure (mg := mg) n nb rows hr dg)
  have key : b_orders_left mg (m2 0 (.int n) (.tup (rows.map rowT))) = .exc "NoHeights" (.tup (rows.map rowT)) (m2 0 (.int n) (.tup (rows.map rowT))) := by
    unfold b_orders_left
    rw [seq_nx (drop_of (args2.trans k1))]
    exact seq_exc (dropX_of (args2.trans k2))
  exact def_exc (n := 2) (b := b_orders_left mg) (as := [.fz (.int n), .fz (.tup (rows.map rowT))]) (pins := []) key
end K15
namespace K15
open PySem PySem.Spec PyProof.Rows L2 PD
variable {mg : Str → Option Value}
/-! ### _law_number -/
theorem look_putG {κ β : Type} [DecidableEq κ] (kvs : List (κ × β)) (k k' : κ) (x : β) : look (putG kvs k x) k' = if k = k' then some x else look kvs k' := by
  have app : ∀ kvs : List (κ × β), look (kvs ++ [(k, x)]) k' = (look kvs k').or (if k = k' then some x else none) := fun kvs => by
    induction kvs with
    | nil => rw [List.nil_append, look_cons]; rfl
    | cons p r ih =>
      obtain ⟨j, y⟩ := p
      rw [List.cons_append, look_cons, look_cons, ih]
      split <;> rfl
  unfold putG
  split
  · rename_i h
    induction kvs with
    | nil => cases h
    | cons p r ih =>
      obtain ⟨j, y⟩ := p
      rw [List.map_cons, look_cons]
      by_cases e : j = k
      · subst e
        simp only [if_true]
        rw [look_cons]
        by_cases e' : j = k'
        · simp [e']
        · rw [if_neg e', if_neg e']
          have : ∀ r : List (κ × β), look (r.map fun kv => if kv.1 = j then (kv.1, x) else kv) k' = look r k' := fun r => by
            induction r with
            | nil => rfl
            | cons q r ih =>
              obtain ⟨i, z⟩ := q
              rw [List.map_cons, look_cons]
              by_cases e2 : i = j
              · subst e2
                simp only [if_true]
                rw [look_cons, if_neg e', if_neg e', ih]
              · simp only [e2, if_false]
                rw [look_cons, ih]
          rw [this, if_neg e']
      · simp only [e, if_false]
        rw [look_cons]
        have h' : (r.any fun kv => decide (kv.1 = k)) = true := by simpa [e] using h
        rw [ih h']
        by_cases e' : j = k'
        · subst e'
          rw [if_pos rfl, if_pos rfl, if_neg (fun h => e h.symm)]
        · rw [if_neg e', if_neg e']
  · rename_i h
    have hn : look kvs k = none := by
      cases hl : look kvs k with
      | none => rfl
      | some y =>
        have : k ∈ kvs.map (·.1) := (look_some kvs k).mp (by rw [hl]; rfl)
        obtain ⟨p, hp, e⟩ := List.mem_map.mp this
        exact (h (List.any_eq_true.mpr ⟨p, hp, decide_eq_true e⟩)).elim
    rw [app]
    by_cases e : k = k'
    · subst e
      rw [hn]
      simp
    · rw [if_neg e, if_neg e]
      cases look kvs k' <;> rfl
def KN (rows : List Row) (k : Nat) (kvs : List (Key × SV)) : Prop := (∀ x : Nat, x ≤ k → look kvs (.inl (x : Int) : Key) = some (.fz (.int ((valN rows x : Nat) : Int)))) ∧ kvs.length ≤ k + 1
theorem kn_add {rows : List Row} {k : Nat} {kvs : List (Key × SV)} (h : KN rows k kvs) : KN rows (k + 1) (putG kvs (.inl ((k + 1 : Nat) : Int)) (.fz (.int ((valN rows (k + 1) : Nat) : Int)))) := by
  refine ⟨fun x hx => ?_, ?_⟩
  · rw [look_putG]
    by_cases e : x = k + 1
    · subst e; rw [if_pos rfl]
    · have ne : ¬ ((Sum.inl ((k + 1 : Nat) : Int) : Int ⊕ Str) = Sum.inl (x : Int)) := fun h => by
        have := Sum.inl.inj h
        omega
      rw [if_neg ne]
      exact h.1 x (by omega)
  · have := len_putG kvs (.inl ((k + 1 : Nat) : Int)) (SV.fz (.int ((valN rows (k + 1) : Nat) : Int)))
    have := h.2
    omega
theorem ix_dict {m : M} {o : Ow} {a : Nat} {gb : M → Out EV} {kvs : List (Key × SV)} {i : Int} {d : D} (ha : dVar a m = .ok (.br o []) m) (hg : get m o = some (.ok kvs)) (hb : gb m = .ok (.v (.int i)) m) (hx : look kvs (.inl i : Key) = some (.fz d)) : dBin true (dVar a) gb kIx m = .ok (.v d) m := by
  rw [bin_of (opd_of ha) (opd_of hb)]
  have v : PD.view m (.br o []) = some (.ok kvs) := by simp [PD.view, hg, PD.sub]
  have dl : dlook (.ok kvs) (.fz (.int i)) = some (some (.fz d)) := by
    show some (look kvs (.inl i : Key)) = _
    rw [hx]
  have s : stepIx (.ok kvs) (.fz (.int i)) = some (.fz d, .k (.inl i)) := by
    unfold stepIx
    simp only [dl]
    rfl
  unfold kIx
  rw [v]
  simp only [PD.view, s]
theorem st_dict {m : M} {a : Nat} {ga gb : M → Out EV} {kvs : List (Key × SV)} {i : Int} {d : D} (hv : ga m = .ok (.v d) m) (ha : dVar a m = .ok (.br (.s a) []) m) (hg : get m (.s a) = some (.ok kvs)) (hb : gb m = .ok (.v (.int i)) m) (hl : kvs.length < bigLen) : dAsg ga (bSubA (dVar a) gb) m = .ok .nx (setO m (.s a) (.ok (putG kvs (.inl i) (.fz d)))) := by
  have f : fSet (.ok kvs) [.fz (.int i), .fz d] = some (.ok (putG kvs (.inl i) (.fz d)), .non) := by
    show (if kvs.length < bigLen ∧ (isFz (.fz d) = true ∨ (kvs.any fun kv => decide (kv.1 = (.inl i : Key))) = false) then some (SV.ok (putG kvs (.inl i) (.fz d)), D.non) else none) = _
    rw [if_pos ⟨hl, .inl rfl⟩]
  have o1 := opd_of ha
  have o2 := opd_of hb
  unfold dAsg
  rw [hv]
  simp only [Out.bind, bSubA, ownE, o1, o2, PD.view, kMut, hg, PD.sub, f, PD.put]
def nuM (n : Nat) (rows : List Row) (kvs : List (Key × SV)) (ev : Nat) (p l t s f a b c : Option Sl) : M := ⟨[some (.sv (.fz (.int n))), some (.sv (.fz (.tup (rows.map rowT)))), some (.sv (.ok kvs)), some (.sv (.fz (.int ev))), p, l, t, s, f, a, b, c], []⟩
def iN (n : Nat) : Option Sl := some (.sv (.fz (.int n)))
theorem nu_fine (n : Nat) (rows : List Row) (kvs : List (Key × SV)) (ev : Nat) (p t : Option Sl) (left lot : Nat) (a b c : Option Sl) : ∃ m', (dFor (dISeq (dVar 1)) (bTup 3 (bCons (bName 9) (bCons (bName 10) (bCons (bName 11) bNil))))
 (dIf (dAndT (dTest (dBin true (dBin true (dBin true (dVar 7) (dVar 9) (kV2 pShr)) (dC (.int 1)) (kV2 pAnd)) (dC (.int 1)) (kV2 (bin2 pEq)))) (dAndT (dTest (dBin true (dBin true (dBin true (dVar 5) (dVar 10) (kV2 pShr)) (dC (.int 1)) (kV2 pAnd)) (dC (.int 1)) (kV2 (bin2 pEq)))) (dOrT (dTest (dVar 11)) (dTest (dBin true (dBin true (dBin true (dVar 7) (dVar 10) (kV2 pShr)) (dC (.int 1)) (kV2 pAnd)) (dC (.int 0)) (kV2 (bin2 pEq))))))) (dAsg (dC (.bl false)) (bName 8))
 dSkip)) (nuM n rows kvs ev p (iN left) t (iN lot) (some (.sv (.fz (.bl true)))) a b c) = .ok .nx m' ∧ ∃ a b c, m' = nuM n rows kvs ev p (iN left) t (iN lot) (some (.sv (.fz (.bl (okB rows left lot))))) a b c := by
  obtain ⟨m', e, a', b', c', h⟩ := for_map (gi := dISeq (dVar 1)) (tg := bTup 3 (bCons (bName 9) (bCons (bName 10) (bCons (bName 11) bNil)))) (gb := (dIf (dAndT (dTest (dBin true (dBin true (dBin true (dVar 7) (dVar 9) (kV2 pShr)) (dC (.int 1)) (kV2 pAnd)) (dC (.int 1)) (kV2 (bin2 pEq)))) (dAndT (dTest (dBin true (dBin true (dBin true (dVar 5) (dVar 10) (kV2 pShr)) (dC (.int 1)) (kV2 pAnd)) (dC (.int 1)) (kV2 (bin2 pEq)))) (dOrT (dTest (dVar 11)) (dTest (dBin true (dBin true (dBin true (dVar 7) (dVar 10) (kV2 pShr)) (dC (.int 1)) (kV2 pAnd)) (dC (.int 0)) (kV2 (bin2 pEq))))))) (dAsg (dC (.bl false)) (bName 8))
 dSkip)) (m0 := nuM n rows kvs ev p (iN left) t (iN lot) (some (.sv (.fz (.bl true)))) a b c) (m := nuM n rows kvs ev p (iN left) t (iN lot) (some (.sv (.fz (.bl true)))) a b c) (l := rows) (b := true) rowT (fun f m => ∃ a b c, m = nuM n rows kvs ev p (iN left) t (iN lot) (some (.sv (.fz (.bl f)))) a b c) (fun f r => f && !(badR left lot r)) (iseq_of (g := dVar 1) (ev := .v (.tup (rows.map rowT))) (d := .tup (rows.map rowT)) rfl rfl rfl) ⟨a, b, c, rfl⟩ fun r hr f m h => by
    obtain ⟨a, b, c, rfl⟩ := h
    obtain ⟨i, j, st⟩ := r
    let mm : M := nuM n rows kvs ev p (iN left) t (iN lot) (some (.sv (.fz (.bl f)))) (some (.sv (.fz (.int (i : Nat))))) (some (.sv (.fz (.int (j : Nat))))) (some (.sv (.fz (.bl st))))
    have t1 := bit1_of (m := mm) (g1 := dVar 7) (g2 := dVar 9) (a := lot) (i := i) rfl rfl
    have t2 := bit1_of (m := mm) (g1 := dVar 5) (g2 := dVar 10) (a := left) (i := j) rfl rfl
    have t3 := bit0_of (m := mm) (g1 := dVar 7) (g2 := dVar 10) (a := lot) (i := j) rfl rfl
    have t35 := or_of (ga := dTest (dVar 11)) (m := mm) (m1 := mm) (a := st) rfl (fun _ => t3) (fun _ => rfl)
    have tt := and_of t1 (fun _ => and_of t2 (fun _ => t35) (fun _ => rfl)) (fun _ => rfl)
    refine ⟨mm, nuM n rows kvs ev p (iN left) t (iN lot) (some (.sv (.fz (.bl (f && !(badR left lot (i, j, st))))))) (some (.sv (.fz (.int (i : Nat))))) (some (.sv (.fz (.int (j : Nat))))) (some (.sv (.fz (.bl st)))), rfl, .inl ?_, _, _, _, rfl⟩
    rw [if_of tt]
    have e : badR left lot (i, j, st) = (lot.testBit i && (left.testBit j && (st || !(lot.testBit j)))) := by unfold badR; rw [Bool.and_assoc]
    rw [← e]
    cases hb : badR left lot (i, j, st) with
    | true => rw [if_pos rfl]; show _ = Out.ok Ctl.nx (nuM n rows kvs ev p (iN left) t (iN lot) (some (.sv (.fz (.bl (f && !true))))) _ _ _); rw [Bool.not_true, Bool.and_false]; rfl
    | false => rw [if_neg (by decide), Bool.not_false, Bool.and_true]; rfl
  have fold : ∀ (l : List Row) (f : Bool), l.foldl (fun f r => f && !(badR left lot r)) f = (f && !(l.any (badR left lot))) := fun l => by
    induction l with
    | nil => intro f; simp
    | cons r l ih => intro f; rw [List.foldl_cons, ih, List.any_cons, Bool.not_or, Bool.and_assoc]
  rw [fold, Bool.true_and, ← ok_any] at h
  exact ⟨m', e, a', b', c', h⟩
def sumOk (rows : List Row) (left : Nat) (l : List Nat) : Nat := ((l.filter (okB rows left)).map fun L => valN rows (left ^^^ L)).sum
theorem sumOk_cons (rows : List Row) (left L : Nat) (l : List Nat) : sumOk rows left (L :: l) = (if okB rows left L = true then valN rows (left ^^^ L) else 0) + sumOk rows left l := by
  unfold sumOk
  rw [List.filter_cons]
  split
  · rw [List.map_cons, List.sum_cons]
  · omega
theorem nu_while (n : Nat) (rows : List Row) (kvs : List (Key × SV)) (ev : Nat) (p : Option Sl) (k : Nat) (hk : KN rows k kvs) : ∀ (f lot t : Nat) (fi a b c : Option Sl), lot ≤ f → Sb lot (k + 1) → ∃ m', dWhile (dTest (dBin true (dVar 7) (dC (.int 0)) (kV2 pGt))) (dSeq (dAsg (dC (.bl true)) (bName 8))
 (dSeq (dFor (dISeq (dVar 1)) (bTup 3 (bCons (bName 9) (bCons (bName 10) (bCons (bName 11) bNil))))
 (dIf (dAndT (dTest (dBin true (dBin true (dBin true (dVar 7) (dVar 9) (kV2 pShr)) (dC (.int 1)) (kV2 pAnd)) (dC (.int 1)) (kV2 (bin2 pEq)))) (dAndT (dTest (dBin true (dBin true (dBin true (dVar 5) (dVar 10) (kV2 pShr)) (dC (.int 1)) (kV2 pAnd)) (dC (.int 1)) (kV2 (bin2 pEq)))) (dOrT (dTest (dVar 11)) (dTest (dBin true (dBin true (dBin true (dVar 7) (dVar 10) (kV2 pShr)) (dC (.int 1)) (kV2 pAnd)) (dC (.int 0)) (kV2 (bin2 pEq))))))) (dAsg (dC (.bl false)) (bName 8))
 dSkip))
 (dSeq (dAsg (dBin true (dVar 6) (dIfE (dTest (dVar 8)) (dBin true (dVar 2) (dBin true (dVar 5) (dVar 7) (kV2 pSub)) kIx) (dC (.int 0))) (kV2 pPlus)) (bName 6))
 (dAsg (dBin true (dBin true (dVar 7) (dC (.int 1)) (kV2 pSub)) (dVar 5) (kV2 pAnd)) (bName 7))))) (nuM n rows kvs ev p (iN (k + 1)) (iN t) (iN lot) fi a b c) = .ok .nx m' ∧ ∃ fi a b c, m' = nuM n rows kvs ev p (iN (k + 1)) (iN (t + sumOk rows (k + 1) (subsF (k + 1) f lot))) (iN 0) fi a b c := by
  intro f
  have zero : ∀ (t : Nat) (fi a b c : Option Sl), dWhile (dTest (dBin true (dVar 7) (dC (.int 0)) (kV2 pGt))) (dSeq (dAsg (dC (.bl true)) (bName 8))
 (dSeq (dFor (dISeq (dVar 1)) (bTup 3 (bCons (bName 9) (bCons (bName 10) (bCons (bName 11) bNil))))
 (dIf (dAndT (dTest (dBin true (dBin true (dBin true (dVar 7) (dVar 9) (kV2 pShr)) (dC (.int 1)) (kV2 pAnd)) (dC (.int 1)) (kV2 (bin2 pEq)))) (dAndT (dTest (dBin true (dBin true (dBin true (dVar 5) (dVar 10) (kV2 pShr)) (dC (.int 1)) (kV2 pAnd)) (dC (.int 1)) (kV2 (bin2 pEq)))) (dOrT (dTest (dVar 11)) (dTest (dBin true (dBin true (dBin true (dVar 7) (dVar 10) (kV2 pShr)) (dC (.int 1)) (kV2 pAnd)) (dC (.int 0)) (kV2 (bin2 pEq))))))) (dAsg (dC (.bl false)) (bName 8))
 dSkip))
 (dSeq (dAsg (dBin true (dVar 6) (dIfE (dTest (dVar 8)) (dBin true (dVar 2) (dBin true (dVar 5) (dVar 7) (kV2 pSub)) kIx) (dC (.int 0))) (kV2 pPlus)) (bName 6))
 (dAsg (dBin true (dBin true (dVar 7) (dC (.int 1)) (kV2 pSub)) (dVar 5) (kV2 pAnd)) (bName 7))))) (nuM n rows kvs ev p (iN (k + 1)) (iN t) (iN 0) fi a b c) = .ok .nx (nuM n rows kvs ev p (iN (k + 1)) (iN t) (iN 0) fi a b c) := fun t fi a b c => by
    have tt := test_of (bin3 (pb := true) (ga := dVar 7) (gb := dC (.int 0)) (m := nuM n rows kvs ev p (iN (k + 1)) (iN t) (iN 0) fi a b c) (x := .int ((0 : Nat) : Int)) rfl rfl (gtI _ _))
    unfold dWhile
    rw [loopW_eq]
    unfold stepW
    rw [tt, bind_ok]
    rfl
  induction f with
  | zero =>
    intro lot t fi a b c h hs
    have : lot = 0 := by omega
    subst this
    exact ⟨_, zero t fi a b c, fi, a, b, c, rfl⟩
  | succ f ih =>
    intro lot t fi a b c h hs
    by_cases e : lot = 0
    · subst e
      refine ⟨_, zero t fi a b c, fi, a, b, c, ?_⟩
      rw [subsF, if_pos rfl]
      rfl
    · have tt := test_of (bin3 (pb := true) (ga := dVar 7) (gb := dC (.int 0)) (m := nuM n rows kvs ev p (iN (k + 1)) (iN t) (iN lot) fi a b c) (x := .int (lot : Int)) rfl rfl (gtI _ _))
      rw [decide_eq_true (show (0 : Int) < lot by omega)] at tt
      obtain ⟨m1, e1, a1, b1, c1, rfl⟩ := nu_fine n rows kvs ev p (iN t) (k + 1) lot a b c
      let v : Nat := if okB rows (k + 1) lot = true then valN rows ((k + 1) ^^^ lot) else 0
      have le := sb_le hs
      have e2 : dIfE (dTest (dVar 8)) (dBin true (dVar 2) (dBin true (dVar 5) (dVar 7) (kV2 pSub)) kIx) (dC (.int 0)) (nuM n rows kvs ev p (iN (k + 1)) (iN t) (iN lot) (some (.sv (.fz (.bl (okB rows (k + 1) lot))))) a1 b1 c1) = .ok (.v (.int (v : Int))) (nuM n rows kvs ev p (iN (k + 1)) (iN t) (iN lot) (some (.sv (.fz (.bl (okB rows (k + 1) lot))))) a1 b1 c1) := by
        have t8 : dTest (dVar 8) (nuM n rows kvs ev p (iN (k + 1)) (iN t) (iN lot) (some (.sv (.fz (.bl (okB rows (k + 1) lot))))) a1 b1 c1) = .ok (okB rows (k + 1) lot) (nuM n rows kvs ev p (iN (k + 1)) (iN t) (iN lot) (some (.sv (.fz (.bl (okB rows (k + 1) lot))))) a1 b1 c1) := rfl
        unfold dIfE
        rw [t8, bind_ok]
        show _ = Out.ok (EV.v (.int ((if okB rows (k + 1) lot = true then valN rows ((k + 1) ^^^ lot) else 0 : Nat) : Int))) _
        by_cases ho : okB rows (k + 1) lot = true
        · rw [if_pos ho, if_pos ho]
          have sb : dBin true (dVar 5) (dVar 7) (kV2 pSub) (nuM n rows kvs ev p (iN (k + 1)) (iN t) (iN lot) (some (.sv (.fz (.bl (okB rows (k + 1) lot))))) a1 b1 c1) = .ok (.v (.int (((k + 1) ^^^ lot : Nat) : Int))) (nuM n rows kvs ev p (iN (k + 1)) (iN t) (iN lot) (some (.sv (.fz (.bl (okB rows (k + 1) lot))))) a1 b1 c1) := by
            refine bin3 (ga := dVar 5) (gb := dVar 7) (x := .int ((k + 1 : Nat) : Int)) (y := .int (lot : Int)) rfl rfl ?_
            rw [subI, xor_sub hs, show ((k + 1 : Nat) : Int) - (lot : Int) = ((k + 1 - lot : Nat) : Int) by omega]
          exact ix_dict (o := .s 2) (a := 2) (kvs := kvs) rfl rfl sb (hk.1 _ (by rw [xor_sub hs]; omega))
        · rw [if_neg ho, if_neg ho]
          rfl
      have e3 := asgV_of (i := 6) (bin3 (pb := true) (ga := dVar 6) (m := nuM n rows kvs ev p (iN (k + 1)) (iN t) (iN lot) (some (.sv (.fz (.bl (okB rows (k + 1) lot))))) a1 b1 c1) (x := .int (t : Int)) rfl e2 (plusI _ _))
      have q3 : (t : Int) + (v : Int) = ((t + v : Nat) : Int) := by omega
      rw [q3] at e3
      have e4 : dAsg (dBin true (dBin true (dVar 7) (dC (.int 1)) (kV2 pSub)) (dVar 5) (kV2 pAnd)) (bName 7) (nuM n rows kvs ev p (iN (k + 1)) (iN (t + v)) (iN lot) (some (.sv (.fz (.bl (okB rows (k + 1) lot))))) a1 b1 c1) = .ok .nx (nuM n rows kvs ev p (iN (k + 1)) (iN (t + v)) (iN ((lot - 1) &&& (k + 1))) (some (.sv (.fz (.bl (okB rows (k + 1) lot))))) a1 b1 c1) := by
        have sb : dBin true (dVar 7) (dC (.int 1)) (kV2 pSub) (nuM n rows kvs ev p (iN (k + 1)) (iN (t + v)) (iN lot) (some (.sv (.fz (.bl (okB rows (k + 1) lot))))) a1 b1 c1) = .ok (.v (.int ((lot - 1 : Nat) : Int))) (nuM n rows kvs ev p (iN (k + 1)) (iN (t + v)) (iN lot) (some (.sv (.fz (.bl (okB rows (k + 1) lot))))) a1 b1 c1) := by
          refine bin3 (ga := dVar 7) (gb := dC (.int 1)) (x := .int (lot : Int)) (y := .int 1) rfl rfl ?_
          rw [subI, show (lot : Int) - 1 = ((lot - 1 : Nat) : Int) by omega]
        exact asgV_of (i := 7) (bin3 (pb := true) (gb := dVar 5) (y := .int ((k + 1 : Nat) : Int)) sb rfl (andN _ (lot - 1) (k + 1)))
      have hn : ((lot - 1) &&& (k + 1)) ≤ lot - 1 := Nat.and_le_left
      have hs' : Sb ((lot - 1) &&& (k + 1)) (k + 1) := by
        unfold Sb
        rw [Nat.and_assoc, Nat.and_self]
      obtain ⟨m', e5, fi', a', b', c', h'⟩ := ih ((lot - 1) &&& (k + 1)) (t + v) (some (.sv (.fz (.bl (okB rows (k + 1) lot))))) a1 b1 c1 (by omega) hs'
      refine ⟨m', ?_, fi', a', b', c', ?_⟩
      · unfold dWhile at e5 ⊢
        rw [loopW_eq]
        have st : stepW (dTest (dBin true (dVar 7) (dC (.int 0)) (kV2 pGt))) (dSeq (dAsg (dC (.bl true)) (bName 8))
 (dSeq (dFor (dISeq (dVar 1)) (bTup 3 (bCons (bName 9) (bCons (bName 10) (bCons (bName 11) bNil))))
 (dIf (dAndT (dTest (dBin true (dBin true (dBin true (dVar 7) (dVar 9) (kV2 pShr)) (dC (.int 1)) (kV2 pAnd)) (dC (.int 1)) (kV2 (bin2 pEq)))) (dAndT (dTest (dBin true (dBin true (dBin true (dVar 5) (dVar 10) (kV2 pShr)) (dC (.int 1)) (kV2 pAnd)) (dC (.int 1)) (kV2 (bin2 pEq)))) (dOrT (dTest (dVar 11)) (dTest (dBin true (dBin true (dBin true (dVar 7) (dVar 10) (kV2 pShr)) (dC (.int 1)) (kV2 pAnd)) (dC (.int 0)) (kV2 (bin2 pEq))))))) (dAsg (dC (.bl false)) (bName 8))
 dSkip))
 (dSeq (dAsg (dBin true (dVar 6) (dIfE (dTest (dVar 8)) (dBin true (dVar 2) (dBin true (dVar 5) (dVar 7) (kV2 pSub)) kIx) (dC (.int 0))) (kV2 pPlus)) (bName 6))
 (dAsg (dBin true (dBin true (dVar 7) (dC (.int 1)) (kV2 pSub)) (dVar 5) (kV2 pAnd)) (bName 7))))) (nuM n rows kvs ev p (iN (k + 1)) (iN t) (iN lot) fi a b c) = .ok .nx (nuM n rows kvs ev p (iN (k + 1)) (iN (t + v)) (iN ((lot - 1) &&& (k + 1))) (some (.sv (.fz (.bl (okB rows (k + 1) lot))))) a1 b1 c1) := by
          unfold stepW
          rw [tt, bind_ok, if_pos rfl, seq_nx (g1 := dAsg (dC (.bl true)) (bName 8)) (m1 := nuM n rows kvs ev p (iN (k + 1)) (iN t) (iN lot) (some (.sv (.fz (.bl true)))) a b c) rfl, seq_nx e1]
          refine (seq_nx (m1 := nuM n rows kvs ev p (iN (k + 1)) (iN (t + v)) (iN lot) (some (.sv (.fz (.bl (okB rows (k + 1) lot))))) a1 b1 c1) e3).trans ?_
          exact e4
        rw [st]
        exact e5
      · rw [h', subsF, if_neg e, sumOk_cons, Nat.add_assoc]
theorem full_succ (i : Nat) : full (i + 1) = 2 * full i + 1 := by
  unfold full
  have := Nat.one_le_two_pow (n := i)
  rw [Nat.pow_succ]
  omega
theorem e_number (n : Nat) (hn : n ≤ 7) (rows : List Row) : Rn (den__law_number mg [.fz (.int n), .fz (.tup (rows.map rowT))] []) (.fz (.int ((valN rows (full n) : Nat) : Int))) [] := by
  obtain ⟨p1, p2⟩ := two_pow hn
  let kv0 : List (Key × SV) := [(.inl 0, .fz (.int 1))]
  have e0 : dPar [2, 3] (dRaw (dDisp (dPairs (dC (.int 0)) (dC (.int 1)) dPairs0)) (dRaw (dC (.int 0)) dRaw0)) (⟨[some (.sv (.fz (.int n))), some (.sv (.fz (.tup (rows.map rowT)))), none, none, none, none, none, none, none, none, none, none], []⟩ : PD.M) = .ok .nx (nuM n rows kv0 (full 0) none none none none none none none none) :=
    par_of (raw_of (disp_of (pair_of (gk := dC (.int 0)) (ek := .v (.int 0)) rfl rfl (gv := dC (.int 1)) (ev := .v (.int 1)) rfl rfl (gr := dPairs0) rfl) (by show 1 ≤ 15; decide) (by show ([.inl 0] : List Key).Nodup; decide)) rfl (raw_of (gv := dC (.int 0)) (ev := .v (.int 0)) rfl rfl rfl)) rfl
  obtain ⟨m1, e1, p, h1⟩ := for_rng (tg := bName 4) (gb := dAsg (dBin true (dBin true (dC (.int 2)) (dVar 3) (kV2 pMul)) (dC (.int 1)) (kV2 pPlus)) (bName 3)) (fun i m => ∃ p, m = nuM n rows kv0 (full i) p none none none none none none none) (rng_of (cons_of (pb := true) (opd_of (g := dVar 0) (m := nuM n rows kv0 (full 0) none none none none none none none none) (x := .v (.int n)) rfl) (nil_of _)) (by have : bigLen = 1000000 := rfl; omega)) ⟨none, rfl⟩ fun i hi m h => by
    obtain ⟨p, rfl⟩ := h
    have a1 := bin3 (pb := true) (k := kV2 pMul) (ga := dC (.int 2)) (gb := dVar 3) (m := nuM n rows kv0 (full i) (some (.sv (.fz (.int i)))) none none none none none none none) (x := .int 2) (y := .int (full i : Int)) rfl rfl (mulI (cmulL (by decide)))
    have a2 := asgV_of (i := 3) (bin3 (pb := true) (gb := dC (.int 1)) a1 rfl (plusI _ _))
    have q : 2 * (full i : Int) + 1 = ((full (i + 1) : Nat) : Int) := by rw [full_succ]; omega
    rw [q] at a2
    exact ⟨nuM n rows kv0 (full i) (some (.sv (.fz (.int i)))) none none none none none none none, nuM n rows kv0 (full (i + 1)) (some (.sv (.fz (.int i)))) none none none none none none none, rfl, .inl a2, _, rfl⟩
  have sh : dBin true (dVar 3) (dC (.int 1)) (kV2 pPlus) (nuM n rows kv0 (full n) p none none none none none none none) = .ok (.v (.int ((full n + 1 : Nat) : Int))) (nuM n rows kv0 (full n) p none none none none none none none) := by
    refine bin3 (ga := dVar 3) (gb := dC (.int 1)) (x := .int (full n : Int)) (y := .int 1) rfl rfl ?_
    rw [plusI, show (full n : Int) + 1 = ((full n + 1 : Nat) : Int) by omega]
  have it := rng2_of (cons_of (pb := true) (opd_of (g := dC (.int 1)) (x := .v (.int 1)) rfl) (cons_of (pb := true) (opd_of sh) (nil_of _))) (by unfold full; omega)
  have kn0 : KN rows 0 kv0 := ⟨fun x hx => by
    have : x = 0 := by omega
    subst this
    rfl, by show 1 ≤ 1; decide⟩
  obtain ⟨m2, e2, kvs, l, t, s, f, a, b, c, hk, h2⟩ := for_idx (tg := bName 5) (gb := (dSeq (dPar [6, 7] (dRaw (dC (.int 0)) (dRaw (dVar 5) dRaw0)))
 (dSeq (dWhile (dTest (dBin true (dVar 7) (dC (.int 0)) (kV2 pGt))) (dSeq (dAsg (dC (.bl true)) (bName 8))
 (dSeq (dFor (dISeq (dVar 1)) (bTup 3 (bCons (bName 9) (bCons (bName 10) (bCons (bName 11) bNil))))
 (dIf (dAndT (dTest (dBin true (dBin true (dBin true (dVar 7) (dVar 9) (kV2 pShr)) (dC (.int 1)) (kV2 pAnd)) (dC (.int 1)) (kV2 (bin2 pEq)))) (dAndT (dTest (dBin true (dBin true (dBin true (dVar 5) (dVar 10) (kV2 pShr)) (dC (.int 1)) (kV2 pAnd)) (dC (.int 1)) (kV2 (bin2 pEq)))) (dOrT (dTest (dVar 11)) (dTest (dBin true (dBin true (dBin true (dVar 7) (dVar 10) (kV2 pShr)) (dC (.int 1)) (kV2 pAnd)) (dC (.int 0)) (kV2 (bin2 pEq))))))) (dAsg (dC (.bl false)) (bName 8))
 dSkip))
 (dSeq (dAsg (dBin true (dVar 6) (dIfE (dTest (dVar 8)) (dBin true (dVar 2) (dBin true (dVar 5) (dVar 7) (kV2 pSub)) kIx) (dC (.int 0))) (kV2 pPlus)) (bName 6))
 (dAsg (dBin true (dBin true (dVar 7) (dC (.int 1)) (kV2 pSub)) (dVar 5) (kV2 pAnd)) (bName 7))))))
 (dAsg (dVar 6) (bSubA (dVar 2) (dVar 5)))))) (fun k => D.int ((1 + k : Nat) : Int)) (fun k m => ∃ kvs l t s f a b c, KN rows k kvs ∧ m = nuM n rows kvs (full n) p l t s f a b c) it ⟨kv0, none, none, none, none, none, none, none, kn0, rfl⟩ fun k hk m h => by
    obtain ⟨kvs, l, t, s, f, a, b, c, kn, rfl⟩ := h
    rw [Nat.add_comm 1 k]
    obtain ⟨m3, e3, fi, a3, b3, c3, rfl⟩ := nu_while n rows kvs (full n) p k kn (k + 1) (k + 1) 0 f a b c (Nat.le_refl _) (Nat.and_self _)
    have vs : 0 + sumOk rows (k + 1) (subsF (k + 1) (k + 1) (k + 1)) = valN rows (k + 1) := by rw [Nat.zero_add]; exact (val_step rows (by omega)).symm
    rw [vs] at e3
    have st := st_dict (a := 2) (ga := dVar 6) (gb := dVar 5) (m := nuM n rows kvs (full n) p (iN (k + 1)) (iN (valN rows (k + 1))) (iN 0) fi a3 b3 c3) (kvs := kvs) (i := ((k + 1 : Nat) : Int)) (d := .int ((valN rows (k + 1) : Nat) : Int)) rfl rfl rfl rfl (by have := kn.2; have : bigLen = 1000000 := rfl; unfold full at hk; omega)
    refine ⟨nuM n rows kvs (full n) p (iN (k + 1)) t s f a b c, nuM n rows (putG kvs (.inl ((k + 1 : Nat) : Int)) (.fz (.int ((valN rows (k + 1) : Nat) : Int)))) (full n) p (iN (k + 1)) (iN (valN rows (k + 1))) (iN 0) fi a3 b3 c3, rfl, .inl ?_, _, _, _, _, _, _, _, _, kn_add kn, rfl⟩
    rw [seq_nx (g1 := dPar [6, 7] (dRaw (dC (.int 0)) (dRaw (dVar 5) dRaw0))) (m1 := nuM n rows kvs (full n) p (iN (k + 1)) (iN 0) (iN (k + 1)) f a b c) rfl, seq_nx e3]
    exact st
  have run : b__law_number mg ⟨[some (.sv (.fz (.int n))), some (.sv (.fz (.tup (rows.map rowT)))), none, none, none, none, none, none, none, none, none, none], []⟩ = .ok (.rt (.fz (.int ((valN rows (full n) : Nat) : Int)))) m2 := by
    unfold b__law_number
    rw [seq_nx e0, seq_nx e1, h1, seq_nx e2]
    subst h2
    exact retV_of (ix_dict (o := .s 2) (a := 2) (gb := dVar 3) (kvs := kvs) (i := (full n : Int)) rfl rfl rfl (hk.1 (full n) (Nat.le_refl _)))
  have := def_rt (n := 12) (b := b__law_number mg) (as := [.fz (.int n), .fz (.tup (rows.map rowT))]) (pins := []) (m := m2) run
  rw [h2] at this
  exact this
/-! ### _law_heard -/
def heM (c d : D) (w : Bool) : M := ⟨[some (.sv (.fz c)), some (.sv (.fz d)), some (.sv (.fz (.bl w))), none], []⟩
theorem he_call (c d : D) (w : Bool) : dIfE (dTest (dVar 2)) (dApp (dCons true (dVar 1) (dCons true (dVar 0) dNil)) (callP 2 (den_orders_left mg) [1, 0])) (dApp (dCons true (dVar 0) (dCons true (dVar 1) dNil)) (callK 2 (den_orders_left mg))) (heM c d w) = callK 2 (den_orders_left mg) (heM c d w) [.v c, .v d] := by
  have t : dTest (dVar 2) (heM c d w) = .ok w (heM c d w) := rfl
  have a1 : dCons true (dVar 1) (dCons true (dVar 0) dNil) (heM c d w) = .ok [.v d, .v c] (heM c d w) := rfl
  have a2 : dCons true (dVar 0) (dCons true (dVar 1) dNil) (heM c d w) = .ok [.v c, .v d] (heM c d w) := rfl
  unfold dIfE
  rw [t, bind_ok]
  cases w with
  | true =>
    rw [if_pos rfl, app_of a1]
    rfl
  | false =>
    rw [if_neg (by decide), app_of a2]
theorem e_told {c d v : D} (w : Bool) (r : Rn (den_orders_left mg [.fz c, .fz d] []) (.fz v) []) : Rn (den__law_heard mg [.fz c, .fz d, .fz (.bl w)] []) (.fz (.tup [.str "told", v])) [] := by
  have k := (he_call c d w).trans (call2 r)
  have u := app_of (k := PD.kTup) (cons_of (pb := false) (opd_of (g := dC (.str "told")) (m := heM c d w) (x := .v (.str "told")) rfl) (cons_of (pb := true) (opd_of k) (nil_of _)))
  have key : b__law_heard mg (heM c d w) = .ok (.rt (.fz (.tup [.str "told", v]))) (heM c d w) := by
    unfold b__law_heard dTry
    rw [retV_of (u.trans rfl)]
  exact def_rt (n := 4) (b := b__law_heard mg) (as := [.fz c, .fz d, .fz (.bl w)]) (pins := []) (m := heM c d w) key
theorem tag_heights : tagOf [("NoHeights", "heights")] "NoHeights" = some "heights" := by decide
theorem e_caught {c d t : D} (w : Bool) (r : RnX (den_orders_left mg [.fz c, .fz d] []) "NoHeights" t []) : Rn (den__law_heard mg [.fz c, .fz d, .fz (.bl w)] []) (.fz (.tup [.str "heights", t, .bl true])) [] := by
  have k := (he_call c d w).trans (callX2 r)
  have u := retX_of (appX_of (k := PD.kTup) (consX2 (pb := false) (opd_of (g := dC (.str "told")) (m := heM c d w) (x := .v (.str "told")) rfl) (consX1 (pb := true) (gs := dNil) (opdX_of k))))
  have key : b__law_heard mg (heM c d w) = .ok (.rt (.fz (.tup [.str "heights", t, .bl true]))) (heM c d w) := by
    unfold b__law_heard dTry
    rw [u]
    simp only [tag_heights]
    rfl
  exact def_rt (n := 4) (b := b__law_heard mg) (as := [.fz c, .fz d, .fz (.bl w)]) (pins := []) (m := heM c d w) key
theorem heard_call {g : M → Out (List EV)} {m : M} {c d : D} {w : Bool} {v : D} (hg : g m = .ok [.v c, .v d, .v (.bl w)] m) (r : Rn (den__law_heard mg [.fz c, .fz d, .fz (.bl w)] []) (.fz v) []) : dApp g (callK 3 (den__law_heard mg)) m = .ok (.v v) m := by
  rw [app_of hg]
  exact call3 r
end K15
namespace K15
open PySem PySem.Spec PyProof.Rows L2 PD
/-! # the law itself, statement by statement -/
noncomputable def pw_1 (mg : Str → Option Value) : M → Out Ctl :=
 (dAsg (dApp (dCons false (dVar 1) (dCons true (dIfE (dTest (dBin true (dApp (dCons true (dVar 1) (dCons true (dC (.int 12)) dNil)) (callK 2 (den__law_draw mg))) (dC (.int 0)) (kV2 (bin2 pEq)))) (dC (.int 7)) (dC (.int 5))) dNil)) (callK 2 (den__law_orders mg))) (bTup 3 (bCons (bName 5) (bCons (bName 6) (bCons (bName 7) bNil)))))
noncomputable def pw_2 (mg : Str → Option Value) : M → Out Ctl :=
 (dIf (dAndT (dTest (dBin true (dApp (dCons true (dVar 1) (dCons true (dC (.int 8)) dNil)) (callK 2 (den__law_draw mg))) (dC (.int 0)) (kV2 (bin2 pEq)))) (dTest (dBin true (dVar 7) (dApp dNil kLst0) (kV2 (bin2 pNe))))) (dSeq (dAsg (dApp (dCons true (dVar 1) (dCons true (dVar 7) dNil)) (callK 2 (den__law_pick mg))) (bTup 3 (bCons (bName 8) (bCons (bName 9) (bCons (bName 10) bNil)))))
 (dAsg (dBin false (dSl true true (dVar 7) dNoPart (dPart (dC (.int 29)))) (dApp (dCons true (dApp (dCons true (dVar 9) (dCons true (dVar 8) (dCons true (dC (.bl true)) dNil))) PD.kTup) dNil) kLst) (kV2 pPlus)) (bName 7)))
 dSkip)
noncomputable def pw_3 (mg : Str → Option Value) : M → Out Ctl :=
 (dAsg (dApp (dCons true (dSl true true (dVar 7) dNoPart (dPart (dC (.int 12)))) dNil) (kVN pTuple)) (bName 11))
noncomputable def pw_4 (mg : Str → Option Value) : M → Out Ctl :=
 (dAsg (dApp (dCons true (dVar 5) (dCons true (dVar 11) dNil)) (callK 2 (den__law_closure mg))) (bName 12))
noncomputable def pw_5 (mg : Str → Option Value) : M → Out Ctl :=
 (dIf (dNotT (dTest (dApp (dCons true (dVar 5) (dCons true (dVar 12) dNil)) (callK 2 (den__law_have_heights mg))))) (dSeq (dIf (dTest (dBin false (dApp (dCons true (dApp (dCons false (dApp (dCons true (dVar 5) (dCons true (dVar 11) (dCons true (dC (.bl false)) dNil))) (callK 3 (den__law_heard mg))) (dCons true (dApp (dCons true (dVar 5) (dCons true (dVar 11) (dCons true (dC (.bl true)) dNil))) (callK 3 (den__law_heard mg))) dNil)) kLst) dNil) (kVN pRepr)) (dApp (dCons true (dBin true (dApp (dCons true (dApp (dCons true (dC (.str "heights")) (dCons true (dVar 11) (dCons true (dC (.bl true)) dNil))) PD.kTup) dNil) kLst) (dC (.int 2)) (kV2 pMul)) dNil) (kVN pRepr)) (kV2 (bin2 pNe)))) (dRet (dC (.bl false)))
 dSkip)
 dCont)
 dSkip)
noncomputable def pw_6 (mg : Str → Option Value) : M → Out Ctl :=
 (dAsg (dApp (dCons false (dC (.str "told")) (dCons true (dApp (dCons true (dVar 5) (dCons true (dVar 11) dNil)) (callK 2 (den__law_number mg))) dNil)) PD.kTup) (bName 13))
noncomputable def pw_7 (mg : Str → Option Value) : M → Out Ctl :=
 (dAsg (dApp (dCons true (dComp (dISeq (dVar 11)) [8, 9, 10] (bTup 3 (bCons (bName 8) (bCons (bName 9) (bCons (bName 10) bNil)))) (fun m => .ok true m) (dApp (dCons true (dVar 9) (dCons true (dVar 8) (dCons true (dVar 10) dNil))) PD.kTup)) dNil) (kVN pTuple)) (bName 14))
noncomputable def pw_8 (mg : Str → Option Value) : M → Out Ctl :=
 (dIf (dTest (dBin false (dApp (dCons true (dApp (dCons false (dApp (dCons true (dVar 5) (dCons true (dVar 11) (dCons true (dC (.bl false)) dNil))) (callK 3 (den__law_heard mg))) (dCons false (dApp (dCons true (dVar 5) (dCons true (dVar 11) (dCons true (dC (.bl true)) dNil))) (callK 3 (den__law_heard mg))) (dCons true (dApp (dCons true (dVar 5) (dCons true (dVar 14) (dCons true (dC (.bl false)) dNil))) (callK 3 (den__law_heard mg))) dNil))) kLst) dNil) (kVN pRepr)) (dApp (dCons true (dBin true (dApp (dCons true (dVar 13) dNil) kLst) (dC (.int 3)) (kV2 pMul)) dNil) (kVN pRepr)) (kV2 (bin2 pNe)))) (dRet (dC (.bl false)))
 dSkip)
noncomputable def pw_9 (mg : Str → Option Value) : M → Out Ctl :=
 (dPar [8, 9] (dRaw (dApp (dCons true (dVar 1) (dCons true (dVar 5) dNil)) (callK 2 (den__law_draw mg))) (dRaw (dApp (dCons true (dVar 1) (dCons true (dVar 5) dNil)) (callK 2 (den__law_draw mg))) dRaw0)))
noncomputable def pw_10 (mg : Str → Option Value) : M → Out Ctl :=
 (dIf (dTest (dBin true (dVar 8) (dVar 9) (kV2 (bin2 pNe)))) (dSeq (dAsg (dC (.int 0)) (bName 15))
 (dSeq (dFor (dISeq (dApp (dCons false (dApp (dCons true (dVar 8) (dCons true (dVar 9) (dCons true (dC (.bl false)) dNil))) PD.kTup) (dCons true (dApp (dCons true (dVar 9) (dCons true (dVar 8) (dCons true (dC (.bl true)) dNil))) PD.kTup) dNil)) PD.kTup)) (bName 16)
 (dSeq (dAsg (dApp (dCons false (dVar 5) (dCons true (dBin false (dVar 11) (dApp (dCons true (dVar 16) dNil) PD.kTup) (kV2 pPlus)) (dCons true (dC (.bl false)) dNil))) (callK 3 (den__law_heard mg))) (bName 17))
 (dIf (dTest (dApp (dCons false (dVar 5) (dCons true (dApp (dCons false (dVar 5) (dCons true (dBin false (dVar 11) (dApp (dCons true (dVar 16) dNil) PD.kTup) (kV2 pPlus)) dNil)) (callK 2 (den__law_closure mg))) dNil)) (callK 2 (den__law_have_heights mg)))) (dSeq (dIf (dOrT (dTest (dBin true (dBin true (dVar 17) (dC (.int 0)) kIx) (dC (.str "told")) (kV2 (bin2 pNe)))) (dOrT (dNotT (dTest (dUn (dBin true (dVar 17) (dC (.int 1)) kIx) (kV1 (pIsi "int"))))) (dTest (dUn (dBin true (dVar 17) (dC (.int 1)) kIx) (kV1 (pIsi "bool")))))) (dRet (dC (.bl false)))
 dSkip)
 (dAsg (dBin true (dVar 15) (dBin true (dVar 17) (dC (.int 1)) kIx) (kV2 pPlus)) (bName 15)))
 (dIf (dTest (dBin true (dBin true (dVar 17) (dC (.int 0)) kIx) (dC (.str "heights")) (kV2 (bin2 pNe)))) (dRet (dC (.bl false)))
 dSkip))))
 (dIf (dTest (dBin true (dVar 15) (dBin true (dVar 13) (dC (.int 1)) kIx) (kV2 (bin2 pNe)))) (dRet (dC (.bl false)))
 dSkip)))
 dSkip)
noncomputable def pw_body (mg : Str → Option Value) : M → Out Ctl := dSeq (pw_1 mg) (dSeq (pw_2 mg) (dSeq (pw_3 mg) (dSeq (pw_4 mg) (dSeq (pw_5 mg) (dSeq (pw_6 mg) (dSeq (pw_7 mg) (dSeq (pw_8 mg) (dSeq (pw_9 mg) (pw_10 mg)))))))))
noncomputable def qw_1 (mg : Str → Option Value) : M → Out Ctl :=
 (dAsg (dApp (dCons true (dVar 0) (dCons true (dC (.int 93015)) dNil)) (callK 2 (den__law_begun mg))) (bName 1))
noncomputable def qw_2 (mg : Str → Option Value) : M → Out Ctl :=
 (dAsg (dApp (dCons true (dC (.int 1)) (dCons true (dC (.int 3)) (dCons true (dC (.int 13)) (dCons true (dC (.int 75)) (dCons true (dC (.int 541)) (dCons true (dC (.int 4683)) (dCons true (dC (.int 47293)) dNil))))))) kLst) (bName 2))
noncomputable def qw_3 (mg : Str → Option Value) : M → Out Ctl :=
 (dAsg (dIfE (dTest (dBin true (dApp (dCons true (dVar 1) (dCons true (dC (.int 12)) dNil)) (callK 2 (den__law_draw mg))) (dC (.int 0)) (kV2 (bin2 pEq)))) (dApp (dCons true (dVar 1) (dCons true (dC (.int 7)) dNil)) (callK 2 (den__law_draw mg))) (dApp (dCons true (dVar 1) (dCons true (dC (.int 5)) dNil)) (callK 2 (den__law_draw mg)))) (bName 3))
noncomputable def qw_4 (mg : Str → Option Value) : M → Out Ctl :=
 (dIf (dTest (dBin false (dApp (dCons true (dApp (dCons false (dApp (dCons false (dBin true (dVar 3) (dC (.int 1)) (kV2 pPlus)) (dCons true (dApp dNil PD.kTup) (dCons true (dC (.bl false)) dNil))) (callK 3 (den__law_heard mg))) (dCons true (dApp (dCons false (dBin true (dVar 3) (dC (.int 1)) (kV2 pPlus)) (dCons true (dApp dNil PD.kTup) (dCons true (dC (.bl true)) dNil))) (callK 3 (den__law_heard mg))) dNil)) kLst) dNil) (kVN pRepr)) (dApp (dCons true (dBin true (dApp (dCons true (dApp (dCons true (dC (.str "told")) (dCons true (dBin true (dVar 2) (dVar 3) kIx) dNil)) PD.kTup) dNil) kLst) (dC (.int 2)) (kV2 pMul)) dNil) (kVN pRepr)) (kV2 (bin2 pNe)))) (dRet (dC (.bl false)))
 dSkip)
/-! ### slots -/
def Hs (m : M) (i : Nat) (s : SV) : Prop := m.sl[i]? = some (some (.sv s))
def setS (m : M) (j : Nat) (x : Option Sl) : M := { m with sl := m.sl.set j x }
def isO : SV → Bool
  | .fz _ => false
  | _ => true
theorem hs_get {m : M} {i : Nat} {s : SV} (h : Hs m i s) : get m (.s i) = some s := by
  unfold Hs at h
  unfold PD.get
  simp only [h]
theorem hs_var {m : M} {i : Nat} {d : D} (h : Hs m i (.fz d)) : dVar i m = .ok (.v d) m := by
  unfold Hs at h
  unfold dVar
  rw [h]
theorem hs_own {m : M} {i : Nat} {s : SV} (h : Hs m i s) (o : isO s = true) : dVar i m = .ok (.br (.s i) []) m := by
  unfold Hs at h
  unfold dVar
  rw [h]
  cases s with
  | fz d => cases o
  | _ => rfl
theorem hs_ne {m : M} {i j : Nat} {s : SV} {x : Option Sl} (h : Hs m i s) (e : j ≠ i) : Hs (setS m j x) i s := by
  unfold Hs setS
  show (m.sl.set j x)[i]? = _
  rw [List.getElem?_set_ne e]
  exact h
theorem hs_eq {m : M} {j : Nat} {s : SV} (h : j < m.sl.length) : Hs (setS m j (some (.sv s))) j s := by
  unfold Hs setS
  show (m.sl.set j _)[j]? = _
  rw [List.getElem?_set_self h]
theorem len_set (m : M) (j : Nat) (x : Option Sl) : (setS m j x).sl.length = m.sl.length := List.length_set
theorem setO_s (m : M) (j : Nat) (s : SV) : setO m (.s j) s = setS m j (some (.sv s)) := rfl
structure LF (m : M) (s : SV) : Prop where
  pp : m.pp = []
  len : m.sl.length = 18
  dk : Hs m 1 s
  pl : ∀ j, 8 ≤ j → j ≤ 10 → plainSl (m.sl[j]?.join) = true
theorem LF.set {m : M} {s : SV} (h : LF m s) {j : Nat} {x : Option Sl} (h1 : j ≠ 1) (h2 : j < 8 ∨ 10 < j) : LF (setS m j x) s :=
  ⟨h.pp, (len_set m j x).trans h.len, hs_ne h.dk h1, fun i a b => by show plainSl ((m.sl.set j x)[i]?.join) = true; rw [List.getElem?_set_ne (by omega)]; exact h.pl i a b⟩
theorem LF.setD {m : M} {s : SV} (h : LF m s) {j : Nat} {d : D} (h1 : j ≠ 1) (hj : j < 18) : LF (setS m j (some (.sv (.fz d)))) s :=
  ⟨h.pp, (len_set m j _).trans h.len, hs_ne h.dk h1, fun i a b => by
    show plainSl ((m.sl.set j _)[i]?.join) = true
    by_cases e : j = i
    · subst e; rw [List.getElem?_set_self (by rw [h.len]; exact hj)]; rfl
    · rw [List.getElem?_set_ne e]; exact h.pl i a b⟩
theorem LF.deck {m : M} {s s' : SV} (h : LF m s) : LF (setS m 1 (some (.sv s'))) s' :=
  ⟨h.pp, (len_set m 1 _).trans h.len, hs_eq (by rw [h.len]; decide), fun i a b => by show plainSl ((m.sl.set 1 _)[i]?.join) = true; rw [List.getElem?_set_ne (by omega)]; exact h.pl i a b⟩
theorem dk_own {k : Nat} {s : SV} (h : Dk k s) : isO s = true := by
  obtain ⟨c, x, t, rfl, _⟩ := h
  rfl
theorem asgT3 {g : M → Out EV} {m m1 : M} {a b c : D} {i j l : Nat} (h : g m = .ok (.v (.tup [a, b, c])) m1) : dAsg g (bTup 3 (bCons (bName i) (bCons (bName j) (bCons (bName l) bNil)))) m = .ok .nx (setS (setS (setS m1 i (some (.sv (.fz a)))) j (some (.sv (.fz b)))) l (some (.sv (.fz c)))) := by
  unfold dAsg; rw [h]; rfl
theorem asgV_s {g : M → Out EV} {m m1 : M} {d : D} {i : Nat} (h : g m = .ok (.v d) m1) : dAsg g (bName i) m = .ok .nx (setS m1 i (some (.sv (.fz d)))) := asgV_of h
theorem asgF_s {g : M → Out EV} {m m1 : M} {s : SV} {i : Nat} (h : g m = .ok (.fr s) m1) (hi : i < m1.sl.length) : dAsg g (bName i) m = .ok .nx (setS m1 i (some (.sv s))) := asgF_of h hi
theorem put2 {m : M} {i j : Nat} {a b : SV} (hi : i < m.sl.length) (hj : j < m.sl.length) : putSl [i, j] [a, b] m = .ok () (setS (setS m i (some (.sv a))) j (some (.sv b))) := by
  unfold putSl
  rw [if_pos hi]
  unfold putSl
  rw [if_pos (by show j < (m.sl.set i _).length; rw [List.length_set]; exact hj)]
  rfl
theorem plus_lst {m : M} {xs ys : List D} (h : xs.length + ys.length ≤ bigLen) : kV2 pPlus m (.v (.lst xs)) (.v (.lst ys)) = .ok (.fr (.ol ((xs ++ ys).map .fz))) m := by
  have e : pPlus (.fz (.lst xs)) (.fz (.lst ys)) = some (.fr (.ol ((xs ++ ys).map .fz))) := by
    have c : pCatL (.fz (.lst xs)) (.fz (.lst ys)) = some (.fr (.ol ((xs ++ ys).map .fz))) := if_pos h
    have t : pCatT (.fz (.lst xs)) (.fz (.lst ys)) = none := rfl
    have s : pCatS (.fz (.lst xs)) (.fz (.lst ys)) = none := rfl
    have a : pAddI (.fz (.lst xs)) (.fz (.lst ys)) = none := rfl
    unfold pPlus orOp
    rw [a]
    simp only [s, t, c]
  rw [s_kv2, e]
section
variable {mg : Str → Option Value} {m : M} {s : SV} {k : Nat}
def RowsAt (m : M) (o : List Row) : Prop := Hs m 7 (.fz (.lst (o.map rowT))) ∨ Hs m 7 (ordS o)
theorem rows_ne {m : M} {o : List Row} {j : Nat} {x : Option Sl} (h : RowsAt m o) (e : j ≠ 7) : RowsAt (setS m j x) o := h.imp (fun h => hs_ne h e) (fun h => hs_ne h e)
theorem all_ord (o : List Row) : lstD (ordS o) = some (o.map rowT) := by
  have := allFz_map (o.map rowT)
  rw [List.map_map] at this
  exact this
theorem cutF {m : M} {o : List Row} {i : Nat} (h : Hs m i (.fz (.lst (o.map rowT)))) (k : Nat) : opd (dSl true true (dVar i) dNoPart (dPart (dC (.int k)))) m = .ok (.v (.lst ((o.take k).map rowT))) m := by
  have e := sl_of (pl := true) (ph := true) (k := k) (opd_of (hs_var h)) (s := .fz (.lst (o.map rowT))) rfl (ev := .fr (.ol (((o.take k).map rowT).map .fz))) (by
    show some (EV.fr (.ol ((PD.cutD (o.map rowT) none (some (k : Int))).map .fz))) = _
    rw [cut_take, ← List.map_take])
  have := opdF_of e
  rw [frz_fz] at this
  exact this
theorem cutO {m : M} {o : List Row} {i : Nat} (h : Hs m i (ordS o)) (k : Nat) : opd (dSl true true (dVar i) dNoPart (dPart (dC (.int k)))) m = .ok (.v (.lst ((o.take k).map rowT))) m := by
  have e := sl_of (pl := true) (ph := true) (k := k) (opd_of (hs_own h rfl)) (s := ordS o) (by simp [PD.view, hs_get h, PD.sub]) (ev := .fr (.ol (((o.take k).map rowT).map .fz))) (by
    unfold pSl
    rw [all_ord]
    show some (EV.fr (.ol ((PD.cutD (o.map rowT) none (some (k : Int))).map .fz))) = _
    rw [cut_take, ← List.map_take])
  have := opdF_of e
  rw [frz_fz] at this
  exact this
theorem one_lst {g : M → Out EV} {m m1 : M} {d : D} (h : g m = .ok (.v d) m1) : opd (dApp (dCons true g dNil) kLst) m = .ok (.v (.lst [d])) m1 := by
  have := opdF_of ((app_of (k := kLst) (cons_of (pb := true) (opd_of h) (nil_of m1))).trans (lst_of (ds := [d]) (by show 1 ≤ 1000000; omega) rfl))
  rw [frz_fz] at this
  exact this
theorem rows_add {o : List Row} {r : Row} : SV.ol (((o.take 29).map rowT ++ [rowT r]).map SV.fz) = ordS (o.take 29 ++ [r]) := by
  unfold ordS
  rw [List.map_append, List.map_append, List.map_map]
  rfl
theorem tk29 {n : Nat} {o : List Row} (h : In n o) {r : Row} (hr : r.1 < n ∧ r.2.1 < n) : In n (o.take 29 ++ [r]) ∧ (o.take 29 ++ [r]).length ≤ 30 := by
  refine ⟨in_app (fun r h' => h r (List.mem_of_mem_take h')) hr, ?_⟩
  rw [List.length_append, List.length_take]
  simp
  omega
theorem py_rows (o : List Row) : toPyL (o.map rowT) = some (o.map fun r => .tuple [.int r.1, .int r.2.1, .bool r.2.2]) := by
  induction o with
  | nil => rfl
  | cons x l ih => rw [List.map_cons, toPyL, ih]; rfl
/-! ### 1, 2: count, rows -/
theorem ife_draw (L : LF m s) (h : Dk k s) (hk : k < 2 ^ 55) (b : Int) (hb : 0 < b ∧ b < 2 ^ 29) : ∃ s' w, Dk (k + 1) s' ∧ dTest (dBin true (dApp (dCons true (dVar 1) (dCons true (dC (.int b)) dNil)) (callK 2 (den__law_draw mg))) (dC (.int 0)) (kV2 (bin2 pEq))) m = .ok w (setS m 1 (some (.sv s'))) := by
  obtain ⟨s', r, d', _, _, e⟩ := draw_call (mg := mg) (p := true) (q := true) (hs_own L.dk (dk_own h)) (hs_get L.dk) h (by omega) (b := b) hb (gb := dC (.int b)) rfl
  exact ⟨s', _, d', test_of (bin3 (pb := true) (gb := dC (.int 0)) e rfl (eqI _ _ _))⟩
theorem st1 (L : LF m s) (h : Dk k s) (hk : k < 2 ^ 55) : ∃ (m' : PD.M) (s' : SV) (n : Nat) (o : List Row), LF m' s' ∧ Dk (k + 201) s' ∧ 1 ≤ n ∧ n ≤ 7 ∧ o.length ≤ 30 ∧ In n o ∧ Hs m' 5 (.fz (.int (n : Nat))) ∧ Hs m' 7 (.fz (.lst (o.map rowT))) ∧ pw_1 mg m = .ok .nx m' := by
  obtain ⟨s1, w, d1, t⟩ := ife_draw (mg := mg) L h hk 12 (by decide)
  have L1 := L.deck (s' := s1)
  have hmo : ∃ mo : Int, 0 < mo ∧ mo ≤ 7 ∧ dIfE (dTest (dBin true (dApp (dCons true (dVar 1) (dCons true (dC (.int 12)) dNil)) (callK 2 (den__law_draw mg))) (dC (.int 0)) (kV2 (bin2 pEq)))) (dC (.int 7)) (dC (.int 5)) m = .ok (.v (.int mo)) (setS m 1 (some (.sv s1))) := by
    unfold dIfE
    rw [t, bind_ok]
    cases w with
    | true => exact ⟨7, by decide, by decide, rfl⟩
    | false => exact ⟨5, by decide, by decide, rfl⟩
  obtain ⟨mo, m0, m7, e⟩ := hmo
  obtain ⟨s', n, rk, o, d', n1, n2, ol, hin, r⟩ := e_orders (mg := mg) d1 (by omega) mo ⟨m0, by omega⟩
  have c := (app_of (k := callK 2 (den__law_orders mg)) (cons_of (pb := false) (opd_of (hs_own L.dk (dk_own h))) (cons_of (pb := true) (opd_of e) (nil_of _)))).trans (call_p (ds := [.int mo]) rfl (hs_get L1.dk) r)
  rw [setO_s] at c
  have L' := L1.deck (s' := s')
  refine ⟨_, s', n, o, ((L'.set (j := 5) (by decide) (by decide)).set (j := 6) (by decide) (by decide)).set (j := 7) (by decide) (by decide), d'.up (by omega), n1, by omega, ol, hin, hs_ne (hs_ne (hs_eq ?_) (by decide)) (by decide), hs_eq ?_, asgT3 c⟩
  · rw [L'.len]; decide
  · rw [len_set, len_set, L'.len]; decide
theorem st2 (L : LF m s) (h : Dk k s) (hk : k < 2 ^ 55) {n : Nat} {o : List Row} (ho : In n o) (hol : o.length ≤ 30) (H3 : Hs m 5 (.fz (.int n))) (H5 : Hs m 7 (.fz (.lst (o.map rowT)))) :
    ∃ (m' : PD.M) (s' : SV) (o' : List Row), LF m' s' ∧ Dk (k + 2) s' ∧ In n o' ∧ o'.length ≤ 30 ∧ Hs m' 5 (.fz (.int n)) ∧ RowsAt m' o' ∧ pw_2 mg m = .ok .nx m' := by
  obtain ⟨s0, w, d0, t⟩ := ife_draw (mg := mg) L h hk 8 (by decide)
  have L0 := L.deck (s' := s0)
  have H3 : Hs (setS m 1 (some (.sv s0))) 5 (.fz (.int n)) := hs_ne H3 (by decide)
  have H5 : Hs (setS m 1 (some (.sv s0))) 7 (.fz (.lst (o.map rowT))) := hs_ne H5 (by decide)
  generalize setS m 1 (some (.sv s0)) = m0 at L0 H3 H5 t
  cases w with
  | false =>
    refine ⟨m0, s0, o, L0, d0.up (by omega), ho, hol, H3, .inl H5, ?_⟩
    unfold pw_2
    rw [if_of (and_of (b := true) t (fun h => by cases h) (fun _ => rfl))]
    rfl
  | true =>
    have o2 : opd (dApp dNil kLst0) m0 = .ok (.v (.lst [])) m0 := rfl
    have t2 : dTest (dBin true (dVar 7) (dApp dNil kLst0) (kV2 (bin2 pNe))) m0 = .ok (!(o.map fun r => PyData.tuple [.int r.1, .int r.2.1, .bool r.2.2]).isEmpty) m0 := test_of (by
      rw [bin_of (opd_of (hs_var H5)) o2]
      have p : toPyS (.fz (.lst (o.map rowT))) = some (.list (o.map fun r => .tuple [.int r.1, .int r.2.1, .bool r.2.2])) := by
        show (toPyL (o.map rowT)).map _ = _
        rw [py_rows]
        rfl
      rw [s_kv2, ne_nil p])
    have t3 := and_of t (fun _ => t2) (fun h => by cases h)
    by_cases he : o = []
    · refine ⟨m0, s0, o, L0, d0.up (by omega), ho, hol, H3, .inl H5, ?_⟩
      unfold pw_2
      rw [if_of t3, he]
      rfl
    · have hb : (true && !(o.map fun r => PyData.tuple [.int r.1, .int r.2.1, .bool r.2.2]).isEmpty) = true := by
        cases o with
        | nil => exact (he rfl).elim
        | cons _ _ => rfl
      rw [hb] at t3
      obtain ⟨s1, d, hd, d1, e1⟩ := pick_call (mg := mg) (p := true) (q := true) (hs_own L0.dk (dk_own d0)) (hs_get L0.dk) d0 (by omega) (items := o.map rowT) (by simpa using he) (by rw [List.length_map]; omega) (opd_of (hs_var H5))
      obtain ⟨⟨i, j, st⟩, hr, rfl⟩ := List.mem_map.mp hd
      obtain ⟨hi, hj⟩ := ho _ hr
      have hi : i < n := hi
      have hj : j < n := hj
      rw [setO_s] at e1
      have L1 := L0.deck (s' := s1)
      have p1 := asgT3 (i := 8) (j := 9) (l := 10) (a := .int (i : Nat)) (b := .int (j : Nat)) (c := .bl st) e1
      have L2 := ((L1.setD (j := 8) (d := .int (i : Nat)) (by decide) (by decide)).setD (j := 9) (d := .int (j : Nat)) (by decide) (by decide)).setD (j := 10) (d := .bl st) (by decide) (by decide)
      have H7 : Hs (setS (setS (setS (setS m0 1 (some (.sv s1))) 8 (some (.sv (.fz (.int (i : Nat)))))) 9 (some (.sv (.fz (.int (j : Nat)))))) 10 (some (.sv (.fz (.bl st))))) 8 (.fz (.int (i : Nat))) := hs_ne (hs_ne (hs_eq (by rw [L1.len]; decide)) (by decide)) (by decide)
      have H8 : Hs (setS (setS (setS (setS m0 1 (some (.sv s1))) 8 (some (.sv (.fz (.int (i : Nat)))))) 9 (some (.sv (.fz (.int (j : Nat)))))) 10 (some (.sv (.fz (.bl st))))) 9 (.fz (.int (j : Nat))) := hs_ne (hs_eq (by rw [len_set, L1.len]; decide)) (by decide)
      have H3' : Hs (setS (setS (setS (setS m0 1 (some (.sv s1))) 8 (some (.sv (.fz (.int (i : Nat)))))) 9 (some (.sv (.fz (.int (j : Nat)))))) 10 (some (.sv (.fz (.bl st))))) 5 (.fz (.int n)) := hs_ne (hs_ne (hs_ne (hs_ne H3 (by decide)) (by decide)) (by decide)) (by decide)
      have H5' : Hs (setS (setS (setS (setS m0 1 (some (.sv s1))) 8 (some (.sv (.fz (.int (i : Nat)))))) 9 (some (.sv (.fz (.int (j : Nat)))))) 10 (some (.sv (.fz (.bl st))))) 7 (.fz (.lst (o.map rowT))) := hs_ne (hs_ne (hs_ne (hs_ne H5 (by decide)) (by decide)) (by decide)) (by decide)
      generalize setS (setS (setS (setS m0 1 (some (.sv s1))) 8 (some (.sv (.fz (.int (i : Nat)))))) 9 (some (.sv (.fz (.int (j : Nat)))))) 10 (some (.sv (.fz (.bl st)))) = m1 at L2 H7 H8 H3' H5' p1
      have tp := (app_of (k := PD.kTup) (cons_of (pb := true) (opd_of (hs_var H8)) (cons_of (pb := true) (opd_of (hs_var H7)) (cons_of (pb := true) (opd_of (g := dC (.bl true)) (x := .v (.bl true)) rfl) (nil_of _))))).trans (show _ = Out.ok (EV.v (rowT (j, i, true))) m1 from rfl)
      have pl := (bin_of (pb := false) (k := kV2 pPlus) (cutF H5' 29) (one_lst tp)).trans (plus_lst (by rw [List.length_map, List.length_take]; have : bigLen = 1000000 := rfl; simp; omega))
      rw [rows_add] at pl
      have p2 := asgF_s (i := 7) pl (by rw [L2.len]; decide)
      obtain ⟨in2, l2⟩ := tk29 ho (r := (j, i, true)) ⟨hj, hi⟩
      refine ⟨_, s1, o.take 29 ++ [(j, i, true)], L2.set (by decide) (by decide), d1.up (by omega), in2, l2, hs_ne H3' (by decide), .inr (hs_eq (by rw [L2.len]; decide)), ?_⟩
      unfold pw_2
      rw [if_of t3, if_pos rfl, seq_nx p1]
      exact p2
/-! ### 3, 4: orders, found -/
theorem st3 {o : List Row} (HR : RowsAt m o) : pw_3 mg m = .ok .nx (setS m 11 (some (.sv (.fz (.tup ((o.take 12).map rowT)))))) := by
  have e : opd (dSl true true (dVar 7) dNoPart (dPart (dC (.int 12)))) m = .ok (.v (.lst ((o.take 12).map rowT))) m := by
    rcases HR with h | h
    · exact cutF h 12
    · exact cutO h 12
  unfold pw_3
  exact asgV_s ((app_of (k := kVN pTuple) (cons_of (pb := true) e (nil_of m))).trans tupL_of)
theorem st4 (L : LF m s) {n : Nat} (hn : 1 ≤ n ∧ n ≤ 7) {q : List Row} (hq : In n q) (H5 : Hs m 5 (.fz (.int n))) (H11 : Hs m 11 (.fz (.tup (q.map rowT)))) : pw_4 mg m = .ok .nx (setS m 12 (some (.sv (matS (clos n q))))) := by
  have c := (app_of (k := callK 2 (den__law_closure mg)) (cons_of (pb := true) (opd_of (hs_var H5)) (cons_of (pb := true) (opd_of (hs_var H11)) (nil_of m)))).trans (call2 (e_lclosure (mg := mg) n (by omega) q hq))
  exact asgF_s c (by rw [L.len]; decide)
end
end K15
namespace K15
open PySem PySem.Spec PyProof.Rows L2 PD
/-! ### numbers, turned rows -/
theorem sum_le {α : Type} (p : α → Bool) (f g : α → Nat) : ∀ l : List α, (∀ x ∈ l, f x ≤ g x) → ((l.filter p).map f).sum ≤ (l.map g).sum
  | [], _ => Nat.le_refl _
  | x :: l, h => by
    have ih := sum_le p f g l fun y hy => h y (List.mem_cons_of_mem _ hy)
    have hx := h x List.mem_cons_self
    rw [List.filter_cons, List.map_cons, List.sum_cons]
    split
    · rw [List.map_cons, List.sum_cons]; omega
    · omega
theorem val_le (rows : List Row) : ∀ S, valN rows S ≤ valN [] S := by
  intro S
  induction S using Nat.strongRecOn with
  | _ S ih =>
    by_cases e : S = 0
    · subst e; exact Nat.le_refl _
    · rw [val_step rows e, val_step [] e]
      have f : (subs S).filter (okB [] S) = subs S := List.filter_eq_self.mpr fun _ _ => rfl
      rw [f]
      exact sum_le _ _ _ _ fun L hL => ih _ (xor_lt hL)
theorem val_big {n : Nat} (h1 : 1 ≤ n) (h2 : n ≤ 7) (rows : List Row) : valN rows (full n) ≤ 47293 := by
  refine Nat.le_trans (val_le rows _) ?_
  rw [none_num n h1 h2]
  match n, h1, h2 with
  | 1, _, _ => decide
  | 2, _, _ => decide
  | 3, _, _ => decide
  | 4, _, _ => decide
  | 5, _, _ => decide
  | 6, _, _ => decide
  | 7, _, _ => decide
theorem dg_nil (n : Nat) : ∀ i, i < n → getM (clos n []) i i ≤ 1 := by
  intro i hi
  have I : In n [] := fun r h => by cases h
  have g : ∀ i j, i < n → j < n → getM (idG n) i j = if i = j then 1 else 0 := fun i j hi hj => get_mk _ hi hj
  have M := (clos_facts I).2.2.2.2.2 (idG n) (bnd_id n) (fun a b c ha hb hc => by
    have B := bnd_id n
    rw [chain_le (B _ _ ha hc).1 (B _ _ hc hb).1 (B _ _ ha hb).1, g a c ha hc, g c b hc hb, g a b ha hb]
    intro p1 p2
    by_cases e1 : a = c
    · by_cases e2 : c = b
      · rw [if_pos e1, if_pos e2, if_pos (e1.trans e2)]; omega
      · rw [if_neg e2] at p2; omega
    · rw [if_neg e1] at p1; omega) (fun i hi => by rw [g i i hi hi, if_pos rfl]; omega) (fun r h => by cases h) i i hi hi
  rw [g i i hi hi, if_pos rfl] at M
  exact M
theorem dg_turn {n : Nat} {q : List Row} (I : In n q) (dg : ∀ i, i < n → getM (clos n q) i i ≤ 1) : In n (q.map turnR) ∧ ∀ i, i < n → getM (clos n (q.map turnR)) i i ≤ 1 := by
  have I' : In n (q.map turnR) := fun r hr => by
    obtain ⟨r', hr', rfl⟩ := List.mem_map.mp hr
    exact ⟨(I r' hr').2, (I r' hr').1⟩
  refine ⟨I', fun i hi => ?_⟩
  obtain ⟨w, B, d1, R, C, _⟩ := clos_facts I
  have C := C dg
  let H : List (List Int) := mkM n fun i j => getM (clos n q) j i
  have g : ∀ i j, i < n → j < n → getM H i j = getM (clos n q) j i := fun i j hi hj => get_mk _ hi hj
  have M := (clos_facts I').2.2.2.2.2 H (fun i j hi hj => by rw [g i j hi hj]; exact B j i hj hi) (fun a b c ha hb hc => by
    rw [g a c ha hc, g c b hc hb, g a b ha hb]
    have k := C b a c hb ha hc
    rw [chain_le (B _ _ hb hc).1 (B _ _ hc ha).1 (B _ _ hb ha).1] at k
    rw [chain_le (B _ _ hc ha).1 (B _ _ hb hc).1 (B _ _ hb ha).1]
    intro p1 p2
    have := k p2 p1
    omega) (fun i hi => by rw [g i i hi hi]; exact d1 i hi) (fun r hr => by
      obtain ⟨r', hr', rfl⟩ := List.mem_map.mp hr
      have h := I r' hr'
      show grd r'.2.2 ≤ getM H r'.2.1 r'.1
      rw [g _ _ h.2 h.1]
      exact R r' hr') i i hi hi
  rw [g i i hi hi] at M
  have := dg i hi
  omega
/-- a strict round or none -/
theorem round_or (n : Nat) (q : List Row) (I : In n q) : (((List.range n).filter fun i => decide (getM (clos n q) i i = 2)).isEmpty = true ∧ ∀ i, i < n → getM (clos n q) i i ≤ 1) ∨ (((List.range n).filter fun i => decide (getM (clos n q) i i = 2)).isEmpty = false ∧ ∃ i, i < n ∧ getM (clos n q) i i = 2) := by
  obtain ⟨w, B, _⟩ := clos_facts I
  by_cases hc : ∀ i, i < n → getM (clos n q) i i ≤ 1
  · refine .inl ⟨?_, hc⟩
    rw [List.isEmpty_iff, List.filter_eq_nil_iff]
    intro i hi
    have := hc i (List.mem_range.mp hi)
    simp; omega
  · have ex : ∃ i, i < n ∧ getM (clos n q) i i = 2 := by
      refine Classical.byContradiction fun h => hc fun i hi => ?_
      have b := B i i hi hi
      by_cases e : getM (clos n q) i i = 2
      · exact (h ⟨i, hi, e⟩).elim
      · omega
    refine .inr ⟨?_, ex⟩
    obtain ⟨i, hi, e⟩ := ex
    have mem : i ∈ (List.range n).filter fun i => decide (getM (clos n q) i i = 2) := List.mem_filter.mpr ⟨List.mem_range.mpr hi, by simp [e]⟩
    cases h : (List.range n).filter fun i => decide (getM (clos n q) i i = 2) with
    | nil => rw [h] at mem; cases mem
    | cons _ _ => rfl
section
variable {mg : Str → Option Value} {m : M} {s : SV} {k : Nat}
theorem call_fp {f : Den} {m : M} {o : Ow} {s0 s1 s : SV} {d : D} (hg : get m o = some s0) (h : Rn (f [.fz d, .pin 0] [s0]) s [s1]) : callK 2 f m [.v d, .br o []] = .ok (resE s) (setO m o s1) := by
  obtain ⟨sl, e⟩ := h.eq
  unfold callK
  simp [mkArgs, pinsOf, hg, e, setAll]
theorem not_of {g : M → Out Bool} {m m1 : M} {b : Bool} (h : g m = .ok b m1) : dNotT g m = .ok (!b) m1 := by unfold dNotT; rw [h]; rfl
theorem seq_ct {g1 g2 : M → Out Ctl} {m m1 : M} (h : g1 m = .ok .ct m1) : dSeq g1 g2 m = .ok .ct m1 := by unfold dSeq; rw [h]; rfl
theorem orOp_none {f g : SV → SV → Option EV} {a b : SV} (h : f a b = none) : orOp f g a b = g a b := by unfold orOp; rw [h]
theorem mul_lst {m : M} {A : D} {c : Nat} (hc : c ≤ 100) : kV2 pMul m (.v (.lst [A])) (.v (.int c)) = .ok (.fr (.ol ((List.replicate c A).map .fz))) m := by
  have fl : (List.replicate c [A]).flatten = List.replicate c A := by
    clear hc
    induction c with
    | zero => rfl
    | succ c ih => rw [List.replicate_succ, List.flatten_cons, ih]; rfl
  have pm : pMul (.fz (.lst [A])) (.fz (.int c)) = some (.fr (.ol ((List.replicate c A).map .fz))) := by
    have r : pRep (.fz (.lst [A])) (.fz (.int c)) = some (.fr (.ol ((List.replicate c A).map .fz))) := by
      have l : lstD (.fz (.lst [A])) = some [A] := rfl
      have h : -(2 ^ 62) ≤ (c : Int) ∧ (c : Int) < 2 ^ 62 ∧ [A].length * (c : Int).toNat ≤ bigLen := by
        refine ⟨by omega, by omega, ?_⟩
        rw [Int.toNat_natCast, List.length_singleton, Nat.one_mul]
        exact Nat.le_trans hc (by decide)
      unfold pRep
      rw [l]
      simp only []
      rw [if_pos h, Int.toNat_natCast, fl]
    have i : int2 CMul (fun i j => D.int (i * j)) (.fz (.lst [A])) (.fz (.int c)) = none := rfl
    unfold pMul
    rw [orOp_none i]
    exact r
  rw [s_kv2, pm]
theorem rep_shown {A : D} {g : M → Out EV} {c : Nat} {b : Nat} {ci : Int} (hci : ci = (c : Int)) (hA : Sm 3 b A) (hb : b ≤ 500) (hc : c ≤ 100) (h : g m = .ok (.v A) m) : dApp (dCons true (dBin true (dApp (dCons true g dNil) kLst) (dC (.int ci)) (kV2 pMul)) dNil) (kVN pRepr) m = .ok (.v (.str (shD (.lst (List.replicate c A))))) m := by
  subst hci
  have e := (bin_of (pb := true) (k := kV2 pMul) (one_lst h) (opd_of (g := dC (.int (c : Int))) (x := .v (.int c)) rfl)).trans (mul_lst hc)
  rw [appF_of e, frz_fz]
  refine repr_v (Sm.lst (d := 3) (b := b) (n := 100) (fun x hx => ?_) (by rw [List.length_replicate]; exact hc)) (by decide) (by omega) rfl m
  rw [List.eq_of_mem_replicate hx]
  exact hA
theorem lst_shown {g : M → Out (List EV)} {ds : List D} {b : Nat} (h : g m = .ok (ds.map .v) m) (hl : ds.length ≤ 100) (hA : ∀ x ∈ ds, Sm 3 b x) (hb : b ≤ 500) : dApp (dCons true (dApp g kLst) dNil) (kVN pRepr) m = .ok (.v (.str (shD (.lst ds)))) m := by
  have ev : ∀ ds : List D, evD m (ds.map .v) = .ok ds m := fun ds => by
    induction ds with
    | nil => rfl
    | cons d ds ih =>
      rw [List.map_cons]
      show (Out.ok d m).bind _ = _
      rw [bind_ok, ih, bind_ok]
  have l := (app_of (k := kLst) h).trans (lst_of (ds := ds) (by rw [List.length_map]; have : bigLen = 1000000 := rfl; omega) (ev ds))
  rw [appF_of l, frz_fz]
  exact repr_v (Sm.lst (d := 3) (b := b) (n := 100) hA hl) (by decide) (by omega) rfl m
theorem sm_told {V : Nat} (h : V ≤ 1000000) : Sm 3 500 (.tup [.str "told", .int V]) :=
  (Sm.tup (d := 0) (b := 10) (n := 2) (fun y hy => by
    simp only [List.mem_cons, List.not_mem_nil, or_false] at hy
    rcases hy with rfl | rfl
    · exact Sm.str (by decide) (by decide)
    · exact (Sm.int (by omega) (by omega)).up (by omega) (by omega)) (by show 2 ≤ 2; decide)).up (by omega) (by omega)
theorem sm_heights {n : Nat} (hn : n ≤ 1000) {q : List Row} (hq : In n q) (hl : q.length ≤ 13) : Sm 3 500 (.tup [.str "heights", .tup (q.map rowT), .bl true]) := by
  have s : Sm 2 143 (.tup (q.map rowT)) := Sm.tup (d := 1) (b := 10) (n := 13) (fun x hx => by
    obtain ⟨r, hr, rfl⟩ := List.mem_map.mp hx
    exact sm_row hn (hq r hr)) (by simpa using hl)
  exact (Sm.tup (d := 2) (b := 143) (n := 3) (fun y hy => by
    simp only [List.mem_cons, List.not_mem_nil, or_false] at hy
    rcases hy with rfl | rfl | rfl
    · exact (Sm.str (by decide) (by decide)).up (by omega) (by omega)
    · exact s
    · exact (Sm.bl _).up (by omega) (by omega)) (by show 3 ≤ 3; decide)).up (by omega) (by omega)
/-- what is heard of rows -/
def heardD (n : Nat) (q : List Row) : D := if ((List.range n).filter fun i => decide (getM (clos n q) i i = 2)).isEmpty = true then .tup [.str "told", .int ((valN q (full n) : Nat) : Int)] else .tup [.str "heights", .tup (q.map rowT), .bl true]
theorem hear {n : Nat} (hn : 1 ≤ n ∧ n ≤ 7) {q : List Row} (hq : In n q) (hl : q.length ≤ 100) (w : Bool) : Rn (den__law_heard mg [.fz (.int n), .fz (.tup (q.map rowT)), .fz (.bl w)] []) (.fz (heardD n q)) [] := by
  have hb : q.length ≤ bigLen := by have : bigLen = 1000000 := rfl; omega
  unfold heardD
  rcases round_or n q hq with ⟨e, dg⟩ | ⟨e, ex⟩
  · rw [if_pos e]
    exact e_told w (e_left n hn.1 hn.2 q hb hq dg)
  · rw [if_neg (by rw [e]; decide)]
    exact e_caught w (x_left n hn.1 hn.2 q hb hq ex)
theorem heard_told {n : Nat} {q : List Row} (hq : In n q) (dg : ∀ i, i < n → getM (clos n q) i i ≤ 1) : heardD n q = .tup [.str "told", .int ((valN q (full n) : Nat) : Int)] := by
  unfold heardD
  rcases round_or n q hq with ⟨e, _⟩ | ⟨_, i, hi, ex⟩
  · rw [if_pos e]
  · have := dg i hi
    omega
theorem heard_round {n : Nat} {q : List Row} (hq : In n q) (ex : ∃ i, i < n ∧ getM (clos n q) i i = 2) : heardD n q = .tup [.str "heights", .tup (q.map rowT), .bl true] := by
  unfold heardD
  rcases round_or n q hq with ⟨_, dg⟩ | ⟨e, _⟩
  · obtain ⟨i, hi, ex⟩ := ex
    have := dg i hi
    omega
  · rw [if_neg (by rw [e]; decide)]
theorem args3 {i j : Nat} {c d : D} {w : Bool} {gw : M → Out EV} (hc : Hs m i (.fz c)) (hd : Hs m j (.fz d)) (hw : gw m = .ok (.v (.bl w)) m) : dCons true (dVar i) (dCons true (dVar j) (dCons true gw dNil)) m = .ok [.v c, .v d, .v (.bl w)] m :=
  cons_of (opd_of (hs_var hc)) (cons_of (opd_of (hs_var hd)) (cons_of (opd_of hw) (nil_of m)))
/-! ### 5: where no heights are -/
theorem st5 (L : LF m s) {n : Nat} (hn : 1 ≤ n ∧ n ≤ 7) {q : List Row} (hq : In n q) (hl : q.length ≤ 12) (H5 : Hs m 5 (.fz (.int n))) (H11 : Hs m 11 (.fz (.tup (q.map rowT)))) (H12 : Hs m 12 (matS (clos n q))) :
    LF (setS m 12 (some (.sv (matS (clos n q))))) s ∧ (((∀ i, i < n → getM (clos n q) i i ≤ 1) ∧ pw_5 mg m = .ok .nx (setS m 12 (some (.sv (matS (clos n q)))))) ∨ pw_5 mg m = .ok .ct (setS m 12 (some (.sv (matS (clos n q)))))) := by
  have L' : LF (setS m 12 (some (.sv (matS (clos n q))))) s := L.set (by decide) (by decide)
  have H5' : Hs (setS m 12 (some (.sv (matS (clos n q))))) 5 (.fz (.int n)) := hs_ne H5 (by decide)
  have H11' : Hs (setS m 12 (some (.sv (matS (clos n q))))) 11 (.fz (.tup (q.map rowT))) := hs_ne H11 (by decide)
  have hh := (app_of (k := callK 2 (den__law_have_heights mg)) (cons_of (pb := true) (opd_of (hs_var H5)) (cons_of (pb := true) (opd_of (hs_own H12 rfl)) (nil_of m)))).trans (call_fp (hs_get H12) (e_have (mg := mg) n (by omega) (clos n q) (wf_clos n q)))
  have t := not_of (test_of hh)
  rw [setO_s] at t
  generalize setS m 12 (some (.sv (matS (clos n q)))) = m1 at L' H5' H11' t
  refine ⟨L', ?_⟩
  rcases round_or n q hq with ⟨e, dg⟩ | ⟨e, ex⟩
  · rw [e] at t
    refine .inl ⟨dg, ?_⟩
    unfold pw_5
    rw [if_of t]
    rfl
  · rw [e] at t
    refine .inr ?_
    have hv := heard_round hq ex
    have h1 := heard_call (args3 H5' H11' (gw := dC (.bl false)) rfl) (hear (mg := mg) hn hq (by omega) false)
    have h2 := heard_call (args3 H5' H11' (gw := dC (.bl true)) rfl) (hear (mg := mg) hn hq (by omega) true)
    rw [hv] at h1 h2
    have sm := sm_heights (n := n) (by omega) hq (by omega)
    have l := lst_shown (ds := [.tup [.str "heights", .tup (q.map rowT), .bl true], .tup [.str "heights", .tup (q.map rowT), .bl true]]) (cons_of (pb := false) (opd_of h1) (cons_of (pb := true) (opd_of h2) (nil_of m1))) (by show 2 ≤ 100; decide) (fun x hx => by
      simp only [List.mem_cons, List.not_mem_nil, or_false] at hx
      rcases hx with rfl | rfl <;> exact sm) (by decide)
    have tp : dApp (dCons true (dC (.str "heights")) (dCons true (dVar 11) (dCons true (dC (.bl true)) dNil))) PD.kTup m1 = .ok (.v (.tup [.str "heights", .tup (q.map rowT), .bl true])) m1 :=
      (app_of (k := PD.kTup) (cons_of (pb := true) (opd_of (g := dC (.str "heights")) (x := .v (.str "heights")) rfl) (cons_of (pb := true) (opd_of (hs_var H11')) (cons_of (pb := true) (opd_of (g := dC (.bl true)) (x := .v (.bl true)) rfl) (nil_of _))))).trans rfl
    have r := rep_shown (c := 2) (ci := 2) rfl sm (by decide) (by decide) tp
    have tt := test_of (bin3 (pb := false) l r (neS m1 _))
    unfold pw_5
    rw [if_of t, if_pos (by decide), seq_nx (m1 := m1) (by rw [if_of tt]; rfl)]
    rfl
/-! ### 6, 7, 8: due, turned, told -/
theorem st6 {n : Nat} (hn : n ≤ 7) {q : List Row} (H5 : Hs m 5 (.fz (.int n))) (H11 : Hs m 11 (.fz (.tup (q.map rowT)))) : pw_6 mg m = .ok .nx (setS m 13 (some (.sv (.fz (.tup [.str "told", .int ((valN q (full n) : Nat) : Int)]))))) := by
  have c := (app_of (k := callK 2 (den__law_number mg)) (cons_of (pb := true) (opd_of (hs_var H5)) (cons_of (pb := true) (opd_of (hs_var H11)) (nil_of m)))).trans (call2 (e_number (mg := mg) n hn q))
  exact asgV_s ((app_of (k := PD.kTup) (cons_of (pb := false) (opd_of (g := dC (.str "told")) (x := .v (.str "told")) rfl) (cons_of (pb := true) (opd_of c) (nil_of m)))).trans rfl)
theorem wipe_get (m : M) : ∀ (vs : List Nat) (j : Nat), (wipeM m vs).sl[j]? = if j ∈ vs ∧ j < m.sl.length then some none else m.sl[j]?
  | [], j => by simp [wipeM]
  | v :: vs, j => by
    have len : ∀ vs : List Nat, (wipeM m vs).sl.length = m.sl.length := fun vs => by
      induction vs with
      | nil => rfl
      | cons v vs ih => show ((wipeM m vs).sl.set v none).length = _; rw [List.length_set, ih]
    show ((wipeM m vs).sl.set v none)[j]? = _
    by_cases e : v = j
    · subst e
      by_cases hl : v < m.sl.length
      · rw [List.getElem?_set_self (by rw [len]; exact hl), if_pos ⟨List.mem_cons_self, hl⟩]
      · rw [List.getElem?_eq_none (by rw [List.length_set, len]; omega), if_neg (fun h => hl h.2), List.getElem?_eq_none (by omega)]
    · rw [List.getElem?_set_ne e, wipe_get m vs j]
      have : j ∈ v :: vs ↔ j ∈ vs := by simp [Ne.symm e]
      simp only [this]
theorem len_wipe (m : M) (vs : List Nat) : (wipeM m vs).sl.length = m.sl.length := by
  induction vs with
  | nil => rfl
  | cons v vs ih => show ((wipeM m vs).sl.set v none).length = _; rw [List.length_set, ih]
theorem pp_wipe (m : M) (vs : List Nat) : (wipeM m vs).pp = m.pp := by
  induction vs with
  | nil => rfl
  | cons v vs ih => exact ih
theorem rest_get (m0 : M) : ∀ (vs : List Nat) (m : M) (j : Nat), m.sl.length = m0.sl.length → (restM m m0 vs).sl[j]? = if j ∈ vs ∧ j < m0.sl.length then some (m0.sl[j]?.join) else m.sl[j]?
  | [], m, j, _ => by simp [restM]
  | v :: vs, m, j, hl => by
    unfold restM
    rw [rest_get m0 vs { m with sl := m.sl.set v (m0.sl[v]?.join) } j (by rw [List.length_set]; exact hl)]
    by_cases e : j ∈ vs ∧ j < m0.sl.length
    · rw [if_pos e, if_pos ⟨List.mem_cons_of_mem _ e.1, e.2⟩]
    · rw [if_neg e]
      show (m.sl.set v _)[j]? = _
      by_cases e2 : v = j
      · subst e2
        by_cases h : v < m0.sl.length
        · rw [List.getElem?_set_self (by omega), if_pos ⟨List.mem_cons_self, h⟩]
        · rw [List.getElem?_eq_none (by rw [List.length_set]; omega), if_neg (fun x => h x.2), List.getElem?_eq_none (by omega)]
      · rw [List.getElem?_set_ne e2]
        have : ¬ (j ∈ v :: vs ∧ j < m0.sl.length) := fun x => e ⟨by
          rcases List.mem_cons.mp x.1 with h | h
          · exact (e2 h.symm).elim
          · exact h, x.2⟩
        rw [if_neg this]
theorem pp_rest (m0 : M) : ∀ (vs : List Nat) (m : M), (restM m m0 vs).pp = m.pp
  | [], _ => rfl
  | v :: vs, m => by unfold restM; exact pp_rest m0 vs _
theorem rest_wipe (m : M) (vs : List Nat) : restM (wipeM m vs) m vs = m := by
  have h1 : (restM (wipeM m vs) m vs).sl = m.sl := by
    apply List.ext_getElem?
    intro j
    rw [rest_get m vs (wipeM m vs) j (len_wipe m vs)]
    by_cases e : j ∈ vs ∧ j < m.sl.length
    · rw [if_pos e, List.getElem?_eq_getElem e.2]
      rfl
    · rw [if_neg e, wipe_get, if_neg e]
  have h2 : (restM (wipeM m vs) m vs).pp = m.pp := (pp_rest m vs _).trans (pp_wipe m vs)
  have ext : ∀ a b : M, a.sl = b.sl → a.pp = b.pp → a = b := fun a b h h' => by
    cases a; cases b
    simp only at h h'
    subst h h'
    rfl
  exact ext _ _ h1 h2
theorem wipe_set (m : M) (vs : List Nat) (j : Nat) (x : Option Sl) (h : j ∈ vs) : wipeM (setS m j x) vs = wipeM m vs := by
  have ext : ∀ a b : M, a.sl = b.sl → a.pp = b.pp → a = b := fun a b h h' => by
    cases a; cases b
    simp only at h h'
    subst h h'
    rfl
  refine ext _ _ (List.ext_getElem? fun i => ?_) ((pp_wipe _ vs).trans (pp_wipe m vs).symm)
  rw [wipe_get, wipe_get, len_set]
  by_cases e : i ∈ vs ∧ i < m.sl.length
  · rw [if_pos e, if_pos e]
  · rw [if_neg e, if_neg e]
    show (m.sl.set j x)[i]? = _
    by_cases e2 : j = i
    · subst e2
      have hl : ¬ j < m.sl.length := fun hl => e ⟨h, hl⟩
      rw [List.getElem?_eq_none (by rw [List.length_set]; omega), List.getElem?_eq_none (by omega)]
    · rw [List.getElem?_set_ne e2]
theorem wipe_wipe (m : M) (vs : List Nat) : wipeM (wipeM m vs) vs = wipeM m vs := by
  have ext : ∀ a b : M, a.sl = b.sl → a.pp = b.pp → a = b := fun a b h h' => by
    cases a; cases b
    simp only at h h'
    subst h h'
    rfl
  refine ext _ _ (List.ext_getElem? fun i => ?_) (pp_wipe _ vs)
  rw [wipe_get, wipe_get, len_wipe]
  split <;> rfl
theorem st7 (L : LF m s) {q : List Row} (hl : q.length ≤ 12) (H11 : Hs m 11 (.fz (.tup (q.map rowT)))) : pw_7 mg m = .ok .nx (setS m 14 (some (.sv (.fz (.tup ((q.map turnR).map rowT)))))) := by
  have cm := comp_allm (vs := [8, 9, 10]) (b := bTup 3 (bCons (bName 8) (bCons (bName 9) (bCons (bName 10) bNil)))) (gi := dISeq (dVar 11)) (ge := dApp (dCons true (dVar 9) (dCons true (dVar 8) (dCons true (dVar 10) dNil))) PD.kTup) (m0 := m) (m := m) (l := q) rowT (fun r => .fz (rowT (turnR r))) (iseq_of (hs_var H11) (d := .tup (q.map rowT)) rfl rfl) (by have : bigLen = 1000000 := rfl; omega) (by
    show (plainSl (m.sl[8]?.join) && (plainSl (m.sl[9]?.join) && (plainSl (m.sl[10]?.join) && true))) = true
    rw [L.pl 8 (by decide) (by decide), L.pl 9 (by decide) (by decide), L.pl 10 (by decide) (by decide)]
    rfl) (rest_wipe m _) fun r hr => by
    obtain ⟨i, j, st⟩ := r
    have lw := len_wipe m [8, 9, 10]
    rw [L.len] at lw
    let mm := setS (setS (setS (wipeM m [8, 9, 10]) 8 (some (.sv (.fz (.int (i : Nat)))))) 9 (some (.sv (.fz (.int (j : Nat)))))) 10 (some (.sv (.fz (.bl st))))
    have h8 : Hs mm 8 (.fz (.int (i : Nat))) := hs_ne (hs_ne (hs_eq (by rw [lw]; decide)) (by decide)) (by decide)
    have h9 : Hs mm 9 (.fz (.int (j : Nat))) := hs_ne (hs_eq (by rw [len_set, lw]; decide)) (by decide)
    have h10 : Hs mm 10 (.fz (.bl st)) := hs_eq (by rw [len_set, len_set, lw]; decide)
    have tp := (app_of (k := PD.kTup) (cons_of (pb := true) (opd_of (hs_var h9)) (cons_of (pb := true) (opd_of (hs_var h8)) (cons_of (pb := true) (opd_of (hs_var h10)) (nil_of mm))))).trans (show _ = Out.ok (EV.v (rowT (turnR (i, j, st)))) mm from rfl)
    refine ⟨mm, .v (rowT (turnR (i, j, st))), mm, mm, rfl, tp, rfl, ?_⟩
    show wipeM (setS (setS (setS (wipeM m [8, 9, 10]) 8 _) 9 _) 10 _) [8, 9, 10] = _
    rw [wipe_set _ _ _ _ (by decide), wipe_set _ _ _ _ (by decide), wipe_set _ _ _ _ (by decide), wipe_wipe]
  have u := appF_of (pb := true) (k := kVN pTuple) cm
  rw [frz_fm (fun r => rowT (turnR r))] at u
  have e := asgV_s (i := 14) (u.trans tupL_of)
  rw [List.map_map]
  exact e
theorem st8 {n : Nat} (hn : 1 ≤ n ∧ n ≤ 7) {q : List Row} (hq : In n q) (hl : q.length ≤ 12) (dg : ∀ i, i < n → getM (clos n q) i i ≤ 1) (H5 : Hs m 5 (.fz (.int n))) (H11 : Hs m 11 (.fz (.tup (q.map rowT)))) (H13 : Hs m 13 (.fz (.tup [.str "told", .int ((valN q (full n) : Nat) : Int)]))) (H14 : Hs m 14 (.fz (.tup ((q.map turnR).map rowT)))) : pw_8 mg m = .ok .nx m := by
  obtain ⟨hq', dg'⟩ := dg_turn hq dg
  have w : valN (q.map turnR) (full n) = valN q (full n) := ways_turn hq
  have v1 := heard_told hq dg
  have v2 := heard_told hq' dg'
  rw [w] at v2
  have h1 := heard_call (args3 H5 H11 (gw := dC (.bl false)) rfl) (hear (mg := mg) hn hq (by omega) false)
  have h2 := heard_call (args3 H5 H11 (gw := dC (.bl true)) rfl) (hear (mg := mg) hn hq (by omega) true)
  have h3 := heard_call (args3 H5 H14 (gw := dC (.bl false)) rfl) (hear (mg := mg) hn hq' (by rw [List.length_map]; omega) false)
  rw [v1] at h1 h2
  rw [v2] at h3
  have sm := sm_told (V := valN q (full n)) (by have := val_big hn.1 hn.2 q; omega)
  have l := lst_shown (ds := [.tup [.str "told", .int ((valN q (full n) : Nat) : Int)], .tup [.str "told", .int ((valN q (full n) : Nat) : Int)], .tup [.str "told", .int ((valN q (full n) : Nat) : Int)]]) (cons_of (pb := false) (opd_of h1) (cons_of (pb := false) (opd_of h2) (cons_of (pb := true) (opd_of h3) (nil_of m)))) (by show 3 ≤ 100; decide) (fun x hx => by
    simp only [List.mem_cons, List.not_mem_nil, or_false] at hx
    rcases hx with rfl | rfl | rfl <;> exact sm) (by decide)
  have r := rep_shown (c := 3) (ci := 3) rfl sm (by decide) (by decide) (hs_var H13)
  have tt := test_of (bin3 (pb := false) l r (neS m _))
  unfold pw_8
  rw [if_of tt]
  rfl
end
end K15
namespace K15
open PySem PySem.Spec PyProof.Rows L2 PD
section
variable {mg : Str → Option Value} {m : M} {s : SV} {k : Nat} {K : Kf}
theorem tup_ix {m : M} {ds : List D} {i : Nat} {d : D} (h : ds[i]? = some d) : kIx m (.v (.tup ds)) (.v (.int i)) = .ok (.v d) m := by
  have hl : i < ds.length := (List.getElem?_eq_some_iff.mp h).1
  have s : stepIx (.fz (.tup ds)) (.fz (.int i)) = some (.fz d, .i i) := by
    show (ixN ds.length i).bind _ = _
    rw [ixN_at hl]
    show (ds[i]?).map _ = _
    rw [h]
    rfl
  unfold kIx
  simp only [PD.view, s]
theorem e_haveF (n : Nat) (hn : n ≤ 900) (G : List (List Int)) (w : wfM n G) : Rn (den__law_have_heights mg [.fz (.int n), .fz (matD G)] []) (.fz (.bl (((List.range n).filter fun i => decide (getM G i i = 2)).isEmpty))) [] := by
  let hh : M := ⟨[some (.sv (.fz (.int n))), some (.sv (.fz (matD G))), none], []⟩
  have key := comp_ifm (vs := [2]) (b := bName 2) (gt := dTest (dBin true (dBin true (dBin true (dVar 1) (dVar 2) kIx) (dVar 2) kIx) (dC (.int 2)) (kV2 (bin2 pEq)))) (ge := dC (.int 1)) (m := hh) (l := List.range n) (fun i : Nat => D.int i) (fun i => decide (getM G i i = 2)) (fun _ => .fz (.int 1)) (rng1 (i := 0) (m := hh) (n := n) rfl (Nat.le_trans hn (by decide))) (by rw [List.length_range]; exact Nat.le_trans hn (by decide)) rfl rfl fun i hi => by
    have hi := List.mem_range.mp hi
    obtain ⟨r, p1, p2, _⟩ := wf_get w hi hi
    let mm : M := ⟨[some (.sv (.fz (.int n))), some (.sv (.fz (matD G))), some (.sv (.fz (.int i)))], []⟩
    have e := ev_matD (m := mm) (a := 1) (b := 2) (c := 2) (i := i) (j := i) rfl rfl rfl p1 p2
    exact ⟨mm, mm, rfl, test_of (bin3 (pb := true) (gb := dC (.int 2)) e rfl (eqI _ _ _)), fun _ => rfl, fun _ => ⟨.v (.int 1), mm, mm, rfl, rfl, rfl⟩⟩
  have o1 := opdF_of key
  rw [frz_fm (fun _ => D.int 1)] at o1
  have o2 : opd (dApp dNil kLst0) hh = .ok (.v (.lst [])) hh := rfl
  have run : b__law_have_heights mg hh = .ok (.rt (.fz (.bl (((List.range n).filter fun i => decide (getM G i i = 2)).isEmpty)))) hh := by
    unfold b__law_have_heights
    refine retV_of ?_
    rw [bin_of o1 o2]
    have py : toPyS (.fz (.lst (((List.range n).filter fun i => decide (getM G i i = 2)).map fun _ => D.int 1))) = some (.list (((List.range n).filter fun i => decide (getM G i i = 2)).map fun _ => PyData.int 1)) := by
      have : ∀ l : List Nat, toPyL (l.map fun _ => D.int 1) = some (l.map fun _ => PyData.int 1) := fun l => by
        induction l with
        | nil => rfl
        | cons x l ih => rw [List.map_cons, toPyL, ih]; rfl
      show (toPyL _).map _ = _
      rw [this]
      rfl
    rw [s_kv2, eq_nil py]
    simp
  exact def_rt (n := 3) (b := b__law_have_heights mg) (as := [.fz (.int n), .fz (matD G)]) (pins := []) (m := hh) run
theorem plus_tup {m : M} {xs ys : List D} (h : xs.length + ys.length ≤ bigLen) : kV2 pPlus m (.v (.tup xs)) (.v (.tup ys)) = .ok (.v (.tup (xs ++ ys))) m := by
  have e : pPlus (.fz (.tup xs)) (.fz (.tup ys)) = some (.v (.tup (xs ++ ys))) := by
    have t : pCatT (.fz (.tup xs)) (.fz (.tup ys)) = some (.v (.tup (xs ++ ys))) := if_pos h
    have s : pCatS (.fz (.tup xs)) (.fz (.tup ys)) = none := rfl
    have a : pAddI (.fz (.tup xs)) (.fz (.tup ys)) = none := rfl
    unfold pPlus
    rw [orOp_none a, orOp_none s]
    unfold orOp
    rw [t]
  rw [s_kv2, e]
/-! ### 9, 10: one row more, and its opposite -/
theorem st9 (L : LF m s) (h : Dk k s) (hk : k < 2 ^ 55) {n : Nat} (hn : 1 ≤ n ∧ n ≤ 7) (H5 : Hs m 5 (.fz (.int n))) : ∃ (s' : SV) (i j : Nat), i < n ∧ j < n ∧ Dk (k + 2) s' ∧ pw_9 mg m = .ok .nx (setS (setS (setS (setS m 1 (some (.sv s'))) 1 (some (.sv s'))) 8 (some (.sv (.fz (.int i))))) 9 (some (.sv (.fz (.int j))))) := by
  obtain ⟨s1, r1, d1, g1, g1', e1⟩ := draw_call (mg := mg) (p := true) (q := true) (hs_own L.dk (dk_own h)) (hs_get L.dk) h (by omega) (b := n) (by omega) (hs_var H5)
  rw [setO_s] at e1
  have L1 := L.deck (s' := s1)
  obtain ⟨s2, r2, d2, g2, g2', e2⟩ := draw_call (mg := mg) (p := true) (q := true) (hs_own L1.dk (dk_own d1)) (hs_get L1.dk) d1 (by omega) (b := n) (by omega) (hs_var (hs_ne H5 (by decide)))
  rw [setO_s] at e2
  obtain ⟨i, rfl⟩ := Int.eq_ofNat_of_zero_le g1
  obtain ⟨j, rfl⟩ := Int.eq_ofNat_of_zero_le g2
  have same : setS (setS m 1 (some (.sv s1))) 1 (some (.sv s2)) = setS (setS m 1 (some (.sv s2))) 1 (some (.sv s2)) := by
    unfold setS
    show ({ m with sl := (m.sl.set 1 _).set 1 _ } : M) = { m with sl := (m.sl.set 1 _).set 1 _ }
    rw [List.set_set, List.set_set]
  rw [same] at e2
  have L2 : LF (setS (setS m 1 (some (.sv s2))) 1 (some (.sv s2))) s2 := (L.deck (s' := s2)).deck
  refine ⟨s2, i, j, by omega, by omega, d2, ?_⟩
  unfold pw_9
  exact par_of (raw_of e1 rfl (raw_of e2 rfl rfl)) (put2 (by rw [L2.len]; decide) (by rw [L2.len]; decide))
structure TF (n : Nat) (q : List Row) (V : Nat) (m : M) (s : SV) : Prop where
  L : LF m s
  h5 : Hs m 5 (.fz (.int (n : Nat)))
  h11 : Hs m 11 (.fz (.tup (q.map rowT)))
  h13 : Hs m 13 (.fz (.tup [.str "told", .int ((V : Nat) : Int)]))
theorem TF.set {n : Nat} {q : List Row} {V : Nat} {m : M} {s : SV} (h : TF n q V m s) {j : Nat} {x : Option Sl} (e : 14 ≤ j) : TF n q V (setS m j x) s :=
  ⟨h.L.set (by omega) (by omega), hs_ne h.h5 (by omega), hs_ne h.h11 (by omega), hs_ne h.h13 (by omega)⟩
theorem more_turn {n : Nat} (hn : 1 ≤ n ∧ n ≤ 7) {q : List Row} (hq : In n q) (hl : q.length ≤ 12) {V : Nat} (F : TF n q V m s) {r : Row} (hr : r.1 < n ∧ r.2.1 < n) {many : Nat} (H15 : Hs m 15 (.fz (.int (many : Nat)))) (H16 : Hs m 16 (.fz (rowT r))) :
    ∃ m', (dSeq (dAsg (dApp (dCons false (dVar 5) (dCons true (dBin false (dVar 11) (dApp (dCons true (dVar 16) dNil) PD.kTup) (kV2 pPlus)) (dCons true (dC (.bl false)) dNil))) (callK 3 (den__law_heard mg))) (bName 17))
 (dIf (dTest (dApp (dCons false (dVar 5) (dCons true (dApp (dCons false (dVar 5) (dCons true (dBin false (dVar 11) (dApp (dCons true (dVar 16) dNil) PD.kTup) (kV2 pPlus)) dNil)) (callK 2 (den__law_closure mg))) dNil)) (callK 2 (den__law_have_heights mg)))) (dSeq (dIf (dOrT (dTest (dBin true (dBin true (dVar 17) (dC (.int 0)) kIx) (dC (.str "told")) (kV2 (bin2 pNe)))) (dOrT (dNotT (dTest (dUn (dBin true (dVar 17) (dC (.int 1)) kIx) (kV1 (pIsi "int"))))) (dTest (dUn (dBin true (dVar 17) (dC (.int 1)) kIx) (kV1 (pIsi "bool")))))) (dRet (dC (.bl false)))
 dSkip)
 (dAsg (dBin true (dVar 15) (dBin true (dVar 17) (dC (.int 1)) kIx) (kV2 pPlus)) (bName 15)))
 (dIf (dTest (dBin true (dBin true (dVar 17) (dC (.int 0)) kIx) (dC (.str "heights")) (kV2 (bin2 pNe)))) (dRet (dC (.bl false)))
 dSkip))) m = .ok .nx m' ∧ TF n q V m' s ∧ Hs m' 15 (.fz (.int ((many + valN (q ++ [r]) (full n) : Nat) : Int))) := by
  have hq' : In n (q ++ [r]) := in_app hq hr
  have cat : ∀ m, TF n q V m s → Hs m 16 (.fz (rowT r)) → dBin false (dVar 11) (dApp (dCons true (dVar 16) dNil) PD.kTup) (kV2 pPlus) m = .ok (.v (.tup ((q ++ [r]).map rowT))) m := fun m F H16 => by
    have one := (app_of (k := PD.kTup) (cons_of (pb := true) (opd_of (hs_var H16)) (nil_of m))).trans (show _ = Out.ok (EV.v (.tup [rowT r])) m from rfl)
    have e := bin3 (pb := false) (hs_var F.h11) one (plus_tup (m := m) (by rw [List.length_map]; have : bigLen = 1000000 := rfl; simp; omega))
    rw [List.map_append]
    exact e
  have c0 := cat m F H16
  have hd := heard_call (cons_of (pb := false) (opd_of (hs_var F.h5)) (cons_of (pb := true) (opd_of c0) (cons_of (pb := true) (opd_of (g := dC (.bl false)) (x := .v (.bl false)) rfl) (nil_of m)))) (hear (mg := mg) hn hq' (by rw [List.length_append]; simp; omega) false)
  have p1 := asgV_s (i := 17) hd
  have F1 : TF n q V (setS m 17 (some (.sv (.fz (heardD n (q ++ [r])))))) s := F.set (by decide)
  have H16' : Hs (setS m 17 (some (.sv (.fz (heardD n (q ++ [r])))))) 16 (.fz (rowT r)) := hs_ne H16 (by decide)
  have H15' : Hs (setS m 17 (some (.sv (.fz (heardD n (q ++ [r])))))) 15 (.fz (.int (many : Nat))) := hs_ne H15 (by decide)
  have H17 : Hs (setS m 17 (some (.sv (.fz (heardD n (q ++ [r])))))) 17 (.fz (heardD n (q ++ [r]))) := hs_eq (by rw [F.L.len]; decide)
  generalize setS m 17 (some (.sv (.fz (heardD n (q ++ [r]))))) = m1 at p1 F1 H16' H15' H17
  have c1 := cat m1 F1 H16'
  have cl := (app_of (k := callK 2 (den__law_closure mg)) (cons_of (pb := false) (opd_of (hs_var F1.h5)) (cons_of (pb := true) (opd_of c1) (nil_of m1)))).trans (call2 (e_lclosure (mg := mg) n (by omega) (q ++ [r]) hq'))
  have co := opdF_of cl
  rw [frz_mat] at co
  have hv := (app_of (k := callK 2 (den__law_have_heights mg)) (cons_of (pb := false) (opd_of (hs_var F1.h5)) (cons_of (pb := true) co (nil_of m1)))).trans (call2 (e_haveF (mg := mg) n (by omega) (clos n (q ++ [r])) (wf_clos n _)))
  have t := test_of hv
  rcases round_or n (q ++ [r]) hq' with ⟨e, dg⟩ | ⟨e, ex⟩
  · rw [e] at t
    rw [heard_told hq' dg] at H17
    have i0 := bin3 (pb := true) (gb := dC (.int 0)) (y := .int ((0 : Nat) : Int)) (hs_var H17) rfl (tup_ix (m := m1) (ds := [.str "told", .int ((valN (q ++ [r]) (full n) : Nat) : Int)]) (i := 0) rfl)
    have i1 := bin3 (pb := true) (gb := dC (.int 1)) (y := .int ((1 : Nat) : Int)) (hs_var H17) rfl (tup_ix (m := m1) (ds := [.str "told", .int ((valN (q ++ [r]) (full n) : Nat) : Int)]) (i := 1) rfl)
    have t1 := test_of (bin3 (pb := true) (gb := dC (.str "told")) i0 rfl (neS m1 "told"))
    have u1 : dUn (dBin true (dVar 17) (dC (.int 1)) kIx) (kV1 (pIsi "int")) m1 = .ok (.v (.bl true)) m1 := un3 i1 (by rw [s_kv1]; rfl)
    have u2 : dUn (dBin true (dVar 17) (dC (.int 1)) kIx) (kV1 (pIsi "bool")) m1 = .ok (.v (.bl false)) m1 := un3 i1 (by rw [s_kv1]; rfl)
    have t2 := or_of (not_of (test_of u1)) (fun _ => test_of u2) (fun _ => rfl)
    have t3 := or_of t1 (fun _ => t2) (fun _ => rfl)
    have ad := asgV_s (i := 15) (bin3 (pb := true) (hs_var H15') i1 (plusI _ _))
    have q1 : (many : Int) + ((valN (q ++ [r]) (full n) : Nat) : Int) = ((many + valN (q ++ [r]) (full n) : Nat) : Int) := by omega
    rw [q1] at ad
    refine ⟨_, ?_, F1.set (j := 15) (x := some (.sv (.fz (.int ((many + valN (q ++ [r]) (full n) : Nat) : Int))))) (by decide), hs_eq (by rw [F1.L.len]; decide)⟩
    rw [seq_nx p1, if_of t, if_pos rfl, seq_nx (m1 := m1) (by rw [if_of t3]; rfl)]
    exact ad
  · rw [e] at t
    rw [heard_round hq' ex] at H17
    have i0 := bin3 (pb := true) (gb := dC (.int 0)) (y := .int ((0 : Nat) : Int)) (hs_var H17) rfl (tup_ix (m := m1) (ds := [.str "heights", .tup ((q ++ [r]).map rowT), .bl true]) (i := 0) rfl)
    have t1 := test_of (bin3 (pb := true) (gb := dC (.str "heights")) i0 rfl (neS m1 "heights"))
    have v0 : valN (q ++ [r]) (full n) = 0 := by
      have := ways_round hq' ex
      show (ways n (q ++ [r])).length = 0
      rw [this]
      rfl
    refine ⟨m1, ?_, F1, by rw [v0, Nat.add_zero]; exact H15'⟩
    rw [seq_nx p1, if_of t, if_neg (by decide), if_of t1]
    rfl
theorem st10 {n : Nat} (hn : 1 ≤ n ∧ n ≤ 7) {q : List Row} (hq : In n q) (hl : q.length ≤ 12) (F : TF n q (valN q (full n)) m s) {i j : Nat} (hi : i < n) (hj : j < n) (H8 : Hs m 8 (.fz (.int (i : Nat)))) (H9 : Hs m 9 (.fz (.int (j : Nat)))) : ∃ m', pw_10 mg m = .ok .nx m' ∧ LF m' s := by
  have t := test_of (bin3 (pb := true) (hs_var H8) (hs_var H9) (neI m _ _))
  by_cases e : i = j
  · subst e
    refine ⟨m, ?_, F.L⟩
    unfold pw_10
    rw [if_of t]
    simp
  · have ne : (!decide ((i : Int) = (j : Int))) = true := by
      have : ¬ (i : Int) = j := by omega
      simp [this]
    rw [ne] at t
    have p0 : dAsg (dC (.int 0)) (bName 15) m = .ok .nx (setS m 15 (some (.sv (.fz (.int ((0 : Nat) : Int)))))) := rfl
    have F0 : TF n q (valN q (full n)) (setS m 15 (some (.sv (.fz (.int ((0 : Nat) : Int)))))) s := F.set (by decide)
    have G8 : Hs (setS m 15 (some (.sv (.fz (.int ((0 : Nat) : Int)))))) 8 (.fz (.int (i : Nat))) := hs_ne H8 (by decide)
    have G9 : Hs (setS m 15 (some (.sv (.fz (.int ((0 : Nat) : Int)))))) 9 (.fz (.int (j : Nat))) := hs_ne H9 (by decide)
    have G15 : Hs (setS m 15 (some (.sv (.fz (.int ((0 : Nat) : Int)))))) 15 (.fz (.int ((0 : Nat) : Int))) := hs_eq (by rw [F.L.len]; decide)
    generalize setS m 15 (some (.sv (.fz (.int ((0 : Nat) : Int))))) = m1 at p0 F0 G8 G9 G15
    have k (d : D) : dC d m1 = .ok (.v d) m1 := rfl
    have ta : dApp (dCons true (dVar 8) (dCons true (dVar 9) (dCons true (dC (.bl false)) dNil))) PD.kTup m1 = .ok (.v (rowT (i, j, false))) m1 := (app_of (k := PD.kTup) (cons_of (pb := true) (opd_of (hs_var G8)) (cons_of (pb := true) (opd_of (hs_var G9)) (cons_of (pb := true) (opd_of (k (.bl false))) (nil_of m1))))).trans rfl
    have tb : dApp (dCons true (dVar 9) (dCons true (dVar 8) (dCons true (dC (.bl true)) dNil))) PD.kTup m1 = .ok (.v (rowT (j, i, true))) m1 := (app_of (k := PD.kTup) (cons_of (pb := true) (opd_of (hs_var G9)) (cons_of (pb := true) (opd_of (hs_var G8)) (cons_of (pb := true) (opd_of (k (.bl true))) (nil_of m1))))).trans rfl
    have tt := (app_of (k := PD.kTup) (cons_of (pb := false) (opd_of ta) (cons_of (pb := true) (opd_of tb) (nil_of m1)))).trans (show _ = Out.ok (EV.v (.tup [rowT (i, j, false), rowT (j, i, true)])) m1 from rfl)
    have it := iseq_of tt (d := .tup [rowT (i, j, false), rowT (j, i, true)]) (ds := [((i, j, false) : Row), (j, i, true)].map rowT) rfl rfl
    obtain ⟨m2, e2, F2, G2⟩ := for_map (tg := bName 16) (gb := (dSeq (dAsg (dApp (dCons false (dVar 5) (dCons true (dBin false (dVar 11) (dApp (dCons true (dVar 16) dNil) PD.kTup) (kV2 pPlus)) (dCons true (dC (.bl false)) dNil))) (callK 3 (den__law_heard mg))) (bName 17))
 (dIf (dTest (dApp (dCons false (dVar 5) (dCons true (dApp (dCons false (dVar 5) (dCons true (dBin false (dVar 11) (dApp (dCons true (dVar 16) dNil) PD.kTup) (kV2 pPlus)) dNil)) (callK 2 (den__law_closure mg))) dNil)) (callK 2 (den__law_have_heights mg)))) (dSeq (dIf (dOrT (dTest (dBin true (dBin true (dVar 17) (dC (.int 0)) kIx) (dC (.str "told")) (kV2 (bin2 pNe)))) (dOrT (dNotT (dTest (dUn (dBin true (dVar 17) (dC (.int 1)) kIx) (kV1 (pIsi "int"))))) (dTest (dUn (dBin true (dVar 17) (dC (.int 1)) kIx) (kV1 (pIsi "bool")))))) (dRet (dC (.bl false)))
 dSkip)
 (dAsg (dBin true (dVar 15) (dBin true (dVar 17) (dC (.int 1)) kIx) (kV2 pPlus)) (bName 15)))
 (dIf (dTest (dBin true (dBin true (dVar 17) (dC (.int 0)) kIx) (dC (.str "heights")) (kV2 (bin2 pNe)))) (dRet (dC (.bl false)))
 dSkip)))) rowT (fun (many : Nat) m => TF n q (valN q (full n)) m s ∧ Hs m 15 (.fz (.int (many : Nat)))) (fun many r => many + valN (q ++ [r]) (full n)) (l := [((i, j, false) : Row), (j, i, true)]) (b := 0) it ⟨F0, G15⟩ fun r hr many m h => by
      obtain ⟨F, G⟩ := h
      have hr' : r.1 < n ∧ r.2.1 < n := by
        simp only [List.mem_cons, List.not_mem_nil, or_false] at hr
        rcases hr with rfl | rfl
        · exact ⟨hi, hj⟩
        · exact ⟨hj, hi⟩
      obtain ⟨m', e, F', G'⟩ := more_turn (mg := mg) hn hq hl (F.set (j := 16) (x := some (.sv (.fz (rowT r)))) (by decide)) hr' (hs_ne G (by decide)) (hs_eq (by rw [F.L.len]; decide))
      exact ⟨setS m 16 (some (.sv (.fz (rowT r)))), m', rfl, .inl e, F', G'⟩
    have sp : [((i, j, false) : Row), (j, i, true)].foldl (fun many r => many + valN (q ++ [r]) (full n)) 0 = valN q (full n) := by
      show 0 + valN (q ++ [(i, j, false)]) (full n) + valN (q ++ [(j, i, true)]) (full n) = _
      rw [Nat.zero_add]
      exact ways_split hq hi hj
    rw [sp] at G2
    have d1 := bin3 (pb := true) (gb := dC (.int 1)) (y := .int ((1 : Nat) : Int)) (hs_var F2.h13) rfl (tup_ix (m := m2) (ds := [.str "told", .int ((valN q (full n) : Nat) : Int)]) (i := 1) rfl)
    have t2 := test_of (bin3 (pb := true) (hs_var G2) d1 (neI m2 _ _))
    have z : (!decide (((valN q (full n) : Nat) : Int) = ((valN q (full n) : Nat) : Int))) = false := by simp
    rw [z] at t2
    refine ⟨m2, ?_, F2.L⟩
    unfold pw_10
    rw [if_of t, if_pos rfl, seq_nx p0, seq_nx e2, if_of t2]
    rfl
/-! ### a turn, and the law -/
theorem turn (L : LF m s) (h : Dk k s) (hk : k < 2 ^ 54) : ∃ m' s', (pw_body mg m = .ok .nx m' ∨ pw_body mg m = .ok .ct m') ∧ LF m' s' ∧ Dk (k + 300) s' := by
  obtain ⟨m1, s1, n, o1, L1, d1, n1, n2, l1, i1, H5, H7, e1⟩ := st1 (mg := mg) L h (by omega)
  obtain ⟨m2, s2, o2, L2, d2, i2, l2, G5, HR, e2⟩ := st2 (mg := mg) L1 d1 (by omega) i1 l1 H5 H7
  have e3 := st3 (mg := mg) HR
  have iq : In n (o2.take 12) := fun r hr => i2 r (List.mem_of_mem_take hr)
  have lq : (o2.take 12).length ≤ 12 := by rw [List.length_take]; omega
  generalize o2.take 12 = q at e3 iq lq
  have L3 : LF (setS m2 11 (some (.sv (.fz (.tup (q.map rowT)))))) s2 := L2.set (by decide) (by decide)
  have J5 : Hs (setS m2 11 (some (.sv (.fz (.tup (q.map rowT)))))) 5 (.fz (.int n)) := hs_ne G5 (by decide)
  have J11 : Hs (setS m2 11 (some (.sv (.fz (.tup (q.map rowT)))))) 11 (.fz (.tup (q.map rowT))) := hs_eq (by rw [L2.len]; decide)
  generalize setS m2 11 (some (.sv (.fz (.tup (q.map rowT))))) = m3 at e3 L3 J5 J11
  have e4 := st4 (mg := mg) L3 ⟨n1, n2⟩ iq J5 J11
  have L4 : LF (setS m3 12 (some (.sv (matS (clos n q))))) s2 := L3.set (by decide) (by decide)
  have K5 : Hs (setS m3 12 (some (.sv (matS (clos n q))))) 5 (.fz (.int n)) := hs_ne J5 (by decide)
  have K11 : Hs (setS m3 12 (some (.sv (matS (clos n q))))) 11 (.fz (.tup (q.map rowT))) := hs_ne J11 (by decide)
  have K12 : Hs (setS m3 12 (some (.sv (matS (clos n q))))) 12 (matS (clos n q)) := hs_eq (by rw [L3.len]; decide)
  generalize setS m3 12 (some (.sv (matS (clos n q)))) = m4 at e4 L4 K5 K11 K12
  obtain ⟨L5, h5⟩ := st5 (mg := mg) L4 ⟨n1, n2⟩ iq lq K5 K11 K12
  have P5 : Hs (setS m4 12 (some (.sv (matS (clos n q))))) 5 (.fz (.int n)) := hs_ne K5 (by decide)
  have P11 : Hs (setS m4 12 (some (.sv (matS (clos n q))))) 11 (.fz (.tup (q.map rowT))) := hs_ne K11 (by decide)
  generalize setS m4 12 (some (.sv (matS (clos n q)))) = m5 at L5 h5 P5 P11
  rcases h5 with ⟨dg, e5⟩ | e5
  · have e6 := st6 (mg := mg) n2 P5 P11
    have F6 : TF n q (valN q (full n)) (setS m5 13 (some (.sv (.fz (.tup [.str "told", .int ((valN q (full n) : Nat) : Int)]))))) s2 := ⟨L5.set (by decide) (by decide), hs_ne P5 (by decide), hs_ne P11 (by decide), hs_eq (by rw [L5.len]; decide)⟩
    generalize setS m5 13 (some (.sv (.fz (.tup [.str "told", .int ((valN q (full n) : Nat) : Int)])))) = m6 at e6 F6
    have e7 := st7 (mg := mg) F6.L lq F6.h11
    have F7 : TF n q (valN q (full n)) (setS m6 14 (some (.sv (.fz (.tup ((q.map turnR).map rowT)))))) s2 := F6.set (by decide)
    have H14 : Hs (setS m6 14 (some (.sv (.fz (.tup ((q.map turnR).map rowT)))))) 14 (.fz (.tup ((q.map turnR).map rowT))) := hs_eq (by rw [F6.L.len]; decide)
    generalize setS m6 14 (some (.sv (.fz (.tup ((q.map turnR).map rowT))))) = m7 at e7 F7 H14
    have e8 := st8 (mg := mg) ⟨n1, n2⟩ iq lq dg F7.h5 F7.h11 F7.h13 H14
    obtain ⟨s9, i, j, hi, hj, d9, e9⟩ := st9 (mg := mg) F7.L d2 (by omega) ⟨n1, n2⟩ F7.h5
    have La : LF (setS (setS m7 1 (some (.sv s9))) 1 (some (.sv s9))) s9 := (F7.L.deck (s' := s9)).deck
    have F9 : TF n q (valN q (full n)) (setS (setS (setS (setS m7 1 (some (.sv s9))) 1 (some (.sv s9))) 8 (some (.sv (.fz (.int i))))) 9 (some (.sv (.fz (.int j))))) s9 :=
      ⟨(La.setD (by decide) (by decide)).setD (by decide) (by decide), hs_ne (hs_ne (hs_ne (hs_ne F7.h5 (by decide)) (by decide)) (by decide)) (by decide), hs_ne (hs_ne (hs_ne (hs_ne F7.h11 (by decide)) (by decide)) (by decide)) (by decide), hs_ne (hs_ne (hs_ne (hs_ne F7.h13 (by decide)) (by decide)) (by decide)) (by decide)⟩
    have H8 : Hs (setS (setS (setS (setS m7 1 (some (.sv s9))) 1 (some (.sv s9))) 8 (some (.sv (.fz (.int i))))) 9 (some (.sv (.fz (.int j))))) 8 (.fz (.int (i : Nat))) := hs_ne (hs_eq (by rw [La.len]; decide)) (by decide)
    have H9 : Hs (setS (setS (setS (setS m7 1 (some (.sv s9))) 1 (some (.sv s9))) 8 (some (.sv (.fz (.int i))))) 9 (some (.sv (.fz (.int j))))) 9 (.fz (.int (j : Nat))) := hs_eq (by rw [len_set, La.len]; decide)
    generalize setS (setS (setS (setS m7 1 (some (.sv s9))) 1 (some (.sv s9))) 8 (some (.sv (.fz (.int i))))) 9 (some (.sv (.fz (.int j)))) = m9 at e9 F9 H8 H9
    obtain ⟨m10, e10, L10⟩ := st10 (mg := mg) ⟨n1, n2⟩ iq lq F9 hi hj H8 H9
    refine ⟨m10, s9, .inl ?_, L10, d9.up (by omega)⟩
    unfold pw_body
    rw [seq_nx e1, seq_nx e2, seq_nx e3, seq_nx e4, seq_nx e5, seq_nx e6, seq_nx e7, seq_nx e8, seq_nx e9]
    exact e10
  · refine ⟨m5, s2, .inr ?_, L5, d2.up (by omega)⟩
    unfold pw_body
    rw [seq_nx e1, seq_nx e2, seq_nx e3, seq_nx e4]
    exact seq_ct e5
def numL : List Nat := [1, 3, 13, 75, 541, 4683, 47293]
theorem qt2 (hl : 2 < m.sl.length) : qw_2 mg m = .ok .nx (setS m 2 (some (.sv (natsS numL)))) := by
  have c (d : D) {xs : List EV} {gs : M → Out (List EV)} (h : gs m = .ok xs m) : dCons true (dC d) gs m = .ok (.v d :: xs) m := cons_of (opd_of (g := dC d) (x := .v d) rfl) h
  have l := (app_of (k := kLst) (c (.int 1) (c (.int 3) (c (.int 13) (c (.int 75) (c (.int 541) (c (.int 4683) (c (.int 47293) (nil_of m))))))))).trans (lst_of (ds := [.int 1, .int 3, .int 13, .int 75, .int 541, .int 4683, .int 47293]) (by show 7 ≤ 1000000; omega) rfl)
  exact asgF_s l hl
theorem qt3 (L : LF m s) (h : Dk k s) (hk : k < 2 ^ 55) : ∃ (s' : SV) (x : Nat), x < 7 ∧ Dk (k + 2) s' ∧ LF (setS (setS m 1 (some (.sv s'))) 3 (some (.sv (.fz (.int x))))) s' ∧ qw_3 mg m = .ok .nx (setS (setS m 1 (some (.sv s'))) 3 (some (.sv (.fz (.int x))))) := by
  obtain ⟨s1, w, d1, t⟩ := ife_draw (mg := mg) L h hk 12 (by decide)
  have L1 := L.deck (s' := s1)
  have dr : ∀ b : Int, 0 < b → b ≤ 7 → ∃ (s' : SV) (x : Nat), x < 7 ∧ Dk (k + 2) s' ∧ dApp (dCons true (dVar 1) (dCons true (dC (.int b)) dNil)) (callK 2 (den__law_draw mg)) (setS m 1 (some (.sv s1))) = .ok (.v (.int x)) (setS m 1 (some (.sv s'))) := fun b h0 h7 => by
    obtain ⟨s2, r, d2, g, g', e⟩ := draw_call (mg := mg) (p := true) (q := true) (hs_own L1.dk (dk_own d1)) (hs_get L1.dk) d1 (by omega) (b := b) ⟨h0, by omega⟩ (gb := dC (.int b)) rfl
    obtain ⟨x, rfl⟩ := Int.eq_ofNat_of_zero_le g
    have same : setS (setS m 1 (some (.sv s1))) 1 (some (.sv s2)) = setS m 1 (some (.sv s2)) := by
      unfold setS
      show ({ m with sl := (m.sl.set 1 _).set 1 _ } : M) = { m with sl := m.sl.set 1 _ }
      rw [List.set_set]
    rw [setO_s, same] at e
    exact ⟨s2, x, by omega, d2, e⟩
  have c : ∃ (s' : SV) (x : Nat), x < 7 ∧ Dk (k + 2) s' ∧ dIfE (dTest (dBin true (dApp (dCons true (dVar 1) (dCons true (dC (.int 12)) dNil)) (callK 2 (den__law_draw mg))) (dC (.int 0)) (kV2 (bin2 pEq)))) (dApp (dCons true (dVar 1) (dCons true (dC (.int 7)) dNil)) (callK 2 (den__law_draw mg))) (dApp (dCons true (dVar 1) (dCons true (dC (.int 5)) dNil)) (callK 2 (den__law_draw mg))) m = .ok (.v (.int x)) (setS m 1 (some (.sv s'))) := by
    unfold dIfE
    rw [t, bind_ok]
    cases w with
    | true => exact dr 7 (by decide) (by decide)
    | false => exact dr 5 (by decide) (by decide)
  obtain ⟨s', x, hx, d', e⟩ := c
  exact ⟨s', x, hx, d', (L.deck (s' := s')).set (by decide) (by decide), asgV_s e⟩
theorem num_get : ∀ x, x < 7 → numL[x]? = some ((([1, 3, 13, 75, 541, 4683, 47293] : List Nat)[x]?).getD 0) := by decide
theorem qt4 {x : Nat} (hx : x < 7) (H2 : Hs m 2 (natsS numL)) (H3 : Hs m 3 (.fz (.int (x : Nat)))) : qw_4 mg m = .ok .nx m := by
  have I : In (x + 1) [] := fun r h => by cases h
  have hv := heard_told I (dg_nil (x + 1))
  have nu := none_num (x + 1) (by omega) (by omega)
  rw [Nat.add_sub_cancel] at nu
  have gx : numL[x]? = some (valN [] (full (x + 1))) := by
    rw [nu]
    exact num_get x hx
  have pl : dBin true (dVar 3) (dC (.int 1)) (kV2 pPlus) m = .ok (.v (.int ((x + 1 : Nat) : Int))) m := bin3 (gb := dC (.int 1)) (y := .int 1) (hs_var H3) rfl (by rw [plusI, show (x : Int) + 1 = ((x + 1 : Nat) : Int) by omega])
  have ar (w : Bool) : dCons false (dBin true (dVar 3) (dC (.int 1)) (kV2 pPlus)) (dCons true (dApp dNil PD.kTup) (dCons true (dC (.bl w)) dNil)) m = .ok [.v (.int ((x + 1 : Nat) : Int)), .v (.tup (([] : List Row).map rowT)), .v (.bl w)] m :=
    cons_of (opd_of pl) (cons_of (opd_of (g := dApp dNil PD.kTup) (x := .v (.tup [])) rfl) (cons_of (opd_of (g := dC (.bl w)) (x := .v (.bl w)) rfl) (nil_of m)))
  have h1 := heard_call (ar false) (hear (mg := mg) (n := x + 1) ⟨by omega, by omega⟩ I (by simp) false)
  have h2 := heard_call (ar true) (hear (mg := mg) (n := x + 1) ⟨by omega, by omega⟩ I (by simp) true)
  rw [hv] at h1 h2
  have sm := sm_told (V := valN [] (full (x + 1))) (by have := val_big (n := x + 1) (by omega) (by omega) []; omega)
  have l := lst_shown (ds := [.tup [.str "told", .int ((valN [] (full (x + 1)) : Nat) : Int)], .tup [.str "told", .int ((valN [] (full (x + 1)) : Nat) : Int)]]) (cons_of (pb := false) (opd_of h1) (cons_of (pb := true) (opd_of h2) (nil_of m))) (by show 2 ≤ 100; decide) (fun y hy => by
    simp only [List.mem_cons, List.not_mem_nil, or_false] at hy
    rcases hy with rfl | rfl <;> exact sm) (by decide)
  have ix := ix_nats (a := 2) (o := .s 2) (gb := dVar 3) (hs_own H2 rfl) (hs_get H2) (hs_var H3) gx
  have tp := (app_of (k := PD.kTup) (cons_of (pb := true) (opd_of (g := dC (.str "told")) (m := m) (x := .v (.str "told")) rfl) (cons_of (pb := true) (opd_of ix) (nil_of m)))).trans (show _ = Out.ok (EV.v (.tup [.str "told", .int ((valN [] (full (x + 1)) : Nat) : Int)])) m from rfl)
  have r := rep_shown (c := 2) (ci := 2) rfl sm (by decide) (by decide) tp
  have tt := test_of (bin3 (pb := false) l r (neS m _))
  unfold qw_4
  rw [if_of tt]
  rfl
theorem b_law_eq (mg : Str → Option Value) : b_law mg = dSeq (qw_1 mg) (dSeq (qw_2 mg) (dSeq (qw_3 mg) (dSeq (qw_4 mg) (dSeq (dFor (dIter (dCons true (dC (.int 2)) dNil) kRange1) (bName 4) (pw_body mg)) (dRet (dC (.bl true))))))) := rfl
theorem plain : ∀ mg, Env K mg → ∀ ns : List Int, ns.length ≤ 63 → ∃ m', b_law mg (PD.enter lawN.length [.fz (.scr ns)] []) = .ok (.rt (.fz (.bl true))) m' := by
  intro mg E ns hl
  let m0 : M := PD.enter lawN.length [.fz (.scr ns)] []
  obtain ⟨s, d, r⟩ := e_begun (mg := mg) ns 93015 (by decide)
  have c := (app_of (k := callK 2 (den__law_begun mg)) (cons_of (pb := true) (opd_of (g := dVar 0) (m := m0) (x := .v (.scr ns)) rfl) (cons_of (pb := true) (opd_of (g := dC (.int 93015)) (x := .v (.int 93015)) rfl) (nil_of m0)))).trans (call2 (m := m0) r)
  have cs : resE s = .fr s := by
    obtain ⟨c, x, t, rfl, _⟩ := d
    rfl
  rw [cs] at c
  have p : qw_1 mg m0 = .ok .nx (setS m0 1 (some (.sv s))) := asgF_s (i := 1) c (by show 1 < 18; decide)
  have L : LF (setS m0 1 (some (.sv s))) s := ⟨rfl, by rw [len_set]; rfl, hs_eq (by show 1 < 18; decide), fun j h1 h2 => by
    have : j = 8 ∨ j = 9 ∨ j = 10 := by omega
    rcases this with rfl | rfl | rfl <;> rfl⟩
  generalize setS m0 1 (some (.sv s)) = m1 at p L
  have e2 := qt2 (mg := mg) (m := m1) (by rw [L.len]; decide)
  have L2 : LF (setS m1 2 (some (.sv (natsS numL)))) s := L.set (by decide) (by decide)
  have H2 : Hs (setS m1 2 (some (.sv (natsS numL)))) 2 (natsS numL) := hs_eq (by rw [L.len]; decide)
  generalize setS m1 2 (some (.sv (natsS numL))) = m2 at e2 L2 H2
  obtain ⟨s3, x, hx, d3, L3, e3⟩ := qt3 (mg := mg) L2 d (by decide)
  have G2 : Hs (setS (setS m2 1 (some (.sv s3))) 3 (some (.sv (.fz (.int x))))) 2 (natsS numL) := hs_ne (hs_ne H2 (by decide)) (by decide)
  have G3 : Hs (setS (setS m2 1 (some (.sv s3))) 3 (some (.sv (.fz (.int x))))) 3 (.fz (.int (x : Nat))) := hs_eq (by rw [(L2.deck (s' := s3)).len]; decide)
  generalize setS (setS m2 1 (some (.sv s3))) 3 (some (.sv (.fz (.int x)))) = m3 at e3 L3 G2 G3
  have e4 := qt4 (mg := mg) hx G2 G3
  have rg := rng_of (cons_of (pb := true) (opd_of (g := dC (.int 2)) (m := m3) (x := .v (.int ((2 : Nat) : Int))) rfl) (nil_of m3)) (by show 2 ≤ 1000000; omega)
  obtain ⟨m', e, _⟩ := for_rng (tg := bName 4) (gb := pw_body mg) (fun i m => ∃ s, LF m s ∧ Dk (2 + 300 * i) s) rg ⟨s3, L3, d3.up (by omega)⟩ fun i hi m h => by
    obtain ⟨s, L, d⟩ := h
    have L' : LF (setS m 4 (some (.sv (.fz (.int i))))) s := L.set (by decide) (by decide)
    obtain ⟨m', s', e, L'', d'⟩ := turn (mg := mg) L' d (by omega)
    exact ⟨setS m 4 (some (.sv (.fz (.int i)))), m', rfl, e, s', L'', d'.up (by omega)⟩
  refine ⟨m', ?_⟩
  rw [b_law_eq]
  show dSeq _ _ m0 = _
  rw [seq_nx p, seq_nx e2, seq_nx e3, seq_nx e4, seq_nx e]
  rfl
end
end K15
open PySem PySem.W PyProof.Rows
set_option maxHeartbeats 0 in
theorem PySem.Challenge.cw_surelythisrock_k15_orders_that_are_left_holds : PySem.Challenge.rw_surelythisrock_k15_orders_that_are_left.Holds := by
  w_on; o_law; k_head; (case hw => w_witness2)
  k_fill
  refine PD.walk_pd (l := PySem.Challenge.rw_surelythisrock_k15_orders_that_are_left) (n := 63) (k := 6) (x := "script") (fnm := "law") (qual := "law") (st := K15.s_law) (N := K15.lawN) rfl (by decide) rfl ⟨rfl, by decide, by decide⟩ (fun w h Y => PySem.W.kIn_of Y) ?F
  case F =>
    intro w mg fa h KX G hmg
    refine' K15.law_mk KX G hmg K15.plain ?ga_law ?l_law ?co_law ?k_law (K15.env_mk KX G ?z_all ?z_any ?z_bool ?z_int ?z_isinstance ?z_len ?z_list ?z_max ?z_range ?z_repr ?z_sum ?z_tuple ?c_NONE ?c_PLAIN ?c_ROW_PARTS ?c_STRICT ?ga_is_whole ?l_is_whole ?co_is_whole ?k_is_whole ?ga_is_between ?l_is_between ?co_is_between ?k_is_between ?ga_is_truth ?l_is_truth ?co_is_truth ?k_is_truth ?ga_is_tuple_of ?l_is_tuple_of ?co_is_tuple_of ?k_is_tuple_of ?ga_need_count ?l_need_count ?co_need_count ?k_need_count ?ga_is_order_row ?l_is_order_row ?co_is_order_row ?k_is_order_row ?ga_need_orders ?l_need_orders ?co_need_orders ?k_need_orders ?ga_grade_of ?l_grade_of ?co_grade_of ?k_grade_of ?ga_chained ?l_chained ?co_chained ?k_chained ?ga_closure ?l_closure ?co_closure ?k_closure ?ga_sure_grades ?l_sure_grades ?co_sure_grades ?k_sure_grades ?ga_can_be_lowest ?l_can_be_lowest ?co_can_be_lowest ?k_can_be_lowest ?ga_lots_within ?l_lots_within ?co_lots_within ?k_lots_within ?ga_orders_of ?l_orders_of ?co_orders_of ?k_orders_of ?ga_orders_left ?l_orders_left ?co_orders_left ?k_orders_left ?ga__law_begun ?l__law_begun ?co__law_begun ?k__law_begun ?ga__law_draw ?l__law_draw ?co__law_draw ?k__law_draw ?ga__law_pick ?l__law_pick ?co__law_pick ?k__law_pick ?ga__law_closure ?l__law_closure ?co__law_closure ?k__law_closure ?ga__law_have_heights ?l__law_have_heights ?co__law_have_heights ?k__law_have_heights ?ga__law_orders ?l__law_orders ?co__law_orders ?k__law_orders ?ga__law_number ?l__law_number ?co__law_number ?k__law_number ?ga__law_heard ?l__law_heard ?co__law_heard ?k__law_heard ?x_g_BadCount ?x_ini_BadCount ?x_ovr_BadCount ?x_iC_BadCount ?x_sa_BadCount ?x_tkr_BadCount ?x_noT_BadCount ?x_hd_BadCount ?x_kC_BadCount ?x_exC_BadCount ?x_tyC_BadCount ?x_tI_BadCount ?x_ga_BadCount ?x_gg_BadCount ?x_cl_BadCount ?x_mr_BadCount ?x_fn_BadCount ?x_co_BadCount ?x_g_BadRows ?x_ini_BadRows ?x_ovr_BadRows ?x_iC_BadRows ?x_sa_BadRows ?x_tkr_BadRows ?x_noT_BadRows ?x_hd_BadRows ?x_kC_BadRows ?x_exC_BadRows ?x_tyC_BadRows ?x_tI_BadRows ?x_ga_BadRows ?x_gg_BadRows ?x_cl_BadRows ?x_mr_BadRows ?x_fn_BadRows ?x_co_BadRows ?x_g_NoHeights ?x_ini_NoHeights ?x_ovr_NoHeights ?x_iC_NoHeights ?x_sa_NoHeights ?x_tkr_NoHeights ?x_noT_NoHeights ?x_hd_NoHeights ?x_kC_NoHeights ?x_exC_NoHeights ?x_tyC_NoHeights ?x_tI_NoHeights ?x_ga_NoHeights ?x_gg_NoHeights ?x_cl_NoHeights ?x_mr_NoHeights ?x_fn_NoHeights ?x_co_NoHeights ?x_R ?tg1 ?tg2 ?ee_BadCount_BadCount ?ee_BadCount_BadRows ?ee_BadCount_NoHeights ?ki_BadCount ?ee_BadRows_BadCount ?ee_BadRows_BadRows ?ee_BadRows_NoHeights ?ki_BadRows ?ee_NoHeights_BadCount ?ee_NoHeights_BadRows ?ee_NoHeights_NoHeights ?ki_NoHeights ?Rhd ?Rty)
    (case ga_law => k_is); (case l_law => k_is); (case co_law => k_is); (case k_law => k_is); (case z_all => k_is); (case z_any => k_is); (case z_bool => k_is); (case z_int => k_is); (case z_isinstance => k_is); (case z_len => k_is); (case z_list => k_is); (case z_max => k_is); (case z_range => k_is); (case z_repr => k_is); (case z_sum => k_is); (case z_tuple => k_is); (case c_NONE => k_is); (case c_PLAIN => k_is); (case c_ROW_PARTS => k_is); (case c_STRICT => k_is); (case ga_is_whole => k_is); (case l_is_whole => k_is); (case co_is_whole => k_is); (case k_is_whole => k_is); (case ga_is_between => k_is); (case l_is_between => k_is); (case co_is_between => k_is); (case k_is_between => k_is); (case ga_is_truth => k_is); (case l_is_truth => k_is); (case co_is_truth => k_is); (case k_is_truth => k_is); (case ga_is_tuple_of => k_is); (case l_is_tuple_of => k_is); (case co_is_tuple_of => k_is); (case k_is_tuple_of => k_is); (case ga_need_count => k_is); (case l_need_count => k_is); (case co_need_count => k_is); (case k_need_count => k_is); (case ga_is_order_row => k_is); (case l_is_order_row => k_is); (case co_is_order_row => k_is); (case k_is_order_row => k_is); (case ga_need_orders => k_is); (case l_need_orders => k_is); (case co_need_orders => k_is); (case k_need_orders => k_is); (case ga_grade_of => k_is); (case l_grade_of => k_is); (case co_grade_of => k_is); (case k_grade_of => k_is); (case ga_chained => k_is); (case l_chained => k_is); (case co_chained => k_is); (case k_chained => k_is); (case ga_closure => k_is); (case l_closure => k_is); (case co_closure => k_is); (case k_closure => k_is); (case ga_sure_grades => k_is); (case l_sure_grades => k_is); (case co_sure_grades => k_is); (case k_sure_grades => k_is); (case ga_can_be_lowest => k_is); (case l_can_be_lowest => k_is); (case co_can_be_lowest => k_is); (case k_can_be_lowest => k_is); (case ga_lots_within => k_is); (case l_lots_within => k_is); (case co_lots_within => k_is); (case k_lots_within => k_is); (case ga_orders_of => k_is); (case l_orders_of => k_is); (case co_orders_of => k_is); (case k_orders_of => k_is); (case ga_orders_left => k_is); (case l_orders_left => k_is); (case co_orders_left => k_is); (case k_orders_left => k_is); (case ga__law_begun => k_is); (case l__law_begun => k_is); (case co__law_begun => k_is); (case k__law_begun => k_is); (case ga__law_draw => k_is); (case l__law_draw => k_is); (case co__law_draw => k_is); (case k__law_draw => k_is); (case ga__law_pick => k_is); (case l__law_pick => k_is); (case co__law_pick => k_is); (case k__law_pick => k_is); (case ga__law_closure => k_is); (case l__law_closure => k_is); (case co__law_closure => k_is); (case k__law_closure => k_is); (case ga__law_have_heights => k_is); (case l__law_have_heights => k_is); (case co__law_have_heights => k_is); (case k__law_have_heights => k_is); (case ga__law_orders => k_is); (case l__law_orders => k_is); (case co__law_orders => k_is); (case k__law_orders => k_is); (case ga__law_number => k_is); (case l__law_number => k_is); (case co__law_number => k_is); (case k__law_number => k_is); (case ga__law_heard => k_is); (case l__law_heard => k_is); (case co__law_heard => k_is); (case k__law_heard => k_is); (case x_g_BadCount => k_is); (case x_ini_BadCount => first | k_is | kx_is); (case x_ovr_BadCount => first | k_is | kx_is); (case x_iC_BadCount => k_is); (case x_sa_BadCount => k_is); (case x_tkr_BadCount => k_is); (case x_noT_BadCount => k_is); (case x_hd_BadCount => k_is); (case x_kC_BadCount => k_is); (case x_exC_BadCount => k_is); (case x_tyC_BadCount => k_is); (case x_tI_BadCount => k_is); (case x_ga_BadCount => k_is); (case x_gg_BadCount => k_is); (case x_cl_BadCount => k_is); (case x_mr_BadCount => k_is); (case x_fn_BadCount => k_is); (case x_co_BadCount => k_is); (case x_g_BadRows => k_is); (case x_ini_BadRows => first | k_is | kx_is); (case x_ovr_BadRows => first | k_is | kx_is); (case x_iC_BadRows => k_is); (case x_sa_BadRows => k_is); (case x_tkr_BadRows => k_is); (case x_noT_BadRows => k_is); (case x_hd_BadRows => k_is); (case x_kC_BadRows => k_is); (case x_exC_BadRows => k_is); (case x_tyC_BadRows => k_is); (case x_tI_BadRows => k_is); (case x_ga_BadRows => k_is); (case x_gg_BadRows => k_is); (case x_cl_BadRows => k_is); (case x_mr_BadRows => k_is); (case x_fn_BadRows => k_is); (case x_co_BadRows => k_is); (case x_g_NoHeights => k_is); (case x_ini_NoHeights => first | k_is | kx_is); (case x_ovr_NoHeights => first | k_is | kx_is); (case x_iC_NoHeights => k_is); (case x_sa_NoHeights => k_is); (case x_tkr_NoHeights => k_is); (case x_noT_NoHeights => k_is); (case x_hd_NoHeights => k_is); (case x_kC_NoHeights => k_is); (case x_exC_NoHeights => k_is); (case x_tyC_NoHeights => k_is); (case x_tI_NoHeights => k_is); (case x_ga_NoHeights => k_is); (case x_gg_NoHeights => k_is); (case x_cl_NoHeights => k_is); (case x_mr_NoHeights => k_is); (case x_fn_NoHeights => k_is); (case x_co_NoHeights => k_is); (case x_R => k_is); (case tg1 => k_is); (case tg2 => k_is); (case ee_BadCount_BadCount => k_is); (case ee_BadCount_BadRows => k_is); (case ee_BadCount_NoHeights => k_is); (case ki_BadCount => k_is); (case ee_BadRows_BadCount => k_is); (case ee_BadRows_BadRows => k_is); (case ee_BadRows_NoHeights => k_is); (case ki_BadRows => k_is); (case ee_NoHeights_BadCount => k_is); (case ee_NoHeights_BadRows => k_is); (case ee_NoHeights_NoHeights => k_is); (case ki_NoHeights => k_is); (case Rhd => k_is); (case Rty => k_is)
