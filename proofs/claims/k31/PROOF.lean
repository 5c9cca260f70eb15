import PyProof.Rows.All
import Wide.All
import OpenK.AllK
import Wide.FinOn
import HandS.ForMost
import HandS.ForExc
import HandS.Lambda
import HandS.Zip
import HandS.RevTup
import HandS.Rev
import HandS.Style
import HandS.IsInst
import HandS.Wide
import HandS.Deep
import HandS.DictTup
import HandS.SortOrd
import KE.DataCmp
import KE.DataEq
import KE.DataFind
import KE.SortData
import HandS.TupAny
import HandS.TupMul
import HandS.Text
import HandS.TupLen
import HandS.WordsDict
import HandS.Small
import HandS.ListItems
import HandS.Conv
import HandS.TupSets
import PyProof.MaxThree
import PyProof.ReprReads
import PyProof.ReprRoads
import PyProof.DictUpdate
import HandS.CallLocal
import KE.KExcInit
import KE.KExcIs
import HandS.ExcField
import HandS.ExcIs
import HandS.Ends
import HandS.TryMany
import HandS.DictComp
import HandS.SetKeys
import HandS.SetFor
import HandS.Strs
import HandS.TupLe
import KE.GoesMore
import HandS.RaiseMore
import HandS.EndTab
import KE.KDictWalk
import KE.KDictSum
import PyProof.Transfer
import KE.KExcLine
import PySem.Challenge.RW_surelythisrock_k31_chains_of_swaps
set_option Elab.async false
set_option linter.all false
set_option maxRecDepth 100000
set_option maxHeartbeats 4000000
/-! # PD: a data layer over the hand layer. A def gets a denotation: a plain Lean function over data D and owned objects SV. -/
namespace PD
open PySem PySem.Spec PyProof.Rows L2
abbrev Kf := PySem.W.Frag
/-! ## data -/
inductive D where
  | non | bl (b : Bool) | int (i : Int) | str (x : Str)
  | tup (xs : List D) | lst (xs : List D)
  | dk (kvs : List (Key × D)) | dt (kvs : List (List Key × D))
  | fn (a : Addr)
  | scr (ns : List Int)
/-- a tuple, a list that stands there, or a written one -/
def TupAt (_ : Kf) (H : Hp) (a : Addr) (xs : List V) : Prop := H a = some (.tup xs)
def LstAt (_ : Kf) (H : Hp) (a : Addr) (xs : List V) : Prop := H a = some (.lst xs)
theorem TupAt.sq {K K' : Kf} {H : Hp} {a : Addr} {xs : List V} (h : TupAt K H a xs) : SqT K' H a xs := SqT.of h
theorem LstAt.sq {K K' : Kf} {H : Hp} {a : Addr} {xs : List V} (h : LstAt K H a xs) : SqL K' H a xs := SqL.of h
theorem TupAt.at {K : Kf} {H : Hp} {a : Addr} {xs : List V} (h : TupAt K H a xs) : H a = some (.tup xs) := h
theorem LstAt.at {K : Kf} {H : Hp} {a : Addr} {xs : List V} (h : LstAt K H a xs) : H a = some (.lst xs) := h
section
variable (K : Kf) (F : Hp)
mutual
def Rep : D → V → Prop
  | .non, v => v = .non
  | .bl b, v => v = .bl b
  | .int i, v => v = .int i
  | .str x, v => v = .str x
  | .tup ds, v => ∃ a vs, v = .ref a ∧ TupAt K F a vs ∧ RepAll ds vs
  | .lst ds, v => ∃ a vs, v = .ref a ∧ LstAt K F a vs ∧ RepAll ds vs
  | .dk kvs, v => ∃ a ws, v = .ref a ∧ F a = some (.dK ws) ∧ RepK kvs ws
  | .dt kvs, v => ∃ a ws, v = .ref a ∧ F a = some (.dT ws) ∧ RepT kvs ws
  | .fn a, v => v = .ref a
  | .scr ns, v => ∃ a, v = .ref a ∧ SqL K F a (ns.map V.int)
def RepAll : List D → List V → Prop
  | [], vs => vs = []
  | d :: ds, vs => ∃ v r, vs = v :: r ∧ Rep d v ∧ RepAll ds r
def RepK : List (Key × D) → List (Key × V) → Prop
  | [], ws => ws = []
  | (k, d) :: r, ws => ∃ v s, ws = (k, v) :: s ∧ Rep d v ∧ RepK r s
def RepT : List (List Key × D) → List (List Key × V) → Prop
  | [], ws => ws = []
  | (k, d) :: r, ws => ∃ v s, ws = (k, v) :: s ∧ Rep d v ∧ RepT r s
end
end
theorem same_t {K : Kf} {F F' : Hp} (e : Same F F') {a : Addr} {xs : List V} (h : TupAt K F a xs) : TupAt K F' a xs := e _ _ h
theorem same_l {K : Kf} {F F' : Hp} (e : Same F F') {a : Addr} {xs : List V} (h : LstAt K F a xs) : LstAt K F' a xs := e _ _ h
/-- what is written for data is written -/
def Up (K KX : Kf) : Prop := ∀ a o, K.lookup a = some o → KX.lookup a = some o
theorem up_t {K KX : Kf} (u : Up K KX) {H : Hp} {a : Addr} {xs : List V} (h : SqT K H a xs) : SqT KX H a xs := h.imp id fun ⟨o, its, n, h1, h2⟩ => ⟨o, its, n, u _ _ h1, h2⟩
theorem up_l {K KX : Kf} (u : Up K KX) {H : Hp} {a : Addr} {xs : List V} (h : SqL K H a xs) : SqL KX H a xs := h.imp id fun ⟨o, its, n, h1, h2⟩ => ⟨o, its, n, u _ _ h1, h2⟩
theorem up_refl (K : Kf) : Up K K := fun _ _ h => h
theorem up_nil (K : Kf) : Up [] K := fun _ _ h => by cases h
section
variable {K : Kf} {F F' : Hp}
mutual
theorem Rep.mono (e : Same F F') : ∀ (d : D) (v : V), Rep K F d v → Rep K F' d v
  | .non, _, h => h
  | .bl _, _, h => h
  | .int _, _, h => h
  | .str _, _, h => h
  | .fn _, _, h => h
  | .scr ns, _, ⟨a, hv, hs⟩ => ⟨a, hv, e.seq hs⟩
  | .tup ds, _, ⟨a, vs, hv, hs, hr⟩ => ⟨a, vs, hv, same_t e hs, RepAll.mono e ds vs hr⟩
  | .lst ds, _, ⟨a, vs, hv, hs, hr⟩ => ⟨a, vs, hv, same_l e hs, RepAll.mono e ds vs hr⟩
  | .dk kvs, _, ⟨a, ws, hv, hs, hr⟩ => ⟨a, ws, hv, e _ _ hs, RepK.mono e kvs ws hr⟩
  | .dt kvs, _, ⟨a, ws, hv, hs, hr⟩ => ⟨a, ws, hv, e _ _ hs, RepT.mono e kvs ws hr⟩
theorem RepAll.mono (e : Same F F') : ∀ (d : List D) (v : List V), RepAll K F d v → RepAll K F' d v
  | [], _, h => h
  | d :: ds, _, ⟨v, r, hv, h1, h2⟩ => ⟨v, r, hv, Rep.mono e d v h1, RepAll.mono e ds r h2⟩
theorem RepK.mono (e : Same F F') : ∀ (d : List (Key × D)) (v : List (Key × V)), RepK K F d v → RepK K F' d v
  | [], _, h => h
  | (k, d) :: ds, _, ⟨v, r, hv, h1, h2⟩ => ⟨v, r, hv, Rep.mono e d v h1, RepK.mono e ds r h2⟩
theorem RepT.mono (e : Same F F') : ∀ (d : List (List Key × D)) (v : List (List Key × V)), RepT K F d v → RepT K F' d v
  | [], _, h => h
  | (k, d) :: ds, _, ⟨v, r, hv, h1, h2⟩ => ⟨v, r, hv, Rep.mono e d v h1, RepT.mono e ds r h2⟩
end
end
/-! ## owned objects -/
inductive SV where
  | fz (d : D)
  | ol (xs : List SV)
  | ok (kvs : List (Key × SV))
  | ot (kvs : List (List Key × SV))
mutual
def frz : SV → D
  | .fz d => d
  | .ol xs => .lst (frzL xs)
  | .ok kvs => .dk (frzK kvs)
  | .ot kvs => .dt (frzT kvs)
def frzL : List SV → List D
  | [] => []
  | x :: xs => frz x :: frzL xs
def frzK : List (Key × SV) → List (Key × D)
  | [] => []
  | (k, x) :: xs => (k, frz x) :: frzK xs
def frzT : List (List Key × SV) → List (List Key × D)
  | [] => []
  | (k, x) :: xs => (k, frz x) :: frzT xs
end
section
variable (K : Kf) (F H : Hp)
mutual
/-- v is the object s, its own parts at q -/
def Own : SV → V → List Addr → Prop
  | .fz d, v, q => Rep K F d v ∧ q = []
  | .ol xs, v, q => ∃ a vs r, v = .ref a ∧ H a = some (.lst vs) ∧ OwnL xs vs r ∧ q = a :: r
  | .ok kvs, v, q => ∃ a ws r, v = .ref a ∧ H a = some (.dK ws) ∧ OwnK kvs ws r ∧ q = a :: r
  | .ot kvs, v, q => ∃ a ws r, v = .ref a ∧ H a = some (.dT ws) ∧ OwnT kvs ws r ∧ q = a :: r
def OwnL : List SV → List V → List Addr → Prop
  | [], vs, q => vs = [] ∧ q = []
  | x :: xs, vs, q => ∃ v r q1 q2, vs = v :: r ∧ Own x v q1 ∧ OwnL xs r q2 ∧ q = q1 ++ q2
def OwnK : List (Key × SV) → List (Key × V) → List Addr → Prop
  | [], vs, q => vs = [] ∧ q = []
  | (k, x) :: xs, vs, q => ∃ v r q1 q2, vs = (k, v) :: r ∧ Own x v q1 ∧ OwnK xs r q2 ∧ q = q1 ++ q2
def OwnT : List (List Key × SV) → List (List Key × V) → List Addr → Prop
  | [], vs, q => vs = [] ∧ q = []
  | (k, x) :: xs, vs, q => ∃ v r q1 q2, vs = (k, v) :: r ∧ Own x v q1 ∧ OwnT xs r q2 ∧ q = q1 ++ q2
end
end
section
variable {K : Kf} {F F' H H' : Hp}
mutual
theorem Own.keep (e : Same F F') : ∀ (s : SV) (v : V) (q : List Addr), Own K F H s v q → (∀ a ∈ q, H' a = H a) → Own K F' H' s v q
  | .fz d, v, q, ⟨h, hq⟩, _ => ⟨h.mono e, hq⟩
  | .ol xs, v, q, ⟨a, vs, r, hv, ha, hr, hq⟩, k => by
    subst hq
    exact ⟨a, vs, r, hv, (k a List.mem_cons_self).trans ha, OwnL.keep e xs vs r hr fun b hb => k b (List.mem_cons_of_mem _ hb), rfl⟩
  | .ok xs, v, q, ⟨a, vs, r, hv, ha, hr, hq⟩, k => by
    subst hq
    exact ⟨a, vs, r, hv, (k a List.mem_cons_self).trans ha, OwnK.keep e xs vs r hr fun b hb => k b (List.mem_cons_of_mem _ hb), rfl⟩
  | .ot xs, v, q, ⟨a, vs, r, hv, ha, hr, hq⟩, k => by
    subst hq
    exact ⟨a, vs, r, hv, (k a List.mem_cons_self).trans ha, OwnT.keep e xs vs r hr fun b hb => k b (List.mem_cons_of_mem _ hb), rfl⟩
theorem OwnL.keep (e : Same F F') : ∀ (s : List SV) (v : List V) (q : List Addr), OwnL K F H s v q → (∀ a ∈ q, H' a = H a) → OwnL K F' H' s v q
  | [], _, _, h, _ => h
  | x :: xs, _, _, ⟨v, r, q1, q2, hv, h1, h2, hq⟩, k => by
    subst hq
    exact ⟨v, r, q1, q2, hv, Own.keep e x v q1 h1 fun b hb => k b (List.mem_append_left _ hb), OwnL.keep e xs r q2 h2 fun b hb => k b (List.mem_append_right _ hb), rfl⟩
theorem OwnK.keep (e : Same F F') : ∀ (s : List (Key × SV)) (v : List (Key × V)) (q : List Addr), OwnK K F H s v q → (∀ a ∈ q, H' a = H a) → OwnK K F' H' s v q
  | [], _, _, h, _ => h
  | (key, x) :: xs, _, _, ⟨v, r, q1, q2, hv, h1, h2, hq⟩, k => by
    subst hq
    exact ⟨v, r, q1, q2, hv, Own.keep e x v q1 h1 fun b hb => k b (List.mem_append_left _ hb), OwnK.keep e xs r q2 h2 fun b hb => k b (List.mem_append_right _ hb), rfl⟩
theorem OwnT.keep (e : Same F F') : ∀ (s : List (List Key × SV)) (v : List (List Key × V)) (q : List Addr), OwnT K F H s v q → (∀ a ∈ q, H' a = H a) → OwnT K F' H' s v q
  | [], _, _, h, _ => h
  | (key, x) :: xs, _, _, ⟨v, r, q1, q2, hv, h1, h2, hq⟩, k => by
    subst hq
    exact ⟨v, r, q1, q2, hv, Own.keep e x v q1 h1 fun b hb => k b (List.mem_append_left _ hb), OwnT.keep e xs r q2 h2 fun b hb => k b (List.mem_append_right _ hb), rfl⟩
end
mutual
theorem Own.there : ∀ (s : SV) (v : V) (q : List Addr), Own K F H s v q → ∀ a ∈ q, H a ≠ none
  | .fz d, v, q, ⟨h, hq⟩, a, m => by subst hq; cases m
  | .ol xs, v, q, ⟨a, vs, r, hv, ha, hr, hq⟩, b, m => by
    subst hq
    rcases List.mem_cons.mp m with rfl | m
    · rw [ha]; exact Option.some_ne_none _
    · exact OwnL.there xs vs r hr b m
  | .ok xs, v, q, ⟨a, vs, r, hv, ha, hr, hq⟩, b, m => by
    subst hq
    rcases List.mem_cons.mp m with rfl | m
    · rw [ha]; exact Option.some_ne_none _
    · exact OwnK.there xs vs r hr b m
  | .ot xs, v, q, ⟨a, vs, r, hv, ha, hr, hq⟩, b, m => by
    subst hq
    rcases List.mem_cons.mp m with rfl | m
    · rw [ha]; exact Option.some_ne_none _
    · exact OwnT.there xs vs r hr b m
theorem OwnL.there : ∀ (s : List SV) (v : List V) (q : List Addr), OwnL K F H s v q → ∀ a ∈ q, H a ≠ none
  | [], _, _, ⟨_, h⟩, a, m => by subst h; cases m
  | x :: xs, _, _, ⟨v, r, q1, q2, hv, h1, h2, hq⟩, a, m => by
    subst hq
    rcases List.mem_append.mp m with m | m
    · exact Own.there x v q1 h1 a m
    · exact OwnL.there xs r q2 h2 a m
theorem OwnK.there : ∀ (s : List (Key × SV)) (v : List (Key × V)) (q : List Addr), OwnK K F H s v q → ∀ a ∈ q, H a ≠ none
  | [], _, _, ⟨_, h⟩, a, m => by subst h; cases m
  | (_, x) :: xs, _, _, ⟨v, r, q1, q2, hv, h1, h2, hq⟩, a, m => by
    subst hq
    rcases List.mem_append.mp m with m | m
    · exact Own.there x v q1 h1 a m
    · exact OwnK.there xs r q2 h2 a m
theorem OwnT.there : ∀ (s : List (List Key × SV)) (v : List (List Key × V)) (q : List Addr), OwnT K F H s v q → ∀ a ∈ q, H a ≠ none
  | [], _, _, ⟨_, h⟩, a, m => by subst h; cases m
  | (_, x) :: xs, _, _, ⟨v, r, q1, q2, hv, h1, h2, hq⟩, a, m => by
    subst hq
    rcases List.mem_append.mp m with m | m
    · exact Own.there x v q1 h1 a m
    · exact OwnT.there xs r q2 h2 a m
end
mutual
/-- what is owned, frozen -/
theorem Own.frz (e : Same F F') : ∀ (s : SV) (v : V) (q : List Addr), Own K F H s v q → (∀ a ∈ q, F' a = H a) → Rep K F' (frz s) v
  | .fz d, v, q, ⟨h, hq⟩, _ => h.mono e
  | .ol xs, v, q, ⟨a, vs, r, hv, ha, hr, hq⟩, k => by
    subst hq
    exact ⟨a, vs, hv, (k a List.mem_cons_self).trans ha, OwnL.frz e xs vs r hr fun b hb => k b (List.mem_cons_of_mem _ hb)⟩
  | .ok xs, v, q, ⟨a, vs, r, hv, ha, hr, hq⟩, k => by
    subst hq
    exact ⟨a, vs, hv, (k a List.mem_cons_self).trans ha, OwnK.frz e xs vs r hr fun b hb => k b (List.mem_cons_of_mem _ hb)⟩
  | .ot xs, v, q, ⟨a, vs, r, hv, ha, hr, hq⟩, k => by
    subst hq
    exact ⟨a, vs, hv, (k a List.mem_cons_self).trans ha, OwnT.frz e xs vs r hr fun b hb => k b (List.mem_cons_of_mem _ hb)⟩
theorem OwnL.frz (e : Same F F') : ∀ (s : List SV) (v : List V) (q : List Addr), OwnL K F H s v q → (∀ a ∈ q, F' a = H a) → RepAll K F' (frzL s) v
  | [], _, _, ⟨h, _⟩, _ => h
  | x :: xs, _, _, ⟨v, r, q1, q2, hv, h1, h2, hq⟩, k => by
    subst hq
    exact ⟨v, r, hv, Own.frz e x v q1 h1 fun b hb => k b (List.mem_append_left _ hb), OwnL.frz e xs r q2 h2 fun b hb => k b (List.mem_append_right _ hb)⟩
theorem OwnK.frz (e : Same F F') : ∀ (s : List (Key × SV)) (v : List (Key × V)) (q : List Addr), OwnK K F H s v q → (∀ a ∈ q, F' a = H a) → RepK K F' (frzK s) v
  | [], _, _, ⟨h, _⟩, _ => h
  | (_, x) :: xs, _, _, ⟨v, r, q1, q2, hv, h1, h2, hq⟩, k => by
    subst hq
    exact ⟨v, r, hv, Own.frz e x v q1 h1 fun b hb => k b (List.mem_append_left _ hb), OwnK.frz e xs r q2 h2 fun b hb => k b (List.mem_append_right _ hb)⟩
theorem OwnT.frz (e : Same F F') : ∀ (s : List (List Key × SV)) (v : List (List Key × V)) (q : List Addr), OwnT K F H s v q → (∀ a ∈ q, F' a = H a) → RepT K F' (frzT s) v
  | [], _, _, ⟨h, _⟩, _ => h
  | (_, x) :: xs, _, _, ⟨v, r, q1, q2, hv, h1, h2, hq⟩, k => by
    subst hq
    exact ⟨v, r, hv, Own.frz e x v q1 h1 fun b hb => k b (List.mem_append_left _ hb), OwnT.frz e xs r q2 h2 fun b hb => k b (List.mem_append_right _ hb)⟩
end
end
end PD
namespace PD
open PySem PySem.Spec PyProof.Rows L2
/-! ## places within owned objects -/
inductive Pth where
  | i (k : Nat) | k (key : Key) | t (key : List Key)
def look {κ β : Type} [DecidableEq κ] (kvs : List (κ × β)) (k : κ) : Option β := (kvs.find? fun kv => decide (kv.1 = k)).map (·.2)
def repl {κ β : Type} [DecidableEq κ] : List (κ × β) → κ → β → List (κ × β)
  | [], _, _ => []
  | (j, x) :: r, k, y => if j = k then (j, y) :: r else (j, x) :: repl r k y
def sub : SV → List Pth → Option SV
  | s, [] => some s
  | .ol xs, .i k :: p => match xs[k]? with
    | some x => sub x p
    | none => none
  | .ok kvs, .k key :: p => match look kvs key with
    | some x => sub x p
    | none => none
  | .ot kvs, .t key :: p => match look kvs key with
    | some x => sub x p
    | none => none
  | _, _ :: _ => none
def put : SV → List Pth → SV → SV
  | _, [], s => s
  | .ol xs, .i k :: p, s => match xs[k]? with
    | some x => .ol (xs.set k (put x p s))
    | none => .ol xs
  | .ok kvs, .k key :: p, s => match look kvs key with
    | some x => .ok (repl kvs key (put x p s))
    | none => .ok kvs
  | .ot kvs, .t key :: p, s => match look kvs key with
    | some x => .ot (repl kvs key (put x p s))
    | none => .ot kvs
  | s, _ :: _, _ => s
/-- the way through the heap from w by p to v -/
def PathH (H : Hp) : V → List Pth → V → Prop
  | w, [], v => v = w
  | w, .i k :: p, v => ∃ a vs u, w = .ref a ∧ H a = some (.lst vs) ∧ vs[k]? = some u ∧ PathH H u p v
  | w, .k key :: p, v => ∃ a vs u, w = .ref a ∧ H a = some (.dK vs) ∧ look vs key = some u ∧ PathH H u p v
  | w, .t key :: p, v => ∃ a vs u, w = .ref a ∧ H a = some (.dT vs) ∧ look vs key = some u ∧ PathH H u p v
theorem PathH.mono {H H' : Hp} (e : Same H H') : ∀ (p : List Pth) (w v : V), PathH H w p v → PathH H' w p v
  | [], _, _, h => h
  | .i k :: p, _, _, ⟨a, vs, u, hw, ha, hk, hp⟩ => ⟨a, vs, u, hw, e _ _ ha, hk, PathH.mono e p _ _ hp⟩
  | .k k :: p, _, _, ⟨a, vs, u, hw, ha, hk, hp⟩ => ⟨a, vs, u, hw, e _ _ ha, hk, PathH.mono e p _ _ hp⟩
  | .t k :: p, _, _, ⟨a, vs, u, hw, ha, hk, hp⟩ => ⟨a, vs, u, hw, e _ _ ha, hk, PathH.mono e p _ _ hp⟩
theorem PathH.fun {H : Hp} : ∀ (p : List Pth) (w v v' : V), PathH H w p v → PathH H w p v' → v = v'
  | [], _, _, _, h, h' => h.trans h'.symm
  | .i k :: p, _, _, _, ⟨a, vs, u, hw, ha, hk, hp⟩, ⟨a', vs', u', hw', ha', hk', hp'⟩ => by
    subst hw; cases hw'; rw [ha] at ha'; cases ha'; rw [hk] at hk'; cases hk'; exact PathH.fun p _ _ _ hp hp'
  | .k k :: p, _, _, _, ⟨a, vs, u, hw, ha, hk, hp⟩, ⟨a', vs', u', hw', ha', hk', hp'⟩ => by
    subst hw; cases hw'; rw [ha] at ha'; cases ha'; rw [hk] at hk'; cases hk'; exact PathH.fun p _ _ _ hp hp'
  | .t k :: p, _, _, _, ⟨a, vs, u, hw, ha, hk, hp⟩, ⟨a', vs', u', hw', ha', hk', hp'⟩ => by
    subst hw; cases hw'; rw [ha] at ha'; cases ha'; rw [hk] at hk'; cases hk'; exact PathH.fun p _ _ _ hp hp'
/-- the part s at w with its own parts at g; whoever changes only those, to s', has the whole changed -/
def Rebuild (K : Kf) (F H : Hp) (w : V) (g q : List Addr) (mk : SV → SV) (v : V) (B : Hp → Hp → SV → V → List Addr → Prop) : Prop :=
  ∀ (F' H' : Hp) (s' : SV) (g' : List Addr), Same F F' → Own K F' H' s' w g' → g'.Nodup → (∀ a ∈ q, a ∉ g → H' a = H a) → (∀ a ∈ g', a ∈ g ∨ a ∉ q) →
    ∃ q', B F' H' (mk s') v q' ∧ q'.Nodup ∧ (∀ a ∈ q', a ∈ g' ∨ (a ∈ q ∧ a ∉ g)) ∧ (∀ a ∈ g', a ∈ q')
theorem nodup_app {α : Type} {a b : List α} (h : (a ++ b).Nodup) : a.Nodup ∧ b.Nodup ∧ ∀ x ∈ a, x ∉ b := by
  rw [List.nodup_append] at h
  exact ⟨h.1, h.2.1, fun x h1 h2 => h.2.2 x h1 x h2 rfl⟩
theorem nodup_mk {α : Type} {a b : List α} (h1 : a.Nodup) (h2 : b.Nodup) (h3 : ∀ x ∈ a, x ∉ b) : (a ++ b).Nodup := by
  rw [List.nodup_append]
  exact ⟨h1, h2, fun x hx y hy e => h3 x hx (e ▸ hy)⟩
section
variable {K : Kf} {F H : Hp}
theorem ownL_get : ∀ {xs : List SV} {vs : List V} {q : List Addr}, OwnL K F H xs vs q → ∀ {k : Nat} {x : SV}, xs[k]? = some x → ∃ u g, vs[k]? = some u ∧ Own K F H x u g ∧ (∀ a ∈ g, a ∈ q)
  | [], _, _, _, _, _, h => by simp at h
  | y :: xs, _, _, ⟨v, r, q1, q2, hv, h1, h2, hq⟩, 0, x, h => by
    subst hv hq
    simp at h; subst h
    exact ⟨v, q1, by simp, h1, fun a m => List.mem_append_left _ m⟩
  | y :: xs, _, _, ⟨v, r, q1, q2, hv, h1, h2, hq⟩, k + 1, x, h => by
    subst hv hq
    obtain ⟨u, g, e, o, m⟩ := ownL_get h2 (k := k) (x := x) (by simpa using h)
    exact ⟨u, g, by simpa using e, o, fun a ma => List.mem_append_right _ (m a ma)⟩
theorem ownK_get : ∀ {xs : List (Key × SV)} {vs : List (Key × V)} {q : List Addr}, OwnK K F H xs vs q → ∀ {k : Key} {x : SV}, look xs k = some x → ∃ u g, look vs k = some u ∧ Own K F H x u g ∧ (∀ a ∈ g, a ∈ q)
  | [], _, _, _, _, _, h => by simp [look] at h
  | (j, y) :: xs, _, _, ⟨v, r, q1, q2, hv, h1, h2, hq⟩, k, x, h => by
    subst hv hq
    by_cases e : j = k
    · subst e
      simp [look] at h; subst h
      exact ⟨v, q1, by simp [look], h1, fun a m => List.mem_append_left _ m⟩
    · have h' : look xs k = some x := by simpa [look, List.find?_cons, e] using h
      obtain ⟨u, g, eu, o, m⟩ := ownK_get h2 h'
      exact ⟨u, g, by simpa [look, List.find?_cons, e] using eu, o, fun a ma => List.mem_append_right _ (m a ma)⟩
theorem ownT_get : ∀ {xs : List (List Key × SV)} {vs : List (List Key × V)} {q : List Addr}, OwnT K F H xs vs q → ∀ {k : List Key} {x : SV}, look xs k = some x → ∃ u g, look vs k = some u ∧ Own K F H x u g ∧ (∀ a ∈ g, a ∈ q)
  | [], _, _, _, _, _, h => by simp [look] at h
  | (j, y) :: xs, _, _, ⟨v, r, q1, q2, hv, h1, h2, hq⟩, k, x, h => by
    subst hv hq
    by_cases e : j = k
    · subst e
      simp [look] at h; subst h
      exact ⟨v, q1, by simp [look], h1, fun a m => List.mem_append_left _ m⟩
    · have h' : look xs k = some x := by simpa [look, List.find?_cons, e] using h
      obtain ⟨u, g, eu, o, m⟩ := ownT_get h2 h'
      exact ⟨u, g, by simpa [look, List.find?_cons, e] using eu, o, fun a ma => List.mem_append_right _ (m a ma)⟩
/-- a child of a list is changed in place -/
theorem ownL_set : ∀ {xs : List SV} {vs : List V} {q : List Addr}, OwnL K F H xs vs q → q.Nodup → ∀ {k : Nat} {x : SV}, xs[k]? = some x → ∃ u g, vs[k]? = some u ∧ Own K F H x u g ∧ g.Nodup ∧ (∀ a ∈ g, a ∈ q) ∧
    ∀ (F' H' : Hp) (x' : SV) (g' : List Addr), Same F F' → Own K F' H' x' u g' → g'.Nodup → (∀ a ∈ q, a ∉ g → H' a = H a) → (∀ a ∈ g', a ∈ g ∨ a ∉ q) →
      ∃ q', OwnL K F' H' (xs.set k x') vs q' ∧ q'.Nodup ∧ (∀ a ∈ q', a ∈ g' ∨ (a ∈ q ∧ a ∉ g)) ∧ (∀ a ∈ g', a ∈ q')
  | [], _, _, _, _, _, _, h => by simp at h
  | y :: xs, _, _, ⟨v, r, q1, q2, hv, h1, h2, hq⟩, nd, 0, x, h => by
    subst hv hq
    simp at h; subst h
    obtain ⟨n1, n2, n3⟩ := nodup_app nd
    refine ⟨v, q1, by simp, h1, n1, fun a m => List.mem_append_left _ m, fun F' H' x' g' e o n k f => ?_⟩
    refine ⟨g' ++ q2, ⟨v, r, g', q2, rfl, o, OwnL.keep e _ _ _ h2 fun a m => k a (List.mem_append_right _ m) fun z => n3 a z m, rfl⟩, nodup_mk n n2 fun a m m2 => ?_, fun a m => ?_, fun a m => List.mem_append_left _ m⟩
    · rcases f a m with z | z
      · exact n3 a z m2
      · exact z (List.mem_append_right _ m2)
    · rcases List.mem_append.mp m with m | m
      · exact .inl m
      · exact .inr ⟨List.mem_append_right _ m, fun z => n3 a z m⟩
  | y :: xs, _, _, ⟨v, r, q1, q2, hv, h1, h2, hq⟩, nd, k + 1, x, h => by
    subst hv hq
    obtain ⟨n1, n2, n3⟩ := nodup_app nd
    obtain ⟨u, g, eu, o, ng, m, re⟩ := ownL_set h2 n2 (k := k) (x := x) (by simpa using h)
    refine ⟨u, g, by simpa using eu, o, ng, fun a ma => List.mem_append_right _ (m a ma), fun F' H' x' g' e o' n k' f => ?_⟩
    obtain ⟨q', oq, nq, hq, hg⟩ := re F' H' x' g' e o' n (fun a ma na => k' a (List.mem_append_right _ ma) na) fun a ma => (f a ma).imp id fun z w => z (List.mem_append_right _ w)
    have d1 : ∀ a ∈ q1, a ∉ q' := fun a ma mq => by
      rcases hq a mq with z | ⟨z, _⟩
      · rcases f a z with w | w
        · exact n3 a ma (m a w)
        · exact w (List.mem_append_left _ ma)
      · exact n3 a ma z
    refine ⟨q1 ++ q', ⟨v, r, q1, q', rfl, Own.keep e _ _ _ h1 fun a ma => k' a (List.mem_append_left _ ma) fun z => n3 a ma (m a z), oq, rfl⟩, nodup_mk n1 nq d1, fun a ma => ?_, fun a ma => List.mem_append_right _ (hg a ma)⟩
    rcases List.mem_append.mp ma with ma | ma
    · exact .inr ⟨List.mem_append_left _ ma, fun z => n3 a ma (m a z)⟩
    · exact (hq a ma).imp id fun z => ⟨List.mem_append_right _ z.1, z.2⟩
theorem ownK_set : ∀ {xs : List (Key × SV)} {vs : List (Key × V)} {q : List Addr}, OwnK K F H xs vs q → q.Nodup → ∀ {k : Key} {x : SV}, look xs k = some x → ∃ u g, look vs k = some u ∧ Own K F H x u g ∧ g.Nodup ∧ (∀ a ∈ g, a ∈ q) ∧
    ∀ (F' H' : Hp) (x' : SV) (g' : List Addr), Same F F' → Own K F' H' x' u g' → g'.Nodup → (∀ a ∈ q, a ∉ g → H' a = H a) → (∀ a ∈ g', a ∈ g ∨ a ∉ q) →
      ∃ q', OwnK K F' H' (repl xs k x') vs q' ∧ q'.Nodup ∧ (∀ a ∈ q', a ∈ g' ∨ (a ∈ q ∧ a ∉ g)) ∧ (∀ a ∈ g', a ∈ q')
  | [], _, _, _, _, _, _, h => by simp [look] at h
  | (j, y) :: xs, _, _, ⟨v, r, q1, q2, hv, h1, h2, hq⟩, nd, k, x, h => by
    subst hv hq
    obtain ⟨n1, n2, n3⟩ := nodup_app nd
    by_cases e : j = k
    · subst e
      simp [look] at h; subst h
      refine ⟨v, q1, by simp [look], h1, n1, fun a m => List.mem_append_left _ m, fun F' H' x' g' e o n k f => ?_⟩
      rw [show repl ((j, y) :: xs) j x' = (j, x') :: xs by simp [repl]]
      refine ⟨g' ++ q2, ⟨v, r, g', q2, rfl, o, OwnK.keep e _ _ _ h2 fun a m => k a (List.mem_append_right _ m) fun z => n3 a z m, rfl⟩, nodup_mk n n2 fun a m m2 => ?_, fun a m => ?_, fun a m => List.mem_append_left _ m⟩
      · rcases f a m with z | z
        · exact n3 a z m2
        · exact z (List.mem_append_right _ m2)
      · rcases List.mem_append.mp m with m | m
        · exact .inl m
        · exact .inr ⟨List.mem_append_right _ m, fun z => n3 a z m⟩
    · have h' : look xs k = some x := by simpa [look, List.find?_cons, e] using h
      obtain ⟨u, g, eu, o, ng, m, re⟩ := ownK_set h2 n2 h'
      refine ⟨u, g, by simpa [look, List.find?_cons, e] using eu, o, ng, fun a ma => List.mem_append_right _ (m a ma), fun F' H' x' g' ee o' n k' f => ?_⟩
      obtain ⟨q', oq, nq, hq, hg⟩ := re F' H' x' g' ee o' n (fun a ma na => k' a (List.mem_append_right _ ma) na) fun a ma => (f a ma).imp id fun z w => z (List.mem_append_right _ w)
      have d1 : ∀ a ∈ q1, a ∉ q' := fun a ma mq => by
        rcases hq a mq with z | ⟨z, _⟩
        · rcases f a z with w | w
          · exact n3 a ma (m a w)
          · exact w (List.mem_append_left _ ma)
        · exact n3 a ma z
      rw [show repl ((j, y) :: xs) k x' = (j, y) :: repl xs k x' by simp [repl, e]]
      refine ⟨q1 ++ q', ⟨v, r, q1, q', rfl, Own.keep ee _ _ _ h1 fun a ma => k' a (List.mem_append_left _ ma) fun z => n3 a ma (m a z), oq, rfl⟩, nodup_mk n1 nq d1, fun a ma => ?_, fun a ma => List.mem_append_right _ (hg a ma)⟩
      rcases List.mem_append.mp ma with ma | ma
      · exact .inr ⟨List.mem_append_left _ ma, fun z => n3 a ma (m a z)⟩
      · exact (hq a ma).imp id fun z => ⟨List.mem_append_right _ z.1, z.2⟩
theorem ownT_set : ∀ {xs : List (List Key × SV)} {vs : List (List Key × V)} {q : List Addr}, OwnT K F H xs vs q → q.Nodup → ∀ {k : List Key} {x : SV}, look xs k = some x → ∃ u g, look vs k = some u ∧ Own K F H x u g ∧ g.Nodup ∧ (∀ a ∈ g, a ∈ q) ∧
    ∀ (F' H' : Hp) (x' : SV) (g' : List Addr), Same F F' → Own K F' H' x' u g' → g'.Nodup → (∀ a ∈ q, a ∉ g → H' a = H a) → (∀ a ∈ g', a ∈ g ∨ a ∉ q) →
      ∃ q', OwnT K F' H' (repl xs k x') vs q' ∧ q'.Nodup ∧ (∀ a ∈ q', a ∈ g' ∨ (a ∈ q ∧ a ∉ g)) ∧ (∀ a ∈ g', a ∈ q')
  | [], _, _, _, _, _, _, h => by simp [look] at h
  | (j, y) :: xs, _, _, ⟨v, r, q1, q2, hv, h1, h2, hq⟩, nd, k, x, h => by
    subst hv hq
    obtain ⟨n1, n2, n3⟩ := nodup_app nd
    by_cases e : j = k
    · subst e
      simp [look] at h; subst h
      refine ⟨v, q1, by simp [look], h1, n1, fun a m => List.mem_append_left _ m, fun F' H' x' g' e o n k f => ?_⟩
      rw [show repl ((j, y) :: xs) j x' = (j, x') :: xs by simp [repl]]
      refine ⟨g' ++ q2, ⟨v, r, g', q2, rfl, o, OwnT.keep e _ _ _ h2 fun a m => k a (List.mem_append_right _ m) fun z => n3 a z m, rfl⟩, nodup_mk n n2 fun a m m2 => ?_, fun a m => ?_, fun a m => List.mem_append_left _ m⟩
      · rcases f a m with z | z
        · exact n3 a z m2
        · exact z (List.mem_append_right _ m2)
      · rcases List.mem_append.mp m with m | m
        · exact .inl m
        · exact .inr ⟨List.mem_append_right _ m, fun z => n3 a z m⟩
    · have h' : look xs k = some x := by simpa [look, List.find?_cons, e] using h
      obtain ⟨u, g, eu, o, ng, m, re⟩ := ownT_set h2 n2 h'
      refine ⟨u, g, by simpa [look, List.find?_cons, e] using eu, o, ng, fun a ma => List.mem_append_right _ (m a ma), fun F' H' x' g' ee o' n k' f => ?_⟩
      obtain ⟨q', oq, nq, hq, hg⟩ := re F' H' x' g' ee o' n (fun a ma na => k' a (List.mem_append_right _ ma) na) fun a ma => (f a ma).imp id fun z w => z (List.mem_append_right _ w)
      have d1 : ∀ a ∈ q1, a ∉ q' := fun a ma mq => by
        rcases hq a mq with z | ⟨z, _⟩
        · rcases f a z with w | w
          · exact n3 a ma (m a w)
          · exact w (List.mem_append_left _ ma)
        · exact n3 a ma z
      rw [show repl ((j, y) :: xs) k x' = (j, y) :: repl xs k x' by simp [repl, e]]
      refine ⟨q1 ++ q', ⟨v, r, q1, q', rfl, Own.keep ee _ _ _ h1 fun a ma => k' a (List.mem_append_left _ ma) fun z => n3 a ma (m a z), oq, rfl⟩, nodup_mk n1 nq d1, fun a ma => ?_, fun a ma => List.mem_append_right _ (hg a ma)⟩
      rcases List.mem_append.mp ma with ma | ma
      · exact .inr ⟨List.mem_append_left _ ma, fun z => n3 a ma (m a z)⟩
      · exact (hq a ma).imp id fun z => ⟨List.mem_append_right _ z.1, z.2⟩
/-- a part of an owned object: where it stands, and the whole when it is changed -/
theorem own_put : ∀ (p : List Pth) {s s1 : SV} {v : V} {q : List Addr}, Own K F H s v q → q.Nodup → sub s p = some s1 → ∃ w g, PathH H v p w ∧ Own K F H s1 w g ∧ g.Nodup ∧ (∀ a ∈ g, a ∈ q) ∧
    ∀ (F' H' : Hp) (s' : SV) (g' : List Addr), Same F F' → Own K F' H' s' w g' → g'.Nodup → (∀ a ∈ q, a ∉ g → H' a = H a) → (∀ a ∈ g', a ∈ g ∨ a ∉ q) →
      ∃ q', Own K F' H' (put s p s') v q' ∧ q'.Nodup ∧ (∀ a ∈ q', a ∈ g' ∨ (a ∈ q ∧ a ∉ g)) ∧ (∀ a ∈ g', a ∈ q')
  | [], s, s1, v, q, o, nd, h => by
    simp [sub] at h; subst h
    exact ⟨v, q, rfl, o, nd, fun _ m => m, fun F' H' s' g' e o' n _ _ => ⟨g', by simpa [put] using o', n, fun a m => .inl m, fun _ m => m⟩⟩
  | .i k :: p, s, s1, v, q, o, nd, h => by
    cases s with
    | fz d => simp [sub] at h
    | ok _ => simp [sub] at h
    | ot _ => simp [sub] at h
    | ol xs =>
      obtain ⟨a, vs, r, hv, ha, hr, hq⟩ := o
      subst hq
      rw [List.nodup_cons] at nd
      cases ex : xs[k]? with
      | none => simp [sub, ex] at h
      | some x =>
        have h' : sub x p = some s1 := by simpa [sub, ex] using h
        obtain ⟨u, g, eu, ou, ng, mg, re⟩ := ownL_set hr nd.2 ex
        obtain ⟨w, g1, pw, ow, n1, m1, re1⟩ := own_put p ou ng h'
        refine ⟨w, g1, ⟨a, vs, u, hv, ha, eu, pw⟩, ow, n1, fun b m => List.mem_cons_of_mem _ (mg b (m1 b m)), fun F' H' s' g' e o' n k' f => ?_⟩
        have na : a ∉ g := fun z => nd.1 (mg a z)
        obtain ⟨g2, o2, n2, h2, i2⟩ := re1 F' H' s' g' e o' n (fun b mb nb => k' b (List.mem_cons_of_mem _ (mg b mb)) nb) fun b mb => (f b mb).imp id fun z w => z (List.mem_cons_of_mem _ (mg b w))
        obtain ⟨q', oq, nq, hq, iq⟩ := re F' H' (put x p s') g2 e o2 n2 (fun b mb nb => k' b (List.mem_cons_of_mem _ mb) fun z => nb (m1 b z)) fun b mb => by
          rcases h2 b mb with z | ⟨z, _⟩
          · rcases f b z with w | w
            · exact .inl (m1 b w)
            · exact .inr fun y => w (List.mem_cons_of_mem _ y)
          · exact .inl z
        have ap : ∀ b ∈ q', b ∈ g' ∨ (b ∈ r ∧ b ∉ g1) := fun b mb => by
          rcases hq b mb with z | ⟨z, z2⟩
          · rcases h2 b z with w | ⟨w, w2⟩
            · exact .inl w
            · exact .inr ⟨mg b w, w2⟩
          · exact .inr ⟨z, fun y => z2 (m1 b y)⟩
        refine ⟨a :: q', ?_, List.nodup_cons.mpr ⟨fun z => ?_, nq⟩, fun b mb => ?_, fun b mb => List.mem_cons_of_mem _ (iq b (i2 b mb))⟩
        · have ez : put (.ol xs) (.i k :: p) s' = .ol (xs.set k (put x p s')) := by simp [put, ex]
          rw [ez]
          exact ⟨a, vs, q', hv, (k' a List.mem_cons_self fun z => na (m1 a z)).trans ha, oq, rfl⟩
        · rcases ap a z with y | ⟨y, _⟩
          · rcases f a y with w | w
            · exact na (m1 a w)
            · exact w List.mem_cons_self
          · exact nd.1 y
        · rcases List.mem_cons.mp mb with rfl | mb
          · exact .inr ⟨List.mem_cons_self, fun z => na (m1 _ z)⟩
          · exact (ap b mb).imp id fun z => ⟨List.mem_cons_of_mem _ z.1, z.2⟩
  | .k key :: p, s, s1, v, q, o, nd, h => by
    cases s with
    | fz d => simp [sub] at h
    | ol _ => simp [sub] at h
    | ot _ => simp [sub] at h
    | ok xs =>
      obtain ⟨a, vs, r, hv, ha, hr, hq⟩ := o
      subst hq
      rw [List.nodup_cons] at nd
      cases ex : look xs key with
      | none => simp [sub, ex] at h
      | some x =>
        have h' : sub x p = some s1 := by simpa [sub, ex] using h
        obtain ⟨u, g, eu, ou, ng, mg, re⟩ := ownK_set hr nd.2 ex
        obtain ⟨w, g1, pw, ow, n1, m1, re1⟩ := own_put p ou ng h'
        refine ⟨w, g1, ⟨a, vs, u, hv, ha, eu, pw⟩, ow, n1, fun b m => List.mem_cons_of_mem _ (mg b (m1 b m)), fun F' H' s' g' e o' n k' f => ?_⟩
        have na : a ∉ g := fun z => nd.1 (mg a z)
        obtain ⟨g2, o2, n2, h2, i2⟩ := re1 F' H' s' g' e o' n (fun b mb nb => k' b (List.mem_cons_of_mem _ (mg b mb)) nb) fun b mb => (f b mb).imp id fun z w => z (List.mem_cons_of_mem _ (mg b w))
        obtain ⟨q', oq, nq, hq, iq⟩ := re F' H' (put x p s') g2 e o2 n2 (fun b mb nb => k' b (List.mem_cons_of_mem _ mb) fun z => nb (m1 b z)) fun b mb => by
          rcases h2 b mb with z | ⟨z, _⟩
          · rcases f b z with w | w
            · exact .inl (m1 b w)
            · exact .inr fun y => w (List.mem_cons_of_mem _ y)
          · exact .inl z
        have ap : ∀ b ∈ q', b ∈ g' ∨ (b ∈ r ∧ b ∉ g1) := fun b mb => by
          rcases hq b mb with z | ⟨z, z2⟩
          · rcases h2 b z with w | ⟨w, w2⟩
            · exact .inl w
            · exact .inr ⟨mg b w, w2⟩
          · exact .inr ⟨z, fun y => z2 (m1 b y)⟩
        refine ⟨a :: q', ?_, List.nodup_cons.mpr ⟨fun z => ?_, nq⟩, fun b mb => ?_, fun b mb => List.mem_cons_of_mem _ (iq b (i2 b mb))⟩
        · have ez : put (.ok xs) (.k key :: p) s' = .ok (repl xs key (put x p s')) := by simp [put, ex]
          rw [ez]
          exact ⟨a, vs, q', hv, (k' a List.mem_cons_self fun z => na (m1 a z)).trans ha, oq, rfl⟩
        · rcases ap a z with y | ⟨y, _⟩
          · rcases f a y with w | w
            · exact na (m1 a w)
            · exact w List.mem_cons_self
          · exact nd.1 y
        · rcases List.mem_cons.mp mb with rfl | mb
          · exact .inr ⟨List.mem_cons_self, fun z => na (m1 _ z)⟩
          · exact (ap b mb).imp id fun z => ⟨List.mem_cons_of_mem _ z.1, z.2⟩
  | .t key :: p, s, s1, v, q, o, nd, h => by
    cases s with
    | fz d => simp [sub] at h
    | ol _ => simp [sub] at h
    | ok _ => simp [sub] at h
    | ot xs =>
      obtain ⟨a, vs, r, hv, ha, hr, hq⟩ := o
      subst hq
      rw [List.nodup_cons] at nd
      cases ex : look xs key with
      | none => simp [sub, ex] at h
      | some x =>
        have h' : sub x p = some s1 := by simpa [sub, ex] using h
        obtain ⟨u, g, eu, ou, ng, mg, re⟩ := ownT_set hr nd.2 ex
        obtain ⟨w, g1, pw, ow, n1, m1, re1⟩ := own_put p ou ng h'
        refine ⟨w, g1, ⟨a, vs, u, hv, ha, eu, pw⟩, ow, n1, fun b m => List.mem_cons_of_mem _ (mg b (m1 b m)), fun F' H' s' g' e o' n k' f => ?_⟩
        have na : a ∉ g := fun z => nd.1 (mg a z)
        obtain ⟨g2, o2, n2, h2, i2⟩ := re1 F' H' s' g' e o' n (fun b mb nb => k' b (List.mem_cons_of_mem _ (mg b mb)) nb) fun b mb => (f b mb).imp id fun z w => z (List.mem_cons_of_mem _ (mg b w))
        obtain ⟨q', oq, nq, hq, iq⟩ := re F' H' (put x p s') g2 e o2 n2 (fun b mb nb => k' b (List.mem_cons_of_mem _ mb) fun z => nb (m1 b z)) fun b mb => by
          rcases h2 b mb with z | ⟨z, _⟩
          · rcases f b z with w | w
            · exact .inl (m1 b w)
            · exact .inr fun y => w (List.mem_cons_of_mem _ y)
          · exact .inl z
        have ap : ∀ b ∈ q', b ∈ g' ∨ (b ∈ r ∧ b ∉ g1) := fun b mb => by
          rcases hq b mb with z | ⟨z, z2⟩
          · rcases h2 b z with w | ⟨w, w2⟩
            · exact .inl w
            · exact .inr ⟨mg b w, w2⟩
          · exact .inr ⟨z, fun y => z2 (m1 b y)⟩
        refine ⟨a :: q', ?_, List.nodup_cons.mpr ⟨fun z => ?_, nq⟩, fun b mb => ?_, fun b mb => List.mem_cons_of_mem _ (iq b (i2 b mb))⟩
        · have ez : put (.ot xs) (.t key :: p) s' = .ot (repl xs key (put x p s')) := by simp [put, ex]
          rw [ez]
          exact ⟨a, vs, q', hv, (k' a List.mem_cons_self fun z => na (m1 a z)).trans ha, oq, rfl⟩
        · rcases ap a z with y | ⟨y, _⟩
          · rcases f a y with w | w
            · exact na (m1 a w)
            · exact w List.mem_cons_self
          · exact nd.1 y
        · rcases List.mem_cons.mp mb with rfl | mb
          · exact .inr ⟨List.mem_cons_self, fun z => na (m1 _ z)⟩
          · exact (ap b mb).imp id fun z => ⟨List.mem_cons_of_mem _ z.1, z.2⟩
end
end PD
namespace PD
open PySem PySem.Spec PyProof.Rows L2
/-! ## the machine's state: slots, owned arguments -/
inductive Sl where
  | sv (s : SV)
  | pa (k : Nat)
structure M where
  sl : List (Option Sl)
  pp : List SV
inductive Ow where
  | s (i : Nat) | p (k : Nat)
  deriving DecidableEq
def get (m : M) : Ow → Option SV
  | .s i => match m.sl[i]? with
    | some (some (Sl.sv s)) => some s
    | _ => none
  | .p k => m.pp[k]?
def refO (σ : L2.St) (π : List V) : Ow → Option V
  | .s i => match σ[i]? with
    | some (some v) => some v
    | _ => none
  | .p k => π[k]?
def setO (m : M) : Ow → SV → M
  | .s i, s => { m with sl := m.sl.set i (some (Sl.sv s)) }
  | .p k, s => { m with pp := m.pp.set k s }
inductive EV where
  | v (d : D) | br (o : Ow) (p : List Pth) | fr (s : SV)
inductive Out (α : Type) where
  | ok (a : α) (m : M) | exc (c : Str) (d : D) (m : M) | bad
def Out.bind {α β : Type} (x : Out α) (f : α → M → Out β) : Out β := match x with
  | .ok a m => f a m
  | .exc c d m => .exc c d m
  | .bad => .bad
/-! ## tables of code objects: which they are is told by a fragment's last entry -/
def untab : List Value → List (Addr × Str)
  | .ref P :: .str q _ :: r => (P, q) :: untab r
  | _ => []
def tabsOf (K : Kf) : List (Addr × Str) := match K.getLast? with
  | some (_, o) => match o.data with
    | .fields vs => untab vs.toList
    | _ => []
  | none => []
def plainO (o : HO) : Prop := (∃ vs, o = .lst vs) ∨ (∃ w, o = .dK w) ∨ ∃ w, o = .dT w
theorem tabs_keep {T : List (Addr × Str)} {H H' : Hp} (t : LamX.Tabs T H) (k : ∀ a x, H a = some x → ¬ plainO x → H' a = some x) : LamX.Tabs T H' := fun p hp => by
  obtain ⟨ps, h1, h2, h3⟩ := t p hp
  refine ⟨ps, k _ _ h1 ?_, h2, fun pos cv hc => ?_⟩
  · rintro (⟨_, e⟩ | ⟨_, e⟩ | ⟨_, e⟩) <;> cases e
  · obtain ⟨c, e1, e2⟩ := h3 pos cv hc
    refine ⟨c, e1, k _ _ e2 ?_⟩
    unfold LamX.CodeO
    rintro (⟨_, e⟩ | ⟨_, e⟩ | ⟨_, e⟩) <;> cases e
section
variable {K : Kf} {F H : Hp}
mutual
theorem Own.plain : ∀ (s : SV) (v : V) (q : List Addr), Own K F H s v q → ∀ a ∈ q, ∃ o, H a = some o ∧ plainO o
  | .fz d, v, q, ⟨h, hq⟩, a, m => by subst hq; cases m
  | .ol xs, v, q, ⟨a, vs, r, hv, ha, hr, hq⟩, b, m => by
    subst hq
    rcases List.mem_cons.mp m with rfl | m
    · exact ⟨_, ha, .inl ⟨_, rfl⟩⟩
    · exact OwnL.plain xs vs r hr b m
  | .ok xs, v, q, ⟨a, vs, r, hv, ha, hr, hq⟩, b, m => by
    subst hq
    rcases List.mem_cons.mp m with rfl | m
    · exact ⟨_, ha, .inr (.inl ⟨_, rfl⟩)⟩
    · exact OwnK.plain xs vs r hr b m
  | .ot xs, v, q, ⟨a, vs, r, hv, ha, hr, hq⟩, b, m => by
    subst hq
    rcases List.mem_cons.mp m with rfl | m
    · exact ⟨_, ha, .inr (.inr ⟨_, rfl⟩)⟩
    · exact OwnT.plain xs vs r hr b m
theorem OwnL.plain : ∀ (s : List SV) (v : List V) (q : List Addr), OwnL K F H s v q → ∀ a ∈ q, ∃ o, H a = some o ∧ plainO o
  | [], _, _, ⟨_, h⟩, a, m => by subst h; cases m
  | x :: xs, _, _, ⟨v, r, q1, q2, hv, h1, h2, hq⟩, a, m => by
    subst hq
    rcases List.mem_append.mp m with m | m
    · exact Own.plain x v q1 h1 a m
    · exact OwnL.plain xs r q2 h2 a m
theorem OwnK.plain : ∀ (s : List (Key × SV)) (v : List (Key × V)) (q : List Addr), OwnK K F H s v q → ∀ a ∈ q, ∃ o, H a = some o ∧ plainO o
  | [], _, _, ⟨_, h⟩, a, m => by subst h; cases m
  | (_, x) :: xs, _, _, ⟨v, r, q1, q2, hv, h1, h2, hq⟩, a, m => by
    subst hq
    rcases List.mem_append.mp m with m | m
    · exact Own.plain x v q1 h1 a m
    · exact OwnK.plain xs r q2 h2 a m
theorem OwnT.plain : ∀ (s : List (List Key × SV)) (v : List (List Key × V)) (q : List Addr), OwnT K F H s v q → ∀ a ∈ q, ∃ o, H a = some o ∧ plainO o
  | [], _, _, ⟨_, h⟩, a, m => by subst h; cases m
  | (_, x) :: xs, _, _, ⟨v, r, q1, q2, hv, h1, h2, hq⟩, a, m => by
    subst hq
    rcases List.mem_append.mp m with m | m
    · exact Own.plain x v q1 h1 a m
    · exact OwnT.plain xs r q2 h2 a m
end
end
/-- nothing is there, or a tuple (which nobody changes) -/
def NF (G : Hp) (a : Addr) : Prop := G a = none ∨ ∃ vs, G a = some (.tup vs)
theorem NF.sub {G G' : Hp} {a : Addr} (s : Same G G') (h : NF G' a) : NF G a := by
  cases e : G a with
  | none => exact .inl e
  | some x =>
    have e2 := s a x e
    rcases h with h | ⟨vs, h⟩
    · rw [h] at e2; cases e2
    · rw [h] at e2; cases e2; exact .inr ⟨vs, e⟩
theorem plain_tup {o : HO} (h : plainO o) (vs : List V) : o ≠ .tup vs := by
  rintro rfl
  rcases h with ⟨_, e⟩ | ⟨_, e⟩ | ⟨_, e⟩ <;> cases e
structure StF (K : Kf) (F0 G : Hp) (π : List V) (m : M) (σ : L2.St) (F H : Hp) (fp : Ow → List Addr) : Prop where
  len : m.sl.length = σ.length
  plen : m.pp.length = π.length
  sub : Same F H
  base : Same G H
  mono : Same F0 F
  new : ∀ a, F a ≠ none → F0 a ≠ none ∨ NF G a
  own : ∀ o s, get m o = some s → ∃ v, refO σ π o = some v ∧ Own K F H s v (fp o)
  non : ∀ o, get m o = none → fp o = []
  ali : ∀ (i k : Nat), m.sl[i]? = some (some (Sl.pa k)) → ∃ v, π[k]? = some v ∧ σ[i]? = some (some v)
  nd : ∀ o, (fp o).Nodup
  dj : ∀ o o' a, a ∈ fp o → a ∈ fp o' → o = o'
  fr : ∀ o a, a ∈ fp o → F a = none ∧ G a = none
  ntF : ∀ a ps, F a ≠ some (.tbl ps)
  ntG : ∀ a ps, G a ≠ some (.tbl ps)
  tab : LamX.Tabs (tabsOf K) H
def EvF (K : Kf) (G : Hp) (π : List V) (σ : L2.St) (F H : Hp) (fp : Ow → List Addr) (N : Addr → Prop) (v : V) : EV → Prop
  | .v d => Rep K F d v
  | .br o p => ∃ w, refO σ π o = some w ∧ PathH H w p v
  | .fr s => ∃ q, Own K F H s v q ∧ q.Nodup ∧ ∀ a ∈ q, F a = none ∧ G a = none ∧ (∀ o, a ∉ fp o) ∧ N a
/-- what an evaluated thing holds -/
def view (m : M) : EV → Option SV
  | .v d => some (.fz d)
  | .br o p => (get m o).bind fun s => sub s p
  | .fr s => some s
/-- at v stands s -/
def Cont (K : Kf) (F H : Hp) (s : SV) (v : V) : Prop := ∃ q, Own K F H s v q
theorem same_ne {A B : Hp} (e : Same A B) {a : Addr} (h : A a ≠ none) : B a ≠ none := by
  cases q : A a with
  | none => exact absurd q h
  | some o => rw [e a o q]; exact Option.some_ne_none _
theorem same_of {A B : Hp} (e : Same A B) {a : Addr} (h : A a ≠ none) : B a = A a := by
  cases q : A a with
  | none => exact absurd q h
  | some o => rw [e a o q]
theorem same_new {H : Hp} {p : Addr} {o : HO} (h : H p = none) : Same H (upd H p o) := fun b x e => by
  rw [upd_ne (ne_of_none e h)]
  exact e
theorem same_none {A B : Hp} (e : Same A B) {a : Addr} (h : B a = none) : A a = none := e.free h
section
variable {K : Kf} {F0 G : Hp} {π : List V} {m : M} {σ : L2.St} {F H : Hp} {fp : Ow → List Addr} {N : Addr → Prop}
theorem StF.there (S : StF K F0 G π m σ F H fp) {o : Ow} {a : Addr} (h : a ∈ fp o) : H a ≠ none := by
  cases e : get m o with
  | none => rw [S.non o e] at h; cases h
  | some s =>
    obtain ⟨v, _, w⟩ := S.own o s e
    exact w.there _ _ _ a h
theorem StF.view (S : StF K F0 G π m σ F H fp) {ev : EV} {v : V} (h : EvF K G π σ F H fp N v ev) {s : SV} (e : view m ev = some s) : Cont K F H s v := by
  cases ev with
  | v d =>
    simp [PD.view] at e; subst e
    exact ⟨[], h, rfl⟩
  | fr s' =>
    simp [PD.view] at e; subst e
    obtain ⟨q, h, _⟩ := h
    exact ⟨q, h⟩
  | br o p =>
    simp only [PD.view] at e
    cases eg : get m o with
    | none => rw [eg] at e; cases e
    | some r =>
      rw [eg] at e
      obtain ⟨w, hw, hp⟩ := h
      obtain ⟨w', hw', ho⟩ := S.own o r eg
      rw [hw] at hw'; cases hw'
      obtain ⟨u, g, pu, ou, _⟩ := own_put p ho (S.nd o) e
      have := PathH.fun p _ _ _ hp pu
      subst this
      exact ⟨g, ou⟩
/-- the heap grows -/
theorem StF.plain (S : StF K F0 G π m σ F H fp) {o : Ow} {a : Addr} (h : a ∈ fp o) : ∃ x, H a = some x ∧ plainO x := by
  cases e : get m o with
  | none => rw [S.non o e] at h; cases h
  | some s =>
    obtain ⟨v, _, w⟩ := S.own o s e
    exact w.plain _ _ _ a h
theorem StF.grow (S : StF K F0 G π m σ F H fp) {F' H' : Hp} (eF : Same F F') (eH : Same H H') (sub : Same F' H') (new : ∀ a, F' a ≠ none → F a ≠ none ∨ H a = none) (nt : ∀ a ps, F' a ≠ some (.tbl ps)) : StF K F0 G π m σ F' H' fp := by
  have nf : ∀ o a, a ∈ fp o → F' a = none := fun o a h => by
    cases q : F' a with
    | none => rfl
    | some x =>
      rcases new a (by rw [q]; exact Option.some_ne_none _) with z | z
      · exact absurd (S.fr o a h).1 z
      · exact absurd z (S.there h)
  refine ⟨S.len, S.plen, sub, S.base.trans eH, S.mono.trans eF, fun a h => ?_, fun o s e => ?_, S.non, S.ali, S.nd, S.dj, fun o a h => ⟨nf o a h, (S.fr o a h).2⟩, nt, S.ntG, S.tab.ext eH⟩
  · rcases new a h with z | z
    · exact S.new a z
    · exact .inr (.inl (same_none S.base z))
  · obtain ⟨v, h1, h2⟩ := S.own o s e
    exact ⟨v, h1, h2.keep eF _ _ _ fun a ha => same_of eH (S.there ha)⟩
theorem StF.allocF (S : StF K F0 G π m σ F H fp) {p : Addr} (o : HO) (hp : H p = none) (ho : ∀ ps, o ≠ .tbl ps := by intro _ h; cases h) : StF K F0 G π m σ (upd F p o) (upd H p o) fp := by
  refine S.grow (same_new (same_none S.sub hp)) (same_new hp) (fun a x e => ?_) (fun a h => ?_) (fun a ps e => ?_)
  · by_cases e' : a = p
    · subst e'; rw [upd_same] at e ⊢; exact e
    · rw [upd_ne e'] at e ⊢; exact S.sub a x e
  · by_cases e' : a = p
    · subst e'; exact .inr hp
    · rw [upd_ne e'] at h; exact .inl h
  · by_cases e' : a = p
    · subst e'; rw [upd_same] at e; exact ho ps (Option.some.inj e)
    · rw [upd_ne e'] at e; exact S.ntF a ps e
theorem StF.allocO (S : StF K F0 G π m σ F H fp) {p : Addr} (o : HO) (hp : H p = none) : StF K F0 G π m σ F (upd H p o) fp :=
  S.grow (Same.refl F) (same_new hp) (S.sub.trans (same_new hp)) (fun a h => .inl h) S.ntF
theorem StF.freshG (S : StF K F0 G π m σ F H fp) {p : Addr} (hp : H p = none) : F p = none ∧ G p = none ∧ ∀ o, p ∉ fp o :=
  ⟨same_none S.sub hp, same_none S.base hp, fun o h => S.there h hp⟩
/-- what is evaluated stays, while the heap grows -/
theorem EvF.imp {v : V} {ev : EV} {N' : Addr → Prop} (h : EvF K G π σ F H fp N v ev) (k : ∀ a, N a → N' a) : EvF K G π σ F H fp N' v ev := by
  cases ev with
  | v d => exact h
  | br o p => exact h
  | fr s =>
    obtain ⟨q, h1, h2, h3⟩ := h
    exact ⟨q, h1, h2, fun a ha => ⟨(h3 a ha).1, (h3 a ha).2.1, (h3 a ha).2.2.1, k a (h3 a ha).2.2.2⟩⟩
theorem EvF.grow {v : V} {ev : EV} (S : StF K F0 G π m σ F H fp) (h : EvF K G π σ F H fp N v ev) {F' H' : Hp} (eF : Same F F') (eH : Same H H') (new : ∀ a, F' a ≠ none → F a ≠ none ∨ H a = none) : EvF K G π σ F' H' fp N v ev := by
  cases ev with
  | v d => exact Rep.mono eF d v h
  | br o p =>
    obtain ⟨w, h1, h2⟩ := h
    exact ⟨w, h1, h2.mono eH⟩
  | fr s =>
    obtain ⟨q, h1, h2, h3⟩ := h
    refine ⟨q, h1.keep eF _ _ _ fun a ha => same_of eH (h1.there _ _ _ a ha), h2, fun a ha => ⟨?_, (h3 a ha).2⟩⟩
    cases e : F' a with
    | none => rfl
    | some x =>
      rcases new a (by rw [e]; exact Option.some_ne_none _) with z | z
      · exact absurd (h3 a ha).1 z
      · exact absurd z (h1.there _ _ _ a ha)
open Classical in
/-- F with what stands at q -/
noncomputable def addF (F H : Hp) (q : List Addr) : Hp := fun a => if a ∈ q then H a else F a
theorem addF_in {F H : Hp} {q : List Addr} {a : Addr} (h : a ∈ q) : addF F H q a = H a := if_pos h
theorem addF_out {F H : Hp} {q : List Addr} {a : Addr} (h : a ∉ q) : addF F H q a = F a := if_neg h
theorem addF_same {F H : Hp} {q : List Addr} (h : ∀ a ∈ q, F a = none) : Same F (addF F H q) := fun a x e => by
  rw [addF_out]
  · exact e
  · intro z; rw [h a z] at e; cases e
theorem addF_sub {F H : Hp} {q : List Addr} (s : Same F H) : Same (addF F H q) H := fun a x e => by
  by_cases z : a ∈ q
  · rw [addF_in z] at e; exact e
  · rw [addF_out z] at e; exact s a x e
/-- what is new and owned is frozen -/
theorem StF.freeze (S : StF K F0 G π m σ F H fp) {s : SV} {v : V} (h : EvF K G π σ F H fp N v (.fr s)) : ∃ F', StF K F0 G π m σ F' H fp ∧ Rep K F' (frz s) v ∧ Same F F' ∧ ∀ a, F' a ≠ none → F a ≠ none ∨ N a := by
  obtain ⟨q, h1, h2, h3⟩ := h
  have eF : Same F (addF F H q) := addF_same fun a ha => (h3 a ha).1
  refine ⟨addF F H q, ⟨S.len, S.plen, addF_sub S.sub, S.base, S.mono.trans eF, fun a ha => ?_, fun o s e => ?_, S.non, S.ali, S.nd, S.dj, fun o a ha => ⟨?_, (S.fr o a ha).2⟩, fun a ps e => ?_, S.ntG, S.tab⟩, h1.frz eF _ _ _ fun a ha => addF_in ha, eF, fun a ha => ?_⟩
  · by_cases z : a ∈ q
    · exact .inr (.inl (h3 a z).2.1)
    · rw [addF_out z] at ha; exact S.new a ha
  · obtain ⟨w, e1, e2⟩ := S.own o s e
    exact ⟨w, e1, e2.keep eF _ _ _ fun _ _ => rfl⟩
  · rw [addF_out fun z => (h3 a z).2.2.1 o ha]
    exact (S.fr o a ha).1
  · by_cases z : a ∈ q
    · rw [addF_in z] at e
      obtain ⟨x, hx, hp⟩ := h1.plain _ _ _ a z
      rw [hx] at e
      cases e
      rcases hp with ⟨_, e⟩ | ⟨_, e⟩ | ⟨_, e⟩ <;> cases e
    · rw [addF_out z] at e
      exact S.ntF a ps e
  · by_cases z : a ∈ q
    · exact .inr (h3 a z).2.2.2
    · rw [addF_out z] at ha; exact .inl ha
theorem get_set_s {m : M} {i : Nat} {x : Option Sl} (hi : i < m.sl.length) (j : Nat) : get { m with sl := m.sl.set i x } (.s j) = if j = i then (match x with | some (Sl.sv s) => some s | _ => none) else get m (.s j) := by
  unfold get
  by_cases e : j = i
  · subst e
    simp only [List.getElem?_set_self hi, if_true]
    cases x with
    | none => rfl
    | some y => cases y <;> rfl
  · simp only [List.getElem?_set_ne (Ne.symm e), if_neg e]
theorem refO_set {σ : L2.St} {π : List V} {i : Nat} {x : Option V} (hi : i < σ.length) (j : Nat) : refO (σ.set i x) π (.s j) = if j = i then x else refO σ π (.s j) := by
  unfold refO
  by_cases e : j = i
  · subst e
    simp only [List.getElem?_set_self hi, if_true]
    cases x <;> rfl
  · simp only [List.getElem?_set_ne (Ne.symm e), if_neg e]
theorem set_out {α : Type} {l : List α} {i : Nat} {x : α} (h : ¬ i < l.length) : l.set i x = l := List.set_eq_of_length_le (Nat.le_of_not_lt h)
/-- slot i is stored: nothing, a frozen thing, an owned one, or an alias of an argument -/
theorem StF.store (S : StF K F0 G π m σ F H fp) (i : Nat) (x : Option Sl) (v : Option V) (q : List Addr)
    (hx : ∀ s, x = some (Sl.sv s) → ∃ w, v = some w ∧ Own K F H s w q) (hn : (∀ s, x ≠ some (Sl.sv s)) → q = []) (ha : ∀ k, x = some (Sl.pa k) → ∃ w, π[k]? = some w ∧ v = some w)
    (nd : q.Nodup) (fr : ∀ a ∈ q, F a = none ∧ G a = none ∧ ∀ o, o ≠ Ow.s i → a ∉ fp o) (hi : i < m.sl.length ∨ q = []) :
    StF K F0 G π { m with sl := m.sl.set i x } (σ.set i v) F H (fun o => if o = .s i then (if i < m.sl.length then q else []) else fp o) := by
  by_cases hl : i < m.sl.length
  · have hs : i < σ.length := by rw [← S.len]; exact hl
    simp only [if_pos hl]
    refine ⟨by simp [S.len], S.plen, S.sub, S.base, S.mono, S.new, fun o s e => ?_, fun o e => ?_, fun j k e => ?_, fun o => ?_, fun o o' a h h' => ?_, fun o a h => ?_, S.ntF, S.ntG, S.tab⟩
    · cases o with
      | p k => exact S.own (.p k) s e
      | s j =>
        rw [get_set_s hl] at e
        rw [refO_set hs]
        by_cases ej : j = i
        · subst ej
          rw [if_pos rfl] at e ⊢
          rw [if_pos rfl]
          cases x with
          | none => cases e
          | some y =>
            cases y with
            | pa k => cases e
            | sv s' =>
              cases e
              obtain ⟨w, e1, e2⟩ := hx _ rfl
              exact ⟨w, e1, e2⟩
        · rw [if_neg ej] at e ⊢
          rw [if_neg (fun z => ej (Ow.s.inj z))]
          exact S.own (.s j) s e
    · cases o with
      | p k =>
        rw [if_neg (fun z => nomatch z)]
        exact S.non (.p k) e
      | s j =>
        rw [get_set_s hl] at e
        by_cases ej : j = i
        · subst ej
          rw [if_pos rfl] at e ⊢
          refine hn fun s z => ?_
          subst z
          cases e
        · rw [if_neg ej] at e
          rw [if_neg (fun z => ej (Ow.s.inj z))]
          exact S.non (.s j) e
    · by_cases ej : j = i
      · subst ej
        have e' : x = some (Sl.pa k) := by simpa [List.getElem?_set_self hl] using e
        obtain ⟨w, h1, h2⟩ := ha k e'
        exact ⟨w, h1, by rw [List.getElem?_set_self hs, h2]⟩
      · have e' : m.sl[j]? = some (some (Sl.pa k)) := by simpa [List.getElem?_set_ne (Ne.symm ej)] using e
        obtain ⟨w, h1, h2⟩ := S.ali j k e'
        exact ⟨w, h1, by rw [List.getElem?_set_ne (Ne.symm ej)]; exact h2⟩
    · by_cases ej : o = .s i
      · rw [if_pos ej]; exact nd
      · rw [if_neg ej]; exact S.nd o
    · by_cases e1 : o = .s i
      · rw [if_pos e1] at h
        by_cases e2 : o' = .s i
        · rw [e1, e2]
        · rw [if_neg e2] at h'
          exact absurd h' ((fr a h).2.2 o' e2)
      · rw [if_neg e1] at h
        by_cases e2 : o' = .s i
        · rw [if_pos e2] at h'
          exact absurd h ((fr a h').2.2 o e1)
        · rw [if_neg e2] at h'
          exact S.dj o o' a h h'
    · by_cases e1 : o = .s i
      · rw [if_pos e1] at h
        exact ⟨(fr a h).1, (fr a h).2.1⟩
      · rw [if_neg e1] at h
        exact S.fr o a h
  · have hs : ¬ i < σ.length := by rw [← S.len]; exact hl
    simp only [if_neg hl, set_out hl, set_out hs]
    have e : get m (.s i) = none := by
      simp [get, List.getElem?_eq_none (Nat.le_of_not_lt hl)]
    have ez : fp (.s i) = [] := S.non _ e
    have ef : (fun o => if o = Ow.s i then [] else fp o) = fp := by
      funext o
      by_cases z : o = .s i
      · rw [if_pos z, z, ez]
      · rw [if_neg z]
    rw [ef]
    exact S
/-- a frozen thing is stored -/
theorem StF.storeF (S : StF K F0 G π m σ F H fp) (i : Nat) {d : D} {v : V} (h : Rep K F d v) : ∃ fp', StF K F0 G π { m with sl := m.sl.set i (some (.sv (.fz d))) } (σ.set i (some v)) F H fp' :=
  ⟨_, S.store i _ _ [] (fun s e => by cases e; exact ⟨v, rfl, h, rfl⟩) (fun h => rfl) (fun k e => by cases e) List.nodup_nil (fun a h => by cases h) (.inr rfl)⟩
theorem StF.clear (S : StF K F0 G π m σ F H fp) (i : Nat) : ∃ fp', StF K F0 G π { m with sl := m.sl.set i none } (σ.set i none) F H fp' :=
  ⟨_, S.store i none none [] (fun s e => by cases e) (fun h => rfl) (fun k e => by cases e) List.nodup_nil (fun a h => by cases h) (.inr rfl)⟩
/-- a new owned thing is stored -/
theorem StF.storeO (S : StF K F0 G π m σ F H fp) {i : Nat} (hi : i < m.sl.length) {s : SV} {v : V} (h : EvF K G π σ F H fp N v (.fr s)) : ∃ fp', StF K F0 G π { m with sl := m.sl.set i (some (Sl.sv s)) } (σ.set i (some v)) F H fp' := by
  obtain ⟨q, h1, h2, h3⟩ := h
  exact ⟨_, S.store i _ _ q (fun s e => by cases e; exact ⟨v, rfl, h1⟩) (fun h => absurd rfl (h s)) (fun k e => by cases e) h2 (fun a ha => ⟨(h3 a ha).1, (h3 a ha).2.1, fun o _ => (h3 a ha).2.2.1 o⟩) (.inl hi)⟩
theorem StF.storeA (S : StF K F0 G π m σ F H fp) (i : Nat) {k : Nat} {v : V} (h : π[k]? = some v) : ∃ fp', StF K F0 G π { m with sl := m.sl.set i (some (Sl.pa k)) } (σ.set i (some v)) F H fp' :=
  ⟨_, S.store i _ _ [] (fun s e => by cases e) (fun h => rfl) (fun j e => by cases e; exact ⟨v, h, rfl⟩) List.nodup_nil (fun a h => by cases h) (.inr rfl)⟩
theorem get_setO {m : M} {o : Ow} {s r : SV} (h : get m o = some r) (o' : Ow) : get (setO m o s) o' = if o' = o then some s else get m o' := by
  cases o with
  | s i =>
    have hi : i < m.sl.length := by
      apply Decidable.byContradiction
      intro z
      simp [get, List.getElem?_eq_none (Nat.le_of_not_lt z)] at h
    cases o' with
    | p k => rw [if_neg (fun z => nomatch z)]; rfl
    | s j =>
      show get { m with sl := m.sl.set i (some (Sl.sv s)) } (.s j) = _
      rw [get_set_s hi]
      by_cases e : j = i
      · rw [if_pos e, if_pos (congrArg Ow.s e)]
      · rw [if_neg e, if_neg (fun z => e (Ow.s.inj z))]
  | p k =>
    have hk : k < m.pp.length := by
      apply Decidable.byContradiction
      intro z
      have : m.pp[k]? = some r := h
      rw [List.getElem?_eq_none (Nat.le_of_not_lt z)] at this
      cases this
    cases o' with
    | s i => rw [if_neg (fun z => nomatch z)]; rfl
    | p j =>
      show (m.pp.set k s)[j]? = _
      by_cases e : j = k
      · subst e; rw [if_pos rfl, List.getElem?_set_self hk]
      · rw [if_neg (fun z => e (Ow.p.inj z)), List.getElem?_set_ne (Ne.symm e)]; rfl
/-- an owned thing is changed as a whole: its content, the heap at its own parts -/
theorem StF.change (S : StF K F0 G π m σ F H fp) {o : Ow} {r s : SV} (hg : get m o = some r) {v : V} (hv : refO σ π o = some v) {F' H' : Hp} {q : List Addr} (eF : Same F F') (sub : Same F' H') (new : ∀ a, F' a ≠ none → F0 a ≠ none ∨ NF G a)
    (k : ∀ a x, H a = some x → a ∉ fp o → H' a = some x) (ho : Own K F' H' s v q) (nd : q.Nodup) (fr : ∀ a ∈ q, a ∈ fp o ∨ (G a = none ∧ ∀ o', a ∉ fp o')) (fr2 : ∀ a ∈ q, F' a = none) (fr3 : ∀ o' a, o' ≠ o → a ∈ fp o' → F' a = none) (nt : ∀ a ps, F' a ≠ some (.tbl ps)) :
    StF K F0 G π (setO m o s) σ F' H' (fun o' => if o' = o then q else fp o') := by
  have hne : ∀ o', o' ≠ o → ∀ a ∈ fp o', H' a = H a := fun o' ne a ha => by
    cases e : H a with
    | none => exact absurd e (S.there ha)
    | some x => exact k a x e fun z => ne (S.dj o' o a ha z)
  refine ⟨?_, ?_, sub, fun a x e => k a x (S.base a x e) fun z => ?_, S.mono.trans eF, new, fun o' s' e => ?_, fun o' e => ?_, fun i j e => ?_, fun o' => ?_, fun o1 o2 a h1 h2 => ?_, fun o' a h => ?_, nt, S.ntG, tabs_keep S.tab fun a x e hp => k a x e fun z => ?_⟩
  · cases o <;> simp [setO, S.len]
  · cases o <;> simp [setO, S.plen]
  · rw [(S.fr o a z).2] at e; cases e
  · rw [get_setO hg] at e
    by_cases eo : o' = o
    · rw [if_pos eo] at e ⊢
      cases e
      subst eo
      exact ⟨v, hv, ho⟩
    · rw [if_neg eo] at e ⊢
      obtain ⟨w, e1, e2⟩ := S.own o' s' e
      exact ⟨w, e1, e2.keep eF _ _ _ fun a ha => hne o' eo a ha⟩
  · rw [get_setO hg] at e
    by_cases eo : o' = o
    · rw [if_pos eo] at e; cases e
    · rw [if_neg eo] at e ⊢
      exact S.non o' e
  · refine S.ali i j ?_
    cases o with
    | p k => exact e
    | s i' =>
      have e' : (m.sl.set i' (some (Sl.sv s)))[i]? = some (some (Sl.pa j)) := e
      by_cases z : i = i'
      · subst z
        have hi : i < m.sl.length := by
          apply Decidable.byContradiction
          intro z
          rw [List.getElem?_eq_none (by simpa using Nat.le_of_not_lt z)] at e'
          cases e'
        rw [List.getElem?_set_self hi] at e'
        cases e'
      · rw [List.getElem?_set_ne (Ne.symm z)] at e'
        exact e'
  · by_cases eo : o' = o
    · rw [if_pos eo]; exact nd
    · rw [if_neg eo]; exact S.nd o'
  · by_cases e1 : o1 = o
    · rw [if_pos e1] at h1
      by_cases e2 : o2 = o
      · rw [e1, e2]
      · rw [if_neg e2] at h2
        rcases fr a h1 with z | z
        · exact absurd (S.dj o2 o a h2 z) e2
        · exact absurd h2 (z.2 o2)
    · rw [if_neg e1] at h1
      by_cases e2 : o2 = o
      · rw [if_pos e2] at h2
        rcases fr a h2 with z | z
        · exact absurd (S.dj o1 o a h1 z) e1
        · exact absurd h1 (z.2 o1)
      · rw [if_neg e2] at h2
        exact S.dj o1 o2 a h1 h2
  · by_cases e1 : o' = o
    · rw [if_pos e1] at h
      refine ⟨fr2 a h, ?_⟩
      rcases fr a h with z | z
      · exact (S.fr o a z).2
      · exact z.1
    · rw [if_neg e1] at h
      exact ⟨fr3 o' a e1 h, (S.fr o' a h).2⟩
  · obtain ⟨y, hy, hpy⟩ := S.plain z
    rw [e] at hy
    cases hy
    exact hp hpy
end
end PD
namespace PD
open PySem PySem.Spec PyProof.Rows L2
/-! ## judgements: a reading and its denotation -/
def frE : EV → EV
  | .fr s => .v (frz s)
  | e => e
/-- an operand: what is new is frozen -/
def opd (g : M → Out EV) (m : M) : Out EV := (g m).bind fun ev m' => .ok (frE ev) m'
/-- a wish for exceptions, by the slots -/
abbrev XS := L2.St → XK
abbrev XS0 : XS := fun _ _ _ _ => False
def ExcW (K : Kf) (mg : Str → Option Value) (F0 G : Hp) (π : List V) (E : XS) (σ : L2.St) (c : Str) (d : D) (m' : M) : Prop :=
  ∀ C dx v F' H' fp', mg c = some (.ref C) → StF K F0 G π m' σ F' H' fp' → H' dx = some (.xd [(("thing" : Str), v)]) → Rep K F' d v → E σ (.ref C) (some dx) H'
structure Ch (pu : Bool) (m m' : M) (F H F' H' : Hp) (fp fp' : Ow → List Addr) : Prop where
  ext : Same F F'
  pure : pu = true → m' = m ∧ fp' = fp ∧ Same H H' ∧ ∀ a, F' a ≠ none → F a ≠ none ∨ H a = none
theorem Ch.refl {pu : Bool} {m : M} {F H : Hp} {fp : Ow → List Addr} : Ch pu m m F H F H fp fp := ⟨Same.refl F, fun _ => ⟨rfl, rfl, Same.refl H, fun _ h => .inl h⟩⟩
theorem Ch.trans {p q : Bool} {m m1 m2 : M} {F H F1 H1 F2 H2 : Hp} {fp fp1 fp2 : Ow → List Addr} (a : Ch p m m1 F H F1 H1 fp fp1) (b : Ch q m1 m2 F1 H1 F2 H2 fp1 fp2) : Ch (p && q) m m2 F H F2 H2 fp fp2 := by
  refine ⟨a.ext.trans b.ext, fun h => ?_⟩
  rw [Bool.and_eq_true] at h
  obtain ⟨a1, a2, a3, a4⟩ := a.pure h.1
  obtain ⟨b1, b2, b3, b4⟩ := b.pure h.2
  refine ⟨b1.trans a1, b2.trans a2, a3.trans b3, fun x hx => ?_⟩
  rcases b4 x hx with z | z
  · exact a4 x z
  · exact .inr (same_none a3 z)
theorem Ch.mono {p q : Bool} {m m1 : M} {F H F1 H1 : Hp} {fp fp1 : Ow → List Addr} (a : Ch p m m1 F H F1 H1 fp fp1) (h : q = true → p = true) : Ch q m m1 F H F1 H1 fp fp1 := ⟨a.ext, fun z => a.pure (h z)⟩
def NewA (pu : Bool) (H : Hp) : Addr → Prop := fun a => pu = true → H a = none
def PostE (K : Kf) (mg : Str → Option Value) (E : XS) (pu : Bool) (F0 G : Hp) (π : List V) (m : M) (σ : L2.St) (F H : Hp) (fp : Ow → List Addr) (Q : VK) : Out EV → Prop
  | .ok ev m' => ∀ v F' H' fp', StF K F0 G π m' σ F' H' fp' → Ch pu m m' F H F' H' fp fp' → EvF K G π σ F' H' fp' (NewA pu H) v ev → Q v H'
  | .exc c d m' => ExcW K mg F0 G π E σ c d m'
  | .bad => False
def TEok (K : Kf) (mg : Str → Option Value) (E : XS) (pu : Bool) (t : TE) (g : M → Out EV) : Prop :=
  ∀ F0 G π m σ F H fp (Q : VK), StF K F0 G π m σ F H fp → PostE K mg E pu F0 G π m σ F H fp Q (g m) → t σ H Q
inductive EvFs (K : Kf) (G : Hp) (π : List V) (σ : L2.St) (F H : Hp) (fp : Ow → List Addr) (N : Addr → Prop) : List V → List EV → Prop
  | nil : EvFs K G π σ F H fp N [] []
  | cons {v : V} {vs : List V} {e : EV} {es : List EV} : EvF K G π σ F H fp N v e → EvFs K G π σ F H fp N vs es → EvFs K G π σ F H fp N (v :: vs) (e :: es)
def PostA (K : Kf) (mg : Str → Option Value) (E : XS) (pu : Bool) (F0 G : Hp) (π : List V) (m : M) (σ : L2.St) (F H : Hp) (fp : Ow → List Addr) (Q : List V → Hp → Prop) : Out (List EV) → Prop
  | .ok evs m' => ∀ vs F' H' fp', StF K F0 G π m' σ F' H' fp' → Ch pu m m' F H F' H' fp fp' → EvFs K G π σ F' H' fp' (fun _ => False) vs evs → Q vs H'
  | .exc c d m' => ExcW K mg F0 G π E σ c d m'
  | .bad => False
def TAok (K : Kf) (mg : Str → Option Value) (E : XS) (pu : Bool) (t : TA) (g : M → Out (List EV)) : Prop :=
  ∀ F0 G π m σ F H fp (Q : List V → Hp → Prop), StF K F0 G π m σ F H fp → PostA K mg E pu F0 G π m σ F H fp Q (g m) → t σ H Q
def PostT (K : Kf) (mg : Str → Option Value) (E : XS) (pu : Bool) (F0 G : Hp) (π : List V) (m : M) (σ : L2.St) (F H : Hp) (fp : Ow → List Addr) (Q : Bool → Hp → Prop) : Out Bool → Prop
  | .ok b m' => ∀ F' H' fp', StF K F0 G π m' σ F' H' fp' → Ch pu m m' F H F' H' fp fp' → Q b H'
  | .exc c d m' => ExcW K mg F0 G π E σ c d m'
  | .bad => False
def TTok (K : Kf) (mg : Str → Option Value) (E : XS) (pu : Bool) (t : TT) (g : M → Out Bool) : Prop :=
  ∀ F0 G π m σ F H fp (Q : Bool → Hp → Prop), StF K F0 G π m σ F H fp → PostT K mg E pu F0 G π m σ F H fp Q (g m) → t σ H Q
inductive Ctl where
  | nx | rt (s : SV) | bk | ct
def PostS (K : Kf) (mg : Str → Option Value) (E : XS) (F0 G : Hp) (π : List V) (Dn : Ends) : Out Ctl → Prop
  | .ok .nx m' => ∀ σ' F' H' fp', StF K F0 G π m' σ' F' H' fp' → Dn.nx σ' H'
  | .ok (.rt s) m' => ∀ v σ' F' H' fp', StF K F0 G π m' σ' F' H' fp' → EvF K G π σ' F' H' fp' (fun _ => True) v (.fr s) → Dn.rt v H'
  | .ok .bk m' => ∀ σ' F' H' fp', StF K F0 G π m' σ' F' H' fp' → Dn.bk σ' H'
  | .ok .ct m' => ∀ σ' F' H' fp', StF K F0 G π m' σ' F' H' fp' → Dn.ct σ' H'
  | .exc c d m' => ∀ σ', ExcW K mg F0 G π E σ' c d m'
  | .bad => False
def TSok (K : Kf) (mg : Str → Option Value) (E : XS) (t : TS) (g : M → Out Ctl) : Prop :=
  ∀ F0 G π m σ F H fp (Dn : Ends), StF K F0 G π m σ F H fp → PostS K mg E F0 G π Dn (g m) → t Dn σ H
section
variable {K : Kf} {mg : Str → Option Value} {E : XS} {pa pb pc pu : Bool} {ta tb : TE} {ga gb : M → Out EV}
theorem TEok.opd (h : TEok K mg E pu ta ga) : TEok K mg E pu ta (opd ga) := fun F0 G π m σ F H fp Q S p => by
  refine h F0 G π m σ F H fp Q S ?_
  unfold PD.opd Out.bind at p
  cases e : ga m with
  | bad => rw [e] at p; exact p
  | exc c d m' => rw [e] at p; exact p
  | ok ev m' =>
    rw [e] at p
    intro v F' H' fp' S' c ev'
    cases ev with
    | v d => exact p v F' H' fp' S' c ev'
    | br o q => exact p v F' H' fp' S' c ev'
    | fr s =>
      obtain ⟨F2, S2, r, e2, n2⟩ := S'.freeze ev'
      refine p v F2 H' fp' S2 ⟨c.ext.trans e2, fun z => ?_⟩ r
      obtain ⟨c1, c2, c3, c4⟩ := c.pure z
      refine ⟨c1, c2, c3, fun a ha => ?_⟩
      rcases n2 a ha with w | w
      · exact c4 a w
      · exact .inr (w z)
def stable (pb : Bool) : EV → Bool
  | .br _ (_ :: _) => pb
  | _ => true
def nofr : EV → Bool
  | .fr _ => false
  | _ => true
theorem opd_nofr {m m' : M} {ev : EV} (h : opd ga m = .ok ev m') : nofr ev = true := by
  unfold opd Out.bind at h
  cases e : ga m with
  | bad => rw [e] at h; cases h
  | exc c d m' => rw [e] at h; cases h
  | ok ev' m1 =>
    rw [e] at h
    cases h
    cases ev' <;> rfl
/-- an operand stays while others are evaluated -/
theorem EvF.carry {G : Hp} {π : List V} {m m' : M} {σ : L2.St} {F H F' H' : Hp} {fp fp' : Ow → List Addr} {N N' : Addr → Prop} {v : V} {ev : EV} (h : EvF K G π σ F H fp N v ev) (n : nofr ev = true) (c : Ch pb m m' F H F' H' fp fp') (s : stable pb ev = true) : EvF K G π σ F' H' fp' N' v ev := by
  cases ev with
  | v d => exact Rep.mono c.ext d v h
  | fr s => cases n
  | br o p =>
    obtain ⟨w, h1, h2⟩ := h
    refine ⟨w, h1, ?_⟩
    cases p with
    | nil => exact h2
    | cons x p => exact h2.mono (c.pure s).2.2.1
/-- two operands and what is done with them -/
def dBin (pb : Bool) (ga gb : M → Out EV) (k : M → EV → EV → Out EV) (m : M) : Out EV :=
  (opd ga m).bind fun x m1 => (opd gb m1).bind fun y m2 => if stable pb x = true then k m2 x y else .bad
/-- r does what k tells, on two operands -/
def KOk2 (K : Kf) (mg : Str → Option Value) (E : XS) (pk : Bool) (r : R2) (k : M → EV → EV → Out EV) : Prop :=
  ∀ F0 G π m σ F H fp (Q : VK) x y ex ey, StF K F0 G π m σ F H fp → EvF K G π σ F H fp (fun _ => False) x ex → EvF K G π σ F H fp (fun _ => False) y ey → PostE K mg E pk F0 G π m σ F H fp Q (k m ex ey) → r x y H Q
theorem EvF.plain {G : Hp} {π : List V} {σ : L2.St} {F H : Hp} {fp : Ow → List Addr} {N N' : Addr → Prop} {v : V} {ev : EV} (h : EvF K G π σ F H fp N v ev) (n : nofr ev = true) : EvF K G π σ F H fp N' v ev := by
  cases ev with
  | v d => exact h
  | fr s => cases n
  | br o p => exact h
/-- what comes behind further steps -/
theorem PostE.weak {F0 G : Hp} {π : List V} {m m1 : M} {σ : L2.St} {F H F1 H1 : Hp} {fp fp1 : Ow → List Addr} {Q : VK} {r : Out EV} (c : Ch pa m m1 F H F1 H1 fp fp1) (p : PostE K mg E (pa && pb) F0 G π m σ F H fp Q r) : PostE K mg E pb F0 G π m1 σ F1 H1 fp1 Q r := by
  cases r with
  | bad => exact p
  | exc c d m' => exact p
  | ok ev m' =>
    intro v F' H' fp' S' c' e'
    refine p v F' H' fp' S' (c.trans c') (e'.imp fun a ha z => ?_)
    rw [Bool.and_eq_true] at z
    exact same_none (c.pure z.1).2.2.1 (ha z.2)
theorem te_op {r : R2} {k : M → EV → EV → Out EV} (ha : TEok K mg E pa ta ga) (hb : TEok K mg E pb tb gb) (hr : KOk2 K mg E pc r k) : TEok K mg E (pa && (pb && pc)) (tOp r ta tb) (dBin pb ga gb k) := fun F0 G π m σ F H fp Q S p => by
  refine ha.opd F0 G π m σ F H fp _ S ?_
  unfold dBin at p
  cases e : opd ga m with
  | bad => rw [e] at p; exact p
  | exc c d m' => rw [e] at p; exact p
  | ok ex m1 =>
    rw [e] at p
    intro x F1 H1 fp1 S1 c1 e1
    refine hb.opd F0 G π m1 σ F1 H1 fp1 _ S1 ?_
    have p : PostE K mg E _ F0 G π m σ F H fp Q ((opd gb m1).bind fun y m2 => if stable pb ex = true then k m2 ex y else .bad) := p
    cases e2 : opd gb m1 with
    | bad => rw [e2] at p; exact p
    | exc c d m' => rw [e2] at p; exact p
    | ok ey m2 =>
      rw [e2] at p
      intro y F2 H2 fp2 S2 c2 e3
      have p : PostE K mg E _ F0 G π m σ F H fp Q (if stable pb ex = true then k m2 ex ey else .bad) := p
      by_cases st : stable pb ex = true
      · rw [if_pos st] at p
        have p1 := PostE.weak (pa := pa && pb) (pb := pc) (c1.trans c2) (by rw [Bool.and_assoc]; exact p)
        exact hr F0 G π m2 σ F2 H2 fp2 Q x y ex ey S2 (e1.carry (opd_nofr e) c2 st) (e3.plain (opd_nofr e2)) p1
      · rw [if_neg st] at p; exact p.elim
/-- one operand -/
def dUn (ga : M → Out EV) (k : M → EV → Out EV) (m : M) : Out EV := (opd ga m).bind fun x m1 => k m1 x
def KOk1 (K : Kf) (mg : Str → Option Value) (E : XS) (pk : Bool) (r : V → Hp → VK → Prop) (k : M → EV → Out EV) : Prop :=
  ∀ F0 G π m σ F H fp (Q : VK) x ex, StF K F0 G π m σ F H fp → EvF K G π σ F H fp (fun _ => False) x ex → PostE K mg E pk F0 G π m σ F H fp Q (k m ex) → r x H Q
theorem te_un1 {r : V → Hp → VK → Prop} {k : M → EV → Out EV} (ha : TEok K mg E pa ta ga) (hr : KOk1 K mg E pc r k) : TEok K mg E (pa && pc) (fun σ H Q => ta σ H fun x H1 => r x H1 Q) (dUn ga k) := fun F0 G π m σ F H fp Q S p => by
  refine ha.opd F0 G π m σ F H fp _ S ?_
  unfold dUn at p
  cases e : opd ga m with
  | bad => rw [e] at p; exact p
  | exc c d m' => rw [e] at p; exact p
  | ok ex m1 =>
    rw [e] at p
    intro x F1 H1 fp1 S1 c1 e1
    exact hr F0 G π m1 σ F1 H1 fp1 Q x ex S1 (e1.plain (opd_nofr e)) (PostE.weak c1 p)
/-- argument lists -/
def dNil (m : M) : Out (List EV) := .ok [] m
def dCons (pb : Bool) (ga : M → Out EV) (gs : M → Out (List EV)) (m : M) : Out (List EV) :=
  (opd ga m).bind fun x m1 => (gs m1).bind fun xs m2 => if stable pb x = true then .ok (x :: xs) m2 else .bad
theorem ta_nil : TAok K mg E true tNil dNil := fun F0 G π m σ F H fp Q S p => p [] F H fp S Ch.refl .nil
theorem ta_cons {ts : TA} {gs : M → Out (List EV)} (ha : TEok K mg E pa ta ga) (hb : TAok K mg E pb ts gs) : TAok K mg E (pa && pb) (tCons ta ts) (dCons pb ga gs) := fun F0 G π m σ F H fp Q S p => by
  refine ha.opd F0 G π m σ F H fp _ S ?_
  unfold dCons at p
  cases e : opd ga m with
  | bad => rw [e] at p; exact p
  | exc c d m' => rw [e] at p; exact p
  | ok ex m1 =>
    rw [e] at p
    intro x F1 H1 fp1 S1 c1 e1
    refine hb F0 G π m1 σ F1 H1 fp1 _ S1 ?_
    have p : PostA K mg E _ F0 G π m σ F H fp Q ((gs m1).bind fun xs m2 => if stable pb ex = true then .ok (ex :: xs) m2 else .bad) := p
    cases e2 : gs m1 with
    | bad => rw [e2] at p; exact p
    | exc c d m' => rw [e2] at p; exact p
    | ok es m2 =>
      rw [e2] at p
      have p : PostA K mg E _ F0 G π m σ F H fp Q (if stable pb ex = true then .ok (ex :: es) m2 else .bad) := p
      intro vs F2 H2 fp2 S2 c2 e3
      by_cases st : stable pb ex = true
      · rw [if_pos st] at p
        exact p (x :: vs) F2 H2 fp2 S2 (c1.trans c2) (.cons (e1.carry (opd_nofr e) c2 st) e3)
      · rw [if_neg st] at p; exact p.elim
def KOkN (K : Kf) (mg : Str → Option Value) (E : XS) (pk : Bool) (r : L2.St → List V → Hp → VK → Prop) (k : M → List EV → Out EV) : Prop :=
  ∀ F0 G π m σ F H fp (Q : VK) xs es, StF K F0 G π m σ F H fp → EvFs K G π σ F H fp (fun _ => False) xs es → PostE K mg E pk F0 G π m σ F H fp Q (k m es) → r σ xs H Q
def dApp (gs : M → Out (List EV)) (k : M → List EV → Out EV) (m : M) : Out EV := (gs m).bind fun xs m1 => k m1 xs
theorem te_app {r : L2.St → List V → Hp → VK → Prop} {k : M → List EV → Out EV} {ts : TA} {gs : M → Out (List EV)} (hb : TAok K mg E pb ts gs) (hr : KOkN K mg E pc r k) : TEok K mg E (pb && pc) (fun σ H Q => ts σ H fun vs H1 => r σ vs H1 Q) (dApp gs k) := fun F0 G π m σ F H fp Q S p => by
  refine hb F0 G π m σ F H fp _ S ?_
  unfold dApp at p
  cases e : gs m with
  | bad => rw [e] at p; exact p
  | exc c d m' => rw [e] at p; exact p
  | ok es m1 =>
    rw [e] at p
    intro xs F1 H1 fp1 S1 c1 e1
    exact hr F0 G π m1 σ F1 H1 fp1 Q xs es S1 e1 (PostE.weak c1 p)
/-! ### names and constants -/
def dVar (i : Nat) (m : M) : Out EV := match m.sl[i]? with
  | some (some (.sv (.fz d))) => .ok (.v d) m
  | some (some (.sv _)) => .ok (.br (.s i) []) m
  | some (some (.pa k)) => .ok (.br (.p k) []) m
  | _ => .bad
theorem refO_some {σ : L2.St} {π : List V} {i : Nat} {v : V} (h : refO σ π (.s i) = some v) : σ[i]? = some (some v) := by
  unfold refO at h
  cases e : σ[i]? with
  | none => simp [e] at h
  | some x =>
    cases x with
    | none => simp [e] at h
    | some y => simp [e] at h; rw [h]
theorem te_var {i : Nat} : TEok K mg E true (tVar i) (dVar i) := fun F0 G π m σ F H fp Q S p => by
  unfold dVar at p
  cases e : m.sl[i]? with
  | none => rw [e] at p; exact p.elim
  | some x =>
    rw [e] at p
    cases x with
    | none => exact p.elim
    | some y =>
      cases y with
      | pa k =>
        obtain ⟨v, h1, h2⟩ := S.ali i k e
        exact ⟨v, h2, p v F H fp S Ch.refl ⟨v, h1, rfl⟩⟩
      | sv s =>
        have hg : get m (.s i) = some s := by simp [get, e]
        obtain ⟨v, h1, h2⟩ := S.own _ _ hg
        refine ⟨v, refO_some h1, ?_⟩
        cases s with
        | fz d => exact p v F H fp S Ch.refl h2.1
        | ol _ => exact p v F H fp S Ch.refl ⟨v, h1, rfl⟩
        | ok _ => exact p v F H fp S Ch.refl ⟨v, h1, rfl⟩
        | ot _ => exact p v F H fp S Ch.refl ⟨v, h1, rfl⟩
def dC (d : D) (m : M) : Out EV := .ok (.v d) m
theorem te_c {d : D} {v : V} (h : ∀ F, Rep K F d v) : TEok K mg E true (tC v) (dC d) := fun F0 G π m σ F H fp Q S p => p v F H fp S Ch.refl (h F)
/-! ### tests -/
def dTest (g : M → Out EV) (m : M) : Out Bool := (g m).bind fun ev m' => match ev with
  | .v (.bl b) => .ok b m'
  | _ => .bad
theorem tt_test (ha : TEok K mg E pa ta ga) : TTok K mg E pa (tTest ta) (dTest ga) := fun F0 G π m σ F H fp Q S p => by
  refine ha F0 G π m σ F H fp _ S ?_
  unfold dTest at p
  cases e : ga m with
  | bad => rw [e] at p; exact p
  | exc c d m' => rw [e] at p; exact p
  | ok ev m1 =>
    rw [e] at p
    intro v F1 H1 fp1 S1 c1 e1
    cases ev with
    | br o q => exact p.elim
    | fr s => exact p.elim
    | v d =>
      cases d with
      | bl b => exact ⟨b, e1, p F1 H1 fp1 S1 c1⟩
      | _ => exact p.elim
def dAndT (ga gb : M → Out Bool) (m : M) : Out Bool := (ga m).bind fun b m1 => if b = true then gb m1 else .ok false m1
def dOrT (ga gb : M → Out Bool) (m : M) : Out Bool := (ga m).bind fun b m1 => if b = true then .ok true m1 else gb m1
def dNotT (ga : M → Out Bool) (m : M) : Out Bool := (ga m).bind fun b m1 => .ok (!b) m1
theorem PostT.weak {F0 G : Hp} {π : List V} {m m1 : M} {σ : L2.St} {F H F1 H1 : Hp} {fp fp1 : Ow → List Addr} {Q : Bool → Hp → Prop} {r : Out Bool} (c : Ch pa m m1 F H F1 H1 fp fp1) (p : PostT K mg E (pa && pb) F0 G π m σ F H fp Q r) : PostT K mg E pb F0 G π m1 σ F1 H1 fp1 Q r := by
  cases r with
  | bad => exact p
  | exc c d m' => exact p
  | ok ev m' => exact fun F' H' fp' S' c' => p F' H' fp' S' (c.trans c')
variable {tta ttb : TT} {gta gtb : M → Out Bool}
theorem tt_and (ha : TTok K mg E pa tta gta) (hb : TTok K mg E pb ttb gtb) : TTok K mg E (pa && pb) (tAnd tta ttb) (dAndT gta gtb) := fun F0 G π m σ F H fp Q S p => by
  refine ha F0 G π m σ F H fp _ S ?_
  unfold dAndT at p
  cases e : gta m with
  | bad => rw [e] at p; exact p
  | exc c d m' => rw [e] at p; exact p
  | ok b m1 =>
    rw [e] at p
    intro F1 H1 fp1 S1 c1
    have p : PostT K mg E (pa && pb) F0 G π m σ F H fp Q (if b = true then gtb m1 else .ok false m1) := p
    cases b with
    | true => exact hb F0 G π m1 σ F1 H1 fp1 _ S1 (PostT.weak c1 p)
    | false => exact p F1 H1 fp1 S1 (c1.mono fun z => (Bool.and_eq_true _ _ ▸ z).1)
theorem tt_or (ha : TTok K mg E pa tta gta) (hb : TTok K mg E pb ttb gtb) : TTok K mg E (pa && pb) (tOr tta ttb) (dOrT gta gtb) := fun F0 G π m σ F H fp Q S p => by
  refine ha F0 G π m σ F H fp _ S ?_
  unfold dOrT at p
  cases e : gta m with
  | bad => rw [e] at p; exact p
  | exc c d m' => rw [e] at p; exact p
  | ok b m1 =>
    rw [e] at p
    intro F1 H1 fp1 S1 c1
    have p : PostT K mg E (pa && pb) F0 G π m σ F H fp Q (if b = true then .ok true m1 else gtb m1) := p
    cases b with
    | false => exact hb F0 G π m1 σ F1 H1 fp1 _ S1 (PostT.weak c1 p)
    | true => exact p F1 H1 fp1 S1 (c1.mono fun z => (Bool.and_eq_true _ _ ▸ z).1)
theorem tt_not (ha : TTok K mg E pa tta gta) : TTok K mg E pa (tNot tta) (dNotT gta) := fun F0 G π m σ F H fp Q S p => by
  refine ha F0 G π m σ F H fp _ S ?_
  unfold dNotT at p
  cases e : gta m with
  | bad => rw [e] at p; exact p
  | exc c d m' => rw [e] at p; exact p
  | ok b m1 =>
    rw [e] at p
    intro F1 H1 fp1 S1 c1
    exact p F1 H1 fp1 S1 c1
/-! ### and, or, not, if-else as values -/
def dBoolV (m : M) : EV → Out EV
  | .v (.bl b) => .ok (.v (.bl b)) m
  | _ => .bad
def dAndV (ga gb : M → Out EV) (m : M) : Out EV := (ga m).bind fun ev m1 => match ev with
  | .v (.bl true) => gb m1
  | .v (.bl false) => .ok (.v (.bl false)) m1
  | _ => .bad
def dOrV (ga gb : M → Out EV) (m : M) : Out EV := (ga m).bind fun ev m1 => match ev with
  | .v (.bl true) => .ok (.v (.bl true)) m1
  | .v (.bl false) => gb m1
  | _ => .bad
def dNotV (ga : M → Out EV) (m : M) : Out EV := (ga m).bind fun ev m1 => match ev with
  | .v (.bl b) => .ok (.v (.bl (!b))) m1
  | _ => .bad
theorem te_and (ha : TEok K mg E pa ta ga) (hb : TEok K mg E pb tb gb) : TEok K mg E (pa && pb) (tAndV ta tb) (dAndV ga gb) := fun F0 G π m σ F H fp Q S p => by
  refine ha F0 G π m σ F H fp _ S ?_
  unfold dAndV at p
  cases e : ga m with
  | bad => rw [e] at p; exact p
  | exc c d m' => rw [e] at p; exact p
  | ok ev m1 =>
    rw [e] at p
    intro v F1 H1 fp1 S1 c1 e1
    cases ev with
    | br o q => exact p.elim
    | fr s => exact p.elim
    | v d =>
      cases d with
      | bl b =>
        refine ⟨b, e1, ?_⟩
        cases b with
        | true => exact hb F0 G π m1 σ F1 H1 fp1 _ S1 (PostE.weak c1 p)
        | false => exact p _ F1 H1 fp1 S1 (c1.mono fun z => (Bool.and_eq_true _ _ ▸ z).1) rfl
      | _ => exact p.elim
theorem te_or (ha : TEok K mg E pa ta ga) (hb : TEok K mg E pb tb gb) : TEok K mg E (pa && pb) (tOrV ta tb) (dOrV ga gb) := fun F0 G π m σ F H fp Q S p => by
  refine ha F0 G π m σ F H fp _ S ?_
  unfold dOrV at p
  cases e : ga m with
  | bad => rw [e] at p; exact p
  | exc c d m' => rw [e] at p; exact p
  | ok ev m1 =>
    rw [e] at p
    intro v F1 H1 fp1 S1 c1 e1
    cases ev with
    | br o q => exact p.elim
    | fr s => exact p.elim
    | v d =>
      cases d with
      | bl b =>
        refine ⟨b, e1, ?_⟩
        cases b with
        | false => exact hb F0 G π m1 σ F1 H1 fp1 _ S1 (PostE.weak c1 p)
        | true => exact p _ F1 H1 fp1 S1 (c1.mono fun z => (Bool.and_eq_true _ _ ▸ z).1) rfl
      | _ => exact p.elim
theorem te_not (ha : TEok K mg E pa ta ga) : TEok K mg E pa (tNotV ta) (dNotV ga) := fun F0 G π m σ F H fp Q S p => by
  refine ha F0 G π m σ F H fp _ S ?_
  unfold dNotV at p
  cases e : ga m with
  | bad => rw [e] at p; exact p
  | exc c d m' => rw [e] at p; exact p
  | ok ev m1 =>
    rw [e] at p
    intro v F1 H1 fp1 S1 c1 e1
    cases ev with
    | br o q => exact p.elim
    | fr s => exact p.elim
    | v d =>
      cases d with
      | bl b => exact ⟨b, e1, p _ F1 H1 fp1 S1 c1 rfl⟩
      | _ => exact p.elim
def dIfE (gt : M → Out Bool) (ga gb : M → Out EV) (m : M) : Out EV := (gt m).bind fun b m1 => if b = true then ga m1 else gb m1
theorem te_if (ht : TTok K mg E pc tta gta) (ha : TEok K mg E pa ta ga) (hb : TEok K mg E pb tb gb) : TEok K mg E (pc && (pa && pb)) (tIf tta ta tb) (dIfE gta ga gb) := fun F0 G π m σ F H fp Q S p => by
  refine ht F0 G π m σ F H fp _ S ?_
  unfold dIfE at p
  cases e : gta m with
  | bad => rw [e] at p; exact p
  | exc c d m' => rw [e] at p; exact p
  | ok b m1 =>
    rw [e] at p
    intro F1 H1 fp1 S1 c1
    have p : PostE K mg E (pc && (pa && pb)) F0 G π m σ F H fp Q (if b = true then ga m1 else gb m1) := p
    have q := PostE.weak (pb := pa && pb) c1 p
    have imp : ∀ (px : Bool) (r : Out EV), ((pa && pb) = true → px = true) → PostE K mg E (pa && pb) F0 G π m1 σ F1 H1 fp1 Q r → PostE K mg E px F0 G π m1 σ F1 H1 fp1 Q r := fun px r hx hr => by
      cases r with
      | bad => exact hr
      | exc c d m' => exact hr
      | ok ev m' => exact fun v F' H' fp' S' c' e' => hr v F' H' fp' S' (c'.mono hx) (e'.imp fun a ha z => ha (hx z))
    cases b with
    | true => exact ha F0 G π m1 σ F1 H1 fp1 _ S1 (imp pa _ (fun z => (Bool.and_eq_true _ _ ▸ z).1) q)
    | false => exact hb F0 G π m1 σ F1 H1 fp1 _ S1 (imp pb _ (fun z => (Bool.and_eq_true _ _ ▸ z).2) q)
end
end PD
namespace PD
open PySem PySem.Spec PyProof.Rows L2
section
variable {K : Kf} {F0 G : Hp} {π : List V} {m : M} {σ : L2.St} {F H : Hp} {fp : Ow → List Addr}
/-! ## bases -/
theorem StF.rebase (S : StF K F0 G π m σ F H fp) : StF K F G π m σ F H fp := ⟨S.len, S.plen, S.sub, S.base, Same.refl F, fun _ h => .inl h, S.own, S.non, S.ali, S.nd, S.dj, S.fr, S.ntF, S.ntG, S.tab⟩
theorem StF.unbase (S : StF K F0 G π m σ F H fp) {m' : M} {σ' : L2.St} {F' H' : Hp} {fp' : Ow → List Addr} (T : StF K F G π m' σ' F' H' fp') : StF K F0 G π m' σ' F' H' fp' :=
  ⟨T.len, T.plen, T.sub, T.base, S.mono.trans T.mono, fun a h => by
    rcases T.new a h with z | z
    · exact S.new a z
    · exact .inr z, T.own, T.non, T.ali, T.nd, T.dj, T.fr, T.ntF, T.ntG, T.tab⟩
/-- what stands at q is kept by whoever keeps G -/
theorem StF.protect (S : StF K F0 G π m σ F H fp) {q : List Addr} (h : ∀ a ∈ q, F a = none ∧ ∀ o, a ∉ fp o) (np : ∀ a ∈ q, ∃ x, H a = some x ∧ plainO x) : StF K F0 (addF G H q) π m σ F H fp := by
  refine ⟨S.len, S.plen, S.sub, addF_sub S.base, S.mono, fun a ha => ?_, S.own, S.non, S.ali, S.nd, S.dj, fun o a ha => ⟨(S.fr o a ha).1, ?_⟩, S.ntF, fun a ps e => ?_, S.tab⟩
  · by_cases z : a ∈ q
    · exact absurd (h a z).1 ha
    · unfold NF; rw [addF_out z]; exact S.new a ha
  · rw [addF_out fun z => (h a z).2 o ha]
    exact (S.fr o a ha).2
  · by_cases z : a ∈ q
    · rw [addF_in z] at e
      obtain ⟨x, hx, hp⟩ := np a z
      rw [hx] at e
      cases e
      rcases hp with ⟨_, e⟩ | ⟨_, e⟩ | ⟨_, e⟩ <;> cases e
    · rw [addF_out z] at e; exact S.ntG a ps e
theorem StF.unprotect (S : StF K F0 G π m σ F H fp) {q : List Addr} (h : ∀ a ∈ q, F a = none ∧ ∃ x, H a = some x ∧ plainO x) {m' : M} {σ' : L2.St} {F' H' : Hp} {fp' : Ow → List Addr} (T : StF K F0 (addF G H q) π m' σ' F' H' fp') :
    StF K F0 G π m' σ' F' H' fp' ∧ ∀ a ∈ q, H' a = H a ∧ F' a = none ∧ ∀ o, a ∉ fp' o := by
  have sG : Same G (addF G H q) := fun a x e => by
    by_cases z : a ∈ q
    · rw [addF_in z]; exact S.base a x e
    · rw [addF_out z]; exact e
  refine ⟨⟨T.len, T.plen, T.sub, sG.trans T.base, T.mono, fun a ha => ?_, T.own, T.non, T.ali, T.nd, T.dj, fun o a ha => ⟨(T.fr o a ha).1, same_none sG (T.fr o a ha).2⟩, T.ntF, fun a ps e => T.ntG a ps (sG a _ e), T.tab⟩, fun a ha => ?_⟩
  · rcases T.new a ha with z | z
    · exact .inl z
    · exact .inr (z.sub sG)
  · have e1 : addF G H q a = H a := addF_in ha
    obtain ⟨x0, hx0, hp0⟩ := (h a ha).2
    have e2 : addF G H q a ≠ none := by rw [e1, hx0]; exact Option.some_ne_none _
    refine ⟨(same_of T.base e2).trans e1, ?_, fun o z => e2 (T.fr o a z).2⟩
    cases e : F' a with
    | none => rfl
    | some x =>
      rcases T.new a (by rw [e]; exact Option.some_ne_none _) with z | z
      · exact absurd (same_none S.mono (h a ha).1) z
      · rcases z with z | ⟨vs, z⟩
        · exact absurd z e2
        · rw [e1, hx0] at z
          exact absurd (Option.some.inj z) (plain_tup hp0 vs)
/-- a part is frozen where it stands -/
theorem StF.freezeAt (S : StF K F0 G π m σ F H fp) {o : Ow} {r s : SV} {p : List Pth} (hg : get m o = some r) (hs : PD.sub r p = some s) {v w : V} (hw : refO σ π o = some w) (hp : PathH H w p v) :
    ∃ F' fp', StF K F0 G π (setO m o (put r p (.fz (frz s)))) σ F' H fp' ∧ Rep K F' (frz s) v ∧ Same F F' := by
  obtain ⟨w', h1, h2⟩ := S.own o r hg
  rw [hw] at h1; cases h1
  obtain ⟨u, g, pu, ou, ng, mg, re⟩ := own_put p h2 (S.nd o) hs
  obtain rfl : v = u := PathH.fun p _ _ _ hp pu
  have eF : Same F (addF F H g) := addF_same fun a ha => (S.fr o a (mg a ha)).1
  have hr : Rep K (addF F H g) (frz s) v := ou.frz eF _ _ _ fun a ha => addF_in ha
  obtain ⟨q', oq, nq, hq, _⟩ := re (addF F H g) H (.fz (frz s)) [] eF ⟨hr, rfl⟩ List.nodup_nil (fun _ _ _ => rfl) (fun a ha => by cases ha)
  have hq' : ∀ a ∈ q', a ∈ fp o ∧ a ∉ g := fun a ha => by
    rcases hq a ha with z | z
    · cases z
    · exact z
  refine ⟨addF F H g, _, S.change hg hw eF (addF_sub S.sub) (fun a ha => ?_) (fun a x e _ => e) oq nq (fun a ha => .inl (hq' a ha).1) (fun a ha => ?_) (fun o' a ne ha => ?_) (fun a ps e => ?_), hr, eF⟩
  · by_cases z : a ∈ g
    · exact .inr (.inl (S.fr o a (mg a z)).2)
    · rw [addF_out z] at ha; exact S.new a ha
  · rw [addF_out (hq' a ha).2]
    exact (S.fr o a (hq' a ha).1).1
  · rw [addF_out fun z => ne (S.dj o' o a ha (mg a z))]
    exact (S.fr o' a ha).1
  · by_cases z : a ∈ g
    · rw [addF_in z] at e
      obtain ⟨x, hx, hp⟩ := S.plain (mg a z)
      rw [hx] at e
      cases e
      rcases hp with ⟨_, e⟩ | ⟨_, e⟩ | ⟨_, e⟩ <;> cases e
    · rw [addF_out z] at e
      exact S.ntF a ps e
end
/-! ## targets -/
/-- freeze in place what is evaluated -/
def dFzE (m : M) : EV → Out D
  | .v d => .ok d m
  | .fr s => .ok (frz s) m
  | .br o p => match get m o with
    | some r => match sub r p with
      | some s => .ok (frz s) (setO m o (put r p (.fz (frz s))))
      | none => .bad
    | none => .bad
def PostG (K : Kf) (F0 G : Hp) (π : List V) (Q : L2.St → Hp → Prop) : Out Unit → Prop
  | .ok _ m' => ∀ σ' F' H' fp', StF K F0 G π m' σ' F' H' fp' → Q σ' H'
  | _ => False
def TGok (K : Kf) (g : TG) (b : EV → M → Out Unit) : Prop :=
  ∀ F0 G π m σ F H fp (Q : L2.St → Hp → Prop) v ev, StF K F0 G π m σ F H fp → EvF K G π σ F H fp (fun _ => True) v ev → PostG K F0 G π Q (b ev m) → g v σ H Q
/-- a name: what is new is owned by it, what is owned elsewhere is frozen, an argument is named again -/
def bName (i : Nat) (ev : EV) (m : M) : Out Unit := match ev with
  | .v d => .ok () { m with sl := m.sl.set i (some (.sv (.fz d))) }
  | .fr s => if i < m.sl.length then .ok () { m with sl := m.sl.set i (some (.sv s)) } else .bad
  | .br (.p k) [] => .ok () { m with sl := m.sl.set i (some (.pa k)) }
  | .br o p => (dFzE m (.br o p)).bind fun d m1 => .ok () { m1 with sl := m1.sl.set i (some (.sv (.fz d))) }
section
variable {K : Kf} {mg : Str → Option Value} {E : XS} {pa pb pc pu : Bool}
theorem fzE_ok {F0 G : Hp} {π : List V} {m m' : M} {σ : L2.St} {F H : Hp} {fp : Ow → List Addr} {N : Addr → Prop} {v : V} {ev : EV} {d : D} (S : StF K F0 G π m σ F H fp) (h : EvF K G π σ F H fp N v ev) (e : dFzE m ev = .ok d m') :
    ∃ F' fp', StF K F0 G π m' σ F' H fp' ∧ Rep K F' d v ∧ Same F F' := by
  cases ev with
  | v d' => cases e; exact ⟨F, fp, S, h, Same.refl F⟩
  | fr s =>
    cases e
    obtain ⟨F', S', r, eF, _⟩ := S.freeze h
    exact ⟨F', fp, S', r, eF⟩
  | br o p =>
    obtain ⟨w, hw, hp⟩ := h
    unfold dFzE at e
    cases eg : get m o with
    | none => simp [eg] at e
    | some r =>
      cases es : sub r p with
      | none => simp [eg, es] at e
      | some s =>
        simp [eg, es] at e
        obtain ⟨e1, e2⟩ := e
        subst e1 e2
        exact S.freezeAt eg es hw hp
theorem tg_name {i : Nat} : TGok K (gName i) (bName i) := fun F0 G π m σ F H fp Q v ev S h p => by
  show Q (σ.set i (some v)) H
  have key : ∀ m', (∃ F' fp' d, StF K F0 G π m' σ F' H fp' ∧ Rep K F' d v ∧ PostG K F0 G π Q (.ok () { m' with sl := m'.sl.set i (some (.sv (.fz d))) })) → Q (σ.set i (some v)) H := fun m' ⟨F', fp', d, S', r, p'⟩ => by
    obtain ⟨fp2, S2⟩ := S'.storeF i r
    exact p' _ F' H fp2 S2
  have gen : ∀ o q, EvF K G π σ F H fp (fun _ => True) v (.br o q) → PostG K F0 G π Q ((dFzE m (.br o q)).bind fun d m1 => .ok () { m1 with sl := m1.sl.set i (some (.sv (.fz d))) }) → Q (σ.set i (some v)) H := fun o q h p => by
    cases e : dFzE m (.br o q) with
    | bad => rw [e] at p; exact p.elim
    | exc c d m' => rw [e] at p; exact p.elim
    | ok d m1 =>
      rw [e] at p
      obtain ⟨F', fp', S', r, _⟩ := fzE_ok S h e
      exact key m1 ⟨F', fp', d, S', r, p⟩
  cases ev with
  | v d => exact key m ⟨F, fp, d, S, h, p⟩
  | fr s =>
    have p : PostG K F0 G π Q (if i < m.sl.length then .ok () { m with sl := m.sl.set i (some (Sl.sv s)) } else .bad) := p
    by_cases hi : i < m.sl.length
    · rw [if_pos hi] at p
      obtain ⟨fp2, S2⟩ := S.storeO hi h
      exact p _ F H fp2 S2
    · rw [if_neg hi] at p; exact p.elim
  | br o q =>
    cases o with
    | s j => exact gen _ _ h p
    | p k =>
      cases q with
      | cons x q => exact gen _ _ h p
      | nil =>
        obtain ⟨w, h1, h2⟩ := h
        have h2 : v = w := h2
        subst h2
        obtain ⟨fp2, S2⟩ := S.storeA i (k := k) h1
        exact p _ F H fp2 S2
/-- a, b, .. of a tuple -/
def TGsok (K : Kf) (g : TGs) (b : List D → M → Out Unit) : Prop :=
  ∀ F0 G π m σ F H fp (Q : L2.St → Hp → Prop) vs ds, StF K F0 G π m σ F H fp → RepAll K F ds vs → PostG K F0 G π Q (b ds m) → g vs σ H Q
def bNil (ds : List D) (m : M) : Out Unit := match ds with
  | [] => .ok () m
  | _ => .bad
def bCons (b : EV → M → Out Unit) (bs : List D → M → Out Unit) (ds : List D) (m : M) : Out Unit := match ds with
  | d :: r => (b (.v d) m).bind fun _ m1 => bs r m1
  | [] => .bad
theorem tgs_nil : TGsok K gNil bNil := fun F0 G π m σ F H fp Q vs ds S h p => by
  cases ds with
  | cons _ _ => exact p.elim
  | nil =>
    have h : vs = [] := h
    subst h
    exact ⟨rfl, p σ F H fp S⟩
theorem tgs_cons {g : TG} {gs : TGs} {b : EV → M → Out Unit} {bs : List D → M → Out Unit} (h1 : TGok K g b) (h2 : TGsok K gs bs) : TGsok K (gCons g gs) (bCons b bs) := fun F0 G π m σ F H fp Q vs ds S h p => by
  cases ds with
  | nil => exact p.elim
  | cons d r =>
    obtain ⟨v, vr, ev, hd, hr⟩ := h
    subst ev
    refine ⟨v, vr, rfl, h1 F G π m σ F H fp _ v (.v d) S.rebase hd ?_⟩
    unfold bCons at p
    have p : PostG K F0 G π Q ((b (.v d) m).bind fun _ m1 => bs r m1) := p
    cases e : b (.v d) m with
    | bad => rw [e] at p; exact p.elim
    | exc c d' m' => rw [e] at p; exact p.elim
    | ok u m1 =>
      rw [e] at p
      intro σ1 F1 H1 fp1 S1
      exact h2 F0 G π m1 σ1 F1 H1 fp1 Q vr r (S.unbase S1) (RepAll.mono S1.mono _ _ hr) p
def bTup (n : Nat) (bs : List D → M → Out Unit) (ev : EV) (m : M) : Out Unit := match ev with
  | .v (.tup ds) => if ds.length = n then bs ds m else .bad
  | _ => .bad
theorem repAll_len {F : Hp} : ∀ {ds : List D} {vs : List V}, RepAll K F ds vs → vs.length = ds.length
  | [], _, h => by cases h; rfl
  | d :: ds, _, ⟨v, r, e, _, h⟩ => by subst e; simp [repAll_len h]
theorem tg_tup {KX : Kf} (up : Up K KX) {n : Nat} {gs : TGs} {bs : List D → M → Out Unit} (h2 : TGsok K gs bs) : TGok K (gTup KX n gs) (bTup n bs) := fun F0 G π m σ F H fp Q v ev S h p => by
  cases ev with
  | br o q => exact p.elim
  | fr s => exact p.elim
  | v d =>
    cases d with
    | tup ds =>
      obtain ⟨a, vs, ev, hs, hr⟩ := h
      unfold bTup at p
      by_cases e : ds.length = n
      · have p : PostG K F0 G π Q (if ds.length = n then bs ds m else .bad) := p
        rw [if_pos e] at p
        exact ⟨a, vs, ev, (same_t S.sub hs).sq, (repAll_len hr).trans e, h2 F0 G π m σ F H fp Q vs ds S hr p⟩
      · have p : PostG K F0 G π Q (if ds.length = n then bs ds m else .bad) := p
        rw [if_neg e] at p
        exact p.elim
    | _ => exact p.elim
/-! ## statements -/
variable {ta tb : TE} {ga gb : M → Out EV} {t u : TS} {g1 g2 : M → Out Ctl} {tt : TT} {gt : M → Out Bool}
def dSkip (m : M) : Out Ctl := .ok .nx m
theorem ts_skip : TSok K mg E tNext dSkip := fun F0 G π m σ F H fp Dn S p => p σ F H fp S
def dSeq (g1 g2 : M → Out Ctl) (m : M) : Out Ctl := (g1 m).bind fun c m1 => match c with
  | .nx => g2 m1
  | c => .ok c m1
theorem ts_seq (h1 : TSok K mg E t g1) (h2 : TSok K mg E u g2) : TSok K mg E (tSeq t u) (dSeq g1 g2) := fun F0 G π m σ F H fp Dn S p => by
  refine h1 F0 G π m σ F H fp _ S ?_
  unfold dSeq at p
  cases e : g1 m with
  | bad => rw [e] at p; exact p
  | exc c d m' => rw [e] at p; exact p
  | ok c m1 =>
    rw [e] at p
    cases c with
    | nx => exact fun σ' F' H' fp' S' => h2 F0 G π m1 σ' F' H' fp' Dn S' p
    | rt s => exact p
    | bk => exact p
    | ct => exact p
def dBreak (m : M) : Out Ctl := .ok .bk m
def dCont (m : M) : Out Ctl := .ok .ct m
theorem ts_break : TSok K mg E tBreak dBreak := fun F0 G π m σ F H fp Dn S p => p σ F H fp S
theorem ts_cont : TSok K mg E tCont dCont := fun F0 G π m σ F H fp Dn S p => p σ F H fp S
def dDrop (g : M → Out EV) (m : M) : Out Ctl := (g m).bind fun _ m1 => .ok .nx m1
theorem ts_drop (h : TEok K mg E pa ta ga) : TSok K mg E (tDrop ta) (dDrop ga) := fun F0 G π m σ F H fp Dn S p => by
  refine h F0 G π m σ F H fp _ S ?_
  unfold dDrop at p
  cases e : ga m with
  | bad => rw [e] at p; exact p
  | exc c d m' => rw [e] at p; exact p σ
  | ok ev m1 =>
    rw [e] at p
    exact fun v F' H' fp' S' _ _ => p σ F' H' fp' S'
def dAsg (g : M → Out EV) (b : EV → M → Out Unit) (m : M) : Out Ctl := (g m).bind fun ev m1 => match b ev m1 with
  | .ok _ m2 => .ok .nx m2
  | _ => .bad
theorem ts_asg {tg : TG} {b : EV → M → Out Unit} (h : TEok K mg E pa ta ga) (hg : TGok K tg b) : TSok K mg E (tAsg ta tg) (dAsg ga b) := fun F0 G π m σ F H fp Dn S p => by
  refine h F0 G π m σ F H fp _ S ?_
  unfold dAsg at p
  cases e : ga m with
  | bad => rw [e] at p; exact p
  | exc c d m' => rw [e] at p; exact p σ
  | ok ev m1 =>
    rw [e] at p
    intro v F' H' fp' S' _ ev'
    refine hg F0 G π m1 σ F' H' fp' _ v ev S' (ev'.imp fun _ _ => trivial) ?_
    have p : PostS K mg E F0 G π Dn (match b ev m1 with
      | .ok _ m2 => .ok .nx m2
      | _ => .bad) := p
    cases e2 : b ev m1 with
    | bad => rw [e2] at p; exact p.elim
    | exc c d m' => rw [e2] at p; exact p.elim
    | ok u m2 => rw [e2] at p; exact p
def dIf (gt : M → Out Bool) (g1 g2 : M → Out Ctl) (m : M) : Out Ctl := (gt m).bind fun b m1 => if b = true then g1 m1 else g2 m1
theorem ts_if (ht : TTok K mg E pa tt gt) (h1 : TSok K mg E t g1) (h2 : TSok K mg E u g2) : TSok K mg E (tIfS tt t u) (dIf gt g1 g2) := fun F0 G π m σ F H fp Dn S p => by
  refine ht F0 G π m σ F H fp _ S ?_
  unfold dIf at p
  cases e : gt m with
  | bad => rw [e] at p; exact p
  | exc c d m' => rw [e] at p; exact p σ
  | ok b m1 =>
    rw [e] at p
    intro F1 H1 fp1 S1 _
    have p : PostS K mg E F0 G π Dn (if b = true then g1 m1 else g2 m1) := p
    cases b with
    | true => exact h1 F0 G π m1 σ F1 H1 fp1 Dn S1 p
    | false => exact h2 F0 G π m1 σ F1 H1 fp1 Dn S1 p
/-- a result: an own thing leaves its slot, another part is frozen -/
def dRet (g : M → Out EV) (m : M) : Out Ctl := (g m).bind fun ev m1 => match ev with
  | .v d => .ok (.rt (.fz d)) m1
  | .fr s => .ok (.rt s) m1
  | .br (.s i) [] => match get m1 (.s i) with
    | some s => .ok (.rt s) { m1 with sl := m1.sl.set i none }
    | none => .bad
  | ev => (dFzE m1 ev).bind fun d m2 => .ok (.rt (.fz d)) m2
theorem ts_ret (h : TEok K mg E pa ta ga) : TSok K mg E (tRet ta) (dRet ga) := fun F0 G π m σ F H fp Dn S p => by
  refine h F0 G π m σ F H fp _ S ?_
  unfold dRet at p
  cases e : ga m with
  | bad => rw [e] at p; exact p
  | exc c d m' => rw [e] at p; exact p σ
  | ok ev m1 =>
    rw [e] at p
    intro v F' H' fp' S' _ ev'
    have gen : ∀ o q, ev = .br o q → PostS K mg E F0 G π Dn ((dFzE m1 ev).bind fun d m2 => .ok (.rt (.fz d)) m2) → Dn.rt v H' := fun o q eq p => by
      cases e2 : dFzE m1 ev with
      | bad => rw [e2] at p; exact p.elim
      | exc c d m' =>
        subst eq
        unfold dFzE at e2
        cases eg : get m1 o with
        | none => simp [eg] at e2
        | some r =>
          cases es : sub r q with
          | none => simp [eg, es] at e2
          | some s => simp [eg, es] at e2
      | ok d m2 =>
        rw [e2] at p
        obtain ⟨F2, fp2, S2, r, _⟩ := fzE_ok S' ev' e2
        exact p v σ F2 H' fp2 S2 ⟨[], ⟨r, rfl⟩, List.nodup_nil, fun a h => by cases h⟩
    cases ev with
    | v d => exact p v σ F' H' fp' S' ⟨[], ⟨ev', rfl⟩, List.nodup_nil, fun a h => by cases h⟩
    | fr s => exact p v σ F' H' fp' S' (ev'.imp fun _ _ => trivial)
    | br o q =>
      cases o with
      | p k => exact gen _ _ rfl p
      | s i =>
        cases q with
        | cons x q => exact gen _ _ rfl p
        | nil =>
          have p : PostS K mg E F0 G π Dn (match get m1 (.s i) with
            | some s => .ok (.rt s) { m1 with sl := m1.sl.set i none }
            | none => .bad) := p
          cases eg : get m1 (.s i) with
          | none => rw [eg] at p; exact p.elim
          | some s =>
            rw [eg] at p
            obtain ⟨w, h1, h2⟩ := ev'
            have h2 : v = w := h2
            subst h2
            obtain ⟨w', e1, o1⟩ := S'.own _ _ eg
            rw [h1] at e1; cases e1
            have T := S'.store i none none [] (fun s e => by cases e) (fun h => rfl) (fun k e => by cases e) List.nodup_nil (fun a h => by cases h) (.inr rfl)
            refine p v _ F' H' _ T ⟨fp' (.s i), o1, S'.nd _, fun a ha => ⟨(S'.fr _ a ha).1, (S'.fr _ a ha).2, fun o z => ?_, trivial⟩⟩
            have z : a ∈ (if o = Ow.s i then if i < m1.sl.length then [] else [] else fp' o) := z
            by_cases eo : o = .s i
            · rw [if_pos eo] at z
              by_cases hl : i < m1.sl.length
              · rw [if_pos hl] at z; cases z
              · rw [if_neg hl] at z; cases z
            · rw [if_neg eo] at z
              exact eo (S'.dj o (.s i) a z ha)
def dRetN (m : M) : Out Ctl := .ok (.rt (.fz .non)) m
theorem ts_retN : TSok K mg E tRetN dRetN := fun F0 G π m σ F H fp Dn S p => p .non σ F H fp S ⟨[], ⟨rfl, rfl⟩, List.nodup_nil, fun a h => by cases h⟩
end
end PD
namespace PD
open PySem PySem.Spec PyProof.Rows L2
/-! ## while -/
def iterW (st : M → Out Ctl) : Nat → M → Out Ctl
  | 0, _ => .bad
  | n + 1, m => match st m with
    | .ok .nx m' => iterW st n m'
    | .ok .ct m' => iterW st n m'
    | .ok .bk m' => .ok .nx m'
    | .ok (.rt s) m' => .ok (.rt s) m'
    | .exc c d m' => .exc c d m'
    | .bad => .bad
open Classical in
noncomputable def loopW (st : M → Out Ctl) (m : M) : Out Ctl := if h : ∃ n, iterW st n m ≠ .bad then iterW st (choose h) m else .bad
theorem iterW_add (st : M → Out Ctl) : ∀ (n k : Nat) (m : M), iterW st n m ≠ .bad → iterW st (n + k) m = iterW st n m
  | 0, _, _, h => absurd rfl h
  | n + 1, k, m, h => by
    rw [Nat.add_right_comm]
    unfold iterW at h ⊢
    cases e : st m with
    | bad => rfl
    | exc c d m' => rfl
    | ok c m' =>
      rw [e] at h
      cases c with
      | nx => exact iterW_add st n k m' h
      | ct => exact iterW_add st n k m' h
      | bk => rfl
      | rt s => rfl
theorem iterW_two {st : M → Out Ctl} {n k : Nat} {m : M} (h : iterW st n m ≠ .bad) (h' : iterW st k m ≠ .bad) : iterW st n m = iterW st k m := by
  rw [← iterW_add st n k m h, Nat.add_comm, iterW_add st k n m h']
theorem loopW_of {st : M → Out Ctl} {n : Nat} {m : M} (h : iterW st n m ≠ .bad) : loopW st m = iterW st n m := by
  unfold loopW
  have ex : ∃ n, iterW st n m ≠ .bad := ⟨n, h⟩
  rw [dif_pos ex]
  exact iterW_two (Classical.choose_spec ex) h
theorem loopW_ex {st : M → Out Ctl} {m : M} (h : loopW st m ≠ .bad) : ∃ n, iterW st n m = loopW st m := by
  unfold loopW at h ⊢
  by_cases ex : ∃ n, iterW st n m ≠ .bad
  · exact ⟨Classical.choose ex, by rw [dif_pos ex]⟩
  · rw [dif_neg ex] at h; exact absurd rfl h
/-- one turn, then the rest -/
theorem loopW_eq (st : M → Out Ctl) (m : M) : loopW st m = match st m with
    | .ok .nx m' => loopW st m'
    | .ok .ct m' => loopW st m'
    | .ok .bk m' => .ok .nx m'
    | .ok (.rt s) m' => .ok (.rt s) m'
    | .exc c d m' => .exc c d m'
    | .bad => .bad := by
  have key : ∀ m', (st m = .ok .nx m' ∨ st m = .ok .ct m') → loopW st m = loopW st m' := fun m' h => by
    have step : ∀ n, iterW st (n + 1) m = iterW st n m' := fun n => by
      rcases h with h | h <;> (rw [iterW, h])
    by_cases ex : ∃ n, iterW st n m' ≠ .bad
    · obtain ⟨n, hn⟩ := ex
      have h1 : iterW st (n + 1) m ≠ .bad := by rw [step]; exact hn
      rw [loopW_of h1, loopW_of hn, step]
    · have ex' : ¬ ∃ n, iterW st n m ≠ .bad := fun ⟨n, hn⟩ => by
        cases n with
        | zero => exact hn rfl
        | succ n => exact ex ⟨n, by rw [← step]; exact hn⟩
      unfold loopW
      rw [dif_neg ex, dif_neg ex']
  have key2 : ∀ o, o ≠ .bad → iterW st 1 m = o → loopW st m = o := fun o ho h => by
    have := loopW_of (st := st) (n := 1) (m := m) (by rw [h]; exact ho)
    rw [this, h]
  cases e : st m with
  | bad =>
    unfold loopW
    rw [dif_neg]
    rintro ⟨n, hn⟩
    cases n with
    | zero => exact hn rfl
    | succ n => exact hn (by rw [iterW, e])
  | exc c d m' => exact key2 _ (fun z => nomatch z) (by rw [iterW, e])
  | ok c m' =>
    cases c with
    | nx => exact key m' (.inl e)
    | ct => exact key m' (.inr e)
    | bk => exact key2 _ (fun z => nomatch z) (by rw [iterW, e])
    | rt s => exact key2 _ (fun z => nomatch z) (by rw [iterW, e])
def stepW (gt : M → Out Bool) (gb : M → Out Ctl) (m : M) : Out Ctl := (gt m).bind fun b m1 => if b = true then gb m1 else .ok .bk m1
noncomputable def dWhile (gt : M → Out Bool) (gb : M → Out Ctl) (m : M) : Out Ctl := loopW (stepW gt gb) m
section
variable {K : Kf} {mg : Str → Option Value} {E : XS} {pa pb pc pu : Bool} {t u : TS} {g1 g2 : M → Out Ctl} {tt : TT} {gt : M → Out Bool}
theorem ts_while (ht : TTok K mg E pa tt gt) (h1 : TSok K mg E t g1) : TSok K mg E (tWhile tt t) (dWhile gt g1) := fun F0 G π m σ F H fp Dn S p => by
  generalize hr : dWhile gt g1 m = r at p
  have nb : r ≠ .bad := fun z => by rw [z] at p; exact p
  obtain ⟨n0, hn0⟩ := loopW_ex (st := stepW gt g1) (m := m) (by show dWhile gt g1 m ≠ _; rw [hr]; exact nb)
  have hn0 : iterW (stepW gt g1) n0 m = r := hn0.trans hr
  refine ⟨fun k σ H => ∃ m F fp, StF K F0 G π m σ F H fp ∧ iterW (stepW gt g1) k m = r, ⟨n0, m, F, fp, S, hn0⟩, ?_⟩
  rintro k σ1 H1 ⟨m1, F1, fp1, S1, e1⟩
  cases k with
  | zero => exact absurd e1.symm nb
  | succ k =>
    refine ht F0 G π m1 σ1 F1 H1 fp1 _ S1 ?_
    rw [iterW] at e1
    unfold stepW at e1
    cases e : gt m1 with
    | bad => rw [e] at e1; exact absurd e1.symm nb
    | exc c d m' =>
      rw [e] at e1
      subst e1
      exact p σ1
    | ok b m2 =>
      rw [e] at e1
      intro F2 H2 fp2 S2 _
      cases b with
      | false =>
        have e1 : Out.ok Ctl.nx m2 = r := e1
        subst e1
        exact p σ1 F2 H2 fp2 S2
      | true =>
        have e1 : (match g1 m2 with
          | .ok .nx m' => iterW (stepW gt g1) k m'
          | .ok .ct m' => iterW (stepW gt g1) k m'
          | .ok .bk m' => .ok .nx m'
          | .ok (.rt s) m' => .ok (.rt s) m'
          | .exc c d m' => .exc c d m'
          | .bad => .bad) = r := e1
        refine ⟨fun σ' H' => ∃ m F fp, StF K F0 G π m σ' F H' fp ∧ iterW (stepW gt g1) k m = r, fun σ' H' hN => ⟨k, Nat.lt_succ_self k, hN⟩, h1 F0 G π m2 σ1 F2 H2 fp2 _ S2 ?_⟩
        cases e3 : g1 m2 with
        | bad => rw [e3] at e1; exact absurd e1.symm nb
        | exc c d m' =>
          rw [e3] at e1
          subst e1
          exact p
        | ok c m3 =>
          rw [e3] at e1
          cases c with
          | nx => exact fun σ' F' H' fp' S' => ⟨m3, F', fp', S', e1⟩
          | ct => exact fun σ' F' H' fp' S' => ⟨m3, F', fp', S', e1⟩
          | bk =>
            have e1 : Out.ok Ctl.nx m3 = r := e1
            subst e1
            exact p
          | rt s =>
            have e1 : Out.ok (Ctl.rt s) m3 = r := e1
            subst e1
            exact p
/-! ## for -/
/-- a walk: its items, as long as live holds -/
structure Wk where
  items : List D
  live : M → Prop
def ItOk (K : Kf) (F0 G : Hp) (π : List V) (J : It) (F1 : Hp) (w : Wk) : Prop :=
  ∀ m σ F H fp, StF K F0 G π m σ F H fp → Same F1 F → w.live m → (∀ i d, w.items[i]? = some d → J.go i H ∧ ∀ x H2, J.yld i H x H2 → ∃ F2, StF K F0 G π m σ F2 H2 fp ∧ Same F F2 ∧ Same H H2 ∧ (∀ a, F2 a ≠ none → F a ≠ none ∨ H a = none) ∧ Rep K F2 d x) ∧ J.stop w.items.length H
def PostI (K : Kf) (mg : Str → Option Value) (E : XS) (F0 G : Hp) (π : List V) (σ : L2.St) (F : Hp) (R : It → Hp → Prop) : Out Wk → Prop
  | .ok w m' => ∀ J F' H' fp', StF K F0 G π m' σ F' H' fp' → Same F F' → (∀ F0' G', Same G G' → Same F0 F0' → ItOk K F0' G' π J F' w) → R J H'
  | .exc c d m' => ExcW K mg F0 G π E σ c d m'
  | .bad => False
def TIok (K : Kf) (mg : Str → Option Value) (E : XS) (wi : TI) (gi : M → Out Wk) : Prop :=
  ∀ F0 G π m σ F H fp (R : It → Hp → Prop), StF K F0 G π m σ F H fp → PostI K mg E F0 G π σ F R (gi m) → wi σ H R
open Classical in
noncomputable def forI (live : M → Prop) (tg : EV → M → Out Unit) (gb : M → Out Ctl) : List D → M → Out Ctl
  | [], m => if live m then .ok .nx m else .bad
  | d :: r, m => if live m then (match tg (.v d) m with
      | .ok _ m1 => (match gb m1 with
        | .ok .nx m2 => forI live tg gb r m2
        | .ok .ct m2 => forI live tg gb r m2
        | .ok .bk m2 => .ok .nx m2
        | .ok (.rt s) m2 => .ok (.rt s) m2
        | .exc c d m2 => .exc c d m2
        | .bad => .bad)
      | _ => .bad) else .bad
noncomputable def dFor (gi : M → Out Wk) (tg : EV → M → Out Unit) (gb : M → Out Ctl) (m : M) : Out Ctl := (gi m).bind fun w m1 => forI w.live tg gb w.items m1
theorem ts_for {wi : TI} {gi : M → Out Wk} {tg : TG} {b : EV → M → Out Unit} (hi : TIok K mg E wi gi) (hg : TGok K tg b) (h1 : TSok K mg E t g1) : TSok K mg E (tFor wi tg t) (dFor gi b g1) := fun F0 G π m σ F H fp Dn S p => by
  refine hi F0 G π m σ F H fp _ S ?_
  unfold dFor at p
  cases e : gi m with
  | bad => rw [e] at p; exact p
  | exc c d m' => rw [e] at p; exact p σ
  | ok w m1 =>
    rw [e] at p
    intro J F1 H1 fp1 S1 _ hJ
    have p : PostS K mg E F0 G π Dn (forI w.live b g1 w.items m1) := p
    generalize hr : forI w.live b g1 w.items m1 = r at p
    have nb : r ≠ .bad := fun z => by rw [z] at p; exact p
    refine ⟨fun i k σ H => ∃ m F fp, StF K F0 G π m σ F H fp ∧ Same F1 F ∧ i + k = w.items.length ∧ forI w.live b g1 (w.items.drop i) m = r, ⟨w.items.length, m1, F1, fp1, S1, Same.refl _, Nat.zero_add _, hr⟩, ?_⟩
    rintro i k σ2 H2 ⟨m2, F2, fp2, S2, s2, el, e2⟩
    have hlv : w.live m2 := by
      apply Classical.byContradiction
      intro hl
      cases el2 : w.items.drop i with
      | nil => rw [el2, forI, if_neg hl] at e2; exact nb e2.symm
      | cons d r' => rw [el2, forI, if_neg hl] at e2; exact nb e2.symm
    have jj := hJ F0 G (Same.refl _) (Same.refl _) m2 σ2 F2 H2 fp2 S2 s2 hlv
    cases ed : w.items.drop i with
    | nil =>
      left
      rw [ed, forI, if_pos hlv] at e2
      have hlen : w.items.length ≤ i := List.drop_eq_nil_iff.mp ed
      have hi' : i = w.items.length := by omega
      subst hi'
      refine ⟨jj.2, ?_⟩
      subst e2
      exact p σ2 F2 H2 fp2 S2
    | cons d r' =>
      right
      have hd : w.items[i]? = some d := by
        have := List.getElem?_drop (xs := w.items) (i := i) (j := 0)
        rw [ed] at this
        simpa using this.symm
      have hr' : w.items.drop (i + 1) = r' := by
        rw [← List.drop_drop, ed]
        rfl
      have hlt : i < w.items.length := by
        rcases Nat.lt_or_ge i w.items.length with z | z
        · exact z
        · rw [List.drop_eq_nil_of_le z] at ed; cases ed
      obtain ⟨j1, j2⟩ := jj.1 i d hd
      refine ⟨j1, fun σ' H' => ∃ m F fp, StF K F0 G π m σ' F H' fp ∧ Same F1 F ∧ forI w.live b g1 (w.items.drop (i + 1)) m = r, ?_, ?_⟩
      · rintro σ' H' ⟨m3, F3, fp3, S3, s3, e3⟩
        exact ⟨k - 1, by omega, m3, F3, fp3, S3, s3, by omega, e3⟩
      · intro x H3 hy
        obtain ⟨F3, S3, s3, _, _, hx⟩ := j2 x H3 hy
        rw [ed, forI, if_pos hlv] at e2
        refine hg F3 G π m2 σ2 F3 H3 fp2 _ x (.v d) S3.rebase hx ?_
        cases eb : b (.v d) m2 with
        | bad => rw [eb] at e2; exact absurd e2.symm nb
        | exc c d' m' => rw [eb] at e2; exact absurd e2.symm nb
        | ok u m3 =>
          rw [eb] at e2
          intro σ4 F4 H4 fp4 S4
          have e2 : (match g1 m3 with
            | .ok .nx m2 => forI w.live b g1 r' m2
            | .ok .ct m2 => forI w.live b g1 r' m2
            | .ok .bk m2 => .ok .nx m2
            | .ok (.rt s) m2 => .ok (.rt s) m2
            | .exc c d m2 => .exc c d m2
            | .bad => .bad) = r := e2
          have U : ∀ {m' : M} {σ' : L2.St} {F' H' : Hp} {fp' : Ow → List Addr}, StF K F4 G π m' σ' F' H' fp' → StF K F0 G π m' σ' F' H' fp' := fun T => S3.unbase (S4.unbase T)
          refine h1 F4 G π m3 σ4 F4 H4 fp4 _ S4.rebase ?_
          have fin : ∀ m4, forI w.live b g1 r' m4 = r → ∀ σ' F' H' fp', StF K F4 G π m4 σ' F' H' fp' → ∃ m F fp, StF K F0 G π m σ' F H' fp ∧ Same F1 F ∧ forI w.live b g1 (w.items.drop (i + 1)) m = r := fun m4 e4 σ' F' H' fp' S5 =>
            ⟨m4, F', fp', U S5, ((s2.trans s3).trans S4.mono).trans S5.mono, by rw [hr']; exact e4⟩
          cases ec : g1 m3 with
          | bad => rw [ec] at e2; exact absurd e2.symm nb
          | exc c d' m' =>
            rw [ec] at e2
            subst e2
            exact fun σ' C dx v F' H' fp' hC T hd hr => p σ' C dx v F' H' fp' hC (U T) hd hr
          | ok c m4 =>
            rw [ec] at e2
            cases c with
            | nx => exact fin m4 e2
            | ct => exact fin m4 e2
            | bk =>
              have e2 : Out.ok Ctl.nx m4 = r := e2
              subst e2
              exact fun σ' F' H' fp' T => p σ' F' H' fp' (U T)
            | rt s =>
              have e2 : Out.ok (Ctl.rt s) m4 = r := e2
              subst e2
              exact fun v σ' F' H' fp' T ev => p v σ' F' H' fp' (U T) ev
/-! ### what is walked -/
def allFz : List SV → Option (List D)
  | [] => some []
  | .fz d :: r => (allFz r).map (d :: ·)
  | _ :: _ => none
/-- freeze in place, an operand -/
def dFz (g : M → Out EV) (m : M) : Out EV := (g m).bind fun ev m1 => (dFzE m1 ev).bind fun d m2 => .ok (.v d) m2
theorem te_fz {ta : TE} {ga : M → Out EV} (h : TEok K mg E pa ta ga) : TEok K mg E false ta (dFz ga) := fun F0 G π m σ F H fp Q S p => by
  refine h F0 G π m σ F H fp _ S ?_
  unfold dFz at p
  cases e : ga m with
  | bad => rw [e] at p; exact p
  | exc c d m' => rw [e] at p; exact p
  | ok ev m1 =>
    rw [e] at p
    intro v F1 H1 fp1 S1 c1 e1
    have p : PostE K mg E false F0 G π m σ F H fp Q ((dFzE m1 ev).bind fun d m2 => .ok (.v d) m2) := p
    cases e2 : dFzE m1 ev with
    | bad => rw [e2] at p; exact p.elim
    | exc c d m' =>
      exfalso
      cases ev with
      | v d => cases e2
      | fr s => cases e2
      | br o q =>
        unfold dFzE at e2
        cases eg : get m1 o with
        | none => simp [eg] at e2
        | some r =>
          cases es : sub r q with
          | none => simp [eg, es] at e2
          | some s => simp [eg, es] at e2
    | ok d m2 =>
      rw [e2] at p
      obtain ⟨F2, fp2, S2, r, s2⟩ := fzE_ok S1 e1 e2
      exact p v F2 H1 fp2 S2 ⟨c1.ext.trans s2, fun z => by cases z⟩ r
/-- the items of a frozen list or tuple -/
def seqOf : EV → Option (List D)
  | .v (.tup ds) => some ds
  | .v (.lst ds) => some ds
  | _ => none
def dISeq (g : M → Out EV) (m : M) : Out Wk := (dFz g m).bind fun ev m1 => match seqOf ev with
  | some ds => .ok ⟨ds, fun _ => True⟩ m1
  | none => .bad
theorem repAll_get {F : Hp} : ∀ {ds : List D} {vs : List V}, RepAll K F ds vs → ∀ {i : Nat} {d : D}, ds[i]? = some d → ∃ v, vs[i]? = some v ∧ Rep K F d v
  | [], _, _, _, _, h => by simp at h
  | x :: ds, _, ⟨v, r, e, h1, h2⟩, 0, d, h => by
    subst e
    simp at h; subst h
    exact ⟨v, by simp, h1⟩
  | x :: ds, _, ⟨v, r, e, h1, h2⟩, i + 1, d, h => by
    subst e
    obtain ⟨w, e, hw⟩ := repAll_get h2 (i := i) (d := d) (by simpa using h)
    exact ⟨w, by simpa using e, hw⟩
def iSeq (K : Kf) (tl : TE) : TI := fun σ H R => iList K tl σ H R ∨ iTup K tl σ H R
theorem pi_or {X : Cx} {tg iter : Expr} {w1 w2 : TI} (h1 : PI X tg iter w1) (h2 : PI X tg iter w2) : PI X tg iter (fun σ H R => w1 σ H R ∨ w2 σ H R) :=
  ⟨fun pins s σ H R I h => h.elim (h1.run pins s σ H R I) (h2.run pins s σ H R I)⟩
theorem itt_ok {KX : Kf} (up : Up K KX) {F0 G F1 : Hp} {π : List V} {a : Addr} {vs : List V} {ds : List D} (hs : TupAt K F1 a vs) (hr : RepAll K F1 ds vs) : ItOk K F0 G π (Itt KX a) F1 ⟨ds, fun _ => True⟩ :=
  fun m σ F H fp S s _ => by
    have hH : SqT KX H a vs := (same_t S.sub (same_t s hs)).sq
    refine ⟨fun i d e => ?_, ⟨vs, hH, Nat.le_of_eq (repAll_len hr)⟩⟩
    obtain ⟨v, ev, rv⟩ := repAll_get hr e
    refine ⟨⟨vs, v, hH, ev⟩, fun x H2 hy => ?_⟩
    obtain ⟨rfl, hx⟩ := hy
    have := hx vs hH
    rw [ev] at this
    cases this
    exact ⟨F, S, Same.refl _, Same.refl _, fun _ h => .inl h, rv.mono s _ _⟩
theorem ti_seq {KX : Kf} (up : Up K KX) {ta : TE} {ga : M → Out EV} (h : TEok K mg E pa ta ga) : TIok K mg E (iSeq KX ta) (dISeq ga) := fun F0 G π m σ F H fp R S p => by
  unfold dISeq at p
  cases e : dFz ga m with
  | bad => rw [e] at p; exact p.elim
  | exc c d m' =>
    rw [e] at p
    refine .inl (te_fz h F0 G π m σ F H fp _ S ?_)
    rw [e]; exact p
  | ok ev m1 =>
    rw [e] at p
    cases ev with
    | br o q => exact p.elim
    | fr s => exact p.elim
    | v d =>
      cases d with
      | tup ds =>
        refine .inr (te_fz h F0 G π m σ F H fp _ S ?_)
        rw [e]
        intro v F1 H1 fp1 S1 c1 e1
        obtain ⟨a, vs, ev, hs, hr⟩ := e1
        exact ⟨a, ev, ⟨vs, (same_t S1.sub hs).sq⟩, p (Itt KX a) F1 H1 fp1 S1 c1.ext fun _ _ _ _ => itt_ok up hs hr⟩
      | lst ds =>
        refine .inl (te_fz h F0 G π m σ F H fp _ S ?_)
        rw [e]
        intro v F1 H1 fp1 S1 c1 e1
        obtain ⟨a, vs, ev, hs, hr⟩ := e1
        refine ⟨a, ev, ⟨vs, (same_l S1.sub hs).sq⟩, p (Itl KX a) F1 H1 fp1 S1 c1.ext fun F0' G' _ _ => ?_⟩
        intro m2 σ2 F2 H2 fp2 S2 s2 _
        have hH : SqL KX H2 a vs := (same_l S2.sub (same_l s2 hs)).sq
        refine ⟨fun i d e => ?_, ⟨vs, hH, Nat.le_of_eq (repAll_len hr)⟩⟩
        obtain ⟨v, ev, rv⟩ := repAll_get hr e
        refine ⟨⟨vs, v, hH, ev⟩, fun x H3 hy => ?_⟩
        obtain ⟨rfl, hx⟩ := hy
        have := hx vs hH
        rw [ev] at this
        cases this
        exact ⟨F2, S2, Same.refl _, Same.refl _, fun _ h => .inl h, rv.mono s2 _ _⟩
      | _ => exact p.elim
end
end PD
namespace PD
open PySem PySem.Spec PyProof.Rows L2
/-! ## comprehensions -/
def bigLen : Nat := 1000000
theorem big_lt {n : Nat} (h : n < bigLen) : n < sizeLine := Nat.lt_of_lt_of_le h (by decide)
theorem big_le {n : Nat} (h : n ≤ bigLen) : n ≤ sizeLine := Nat.le_trans h (by decide)
def wipeM (m : M) : List Nat → M
  | [] => m
  | v :: vs => let r := wipeM m vs; { r with sl := r.sl.set v none }
def restM (m m0 : M) : List Nat → M
  | [] => m
  | v :: vs => restM { m with sl := m.sl.set v (m0.sl[v]?.join) } m0 vs
def plainSl : Option Sl → Bool
  | none => true
  | some (.sv (.fz _)) => true
  | _ => false
/-- an item that is kept: new things are owned by the list -/
def elem (m : M) : EV → Out SV
  | .v d => .ok (.fz d) m
  | .fr s => .ok s m
  | .br o p => (dFzE m (.br o p)).bind fun d m1 => .ok (.fz d) m1
open Classical in
noncomputable def compI (live : M → Prop) (vs : List Nat) (b : EV → M → Out Unit) (gt : M → Out Bool) (ge : M → Out EV) : List D → List SV → M → Out (List SV)
  | [], acc, m => if live m then .ok acc m else .bad
  | d :: r, acc, m => if live m then (match b (.v d) m with
      | .ok _ m1 => (match gt m1 with
        | .ok true m2 => (match ge m2 with
          | .ok ev m3 => (match elem m3 ev with
            | .ok s m4 => if acc.length < bigLen then compI live vs b gt ge r (acc ++ [s]) (wipeM m4 vs) else .bad
            | _ => .bad)
          | _ => .bad)
        | .ok false m2 => compI live vs b gt ge r acc (wipeM m2 vs)
        | _ => .bad)
      | _ => .bad) else .bad
noncomputable def dComp (gi : M → Out Wk) (vs : List Nat) (b : EV → M → Out Unit) (gt : M → Out Bool) (ge : M → Out EV) (m : M) : Out EV :=
  (gi m).bind fun w m1 => if vs.all (fun v => plainSl (m1.sl[v]?.join)) = true then
    (match compI w.live vs b gt ge w.items [] (wipeM m1 vs) with
      | .ok xs m2 => .ok (.fr (.ol xs)) (restM m2 m1 vs)
      | _ => .bad) else .bad
section
variable {K : Kf} {mg : Str → Option Value} {E : XS} {pa pb pc pu : Bool}
section
variable {F0 G : Hp} {π : List V} {m : M} {σ : L2.St} {F H : Hp} {fp : Ow → List Addr}
theorem StF.wipe (S : StF K F0 G π m σ F H fp) : ∀ vs : List Nat, ∃ fp', StF K F0 G π (wipeM m vs) (L2.wipe σ vs) F H fp' ∧ ∀ o a, a ∈ fp' o → a ∈ fp o
  | [] => ⟨fp, S, fun _ _ h => h⟩
  | v :: vs => by
    obtain ⟨fp1, S1, h1⟩ := StF.wipe S vs
    refine ⟨_, S1.store v none none [] (fun s e => by cases e) (fun h => rfl) (fun k e => by cases e) List.nodup_nil (fun a h => by cases h) (.inr rfl), fun o a h => ?_⟩
    have h : a ∈ (if o = Ow.s v then if v < (wipeM m vs).sl.length then [] else [] else fp1 o) := h
    by_cases eo : o = .s v
    · rw [if_pos eo] at h
      by_cases hl : v < (wipeM m vs).sl.length
      · rw [if_pos hl] at h; cases h
      · rw [if_neg hl] at h; cases h
    · rw [if_neg eo] at h; exact h1 o a h
theorem wipe_get {σ : L2.St} {j : Nat} : ∀ {vs : List Nat}, j ∉ vs → (L2.wipe σ vs)[j]? = σ[j]?
  | [], _ => rfl
  | v :: vs, h => by
    rw [List.mem_cons, not_or] at h
    unfold L2.wipe
    rw [List.getElem?_set_ne (Ne.symm h.1)]
    exact wipe_get h.2
theorem wipe_back {σ : L2.St} {v : Nat} {vs : List Nat} (h : v ∉ vs) : (L2.wipe σ (v :: vs)).set v (σ[v]?.join) = L2.wipe σ vs := by
  apply List.ext_getElem?
  intro j
  show (((L2.wipe σ vs).set v none).set v (σ[v]?.join))[j]? = _
  rw [List.set_set]
  by_cases e : v = j
  · subst e
    by_cases hl : v < (L2.wipe σ vs).length
    · rw [List.getElem?_set_self hl, wipe_get h]
      have hs : v < σ.length := by rw [wipe_length] at hl; exact hl
      rw [List.getElem?_eq_getElem hs]
      rfl
    · rw [List.getElem?_eq_none (by simpa using Nat.le_of_not_lt hl), List.getElem?_eq_none (Nat.le_of_not_lt hl)]
  · rw [List.getElem?_set_ne e]
theorem join_get {α : Type} {l : List (Option α)} {i : Nat} {x : α} (h : l[i]?.join = some x) : l[i]? = some (some x) := by
  cases e : l[i]? with
  | none => rw [e] at h; cases h
  | some y => rw [e] at h; cases y with
    | none => cases h
    | some z => cases h; rfl
/-- the block's own slots get back what they had -/
theorem StF.restore {m0 : M} {F1 H1 : Hp} {fp1 : Ow → List Addr} {G1 : Hp} (S0 : StF K F0 G1 π m0 σ F1 H1 fp1) : ∀ (vs : List Nat) {m : M} {F H : Hp} {fp : Ow → List Addr}, vs.Nodup → StF K F0 G π m (L2.wipe σ vs) F H fp → Same F1 F → vs.all (fun v => plainSl (m0.sl[v]?.join)) = true → ∃ fp', StF K F0 G π (restM m m0 vs) σ F H fp' ∧ ∀ o a, a ∈ fp' o → a ∈ fp o
  | [], m, F, H, fp, _, S, _, _ => ⟨fp, S, fun _ _ h => h⟩
  | v :: vs, m, F, H, fp, nd, S, s, al => by
    rw [List.nodup_cons] at nd
    rw [List.all_cons, Bool.and_eq_true] at al
    have fin : ∀ x w, StF K F0 G π { m with sl := m.sl.set v x } ((L2.wipe σ (v :: vs)).set v w) F H (fun o => if o = .s v then (if v < m.sl.length then [] else []) else fp o) → x = m0.sl[v]?.join → w = σ[v]?.join → ∃ fp', StF K F0 G π (restM m m0 (v :: vs)) σ F H fp' ∧ ∀ o a, a ∈ fp' o → a ∈ fp o := fun x w T hx hw => by
      subst hx hw
      rw [wipe_back nd.1] at T
      obtain ⟨fp2, T2, h2⟩ := StF.restore S0 vs nd.2 T s al.2
      refine ⟨fp2, T2, fun o a h => ?_⟩
      have h := h2 o a h
      have h : a ∈ (if o = Ow.s v then (if v < m.sl.length then [] else []) else fp o) := h
      by_cases eo : o = .s v
      · rw [if_pos eo] at h
        by_cases hl : v < m.sl.length
        · rw [if_pos hl] at h; cases h
        · rw [if_neg hl] at h; cases h
      · rw [if_neg eo] at h; exact h
    cases e : m0.sl[v]?.join with
    | none =>
      refine fin none (σ[v]?.join) ?_ e.symm rfl
      exact S.store v none _ [] (fun s e => by cases e) (fun h => rfl) (fun k e => by cases e) List.nodup_nil (fun a h => by cases h) (.inr rfl)
    | some y =>
      rw [e] at al
      cases y with
      | pa k => cases al.1
      | sv r =>
        cases r with
        | fz d =>
          have hg : get m0 (.s v) = some (.fz d) := by simp [get, join_get e]
          obtain ⟨w, h1, h2⟩ := S0.own _ _ hg
          have hw := refO_some h1
          refine fin _ (some w) (S.store v _ _ [] (fun s e => by cases e; exact ⟨w, rfl, h2.1.mono s _ _, rfl⟩) (fun h => rfl) (fun k e => by cases e) List.nodup_nil (fun a h => by cases h) (.inr rfl)) e.symm (by rw [hw]; rfl)
        | ol _ => cases al.1
        | ok _ => cases al.1
        | ot _ => cases al.1
/-- an object that nobody owns is changed -/
theorem StF.poke (S : StF K F0 G π m σ F H fp) {D : Addr} (o : HO) (h1 : F D = none) (h2 : G D = none) (h3 : ∀ o, D ∉ fp o) (h4 : ∀ x, H D = some x → plainO x) : StF K F0 G π m σ F (upd H D o) fp := by
  have ne : ∀ (A : Hp) a x, A D = none → A a = some x → upd H D o a = H a := fun A a x n e => upd_ne fun z => by rw [z, n] at e; cases e
  refine ⟨S.len, S.plen, fun a x e => by rw [ne F a x h1 e]; exact S.sub a x e, fun a x e => by rw [ne G a x h2 e]; exact S.base a x e, S.mono, S.new, fun o' s e => ?_, S.non, S.ali, S.nd, S.dj, S.fr, S.ntF, S.ntG, tabs_keep S.tab fun a x e hp => by
    rw [upd_ne fun z => hp (h4 x (by rw [← z]; exact e))]; exact e⟩
  obtain ⟨v, e1, e2⟩ := S.own o' s e
  exact ⟨v, e1, e2.keep (Same.refl F) _ _ _ fun a ha => upd_ne fun z => h3 o' (z ▸ ha)⟩
end
/-- a target that stores into the block's own slots alone -/
def OwnT' (g : TG) (vs : List Nat) : Prop := ∀ (v : V) (σ : L2.St) (H : Hp) (Q : L2.St → Hp → Prop), g v σ H (fun σ' H' => L2.wipe σ' vs = L2.wipe σ vs → Q σ' H') → g v σ H Q
def OwnTs' (g : TGs) (vs : List Nat) : Prop := ∀ (v : List V) (σ : L2.St) (H : Hp) (Q : L2.St → Hp → Prop), g v σ H (fun σ' H' => L2.wipe σ' vs = L2.wipe σ vs → Q σ' H') → g v σ H Q
theorem wipe_set {σ : L2.St} {i : Nat} {x : Option V} : ∀ {vs : List Nat}, i ∈ vs → L2.wipe (σ.set i x) vs = L2.wipe σ vs
  | v :: vs, h => by
    unfold L2.wipe
    by_cases hi : i ∈ vs
    · rw [wipe_set hi]
    · have e : i = v := by
        rcases List.mem_cons.mp h with z | z
        · exact z
        · exact absurd z hi
      subst e
      have : ∀ (ws : List Nat), i ∉ ws → (L2.wipe (σ.set i x) ws).set i none = (L2.wipe σ ws).set i none := by
        intro ws
        induction ws with
        | nil => intro _; show (σ.set i x).set i none = σ.set i none; rw [List.set_set]
        | cons w ws ih =>
          intro hw
          rw [List.mem_cons, not_or] at hw
          unfold L2.wipe
          rw [List.set_comm _ _ (Ne.symm hw.1), ih hw.2, List.set_comm _ _ hw.1]
      exact this vs hi
theorem wipe_wipe {σ : L2.St} : ∀ vs : List Nat, L2.wipe (L2.wipe σ vs) vs = L2.wipe σ vs
  | [] => rfl
  | v :: vs => by
    have e : L2.wipe ((L2.wipe σ vs).set v none) (v :: vs) = L2.wipe (L2.wipe σ vs) (v :: vs) := wipe_set List.mem_cons_self
    show L2.wipe ((L2.wipe σ vs).set v none) (v :: vs) = _
    rw [e]
    show (L2.wipe (L2.wipe σ vs) vs).set v none = (L2.wipe σ vs).set v none
    rw [wipe_wipe vs]
theorem ownT_name {i : Nat} {vs : List Nat} (h : i ∈ vs) : OwnT' (gName i) vs := fun v σ H Q q => q (wipe_set h)
theorem ownTs_nil {vs : List Nat} : OwnTs' gNil vs := fun v σ H Q q => ⟨q.1, q.2 rfl⟩
/-- targets that hand on what is wanted -/
def MonT (g : TG) : Prop := ∀ (v : V) (σ : L2.St) (H : Hp) (Q Q' : L2.St → Hp → Prop), g v σ H Q → (∀ σ' H', Q σ' H' → Q' σ' H') → g v σ H Q'
theorem mon_name {i : Nat} : MonT (gName i) := fun v σ H Q Q' h k => k _ _ h
theorem ownTs_cons {g : TG} {gs : TGs} {vs : List Nat} (hm : MonT g) (h1 : OwnT' g vs) (h2 : OwnTs' gs vs) : OwnTs' (gCons g gs) vs := fun v σ H Q q => by
  obtain ⟨x, r, e, q⟩ := q
  refine ⟨x, r, e, h1 x σ H _ (hm x σ H _ _ q fun σ' H' q' hw => h2 r σ' H' _ ?_)⟩
  rw [hw]
  exact q'
theorem ownT_tup {KX : Kf} {n : Nat} {gs : TGs} {vs : List Nat} (h : OwnTs' gs vs) : OwnT' (gTup KX n gs) vs := fun v σ H Q q => by
  obtain ⟨a, xs, e, hs, hl, q⟩ := q
  exact ⟨a, xs, e, hs, hl, h xs σ H Q q⟩
/-- an item as it is kept -/
theorem elem_ok {F0 G : Hp} {π : List V} {m m' : M} {σ : L2.St} {F H : Hp} {fp : Ow → List Addr} {N : Addr → Prop} {v : V} {ev : EV} {s : SV} (S : StF K F0 G π m σ F H fp) (h : EvF K G π σ F H fp N v ev) (e : elem m ev = .ok s m') :
    ∃ F' fp' q, StF K F0 G π m' σ F' H fp' ∧ Same F F' ∧ Own K F' H s v q ∧ q.Nodup ∧ ∀ a ∈ q, F' a = none ∧ G a = none ∧ ∀ o, a ∉ fp' o := by
  cases ev with
  | v d => cases e; exact ⟨F, fp, [], S, Same.refl F, ⟨h, rfl⟩, List.nodup_nil, fun a h => by cases h⟩
  | fr s =>
    cases e
    obtain ⟨q, h1, h2, h3⟩ := h
    exact ⟨F, fp, q, S, Same.refl F, h1, h2, fun a ha => ⟨(h3 a ha).1, (h3 a ha).2.1, (h3 a ha).2.2.1⟩⟩
  | br o p =>
    have e : (dFzE m (.br o p)).bind (fun d m1 => Out.ok (SV.fz d) m1) = .ok s m' := e
    cases e2 : dFzE m (.br o p) with
    | bad => rw [e2] at e; cases e
    | exc c d m' => rw [e2] at e; cases e
    | ok d m1 =>
      rw [e2] at e
      cases e
      obtain ⟨F', fp', S', r, s'⟩ := fzE_ok S h e2
      exact ⟨F', fp', [], S', s', ⟨r, rfl⟩, List.nodup_nil, fun a h => by cases h⟩
theorem ownL_app {F H : Hp} : ∀ {xs : List SV} {vs : List V} {q : List Addr} {x : SV} {v : V} {r : List Addr}, OwnL K F H xs vs q → Own K F H x v r → OwnL K F H (xs ++ [x]) (vs ++ [v]) (q ++ r)
  | [], vs, q, x, v, r, ⟨h1, h2⟩, h => by
    subst h1 h2
    exact ⟨v, [], r, [], rfl, h, ⟨rfl, rfl⟩, by simp⟩
  | y :: xs, vs, q, x, v, r, ⟨w, ws, q1, q2, e1, o1, o2, e2⟩, h => by
    subst e1 e2
    exact ⟨w, ws ++ [v], q1, q2 ++ r, rfl, o1, ownL_app o2 h, by rw [List.append_assoc]⟩
theorem ownL_len {F H : Hp} : ∀ {xs : List SV} {vs : List V} {q : List Addr}, OwnL K F H xs vs q → vs.length = xs.length
  | [], _, _, ⟨h, _⟩ => by subst h; rfl
  | _ :: xs, _, _, ⟨_, _, _, _, h, _, h2, _⟩ => by subst h; simp [ownL_len h2]
theorem te_comp {wi : TI} {gi : M → Out Wk} {g : TG} {b : EV → M → Out Unit} {tt : TT} {gt : M → Out Bool} {te : TE} {ge : M → Out EV} {vs : List Nat} (hi : TIok K mg E wi gi) (hg : TGok K g b) (ho : OwnT' g vs) (ht : TTok K mg XS0 pb tt gt) (he : TEok K mg XS0 pc te ge) (nd : vs.Nodup) :
    TEok K mg E false (tLc wi g tt te vs) (dComp gi vs b gt ge) := fun F0 G π m σ F H fp Q S p => by
  refine hi F0 G π m σ F H fp _ S ?_
  unfold dComp at p
  cases e : gi m with
  | bad => rw [e] at p; exact p
  | exc c d m' => rw [e] at p; exact p
  | ok w m1 =>
    rw [e] at p
    intro J F1 H1 fp1 S1 sF hJ D hD
    have p : PostE K mg E false F0 G π m σ F H fp Q (if vs.all (fun v => plainSl (m1.sl[v]?.join)) = true then
      (match compI w.live vs b gt ge w.items [] (wipeM m1 vs) with
        | .ok xs m2 => .ok (.fr (.ol xs)) (restM m2 m1 vs)
        | _ => .bad) else .bad) := p
    by_cases al : vs.all (fun v => plainSl (m1.sl[v]?.join)) = true
    · rw [if_pos al] at p
      generalize hr : compI w.live vs b gt ge w.items [] (wipeM m1 vs) = r at p
      have nb : ∃ xs m2, r = .ok xs m2 := by
        cases r with
        | ok xs m2 => exact ⟨xs, m2, rfl⟩
        | exc c d m' => exact p.elim
        | bad => exact p.elim
      obtain ⟨xs, mE, er⟩ := nb
      subst er
      obtain ⟨fpw, Sw, hw⟩ := S1.wipe vs
      have dF := S1.freshG hD
      have SD : StF K F0 G π (wipeM m1 vs) (L2.wipe σ vs) F1 (upd H1 D (.lst [])) fpw := Sw.allocO (.lst []) hD
      refine ⟨fun i k H => ∃ m F fp acc svs q, StF K F0 G π m (L2.wipe σ vs) F H fp ∧ Same F1 F ∧ H D = some (.lst acc) ∧ OwnL K F H svs acc q ∧ (D :: q).Nodup ∧ (∀ a ∈ D :: q, F a = none ∧ G a = none ∧ ∀ o, a ∉ fp o) ∧ i + k = w.items.length ∧ compI w.live vs b gt ge (w.items.drop i) svs m = .ok xs mE,
        ⟨w.items.length, _, F1, fpw, [], [], [], SD, Same.refl _, upd_same, ⟨rfl, rfl⟩, List.nodup_cons.mpr ⟨by simp, List.nodup_nil⟩, fun a ha => ?_, Nat.zero_add _, hr⟩, ?_⟩
      · have e : a = D := by simpa using ha
        subst e
        exact ⟨dF.1, dF.2.1, fun o z => dF.2.2 o (hw o _ z)⟩
      rintro i k H2 ⟨m2, F2, fp2, acc, svs, q, S2, s2, hacc, own, ndq, frq, el, e2⟩
      have hlv : w.live m2 := by
        apply Classical.byContradiction
        intro hl
        cases el2 : w.items.drop i with
        | nil => rw [el2, compI, if_neg hl] at e2; cases e2
        | cons d r' => rw [el2, compI, if_neg hl] at e2; cases e2
      have jj := hJ F0 G (Same.refl _) (Same.refl _) m2 _ F2 H2 fp2 S2 s2 hlv
      have hne : ∀ a ∈ D :: q, H2 a ≠ none := fun a ha => by
        rcases List.mem_cons.mp ha with rfl | ha
        · rw [hacc]; exact Option.some_ne_none _
        · exact own.there _ _ _ a ha
      cases ed : w.items.drop i with
      | nil =>
        left
        rw [ed, compI, if_pos hlv] at e2
        cases e2
        have hlen : w.items.length ≤ i := List.drop_eq_nil_iff.mp ed
        have hi' : i = w.items.length := by omega
        subst hi'
        refine ⟨jj.2, ?_⟩
        obtain ⟨fp3, S3, ap⟩ := StF.restore S1 vs nd S2 s2 al
        exact p (.ref D) F2 H2 fp3 S3 ⟨sF.trans s2, fun z => by cases z⟩ ⟨D :: q, ⟨D, acc, q, rfl, hacc, own, rfl⟩, ndq, fun a ha => ⟨(frq a ha).1, (frq a ha).2.1, fun o z => (frq a ha).2.2 o (ap o a z), fun z => by cases z⟩⟩
      | cons d r' =>
        right
        have hd : w.items[i]? = some d := by
          have := List.getElem?_drop (xs := w.items) (i := i) (j := 0)
          rw [ed] at this
          simpa using this.symm
        have hr' : w.items.drop (i + 1) = r' := by
          rw [← List.drop_drop, ed]
          rfl
        have hlt : i < w.items.length := by
          rcases Nat.lt_or_ge i w.items.length with z | z
          · exact z
          · rw [List.drop_eq_nil_of_le z] at ed; cases ed
        obtain ⟨j1, j2⟩ := jj.1 i d hd
        refine ⟨j1, fun H => ∃ m F fp acc svs q, StF K F0 G π m (L2.wipe σ vs) F H fp ∧ Same F1 F ∧ H D = some (.lst acc) ∧ OwnL K F H svs acc q ∧ (D :: q).Nodup ∧ (∀ a ∈ D :: q, F a = none ∧ G a = none ∧ ∀ o, a ∉ fp o) ∧ compI w.live vs b gt ge (w.items.drop (i + 1)) svs m = .ok xs mE, ?_, ?_⟩
        · rintro H' ⟨m3, F3, fp3, acc3, svs3, q3, h1, h2, h3, h4, h5, h6, h7⟩
          exact ⟨k - 1, by omega, m3, F3, fp3, acc3, svs3, q3, h1, h2, h3, h4, h5, h6, by omega, h7⟩
        · intro x H3 hy
          obtain ⟨F3, S3, s3, sH, new3, hx⟩ := j2 x H3 hy
          rw [ed, compI, if_pos hlv] at e2
          have keep3 : ∀ a ∈ D :: q, H3 a = H2 a := fun a ha => same_of sH (hne a ha)
          have F3n : ∀ a ∈ D :: q, F3 a = none := fun a ha => by
            cases e : F3 a with
            | none => rfl
            | some y =>
              rcases new3 a (by rw [e]; exact Option.some_ne_none _) with z | z
              · exact absurd (frq a ha).1 z
              · exact absurd z (hne a ha)
          have SP : StF K F0 (addF G H3 (D :: q)) π m2 (L2.wipe σ vs) F3 H3 fp2 := S3.protect (fun a ha => ⟨F3n a ha, (frq a ha).2.2⟩) fun a ha => by
            rw [keep3 a ha]
            rcases List.mem_cons.mp ha with rfl | ha
            · exact ⟨_, hacc, .inl ⟨_, rfl⟩⟩
            · exact OwnL.plain _ _ _ own a ha
          refine ho x _ H3 _ (hg F3 _ π m2 _ F3 H3 fp2 _ x (.v d) SP.rebase hx ?_)
          cases eb : b (.v d) m2 with
          | bad => rw [eb] at e2; cases e2
          | exc c d' m' => rw [eb] at e2; cases e2
          | ok u m3 =>
            rw [eb] at e2
            intro σ4 F4 H4 fp4 S4 hw4
            have hw4 : L2.wipe σ4 vs = L2.wipe σ vs := hw4.trans (wipe_wipe vs)
            refine ⟨hw4, ?_⟩
            refine ht F4 _ π m3 σ4 F4 H4 fp4 _ S4.rebase ?_
            have e2 : (match gt m3 with
              | .ok true m2 => (match ge m2 with
                | .ok ev m3 => (match elem m3 ev with
                  | .ok s m4 => if svs.length < bigLen then compI w.live vs b gt ge r' (svs ++ [s]) (wipeM m4 vs) else .bad
                  | _ => .bad)
                | _ => .bad)
              | .ok false m2 => compI w.live vs b gt ge r' svs (wipeM m2 vs)
              | _ => .bad) = .ok xs mE := e2
            -- a turn's end: the list's parts as they stand
            have fin : ∀ {m5 : M} {F5 H5 : Hp} {fp5 : Ow → List Addr}, StF K F4 (addF G H3 (D :: q)) π m5 σ4 F5 H5 fp5 →
                (∃ fp6, StF K F0 G π (wipeM m5 vs) (L2.wipe σ vs) F5 H5 fp6 ∧ ∀ o a, a ∈ fp6 o → a ∈ fp5 o) ∧ (∀ a ∈ D :: q, H5 a = H2 a ∧ F5 a = none ∧ ∀ o, a ∉ fp5 o) ∧ Same F2 F5 := fun {m5 F5 H5 fp5} S5 => by
              have T5 := SP.unbase (S4.unbase S5)
              obtain ⟨U5, k5⟩ := S3.unprotect (q := D :: q) (fun a ha => ⟨F3n a ha, by
                rw [keep3 a ha]
                rcases List.mem_cons.mp ha with rfl | ha
                · exact ⟨_, hacc, .inl ⟨_, rfl⟩⟩
                · exact own.plain _ _ _ a ha⟩) T5
              obtain ⟨fp6, W6, h6⟩ := U5.wipe vs
              rw [hw4] at W6
              exact ⟨⟨fp6, W6, h6⟩, fun a ha => ⟨(k5 a ha).1.trans (keep3 a ha), (k5 a ha).2⟩, (s3.trans S4.mono).trans S5.mono⟩
            cases et : gt m3 with
            | bad => rw [et] at e2; cases e2
            | exc c d' m' => rw [et] at e2; cases e2
            | ok bb m5 =>
              rw [et] at e2
              intro F5 H5 fp5 S5 _
              cases bb with
              | false =>
                have e2 : compI w.live vs b gt ge r' svs (wipeM m5 vs) = .ok xs mE := e2
                rw [if_neg Bool.false_ne_true]
                obtain ⟨⟨fp6, W6, h6⟩, k5, s5⟩ := fin S5
                refine ⟨_, F5, fp6, acc, svs, q, W6, s2.trans s5, (k5 D List.mem_cons_self).1.trans hacc, own.keep s5 _ _ _ fun a ha => (k5 a (List.mem_cons_of_mem _ ha)).1, ndq, fun a ha => ⟨(k5 a ha).2.1, (frq a ha).2.1, fun o z => (k5 a ha).2.2 o (h6 o a z)⟩, by rw [hr']; exact e2⟩
              | true =>
                have e2 : (match ge m5 with
                  | .ok ev m3 => (match elem m3 ev with
                    | .ok s m4 => if svs.length < bigLen then compI w.live vs b gt ge r' (svs ++ [s]) (wipeM m4 vs) else .bad
                    | _ => .bad)
                  | _ => .bad) = .ok xs mE := e2
                rw [if_pos rfl]
                refine he F4 _ π m5 σ4 F5 H5 fp5 _ S5 ?_
                cases ee : ge m5 with
                | bad => rw [ee] at e2; cases e2
                | exc c d' m' => rw [ee] at e2; cases e2
                | ok ev m6 =>
                  rw [ee] at e2
                  intro y F6 H6 fp6 S6 _ e6
                  have e2 : (match elem m6 ev with
                    | .ok s m4 => if svs.length < bigLen then compI w.live vs b gt ge r' (svs ++ [s]) (wipeM m4 vs) else .bad
                    | _ => .bad) = .ok xs mE := e2
                  cases el : elem m6 ev with
                  | bad => rw [el] at e2; cases e2
                  | exc c d' m' => rw [el] at e2; cases e2
                  | ok sv m7 =>
                    rw [el] at e2
                    have e2 : (if svs.length < bigLen then compI w.live vs b gt ge r' (svs ++ [sv]) (wipeM m7 vs) else .bad) = .ok xs mE := e2
                    by_cases hb : svs.length < bigLen
                    · rw [if_pos hb] at e2
                      obtain ⟨F7, fp7, q7, S7, s7, o7, n7, f7⟩ := elem_ok S6 e6 el
                      obtain ⟨⟨fp8, W8, h8⟩, k7, s27⟩ := fin S7
                      have dq : ∀ a ∈ q7, a ∉ D :: q := fun a ha z => by
                        have := (f7 a ha).2.1
                        rw [addF_in z, keep3 a z] at this
                        exact hne a z this
                      have kD := k7 D List.mem_cons_self
                      have gq : ∀ a ∈ q7, G a = none := fun a ha => by
                        have := (f7 a ha).2.1
                        rw [addF_out (dq a ha)] at this
                        exact this
                      have ndq' := List.nodup_cons.mp ndq
                      refine ⟨acc, kD.1.trans hacc, by rw [ownL_len own]; exact big_lt hb, _, F7, fp8, acc ++ [y], svs ++ [sv], q ++ q7, W8.poke _ kD.2.1 (frq D List.mem_cons_self).2.1 (fun o z => kD.2.2 o (h8 o D z)) (fun x e => by
                        rw [kD.1.trans hacc] at e
                        cases e
                        exact .inl ⟨_, rfl⟩), s2.trans s27, upd_same, ?_, ?_, ?_, by rw [hr']; exact e2⟩
                      · refine ownL_app (own.keep s27 _ _ _ fun a ha => ?_) (o7.keep (Same.refl _) _ _ _ fun a ha => ?_)
                        · rw [upd_ne (fun z : a = D => ndq'.1 (by rw [← z]; exact ha))]
                          exact (k7 a (List.mem_cons_of_mem _ ha)).1
                        · exact upd_ne fun z => dq a ha (z ▸ List.mem_cons_self)
                      · refine List.nodup_cons.mpr ⟨fun z => ?_, nodup_mk ndq'.2 n7 fun a ha hb => dq a hb (List.mem_cons_of_mem _ ha)⟩
                        rcases List.mem_append.mp z with z | z
                        · exact ndq'.1 z
                        · exact dq D z List.mem_cons_self
                      · intro a ha
                        have : a ∈ D :: q ∨ a ∈ q7 := by
                          rcases List.mem_cons.mp ha with z | z
                          · exact .inl (z ▸ List.mem_cons_self)
                          · rcases List.mem_append.mp z with z | z
                            · exact .inl (List.mem_cons_of_mem _ z)
                            · exact .inr z
                        rcases this with z | z
                        · exact ⟨(k7 a z).2.1, (frq a z).2.1, fun o w => (k7 a z).2.2 o (h8 o a w)⟩
                        · exact ⟨(f7 a z).1, gq a z, fun o w => (f7 a z).2.2 o (h8 o a w)⟩
                    · rw [if_neg hb] at e2; cases e2
    · rw [if_neg al] at p
      exact p.elim
end
end PD
namespace PD
open PySem PySem.Spec PyProof.Rows L2
/-! ## a piece of syntax with its reading and its denotation -/
structure DE (X : Cx) (K : Kf) (mg : Str → Option Value) (E : XS) (e : Expr) (pu : Bool) (t : TE) (g : M → Out EV) : Prop where
  pe : PE X e t
  ok : TEok K mg E pu t g
structure DT (X : Cx) (K : Kf) (mg : Str → Option Value) (E : XS) (e : Expr) (pu : Bool) (t : TT) (g : M → Out Bool) : Prop where
  pe : PT X e t
  ok : TTok K mg E pu t g
structure DW (X : Cx) (K : Kf) (mg : Str → Option Value) (E : XS) (e : Expr) (pu : Bool) (t : TT) (g : M → Out Bool) : Prop where
  pe : PW X e t
  ok : TTok K mg E pu t g
structure DA (X : Cx) (K : Kf) (mg : Str → Option Value) (E : XS) (es : List Expr) (pu : Bool) (t : TA) (g : M → Out (List EV)) : Prop where
  pe : PA X es t
  ok : TAok K mg E pu t g
structure DK (X : Cx) (K : Kf) (mg : Str → Option Value) (E : XS) (es : List Keyword) (pu : Bool) (t : TA) (g : M → Out (List EV)) : Prop where
  pe : PK X es t
  ok : TAok K mg E pu t g
structure DS (X : Cx) (K : Kf) (mg : Str → Option Value) (E : XS) (s : Stmt) (t : TS) (g : M → Out Ctl) : Prop where
  pe : PS X s t
  ok : TSok K mg E t g
structure DSs (X : Cx) (K : Kf) (mg : Str → Option Value) (E : XS) (s : List Stmt) (t : TS) (g : M → Out Ctl) : Prop where
  pe : PSs X s t
  ok : TSok K mg E t g
structure DG (X : Cx) (K : Kf) (e : Expr) (t : TG) (b : EV → M → Out Unit) : Prop where
  pe : PG X e t
  ok : TGok K t b
structure DGs (X : Cx) (K : Kf) (e : List Expr) (t : TGs) (b : List D → M → Out Unit) : Prop where
  pe : PGs X e t
  ok : TGsok K t b
structure DI (X : Cx) (K : Kf) (mg : Str → Option Value) (E : XS) (tg iter : Expr) (wi : TI) (g : M → Out Wk) : Prop where
  pe : PI X tg iter wi
  ok : TIok K mg E wi g
structure DTs (X : Cx) (K : Kf) (mg : Str → Option Value) (E : XS) (e : List Expr) (pu : Bool) (t : TT) (g : M → Out Bool) : Prop where
  pe : PTs X e t
  ok : TTok K mg E pu t g
/-- where a piece stands -/
structure Cxt (X : Cx) (P : Program) (w : World) (KX K : Kf) (mg : Str → Option Value) (base : Heap) (n : Nat) (E : XS) : Prop where
  hP : X.prog = P
  hw : X.w = w
  hK : X.K = KX
  up : Up K KX
  hm : X.mg = mg
  hb : X.base = base
  room : Room n X.A
  calm : X.calm = true
  nd : X.N.Nodup
  hx : ∀ σ, PassesAt (L2.CX P w) X σ (E σ)
  pown : PassesOwn (model X.prog X.w) X.A X.env X.xe
  tk : Takes X (fun cls d σ H => E σ cls d H)
section
variable {X : Cx} {P : Program} {w : World} {KX K : Kf} {mg : Str → Option Value} {base : Heap} {n : Nat} {E : XS} {pa pb pc pu : Bool} {ta tb tc : TE} {ga gb gc : M → Out EV} {a b c e : Expr} {es : List Expr} {pos p : Pos} {x : Str}
theorem Cxt.hu1 (C : Cxt X P w KX K mg base n E) : X.A.units + 1 < cLine := hu_of C.room
theorem Cxt.hu64 (C : Cxt X P w KX K mg base n E) : X.A.units + 64 < cLine := C.room.units
theorem Cxt.blk (C : Cxt X P w KX K mg base n E) (s : Shared) (H : Hp) (scope : Scope) (cenv : Env) (fp : List Addr) : Cxt (X.blk s H scope cenv fp) P w KX K mg base n XS0 where
  hP := C.hP
  hw := C.hw
  hK := C.hK
  up := C.up
  hm := C.hm
  hb := C.hb
  room := C.room
  calm := C.calm
  nd := C.nd
  hx := fun σ pins H s e s' I h => by
    obtain ⟨_, _, _, _, _, _, _, _, _, _, _, _, z⟩ := h
    exact z.elim
  pown := PassesOwn.never
  tk := fun u s' z => by
    obtain ⟨_, _, _, _, _, _, _, _, _, _, _, _, _, _, _, _, w⟩ := z
    exact w.elim
theorem de_var (i : Nat) {x : Str} {pos : Pos} (hN : X.N[i]? = some x := by rfl) (hv : Vis X.env.scope x := by first | exact Or.inl rfl | exact Or.inr (Or.inl rfl) | exact Or.inr (Or.inr rfl)) (hd : (x == ("__debug__" : Str)) = false := by decide)
    (hcd : (x == ("__classdict__" : Str)) = false := by decide) : DE X K mg E (.Name x pos) true (tVar i) (dVar i) := ⟨pe_var hN hv hd hcd, te_var⟩
theorem de_int {i : Int} {j pos} : DE X K mg E (.Constant (.int i) j pos) true (tC (.int i)) (dC (.int i)) := ⟨pe_int, te_c fun _ => rfl⟩
theorem de_bl {b : Bool} {j pos} : DE X K mg E (.Constant (.bool b) j pos) true (tC (.bl b)) (dC (.bl b)) := ⟨pe_bl, te_c fun _ => rfl⟩
theorem de_non {j pos} : DE X K mg E (.Constant .none j pos) true (tC .non) (dC .non) := ⟨pe_non, te_c fun _ => rfl⟩
theorem de_str {z : Str} {j pos} : DE X K mg E (.Constant (.str z) j pos) true (tC (.str z)) (dC (.str z)) := ⟨pe_str, te_c fun _ => rfl⟩
/-- a module's constant -/
theorem de_glob (C : Cxt X P w KX K mg base n E) {u : Value} {v : V} {d : D} (hg : Gl X x) (hm : mg x = some u) (r : RelV v u) (hd : ∀ F, Rep K F d v) (hdb : (x == ("__debug__" : Str)) = false := by decide) : DE X K mg E (.Name x pos) true (tC v) (dC d) := ⟨pe_glob hg (by rw [C.hm]; exact hm) r hdb, te_c hd⟩
/-! ### tests -/
theorem dt_val (h : DE X K mg E e pa ta ga) (he : ∀ whole, isTrue e X.env whole = (do let v ← whole; standAt e.pos; holding [v] (truthy v)) := by intro _; rfl) : DT X K mg E e pa (tB ta) (dTest ga) := ⟨pt_val h.pe he, tt_test h.ok⟩
theorem dt_w {t : TT} {g : M → Out Bool} (h : DW X K mg E e pa t g) : DT X K mg E e pa t g := ⟨h.pe.pt, h.ok⟩
variable {t1 t2 : TT} {g1 g2 : M → Out Bool} {rest : List Expr}
theorem dw_and1 (h : DT X K mg E a pa t1 g1) : DW X K mg E (.BoolOp .And [a] pos) pa t1 g1 := ⟨pw_and1 h.pe, h.ok⟩
theorem dw_or1 (h : DT X K mg E a pa t1 g1) : DW X K mg E (.BoolOp .Or [a] pos) pa t1 g1 := ⟨pw_or1 h.pe, h.ok⟩
theorem dw_and (h : DT X K mg E a pa t1 g1) (h2 : DW X K mg E (.BoolOp .And (b :: rest) pos) pb t2 g2) : DW X K mg E (.BoolOp .And (a :: b :: rest) pos) (pa && pb) (tAnd t1 t2) (dAndT g1 g2) := ⟨pw_and h.pe h2.pe, tt_and h.ok h2.ok⟩
theorem dw_or (h : DT X K mg E a pa t1 g1) (h2 : DW X K mg E (.BoolOp .Or (b :: rest) pos) pb t2 g2) : DW X K mg E (.BoolOp .Or (a :: b :: rest) pos) (pa && pb) (tOr t1 t2) (dOrT g1 g2) := ⟨pw_or h.pe h2.pe, tt_or h.ok h2.ok⟩
theorem dt_not (h : DT X K mg E a pa t1 g1) : DT X K mg E (.UnaryOp .Not a pos) pa (tNot t1) (dNotT g1) := ⟨pt_not h.pe, tt_not h.ok⟩
/-! ### values -/
theorem de_one (h : DE X K mg E a pa ta ga) {op : BoolOp} : DE X K mg E (.BoolOp op [a] pos) pa ta ga := ⟨pe_one h.pe, h.ok⟩
theorem de_and (h : DE X K mg E a pa ta ga) (h2 : DE X K mg E (.BoolOp .And (b :: rest) pos) pb tb gb) : DE X K mg E (.BoolOp .And (a :: b :: rest) pos) (pa && pb) (tAndV ta tb) (dAndV ga gb) := ⟨pe_and h.pe h2.pe, te_and h.ok h2.ok⟩
theorem de_or (h : DE X K mg E a pa ta ga) (h2 : DE X K mg E (.BoolOp .Or (b :: rest) pos) pb tb gb) : DE X K mg E (.BoolOp .Or (a :: b :: rest) pos) (pa && pb) (tOrV ta tb) (dOrV ga gb) := ⟨pe_or h.pe h2.pe, te_or h.ok h2.ok⟩
theorem de_not (h : DE X K mg E a pa ta ga) : DE X K mg E (.UnaryOp .Not a pos) pa (tNotV ta) (dNotV ga) := ⟨pe_not h.pe, te_not h.ok⟩
theorem de_if (h : DT X K mg E c pc t1 g1) (h1 : DE X K mg E a pa ta ga) (h2 : DE X K mg E b pb tb gb) : DE X K mg E (.IfExp c a b pos) (pc && (pa && pb)) (tIf t1 ta tb) (dIfE g1 ga gb) := ⟨pe_ifExp h.pe h1.pe h2.pe, te_if h.ok h1.ok h2.ok⟩
theorem de_fz (h : DE X K mg E a pa ta ga) : DE X K mg E a false ta (dFz ga) := ⟨h.pe, te_fz h.ok⟩
/-! ### arguments -/
theorem da_nil : DA X K mg E [] true tNil dNil := ⟨pa_nil, ta_nil⟩
theorem da_cons {ts : TA} {gs : M → Out (List EV)} (h : DE X K mg E a pa ta ga) (h2 : DA X K mg E es pb ts gs) (he : starEach (a :: es) X.env = (false, eval a X.env) :: starEach es X.env := by rfl) : DA X K mg E (a :: es) (pa && pb) (tCons ta ts) (dCons pb ga gs) := ⟨pa_cons h.pe h2.pe he, ta_cons h.ok h2.ok⟩
theorem dk_nil : DK X K mg E [] true tNil dNil := ⟨pk_nil, ta_nil⟩
theorem dk_cons {ts : TA} {gs : M → Out (List EV)} {kws : List Keyword} {nm : Option Str} (h : DE X K mg E a pa ta ga) (h2 : DK X K mg E kws pb ts gs) : DK X K mg E (⟨nm, a, p⟩ :: kws) (pa && pb) (tCons ta ts) (dCons pb ga gs) := ⟨pk_cons h.pe h2.pe, ta_cons h.ok h2.ok⟩
/-! ### operators -/
theorem de_op {op : Operator} {r : R2} {k : M → EV → EV → Out EV} (ho : OpR X (binaryOp op) r) (hk : KOk2 K mg E pc r k) (h1 : DE X K mg E a pa ta ga) (h2 : DE X K mg E b pb tb gb) : DE X K mg E (.BinOp a op b pos) (pa && (pb && pc)) (tOp r ta tb) (dBin pb ga gb k) := ⟨pe_op ho h1.pe h2.pe, te_op h1.ok h2.ok hk⟩
theorem nomark' (op : CmpOp) (b : Expr) : True := trivial
theorem de_cmp {op : CmpOp} {r : R2} {k : M → EV → EV → Out EV} (ho : OpR X (compareOp op) r) (hk : KOk2 K mg E pc r k) (h1 : DE X K mg E a pa ta ga) (h2 : DE X K mg E b pb tb gb) (hm : behindInMarks op b = false := by rfl) : DE X K mg E (.Compare a [op] [b] pos) (pa && (pb && pc)) (tOp r ta tb) (dBin pb ga gb k) := ⟨pe_cmpR ho h1.pe h2.pe hm, te_op h1.ok h2.ok hk⟩
theorem dt_cmp {op : CmpOp} {r : R2} {k : M → EV → EV → Out EV} (ho : OpR X (compareOp op) r) (hk : KOk2 K mg E pc r k) (h1 : DE X K mg E a pa ta ga) (h2 : DE X K mg E b pb tb gb) (hm : behindInMarks op b = false := by rfl) : DT X K mg E (.Compare a [op] [b] pos) (pa && (pb && pc)) (tTest (tOp r ta tb)) (dTest (dBin pb ga gb k)) := ⟨pt_cmpR ho h1.pe h2.pe hm, tt_test (te_op h1.ok h2.ok hk)⟩
theorem de_un {op : UnaryOp} {r : V → Hp → VK → Prop} {k : M → EV → Out EV} (ho : UnR X (unaryOp op) r) (hk : KOk1 K mg E pc r k) (h1 : DE X K mg E a pa ta ga) : DE X K mg E (.UnaryOp op a pos) (pa && pc) (tUn r ta) (dUn ga k) := ⟨pe_un ho h1.pe, (te_un1 h1.ok hk : TEok K mg E _ (fun σ H Q => ta σ H fun x H1 => r x H1 Q) _)⟩
theorem de_ix {r : R2} {k : M → EV → EV → Out EV} (ho : IxR X r) (hk : KOk2 K mg E pc r k) (h1 : DE X K mg E a pa ta ga) (h2 : DE X K mg E b pb tb gb) (hs : PlainIx b := by exact fun _ _ => rfl) : DE X K mg E (.Subscript a b pos) (pa && (pb && pc)) (tOp r ta tb) (dBin pb ga gb k) := ⟨pe_ix ho h1.pe h2.pe hs, te_op h1.ok h2.ok hk⟩
/-! ### displays -/
def sizeOk (n : Nat) : Bool := decide (n ≤ bigLen)
/-- (a, b, ..): the items are frozen -/
def evD (m : M) : List EV → Out (List D)
  | [] => .ok [] m
  | ev :: r => (dFzE m ev).bind fun d m1 => (evD m1 r).bind fun ds m2 => .ok (d :: ds) m2
def kTup (m : M) (es : List EV) : Out EV := if es.length ≤ bigLen then (evD m es).bind fun ds m1 => .ok (.v (.tup ds)) m1 else .bad
theorem EvFs.grow {G : Hp} {π : List V} {m : M} {σ : L2.St} {F H F' H' : Hp} {fp fp' : Ow → List Addr} {N : Addr → Prop} (c : Ch true m m F H F' H' fp fp') : ∀ {vs : List V} {es : List EV}, EvFs K G π σ F H fp (fun _ => False) vs es → EvFs K G π σ F' H' fp' N vs es
  | _, _, .nil => .nil
  | _, _, .cons h r => by
    refine .cons ?_ (EvFs.grow c r)
    rename_i v vs ev es
    cases ev with
    | v d => exact Rep.mono c.ext d v h
    | br o p => exact let ⟨w, h1, h2⟩ := h; ⟨w, h1, h2.mono (c.pure rfl).2.2.1⟩
    | fr s =>
      obtain ⟨q, h1, h2, h3⟩ := h
      cases q with
      | cons a q => exact (h3 a List.mem_cons_self).2.2.2.elim
      | nil =>
        refine ⟨[], ?_, List.nodup_nil, fun a h => by cases h⟩
        refine h1.keep c.ext _ _ _ fun a h => by cases h
/-- freezing keeps the ways: a place that is frozen later still stands where it stood -/
theorem evD_ok {F0 G : Hp} {π : List V} {σ : L2.St} {H : Hp} : ∀ (es : List EV) (vs : List V) (m m' : M) (F : Hp) (fp : Ow → List Addr) (ds : List D), StF K F0 G π m σ F H fp → EvFs K G π σ F H fp (fun _ => False) vs es → evD m es = .ok ds m' →
    ∃ F' fp', StF K F0 G π m' σ F' H fp' ∧ RepAll K F' ds vs ∧ Same F F'
  | [], vs, m, m', F, fp, ds, S, h, e => by
    cases h
    cases e
    exact ⟨F, fp, S, rfl, Same.refl F⟩
  | ev :: es, vs, m, m', F, fp, ds, S, h, e => by
    cases h with
    | @cons v vs _ _ h1 h2 =>
      unfold evD at e
      cases e1 : dFzE m ev with
      | bad => rw [e1] at e; cases e
      | exc c d m1 => rw [e1] at e; cases e
      | ok d m1 =>
        rw [e1] at e
        have e : ((evD m1 es).bind fun ds m2 => Out.ok (d :: ds) m2) = .ok ds m' := e
        obtain ⟨F1, fp1, S1, r1, s1⟩ := fzE_ok S h1 e1
        have h2' : EvFs K G π σ F1 H fp1 (fun _ => False) vs es := by
          have : ∀ {vs : List V} {es : List EV}, EvFs K G π σ F H fp (fun _ => False) vs es → EvFs K G π σ F1 H fp1 (fun _ => False) vs es := by
            intro vs es h
            induction h with
            | nil => exact .nil
            | @cons v vs ev es h _ ih =>
              refine .cons ?_ ih
              cases ev with
              | v d => exact Rep.mono s1 d v h
              | br o p => exact h
              | fr s =>
                obtain ⟨q, h1, h2, h3⟩ := h
                cases q with
                | cons a q => exact (h3 a List.mem_cons_self).2.2.2.elim
                | nil => exact ⟨[], h1.keep s1 _ _ _ (fun a h => by cases h), List.nodup_nil, fun a h => by cases h⟩
          exact this h2
        cases e2 : evD m1 es with
        | bad => rw [e2] at e; cases e
        | exc c d m1 => rw [e2] at e; cases e
        | ok ds' m2 =>
          rw [e2] at e
          cases e
          obtain ⟨F2, fp2, S2, r2, s2⟩ := evD_ok es vs m1 _ F1 fp1 ds' S1 h2' e2
          exact ⟨F2, fp2, S2, ⟨v, vs, rfl, r1.mono s2 _ _, r2⟩, s1.trans s2⟩
theorem evFs_len {G : Hp} {π : List V} {σ : L2.St} {F H : Hp} {fp : Ow → List Addr} {N : Addr → Prop} {vs : List V} {es : List EV} (h : EvFs K G π σ F H fp N vs es) : vs.length = es.length := by
  induction h with
  | nil => rfl
  | cons _ _ ih => simp [ih]
theorem evD_exc {c : Str} {d : D} : ∀ (es : List EV) (m m' : M), evD m es ≠ .exc c d m'
  | [], m, m', e => by cases e
  | ev :: es, m, m', e => by
    unfold evD at e
    cases e1 : dFzE m ev with
    | bad => rw [e1] at e; cases e
    | exc c d m1 =>
      cases ev with
      | v d => cases e1
      | fr s => cases e1
      | br o q =>
        unfold dFzE at e1
        cases eg : get m o with
        | none => simp [eg] at e1
        | some r =>
          cases es : sub r q with
          | none => simp [eg, es] at e1
          | some s => simp [eg, es] at e1
    | ok d m1 =>
      rw [e1] at e
      have e : ((evD m1 es).bind fun ds m2 => Out.ok (d :: ds) m2) = .exc c _ m' := e
      cases e2 : evD m1 es with
      | bad => rw [e2] at e; cases e
      | exc c d m2 => exact evD_exc es m1 m2 e2
      | ok ds' m2 => rw [e2] at e; cases e
theorem k_tup : KOkN K mg E false (fun _ xs H Q => xs.length ≤ sizeLine ∧ ∀ p, H p = none → Q (.ref p) (upd H p (.tup xs))) kTup := fun F0 G π m σ F H fp Q xs es S h p => by
  unfold kTup at p
  by_cases hl : es.length ≤ bigLen
  · rw [if_pos hl] at p
    cases e : evD m es with
    | bad => rw [e] at p; exact p.elim
    | exc c d m' => exact (evD_exc es m m' e).elim
    | ok ds m1 =>
      rw [e] at p
      obtain ⟨F1, fp1, S1, r, s1⟩ := evD_ok es xs m m1 F fp ds S h e
      refine ⟨by rw [evFs_len h]; exact big_le hl, fun q hq => ?_⟩
      refine p (.ref q) _ _ fp1 (S1.allocF (.tup xs) hq) ⟨s1.trans (same_new (same_none S1.sub hq)), fun z => by cases z⟩ ⟨q, xs, rfl, upd_same, r.mono (same_new (same_none S1.sub hq)) _ _⟩
  · rw [if_neg hl] at p; exact p.elim
theorem de_tup {ts : TA} {gs : M → Out (List EV)} {j} (h : DA X K mg E es pb ts gs) : DE X K mg E (.Tuple es j pos) false (tTup ts) (dApp gs kTup) := ⟨pe_tup h.pe, by
  have := te_app h.ok (k_tup (K := K) (mg := mg) (E := E))
  rw [Bool.and_false] at this
  exact this⟩
/-- [a, b, ..]: a new list of frozen things -/
def kLst (m : M) (es : List EV) : Out EV := if es.length ≤ bigLen then (evD m es).bind fun ds m1 => .ok (.fr (.ol (ds.map .fz))) m1 else .bad
theorem ownL_fz {F H : Hp} : ∀ {ds : List D} {vs : List V}, RepAll K F ds vs → OwnL K F H (ds.map .fz) vs []
  | [], _, h => ⟨h, rfl⟩
  | d :: ds, _, ⟨v, r, e, h1, h2⟩ => ⟨v, r, [], [], e, ⟨h1, rfl⟩, ownL_fz h2, rfl⟩
theorem k_lst : KOkN K mg E false (fun _ xs H Q => xs.length ≤ sizeLine ∧ ∀ p, H p = none → Q (.ref p) (upd H p (.lst xs))) kLst := fun F0 G π m σ F H fp Q xs es S h p => by
  unfold kLst at p
  by_cases hl : es.length ≤ bigLen
  · rw [if_pos hl] at p
    cases e : evD m es with
    | bad => rw [e] at p; exact p.elim
    | exc c d m' => exact (evD_exc es m m' e).elim
    | ok ds m1 =>
      rw [e] at p
      obtain ⟨F1, fp1, S1, r, s1⟩ := evD_ok es xs m m1 F fp ds S h e
      refine ⟨by rw [evFs_len h]; exact big_le hl, fun q hq => ?_⟩
      have f := S1.freshG hq
      refine p (.ref q) _ _ fp1 (S1.allocO (.lst xs) hq) ⟨s1, fun z => by cases z⟩ ⟨[q], ⟨q, xs, [], rfl, upd_same, ownL_fz r, rfl⟩, List.nodup_cons.mpr ⟨by simp, List.nodup_nil⟩, fun a ha => ?_⟩
      have : a = q := by simpa using ha
      subst this
      exact ⟨f.1, f.2.1, f.2.2, fun z => by cases z⟩
  · rw [if_neg hl] at p; exact p.elim
theorem de_lst {ts : TA} {gs : M → Out (List EV)} (h : DA X K mg E es pb ts gs) : DE X K mg E (.List es pos) false (tLst ts) (dApp gs kLst) := ⟨pe_lst h.pe, by
  have := te_app h.ok (k_lst (K := K) (mg := mg) (E := E))
  rw [Bool.and_false] at this
  exact this⟩
/-! ### targets, statements -/
theorem dg_name (C : Cxt X P w KX K mg base n E) (i : Nat) (hi : X.N[i]? = some x := by rfl) (hx : Loc X.env.scope x := by first | exact Or.inl rfl | exact Or.inr rfl) (hf : X.fn x = true ∨ X.env.scope.names.lookup x = some .local := by first | exact .inl rfl | exact .inr rfl) : DG X K (.Name x pos) (gName i) (bName i) := ⟨pg_name C.nd hi hx hf, tg_name⟩
theorem dgs_nil : DGs X K [] gNil bNil := ⟨pgs_nil, tgs_nil⟩
theorem dgs_cons {t : TG} {ts : TGs} {b : EV → M → Out Unit} {bs : List D → M → Out Unit} (h1 : DG X K e t b) (h2 : DGs X K es ts bs) (hs : (assignEach (e :: es) X.env).map (·.2) = assign e X.env :: (assignEach es X.env).map (·.2) := by rfl) : DGs X K (e :: es) (gCons t ts) (bCons b bs) := ⟨pgs_cons h1.pe h2.pe hs, tgs_cons h1.ok h2.ok⟩
theorem ds_skip : DSs X K mg E [] tNext dSkip := ⟨pss_nil, ts_skip⟩
variable {st : Stmt} {sts : List Stmt} {t u : TS} {s1 s2 : M → Out Ctl}
theorem ds_cons (h1 : DS X K mg E st t s1) (h2 : DSs X K mg E sts u s2) : DSs X K mg E (st :: sts) (tSeq t u) (dSeq s1 s2) := ⟨pss_cons h1.pe h2.pe, ts_seq h1.ok h2.ok⟩
theorem ds_one (h1 : DS X K mg E st t s1) : DSs X K mg E [st] t s1 := ⟨pss_one h1.pe, h1.ok⟩
theorem ds_pass : DS X K mg E (.Pass pos) tNext dSkip := ⟨ps_pass, ts_skip⟩
theorem ds_break : DS X K mg E (.Break pos) tBreak dBreak := ⟨ps_break, ts_break⟩
theorem ds_cont : DS X K mg E (.Continue pos) tCont dCont := ⟨ps_continue, ts_cont⟩
theorem ds_expr (h : DE X K mg E e pa ta ga) (hs : swapsWith e none pos.line X.env = pure false := by rfl) : DS X K mg E (.Expr e pos) (tDrop ta) (dDrop ga) := ⟨ps_expr h.pe hs, ts_drop h.ok⟩
theorem ds_ret (h : DE X K mg E e pa ta ga) : DS X K mg E (.Return (some e) pos) (tRet ta) (dRet ga) := ⟨ps_ret h.pe, ts_ret h.ok⟩
theorem ds_retN : DS X K mg E (.Return none pos) tRetN dRetN := ⟨ps_retN, ts_retN⟩
theorem ds_if {c : Expr} {A B : List Stmt} (hc : DT X K mg E c pa t1 g1) (ha : DSs X K mg E A t s1) (hb : DSs X K mg E B u s2) : DS X K mg E (.If c A B pos) (tIfS t1 t u) (dIf g1 s1 s2) := ⟨ps_if hc.pe ha.pe hb.pe, ts_if hc.ok ha.ok hb.ok⟩
theorem ds_set (C : Cxt X P w KX K mg base n E) (i : Nat) {pos' : Pos} (h : DE X K mg E e pa ta ga) (hi : X.N[i]? = some x := by rfl) (hx : Loc X.env.scope x := by first | exact Or.inl rfl | exact Or.inr rfl) (hs : swapsWith e (some (.Name x pos')) pos.line X.env = pure false := by rfl)
    (hf : X.fn x = true ∨ X.env.scope.names.lookup x = some .local := by first | exact .inl rfl | exact .inr rfl) : DS X K mg E (.Assign [.Name x pos'] e pos) (tAsg ta (gName i)) (dAsg ga (bName i)) := ⟨ps_set C.nd hi hx h.pe hs hf, ts_asg h.ok tg_name⟩
theorem ds_asg {tg : TG} {b : EV → M → Out Unit} {T : Expr} (h : DE X K mg E e pa ta ga) (hg : DG X K T tg b) (hs : swapsWithSole [T] e pos.line X.env = pure false := by rfl) (hw : swappedStores [T] e X.env = pure none := by rfl)
    (h1 : (assignEach [T] X.env).map (·.2) = [assign T X.env] := by rfl) : DS X K mg E (.Assign [T] e pos) (tAsg ta tg) (dAsg ga b) := ⟨ps_asg h.pe hg.pe hs hw h1, ts_asg h.ok hg.ok⟩
theorem ds_while (C : Cxt X P w KX K mg base n E) {c : Expr} {body : List Stmt} (hc : DT X K mg E c pa t1 g1) (hb : DSs X K mg E body t s1) : DS X K mg E (.While c body [] pos) (tWhile t1 t) (dWhile g1 s1) := ⟨ps_while C.pown hc.pe hb.pe, ts_while hc.ok hb.ok⟩
theorem ds_for (C : Cxt X P w KX K mg base n E) {T iter : Expr} {body : List Stmt} {wi : TI} {gi : M → Out Wk} {tg : TG} {b : EV → M → Out Unit} (hi : DI X K mg E T iter wi gi) (hg : DG X K T tg b) (hb : DSs X K mg E body t s1) (hs : ∀ x, foldedSetIterable iter X.env x = pure x := by intro _; rfl) : DS X K mg E (.For T iter body [] pos) (tFor wi tg t) (dFor gi b s1) :=
  ⟨ps_for C.pown C.calm hi.pe hg.pe hb.pe hs, ts_for hi.ok hg.ok hb.ok⟩
end
end PD
namespace PD
open PySem PySem.Spec PyProof.Rows L2
/-! ## defs -/
inductive Ar where
  | fz (d : D) | pin (j : Nat)
abbrev Den := List Ar → List SV → Out SV
def ArgF (K : Kf) (F : Hp) (π : List V) : Ar → V → Prop
  | .fz d, v => Rep K F d v
  | .pin j, v => π[j]? = some v
def ArgsF (K : Kf) (F : Hp) (π : List V) : List Ar → List V → Prop
  | [], vs => vs = []
  | a :: as, vs => ∃ v r, vs = v :: r ∧ ArgF K F π a v ∧ ArgsF K F π as r
def PostF (K : Kf) (mg : Str → Option Value) (F G : Hp) (π : List V) (Q : VK) (E : XK) : Out SV → Prop
  | .ok s m' => ∀ v F' H' fp', StF K F G π ⟨[], m'.pp⟩ [] F' H' fp' → EvF K G π [] F' H' fp' (fun _ => True) v (.fr s) → Q v H'
  | .exc c d m' => ∀ C dx v F' H' fp', mg c = some (.ref C) → StF K F G π ⟨[], m'.pp⟩ [] F' H' fp' → H' dx = some (.xd [(("thing" : Str), v)]) → Rep K F' d v → E (.ref C) (some dx) H'
  | .bad => False
/-- a def's promise by its denotation; np: how many parameters -/
def spF (K : Kf) (mg : Str → Option Value) (np : Nat) (f : Den) : Sp := fun vs H Q E => vs.length = np ∧ ∃ F G π pins fp as, StF K F G π ⟨[], pins⟩ [] F H fp ∧ ArgsF K F π as vs ∧ PostF K mg F G π Q E (f as pins)
def arSl : Ar → Option Sl
  | .fz d => some (.sv (.fz d))
  | .pin j => some (.pa j)
def enter (n : Nat) (as : List Ar) (pins : List SV) : M := ⟨as.map arSl ++ List.replicate (n - as.length) none, pins⟩
/-- a def of n slots with this body -/
def dDef (n : Nat) (body : M → Out Ctl) : Den := fun as pins => match body (enter n as pins) with
  | .ok (.rt s) m => .ok s m
  | .ok .nx m => .ok (.fz .non) m
  | .exc c d m => .exc c d m
  | _ => .bad
theorem argsF_len {K : Kf} {F : Hp} {π : List V} : ∀ {as : List Ar} {vs : List V}, ArgsF K F π as vs → vs.length = as.length
  | [], _, h => by cases h; rfl
  | _ :: as, _, ⟨v, r, e, _, h⟩ => by subst e; simp [argsF_len h]
theorem argsF_get {K : Kf} {F : Hp} {π : List V} : ∀ {as : List Ar} {vs : List V}, ArgsF K F π as vs → ∀ {i : Nat} {a : Ar}, as[i]? = some a → ∃ v, vs[i]? = some v ∧ ArgF K F π a v
  | [], _, _, _, _, h => by simp at h
  | x :: as, _, ⟨v, r, e, h1, h2⟩, 0, a, h => by
    subst e
    simp at h; subst h
    exact ⟨v, by simp, h1⟩
  | x :: as, _, ⟨v, r, e, h1, h2⟩, i + 1, a, h => by
    subst e
    obtain ⟨w, e, hw⟩ := argsF_get h2 (i := i) (a := a) (by simpa using h)
    exact ⟨w, by simpa using e, hw⟩
/-- a def's entry -/
theorem StF.enter {K : Kf} {F0 G : Hp} {π : List V} {pins : List SV} {F H : Hp} {fp : Ow → List Addr} (S : StF K F0 G π ⟨[], pins⟩ [] F H fp) {as : List Ar} {vs : List V} (h : ArgsF K F π as vs) {N : List Str} (hl : vs.length ≤ N.length) :
    StF K F0 G π (PD.enter N.length as pins) (L2.start N vs) F H fp := by
  have hlen := argsF_len h
  have hg : ∀ i, (PD.enter N.length as pins).sl[i]? = if i < as.length then (as[i]?).map arSl else if i < N.length then some none else none := fun i => by
    unfold PD.enter
    by_cases hi : i < as.length
    · rw [if_pos hi, List.getElem?_append_left (by simpa using hi), List.getElem?_map]
    · rw [if_neg hi, List.getElem?_append_right (by simpa using Nat.le_of_not_lt hi), List.getElem?_replicate, List.length_map]
      by_cases h2 : i < N.length
      · rw [if_pos h2, if_pos (by omega)]
      · rw [if_neg h2, if_neg (by omega)]
  have hs : ∀ i v, vs[i]? = some v → (L2.start N vs)[i]? = some (some v) := fun i v e => by
    unfold L2.start
    have hi : i < vs.length := by
      rcases Nat.lt_or_ge i vs.length with z | z
      · exact z
      · rw [List.getElem?_eq_none z] at e; cases e
    rw [List.getElem?_append_left (by simpa using hi), List.getElem?_map, e]
    rfl
  refine ⟨?_, S.plen, S.sub, S.base, S.mono, S.new, fun o s e => ?_, fun o e => ?_, fun i k e => ?_, S.nd, S.dj, S.fr, S.ntF, S.ntG, S.tab⟩
  · unfold PD.enter L2.start
    simp [hlen]
  · cases o with
    | p k => exact S.own (.p k) s e
    | s i =>
      have n1 : fp (.s i) = [] := S.non (.s i) (by simp [get])
      have e' := e
      unfold get at e'
      simp only [hg] at e'
      by_cases hi : i < as.length
      · rw [if_pos hi] at e'
        cases ea : as[i]? with
        | none => simp [ea] at e'
        | some a =>
          cases a with
          | pin j => simp [ea, arSl] at e'
          | fz d =>
            simp [ea, arSl] at e'
            subst e'
            obtain ⟨v, h1, h2⟩ := argsF_get h ea
            refine ⟨v, ?_, h2, n1⟩
            unfold refO
            simp [hs i v h1]
      · rw [if_neg hi] at e'
        by_cases h2 : i < N.length
        · simp [h2] at e'
        · simp [h2] at e'
  · cases o with
    | p k => exact S.non (.p k) e
    | s i => exact S.non (.s i) (by simp [get])
  · rw [hg] at e
    by_cases hi : i < as.length
    · rw [if_pos hi] at e
      cases ea : as[i]? with
      | none => simp [ea] at e
      | some a =>
        cases a with
        | fz d => simp [ea, arSl] at e
        | pin j =>
          simp [ea, arSl] at e
          subst e
          obtain ⟨v, h1, h2⟩ := argsF_get h ea
          exact ⟨v, h2, hs i v h1⟩
    · rw [if_neg hi] at e
      by_cases h2 : i < N.length
      · simp [h2] at e
      · simp [h2] at e
/-- .. and its end: the slots are gone -/
theorem StF.leave {K : Kf} {F0 G : Hp} {π : List V} {m : M} {σ : L2.St} {F H : Hp} {fp : Ow → List Addr} (S : StF K F0 G π m σ F H fp) :
    StF K F0 G π ⟨[], m.pp⟩ [] F H (fun o => match o with
      | .s _ => []
      | .p k => fp (.p k)) := by
  refine ⟨rfl, S.plen, S.sub, S.base, S.mono, S.new, fun o s e => ?_, fun o e => ?_, fun i k e => by simp at e, fun o => ?_, fun o o' a h h' => ?_, fun o a h => ?_, S.ntF, S.ntG, S.tab⟩
  · cases o with
    | s i => simp [get] at e
    | p k => exact S.own (.p k) s e
  · cases o with
    | s i => rfl
    | p k => exact S.non (.p k) e
  · cases o with
    | s i => exact List.nodup_nil
    | p k => exact S.nd (.p k)
  · cases o with
    | s i => cases h
    | p k =>
      cases o' with
      | s i => cases h'
      | p k' => exact S.dj _ _ a h h'
  · cases o with
    | s i => cases h
    | p k => exact S.fr (.p k) a h
theorem EvF.leave {K : Kf} {G : Hp} {π : List V} {σ : L2.St} {F H : Hp} {fp : Ow → List Addr} {N : Addr → Prop} {v : V} {s : SV} (h : EvF K G π σ F H fp N v (.fr s)) :
    EvF K G π [] F H (fun o => match o with
      | .s _ => []
      | .p k => fp (.p k)) N v (.fr s) := by
  obtain ⟨q, h1, h2, h3⟩ := h
  refine ⟨q, h1, h2, fun a ha => ⟨(h3 a ha).1, (h3 a ha).2.1, fun o z => ?_, (h3 a ha).2.2.2⟩⟩
  cases o with
  | s i => cases z
  | p k => exact (h3 a ha).2.2.1 _ z
section
variable {P : Program} {w : World} {KX K : Kf} {mg : Str → Option Value} {base : Heap}
/-- THE RULE for a def: its body's denotation is its own -/
theorem fn_den {x qual : Str} {st : Stmt} {f : Addr} {fd : FuncData} {N ps : List Str} {k : Nat} {g : M → Out Ctl} (up : Up K KX) (Fn : Fun KX x qual st f fd) (S : FnScope N ps (defScope st))
    (h : ∀ (cdv : Value) (A : Around) (outer : List Env) (s : Shared) (H : Hp) (E : XK), Cxt (cxOf (L2.CX P w) P w KX mg base N qual (defScope st) f cdv A outer s H E) P w KX K mg base k (fun _ => E) →
      ∃ t, DSs (cxOf (L2.CX P w) P w KX mg base N qual (defScope st) f cdv A outer s H E) K mg (fun _ => E) (defBody st) t g) :
    FnOk P w KX mg base (L2.CX P w) (k + 1) f fd ps (spF K mg ps.length (dDef N.length g)) := by
  refine Fn.okX S (fun vs H Q E h => h.1) fun cdv A outer s H vs Q E hr hsp => ?_
  obtain ⟨hl, F, G, π, pins, fp, as, SF, ha, post⟩ := hsp
  have tk : Takes (cxOf (L2.CX P w) P w KX mg base N qual (defScope st) f cdv A outer s H E) (fun cls d _ H => E cls d H) := takes_of rfl rfl rfl rfl
  have C : Cxt (cxOf (L2.CX P w) P w KX mg base N qual (defScope st) f cdv A outer s H E) P w KX K mg base k (fun _ => E) :=
    ⟨rfl, rfl, rfl, up, rfl, rfl, hr, rfl, S.nd, fun σ => passAt tk σ, passes_of rfl, tk⟩
  obtain ⟨t, d⟩ := h cdv A outer s H E C
  refine ⟨t, d.pe, ?_⟩
  have hN : vs.length ≤ N.length := by
    have e := congrArg List.length S.pre
    rw [List.length_take] at e
    omega
  refine d.ok F G π _ _ F H fp _ (SF.enter ha hN) ?_
  unfold dDef at post
  cases e : g (PD.enter N.length as pins) with
  | bad => rw [e] at post; exact post.elim
  | exc c dd m' =>
    rw [e] at post
    exact fun σ' C dx v F' H' fp' hC T hd hr => post C dx v F' H' _ hC T.leave hd hr
  | ok c m' =>
    rw [e] at post
    cases c with
    | bk => exact post.elim
    | ct => exact post.elim
    | nx => exact fun σ' F' H' fp' T => post .non F' H' _ T.leave ⟨[], ⟨rfl, rfl⟩, List.nodup_nil, fun a h => by cases h⟩
    | rt s => exact fun v σ' F' H' fp' T ev => post v F' H' _ T.leave ev.leave
/-- a def of the text with its denotation -/
structure FnD (P : Program) (w : World) (KX K : Kf) (mg : Str → Option Value) (base : Heap) (x : Str) (st : Stmt) (k : Nat) (ps : List Str) (f : Den) : Prop where
  ex : ∃ (a : Addr) (fd : FuncData), Fun KX x x st a fd ∧ mg x = some (.ref a) ∧ Binds KX fd ps [] ∧ FnOk P w KX mg base (L2.CX P w) k a fd ps (spF K mg ps.length f)
theorem FnD.mono {x : Str} {st : Stmt} {j k : Nat} {ps : List Str} {f : Den} (F : FnD P w KX K mg base x st j ps f) (h : j ≤ k) : FnD P w KX K mg base x st k ps f :=
  let ⟨a, fd, h1, h2, h3, h4⟩ := F.ex
  ⟨a, fd, h1, h2, h3, h4.mono h⟩
/-! ## calls -/
/-- owners of the arguments that are handed on as they stand -/
def mkArgs (m : M) : List EV → List Ow → Option (List Ar × List Ow)
  | [], os => some ([], os)
  | .v d :: r, os => (mkArgs m r os).map fun x => (.fz d :: x.1, x.2)
  | .br o [] :: r, os => if o ∈ os then none else (mkArgs m r (os ++ [o])).map fun x => (.pin os.length :: x.1, x.2)
  | _ :: _, _ => none
def pinsOf (m : M) : List Ow → Option (List SV)
  | [] => some []
  | o :: r => match get m o, pinsOf m r with
    | some s, some ss => some (s :: ss)
    | _, _ => none
def setAll (m : M) : List Ow → List SV → M
  | o :: os, s :: ss => setAll (setO m o s) os ss
  | _, _ => m
def resE : SV → EV
  | .fz d => .v d
  | s => .fr s
def callK (np : Nat) (f : Den) (m : M) (es : List EV) : Out EV := if es.length ≠ np then .bad else match mkArgs m es [] with
  | none => .bad
  | some (as, os) => match pinsOf m os with
    | none => .bad
    | some pins => match f as pins with
      | .ok s m' => .ok (resE s) (setAll m os m'.pp)
      | .exc c d m' => .exc c d (setAll m os m'.pp)
      | .bad => .bad
theorem mkArgs_ok {m : M} : ∀ {es : List EV} {os os' : List Ow} {as : List Ar}, mkArgs m es os = some (as, os') → os.Nodup → os'.Nodup ∧ ∃ t, os' = os ++ t
  | [], os, os', as, h, nd => by
    simp [mkArgs] at h
    obtain ⟨_, rfl⟩ := h
    exact ⟨nd, [], by simp⟩
  | .v d :: r, os, os', as, h, nd => by
    simp only [mkArgs, Option.map_eq_some_iff] at h
    obtain ⟨⟨a, o⟩, h1, h2⟩ := h
    cases h2
    exact mkArgs_ok h1 nd
  | .br o [] :: r, os, os', as, h, nd => by
    simp only [mkArgs] at h
    by_cases ho : o ∈ os
    · rw [if_pos ho] at h; cases h
    · rw [if_neg ho, Option.map_eq_some_iff] at h
      obtain ⟨⟨a, o'⟩, h1, h2⟩ := h
      cases h2
      obtain ⟨n1, t, e⟩ := mkArgs_ok h1 (nodup_mk nd (List.nodup_cons.mpr ⟨by simp, List.nodup_nil⟩) fun x hx hy => by
        have : x = o := by simpa using hy
        subst this
        exact ho hx)
      exact ⟨n1, [o] ++ t, by rw [e, List.append_assoc]⟩
  | .br o (_ :: _) :: r, os, os', as, h, nd => by simp [mkArgs] at h
  | .fr s :: r, os, os', as, h, nd => by simp [mkArgs] at h
theorem pinsOf_get {m : M} : ∀ {os : List Ow} {ps : List SV}, pinsOf m os = some ps → ps.length = os.length ∧ ∀ (j : Nat) (o : Ow), os[j]? = some o → ∃ s, ps[j]? = some s ∧ get m o = some s
  | [], ps, h => by
    simp [pinsOf] at h
    subst h
    exact ⟨rfl, fun j o e => by simp at e⟩
  | o :: r, ps, h => by
    unfold pinsOf at h
    cases e1 : get m o with
    | none => simp [e1] at h
    | some s =>
      cases e2 : pinsOf m r with
      | none => simp [e1, e2] at h
      | some ss =>
        simp [e1, e2] at h
        subst h
        obtain ⟨h1, h2⟩ := pinsOf_get e2
        refine ⟨by simp [h1], fun j o' e => ?_⟩
        cases j with
        | zero => simp at e; subst e; exact ⟨s, by simp, e1⟩
        | succ j => simpa using h2 j o' (by simpa using e)
section
variable {F0 G : Hp} {π : List V} {m : M} {σ : L2.St} {F H : Hp} {fp : Ow → List Addr}
theorem mkArgs_args (S : StF K F0 G π m σ F H fp) : ∀ {es : List EV} {vs : List V} {os os' : List Ow} {as : List Ar} {π' : List V}, mkArgs m es os = some (as, os') → EvFs K G π σ F H fp (fun _ => False) vs es →
    (∀ (j : Nat) (o : Ow), os'[j]? = some o → ∃ v, refO σ π o = some v ∧ π'[j]? = some v) → os.Nodup → ArgsF K F π' as vs
  | [], vs, os, os', as, π', h, e, k, _ => by
    cases e
    simp [mkArgs] at h
    obtain ⟨rfl, rfl⟩ := h
    rfl
  | .v d :: r, vs, os, os', as, π', h, e, k, nd => by
    cases e with
    | @cons v vs _ _ e1 e2 =>
      simp only [mkArgs, Option.map_eq_some_iff] at h
      obtain ⟨⟨a, o⟩, h1, h2⟩ := h
      cases h2
      exact ⟨v, vs, rfl, e1, mkArgs_args S h1 e2 k nd⟩
  | .br o [] :: r, vs, os, os', as, π', h, e, k, nd => by
    cases e with
    | @cons v vs _ _ e1 e2 =>
      simp only [mkArgs] at h
      by_cases ho : o ∈ os
      · rw [if_pos ho] at h; cases h
      · rw [if_neg ho, Option.map_eq_some_iff] at h
        obtain ⟨⟨a, o'⟩, h1, h2⟩ := h
        cases h2
        have nd' : (os ++ [o]).Nodup := nodup_mk nd (List.nodup_cons.mpr ⟨by simp, List.nodup_nil⟩) fun x hx hy => by
          have : x = o := by simpa using hy
          subst this
          exact ho hx
        obtain ⟨_, t, et⟩ := mkArgs_ok h1 nd'
        obtain ⟨w, hw, hp⟩ := e1
        have hp : v = w := hp
        subst hp
        obtain ⟨v', h3, h4⟩ := k os.length o (by rw [et]; simp)
        rw [hw] at h3; cases h3
        exact ⟨v, vs, rfl, h4, mkArgs_args S h1 e2 k nd'⟩
  | .br o (_ :: _) :: r, vs, os, os', as, π', h, e, k, nd => by simp [mkArgs] at h
  | .fr s :: r, vs, os, os', as, π', h, e, k, nd => by simp [mkArgs] at h
theorem setAll_get : ∀ {os : List Ow} {ss : List SV} {m : M}, os.Nodup → ss.length = os.length → (∀ o ∈ os, ∃ s, get m o = some s) → ∀ o, get (setAll m os ss) o = if o ∈ os then ss[os.idxOf o]? else get m o
  | [], ss, m, _, _, _, o => by cases ss <;> simp [setAll]
  | a :: os, [], m, _, h, _, o => by simp at h
  | a :: os, s :: ss, m, nd, hl, hg, o => by
    rw [List.nodup_cons] at nd
    obtain ⟨r, hr⟩ := hg a List.mem_cons_self
    have g1 := fun o' => get_setO (s := s) hr o'
    have ih := setAll_get (os := os) (ss := ss) (m := setO m a s) nd.2 (by simpa using hl) (fun o' ho' => by
      obtain ⟨s', e'⟩ := hg o' (List.mem_cons_of_mem _ ho')
      refine ⟨s', ?_⟩
      rw [g1, if_neg fun z : o' = a => nd.1 (by rw [← z]; exact ho')]
      exact e') o
    show get (setAll (setO m a s) os ss) o = _
    rw [ih]
    by_cases e : o = a
    · subst e
      rw [if_neg nd.1, g1, if_pos rfl, if_pos List.mem_cons_self, List.idxOf_cons_self]
      rfl
    · by_cases ho : o ∈ os
      · rw [if_pos ho, if_pos (List.mem_cons_of_mem _ ho), List.idxOf_cons, show (a == o) = false by simpa using Ne.symm e]
        rfl
      · rw [if_neg ho, g1, if_neg e, if_neg (by simp [e, ho])]
theorem setAll_len : ∀ (os : List Ow) (ss : List SV) (m : M), (setAll m os ss).sl.length = m.sl.length ∧ (setAll m os ss).pp.length = m.pp.length
  | [], ss, m => by cases ss <;> simp [setAll]
  | a :: os, [], m => by simp [setAll]
  | a :: os, s :: ss, m => by
    have h := setAll_len os ss (setO m a s)
    have h2 : (setO m a s).sl.length = m.sl.length ∧ (setO m a s).pp.length = m.pp.length := by cases a <;> simp [setO]
    exact ⟨h.1.trans h2.1, h.2.trans h2.2⟩
theorem setAll_ali {i k : Nat} : ∀ {os : List Ow} {ss : List SV} {m : M}, (setAll m os ss).sl[i]? = some (some (Sl.pa k)) → m.sl[i]? = some (some (Sl.pa k))
  | [], ss, m, h => by cases ss <;> simpa [setAll] using h
  | a :: os, [], m, h => by simpa [setAll] using h
  | a :: os, s :: ss, m, h => by
    have h := setAll_ali (os := os) (ss := ss) h
    cases a with
    | p j => exact h
    | s j =>
      have h : (m.sl.set j (some (.sv s)))[i]? = some (some (Sl.pa k)) := h
      by_cases e : j = i
      · subst e
        by_cases hj : j < m.sl.length
        · rw [List.getElem?_set_self hj] at h; cases h
        · rw [List.getElem?_eq_none (by simpa using Nat.le_of_not_lt hj)] at h; cases h
      · rw [List.getElem?_set_ne e] at h
        exact h
open Classical in
/-- H without what stands at q -/
noncomputable def cutH (H : Hp) (q : Addr → Prop) : Hp := fun a => if q a then none else H a
theorem k_call {np : Nat} {f : Den} (E : XS) : KOkN K mg E false (fun σ vs H Q => spF K mg np f vs H Q (E σ)) (callK np f) := fun F0 G π m σ F H fp Q vs es S ev p => by
  unfold callK at p
  by_cases hlen : es.length ≠ np
  · rw [if_pos hlen] at p; exact p.elim
  rw [if_neg hlen] at p
  refine ⟨(evFs_len ev).trans (Classical.not_not.mp hlen), ?_⟩
  cases e1 : mkArgs m es [] with
  | none => rw [e1] at p; exact p.elim
  | some x =>
    obtain ⟨as, os⟩ := x
    rw [e1] at p
    have p : PostE K mg E false F0 G π m σ F H fp Q (match pinsOf m os with
      | none => .bad
      | some pins => match f as pins with
        | .ok s m' => .ok (resE s) (setAll m os m'.pp)
        | .exc c d m' => .exc c d (setAll m os m'.pp)
        | .bad => .bad) := p
    cases e2 : pinsOf m os with
    | none => rw [e2] at p; exact p.elim
    | some pins =>
      rw [e2] at p
      have p : PostE K mg E false F0 G π m σ F H fp Q (match f as pins with
        | .ok s m' => .ok (resE s) (setAll m os m'.pp)
        | .exc c d m' => .exc c d (setAll m os m'.pp)
        | .bad => .bad) := p
      obtain ⟨nd, _⟩ := mkArgs_ok e1 List.nodup_nil
      obtain ⟨pl, pg⟩ := pinsOf_get e2
      have hget : ∀ o ∈ os, ∃ s, get m o = some s := fun o ho => by
        obtain ⟨j, hj⟩ := List.getElem?_of_mem ho
        obtain ⟨s, _, h2⟩ := pg j o hj
        exact ⟨s, h2⟩
      -- the references of what is handed on
      have hπ : ∃ π' : List V, π'.length = os.length ∧ ∀ (j : Nat) (o : Ow), os[j]? = some o → ∃ v, refO σ π o = some v ∧ π'[j]? = some v := by
        have : ∀ os : List Ow, (∀ o ∈ os, ∃ s, get m o = some s) → ∃ π' : List V, π'.length = os.length ∧ ∀ (j : Nat) (o : Ow), os[j]? = some o → ∃ v, refO σ π o = some v ∧ π'[j]? = some v := by
          intro os
          induction os with
          | nil => exact fun _ => ⟨[], rfl, fun j o e => by simp at e⟩
          | cons a os ih =>
            intro hg
            obtain ⟨π', h1, h2⟩ := ih fun o ho => hg o (List.mem_cons_of_mem _ ho)
            obtain ⟨s, hs⟩ := hg a List.mem_cons_self
            obtain ⟨v, hv, _⟩ := S.own a s hs
            refine ⟨v :: π', by simp [h1], fun j o e => ?_⟩
            cases j with
            | zero => simp at e; subst e; exact ⟨v, hv, by simp⟩
            | succ j => simpa using h2 j o (by simpa using e)
        exact this os hget
      obtain ⟨π', pl', pr⟩ := hπ
      let inP : Addr → Prop := fun a => ∃ o ∈ os, a ∈ fp o
      let inQ : Addr → Prop := fun a => inP a ∨ ∃ ps, H a = some (.tbl ps)
      have gq : ∀ a, inQ a → G a = none := fun a h => by
        rcases h with ⟨o2, _, h2⟩ | ⟨ps, h⟩
        · exact (S.fr o2 a h2).2
        · cases eG : G a with
          | none => rfl
          | some x =>
            rw [S.base a x eG] at h
            exact absurd (eG.trans h) (S.ntG a ps)
      let fpc : Ow → List Addr := fun o => match o with
        | .s _ => []
        | .p j => match os[j]? with
          | some o => fp o
          | none => []
      have fpc_p : ∀ j o, os[j]? = some o → fpc (.p j) = fp o := fun j o e => by show (match os[j]? with | some o => fp o | none => []) = _; rw [e]
      have fpc_in : ∀ o a, a ∈ fpc o → ∃ j o', o = .p j ∧ os[j]? = some o' ∧ a ∈ fp o' := fun o a h => by
        cases o with
        | s i => cases h
        | p j =>
          cases e : os[j]? with
          | none =>
            have : fpc (.p j) = [] := by show (match os[j]? with | some o => fp o | none => []) = _; rw [e]
            rw [this] at h; cases h
          | some o' => exact ⟨j, o', rfl, e, by rw [← fpc_p j o' e]; exact h⟩
      have nin : ∀ a, F a ≠ none → ¬ inP a := fun a ha ⟨o, _, h⟩ => ha (S.fr o a h).1
      have Sc : StF K F (cutH H inQ) π' ⟨[], pins⟩ [] F H fpc := by
        refine ⟨rfl, pl.trans pl'.symm, S.sub, fun a x e => ?_, Same.refl F, fun _ h => .inl h, fun o s e => ?_, fun o e => ?_, fun i k e => by simp at e, fun o => ?_, fun o o' a h h' => ?_, fun o a h => ?_, S.ntF, fun a ps e => ?_, S.tab⟩
        · unfold cutH at e
          by_cases z : inQ a
          · rw [if_pos z] at e; cases e
          · rw [if_neg z] at e; exact e
        · cases o with
          | s i => simp [get] at e
          | p j =>
            have e : pins[j]? = some s := e
            have hj : j < os.length := by
              rw [← pl]
              rcases Nat.lt_or_ge j pins.length with z | z
              · exact z
              · rw [List.getElem?_eq_none z] at e; cases e
            obtain ⟨s', h1, h2⟩ := pg j os[j] (List.getElem?_eq_getElem hj)
            rw [e] at h1; cases h1
            obtain ⟨v, h3, h4⟩ := pr j os[j] (List.getElem?_eq_getElem hj)
            obtain ⟨v', h5, h6⟩ := S.own _ _ h2
            rw [h3] at h5; cases h5
            exact ⟨v, h4, by rw [fpc_p j _ (List.getElem?_eq_getElem hj)]; exact h6⟩
        · cases o with
          | s i => rfl
          | p j =>
            have e : pins[j]? = none := e
            have hj : os[j]? = none := by
              rw [List.getElem?_eq_none_iff] at e ⊢
              omega
            show (match os[j]? with | some o => fp o | none => []) = _
            rw [hj]
        · cases o with
          | s i => exact List.nodup_nil
          | p j =>
            cases e : os[j]? with
            | none =>
              have : fpc (.p j) = [] := by show (match os[j]? with | some o => fp o | none => []) = _; rw [e]
              rw [this]; exact List.nodup_nil
            | some o' => rw [fpc_p j o' e]; exact S.nd o'
        · obtain ⟨j, a1, rfl, e1, h1⟩ := fpc_in o a h
          obtain ⟨j', a2, rfl, e2, h2⟩ := fpc_in o' a h'
          have := S.dj a1 a2 a h1 h2
          subst this
          have := (List.getElem?_inj (by
            rcases Nat.lt_or_ge j os.length with z | z
            · exact z
            · rw [List.getElem?_eq_none z] at e1; cases e1) nd).mp (e1.trans e2.symm)
          rw [this]
        · obtain ⟨j, a1, rfl, e1, h1⟩ := fpc_in o a h
          refine ⟨(S.fr a1 a h1).1, ?_⟩
          unfold cutH
          rw [if_pos (.inl ⟨a1, List.mem_of_getElem? e1, h1⟩)]
        · unfold cutH at e
          by_cases z : inQ a
          · rw [if_pos z] at e; cases e
          · rw [if_neg z] at e; exact z (.inr ⟨ps, e⟩)
      refine ⟨F, cutH H inQ, π', pins, fpc, as, Sc, mkArgs_args S e1 ev pr List.nodup_nil, ?_⟩
      -- behind the call
      have back : ∀ {pp' : List SV} {F' H' : Hp} {fp' : Ow → List Addr}, StF K F (cutH H inQ) π' ⟨[], pp'⟩ [] F' H' fp' → StF K F0 G π (setAll m os pp') σ F' H' (fun o => if o ∈ os then fp' (.p (os.idxOf o)) else fp o) := fun {pp' F' H' fp'} T => by
        have ppl : pp'.length = os.length := T.plen.trans pl'
        have gs := setAll_get nd ppl hget
        have idx : ∀ o ∈ os, os[os.idxOf o]? = some o := fun o ho => by
          rw [List.getElem?_eq_getElem (List.idxOf_lt_length_of_mem ho), List.getElem_idxOf]
        have keepN : ∀ o, o ∉ os → ∀ a ∈ fp o, ¬ inQ a := fun o ho a ha hq => by
          rcases hq with ⟨o', h1, h2⟩ | ⟨ps, h⟩
          · exact ho (S.dj o o' a ha h2 ▸ h1)
          · obtain ⟨x, hx, hp⟩ := S.plain ha
            rw [h] at hx
            cases hx
            rcases hp with ⟨_, e⟩ | ⟨_, e⟩ | ⟨_, e⟩ <;> cases e
        have cutk : ∀ a, ¬ inQ a → cutH H inQ a = H a := fun a h => if_neg h
        have hk : ∀ o, o ∉ os → ∀ a ∈ fp o, H' a = H a := fun o ho a ha => by
          have z := keepN o ho a ha
          have e := cutk a z
          exact (same_of T.base (by rw [e]; exact S.there ha)).trans e
        have hF' : ∀ o, o ∉ os → ∀ a ∈ fp o, F' a = none := fun o ho a ha => by
          cases e : F' a with
          | none => rfl
          | some x =>
            rcases T.new a (by rw [e]; exact Option.some_ne_none _) with z | z
            · exact absurd (S.fr o a ha).1 z
            · unfold NF at z
              rw [cutk a (keepN o ho a ha)] at z
              rcases z with z | ⟨vs, z⟩
              · exact absurd z (S.there ha)
              · obtain ⟨y, hy, hp⟩ := S.plain ha
                rw [z] at hy
                exact absurd (Option.some.inj hy).symm (plain_tup hp vs)
        have hG : ∀ o a, a ∈ fp' o → G a = none ∧ ∀ o', o' ∉ os → a ∉ fp o' := fun o a h => by
          have z := (T.fr o a h).2
          refine ⟨?_, fun o' ho' ha => ?_⟩
          · by_cases y : inQ a
            · exact gq a y
            · rw [cutk a y] at z
              exact same_none S.base z
          · rw [cutk a (keepN o' ho' a ha)] at z
            exact S.there ha z
        refine ⟨(setAll_len os pp' m).1.trans S.len, (setAll_len os pp' m).2.trans S.plen, T.sub, fun a x e => ?_, S.mono.trans T.mono, fun a h => ?_, fun o s e => ?_, fun o e => ?_, fun i k e => S.ali i k (setAll_ali e), fun o => ?_, fun o o' a h h' => ?_, fun o a h => ?_, T.ntF, S.ntG, T.tab⟩
        · have ni : ¬ inQ a := fun h => by
            rw [gq a h] at e; cases e
          exact T.base a x ((cutk a ni).trans (S.base a x e))
        · rcases T.new a h with z | z
          · exact S.new a z
          · by_cases y : inQ a
            · exact .inr (.inl (gq a y))
            · unfold NF at z
              rw [cutk a y] at z
              exact .inr (NF.sub S.base z)
        · rw [gs] at e
          by_cases ho : o ∈ os
          · rw [if_pos ho] at e ⊢
            obtain ⟨v, h1, h2⟩ := T.own (.p (os.idxOf o)) s e
            obtain ⟨v', h3, h4⟩ := pr _ o (idx o ho)
            have h1 : π'[os.idxOf o]? = some v := h1
            rw [h1] at h4; cases h4
            exact ⟨v, h3, h2⟩
          · rw [if_neg ho] at e ⊢
            obtain ⟨v, h1, h2⟩ := S.own o s e
            exact ⟨v, h1, h2.keep T.mono _ _ _ fun a ha => hk o ho a ha⟩
        · rw [gs] at e
          by_cases ho : o ∈ os
          · rw [if_pos ho] at e ⊢
            exact T.non (.p (os.idxOf o)) e
          · rw [if_neg ho] at e ⊢
            exact S.non o e
        · by_cases ho : o ∈ os
          · rw [if_pos ho]; exact T.nd _
          · rw [if_neg ho]; exact S.nd o
        · by_cases ho : o ∈ os
          · rw [if_pos ho] at h
            by_cases ho' : o' ∈ os
            · rw [if_pos ho'] at h'
              have := T.dj _ _ a h h'
              have e : os.idxOf o = os.idxOf o' := Ow.p.inj this
              have e1 := idx o ho
              rw [e, idx o' ho'] at e1
              cases e1; rfl
            · rw [if_neg ho'] at h'
              exact absurd h' ((hG _ a h).2 o' ho')
          · rw [if_neg ho] at h
            by_cases ho' : o' ∈ os
            · rw [if_pos ho'] at h'
              exact absurd h ((hG _ a h').2 o ho)
            · rw [if_neg ho'] at h'
              exact S.dj o o' a h h'
        · by_cases ho : o ∈ os
          · rw [if_pos ho] at h
            exact ⟨(T.fr _ a h).1, (hG _ a h).1⟩
          · rw [if_neg ho] at h
            exact ⟨hF' o ho a h, (S.fr o a h).2⟩
      cases e3 : f as pins with
      | bad => rw [e3] at p; exact p.elim
      | exc c d m' =>
        rw [e3] at p
        exact fun C dx v F' H' fp' hC T hd hr => p C dx v F' H' _ hC (back T) hd hr
      | ok s m' =>
        rw [e3] at p
        intro v F' H' fp' T ev'
        have B := back T
        refine p v F' H' _ B ⟨T.mono, fun z => by cases z⟩ ?_
        obtain ⟨q, h1, h2, h3⟩ := ev'
        have fin : EvF K G π σ F' H' (fun o => if o ∈ os then fp' (.p (os.idxOf o)) else fp o) (NewA false H) v (.fr s) := by
          refine ⟨q, h1, h2, fun a ha => ?_⟩
          obtain ⟨g1, g2, g3, _⟩ := h3 a ha
          refine ⟨g1, ?_, fun o z => ?_, fun z => by cases z⟩
          · by_cases y : inQ a
            · exact gq a y
            · have : cutH H inQ a = H a := if_neg y
              rw [this] at g2
              exact same_none S.base g2
          · have z : a ∈ (if o ∈ os then fp' (.p (os.idxOf o)) else fp o) := z
            by_cases ho : o ∈ os
            · rw [if_pos ho] at z
              exact g3 _ z
            · rw [if_neg ho] at z
              have ni : ¬ inQ a := fun hq => by
                rcases hq with ⟨o', h1, h2⟩ | ⟨ps, h⟩
                · exact ho (S.dj o o' a z h2 ▸ h1)
                · obtain ⟨x, hx, hp⟩ := S.plain z
                  rw [h] at hx
                  cases hx
                  rcases hp with ⟨_, e⟩ | ⟨_, e⟩ | ⟨_, e⟩ <;> cases e
              have : cutH H inQ a = H a := if_neg ni
              rw [this] at g2
              exact S.there z g2
        cases s with
        | fz d => exact h1.1
        | ol _ => exact fin
        | ok _ => exact fin
        | ot _ => exact fin
end
end
end PD
namespace PD
open PySem PySem.Spec PyProof.Rows L2
section
variable {X : Cx} {P : Program} {w : World} {KX K : Kf} {mg : Str → Option Value} {base : Heap} {n : Nat} {E : XS} {pa pb pc pu : Bool} {ta tb tc te : TE} {ga gb gc ge : M → Out EV} {a b c e : Expr} {es : List Expr} {pos p : Pos} {x : Str}
/-! ## calls of defs -/
theorem de_call (C : Cxt X P w KX K mg base n E) {st : Stmt} {k : Nat} {ps : List Str} {f : Den} {t : TA} {gs : M → Out (List EV)} (Fd : FnD P w KX K mg base x st k ps f) (ha : DA X K mg E (e :: es) pb t gs) (hk : k ≤ n := by decide) (hg : Gl X x := by rfl)
    (hdb : (x == ("__debug__" : Str)) = false := by decide) (he : starEach (e :: es) X.env = (false, eval e X.env) :: starEach es X.env := by rfl) (hpl : (backTo pos (starEach es X.env)).any (·.1) = false := by rfl) :
    DE X K mg E (.Call (.Name x p) (e :: es) [] pos) false (tCallS (spF K mg ps.length f) E t) (dApp gs (callK ps.length f)) := by
  obtain ⟨ad, fd, h1, h2, h3, h4⟩ := Fd.ex
  obtain ⟨rfl, rfl, rfl, up, rfl, rfl, room, calm, nd, hx, _⟩ := C
  refine ⟨pe_callS h4 (room.mono hk) hg h2 h1.kp h3 hx ha.pe hdb he hpl, ?_⟩
  have := te_app ha.ok (k_call (np := ps.length) (f := f) E)
  rw [Bool.and_false] at this
  exact this
/-- a def without parameters -/
theorem de_call0 (C : Cxt X P w KX K mg base n XS0) {st : Stmt} {k : Nat} {f : Den} (Fd : FnD P w KX K mg base x st k [] f) (hk : k ≤ n := by decide) (hg : Gl X x := by rfl) (hdb : (x == ("__debug__" : Str)) = false := by decide) :
    DE X K mg XS0 (.Call (.Name x p) [] [] pos) false (tCall (spF K mg 0 f) [] E0 tNil) (dApp dNil (callK 0 f)) := by
  obtain ⟨ad, fd, h1, h2, h3, h4⟩ := Fd.ex
  obtain ⟨rfl, rfl, rfl, up, rfl, rfl, room, calm, nd, hx, _⟩ := C
  refine ⟨pe_call0 h4 (room.mono hk) hg h2 h1.kp h3 .nil (passL (X := X)) hdb, ?_⟩
  have := te_app (E := XS0) ta_nil (k_call (K := K) (mg := X.mg) (np := 0) (f := f) XS0)
  rw [Bool.and_false] at this
  exact this
/-! ### by keywords -/
def perm {α : Type} (ix : List Nat) (l : List α) : List α := ix.filterMap fun i => l[i]?
theorem vals_perm {vs : List V} {us : List Value} (r : Vals vs us) : ∀ ix : List Nat, Vals (perm ix vs) (perm ix us)
  | [] => .nil
  | i :: ix => by
    have ih := vals_perm r ix
    unfold perm at ih ⊢
    cases e : vs[i]? with
    | none => rw [List.filterMap_cons_none (by exact e), List.filterMap_cons_none (by exact r.none_of e)]; exact ih
    | some v =>
      obtain ⟨u, h1, h2⟩ := r.get e
      rw [List.filterMap_cons_some (by exact e), List.filterMap_cons_some (by exact h1)]
      exact .cons h2 ih
theorem evFs_get {G : Hp} {π : List V} {σ : L2.St} {F H : Hp} {fp : Ow → List Addr} {N : Addr → Prop} {vs : List V} {es : List EV} (h : EvFs K G π σ F H fp N vs es) : ∀ i : Nat, (vs[i]? = none ∧ es[i]? = none) ∨ ∃ v e, vs[i]? = some v ∧ es[i]? = some e ∧ EvF K G π σ F H fp N v e := by
  induction h with
  | nil => exact fun i => .inl ⟨by simp, by simp⟩
  | @cons v vs e es h1 _ ih =>
    intro i
    cases i with
    | zero => exact .inr ⟨v, e, by simp, by simp, h1⟩
    | succ i => simpa using ih i
theorem evFs_perm {G : Hp} {π : List V} {σ : L2.St} {F H : Hp} {fp : Ow → List Addr} {N : Addr → Prop} {vs : List V} {es : List EV} (h : EvFs K G π σ F H fp N vs es) : ∀ ix : List Nat, EvFs K G π σ F H fp N (perm ix vs) (perm ix es)
  | [] => .nil
  | i :: ix => by
    have ih := evFs_perm h ix
    unfold perm at ih ⊢
    rcases evFs_get h i with ⟨h1, h2⟩ | ⟨v, e, h1, h2, h3⟩
    · rw [List.filterMap_cons_none (by exact h1), List.filterMap_cons_none (by exact h2)]; exact ih
    · rw [List.filterMap_cons_some (by exact h1), List.filterMap_cons_some (by exact h2)]
      exact .cons h3 ih
theorem perm_evFs {G : Hp} {π : List V} {σ : L2.St} {F H : Hp} {fp : Ow → List Addr} {N : Addr → Prop} {vs : List V} {es : List EV} (h : EvFs K G π σ F H fp N vs es) : EvFs K G π σ F H fp N vs es := h
/-- the call itself, its arguments bound -/
theorem run_fnP {CX : CXT} {k : Nat} {f : Addr} {fd : FuncData} {ps : List Str} {sp : Sp} {pins : List (Addr × Obj)} {σ : L2.St} {H : Hp} {s : Shared} {Q : VK} {us : List Value} {vs : List V} {args : Args} (F : FnOk X.prog X.w X.K X.mg X.base CX k f fd ps sp) (hr : Room k X.A)
    (hb : BindsTo s fd args (ps.zip us)) (hx : PassesAt CX X σ (E σ)) (I : Inv X pins σ H s) (r : Vals vs us) (h : sp vs H Q (E σ)) : wpAny (model X.prog X.w) X.A (call (.ref f) args.pos args.kw) (EP X pins σ Q) X.xe s := by
  refine wpAny_call (codeAny_mono (F.run X.A X.stack s H args us vs Q (E σ) hr I.env0 hb r h) fun r s' hq => ?_)
  cases r with
  | error e => exact hx pins H s e s' I hq
  | ok fl =>
    cases fl with
    | ret u => exact I.after hq
    | next => exact False.elim hq
    | brk => exact False.elim hq
    | cont => exact False.elim hq
def tCallW (sp : Sp) (E : XS) (ix : List Nat) (tk : TA) : TE := fun σ H Q => tk σ H fun zs H1 => zs.length = ix.length ∧ sp (perm ix zs) H1 Q (E σ)
/-- f(k = v, ..): all arguments by keywords; ix puts them in the parameters' order -/
theorem pe_callW {CX : CXT} {k : Nat} {f : Addr} {fd : FuncData} {ps ks : List Str} {sp : Sp} {ix : List Nat} {kws : List Keyword} {tk : TA} (F : FnOk X.prog X.w X.K X.mg X.base CX k f fd ps sp) (hr : Room k X.A) (hg : Gl X x) (hm : X.mg x = some (.ref f)) (hk : PySem.W.keepIn X.K (.ref f) = true)
    (hb : ∀ (s : Shared) (ws : List Value), ws.length = ix.length → BindsTo s fd ⟨[], ks.zip ws⟩ (ps.zip (perm ix ws))) (hx : ∀ σ, PassesAt CX X σ (E σ)) (hkw : PK X kws tk)
    (hall : (backToKw pos (keywordEach kws X.env)).all (·.1.isSome) = true := by rfl) (hks : (backToKw pos (keywordEach kws X.env)).filterMap (·.1) = ks := by rfl)
    (hdb : (x == ("__debug__" : Str)) = false := by decide) (hpl : (backToKw pos (keywordEach kws X.env)).any (·.1.isNone) = false := by rfl) :
    PE X (.Call (.Name x p) [] kws pos) (tCallW sp E ix tk) := by
  refine ⟨fun pins s σ H Q I h => ?_⟩
  refine wpAny_Call_Name_kw (ld_glob I hg hm ?_ hdb)
  refine PySem.W.callWith_KW0 (h₀ := X.base) I.ok.mod.kin hk hall (thn (hkw.run pos pins s σ H _ I h) fun ws s2 ⟨zs, H2, I2, rz, hl, q2⟩ => ⟨I2.kIn, ?_⟩) hpl
  rw [hks]
  exact run_fnP (args := ⟨[], ks.zip ws⟩) F hr (hb s2 ws (by rw [← rz.length]; exact hl)) (hx σ) I2 (vals_perm rz ix) q2
def callP (np : Nat) (f : Den) (ix : List Nat) (m : M) (es : List EV) : Out EV := if es.length = ix.length then callK np f m (perm ix es) else .bad
theorem de_callW (C : Cxt X P w KX K mg base n E) {st : Stmt} {k : Nat} {ps : List Str} {f : Den} {kws : List Keyword} {tk : TA} {gs : M → Out (List EV)} (Fd : FnD P w KX K mg base x st k ps f) (ix : List Nat) (ks : List Str)
    (hb : ∀ (kV doc pm : Value) (an : Option Addr) (cdv ct : Value) (ws : List Value), ws.length = ix.length → bindArgs (PySem.W.fnOf x x (defArgs st) (defBody st) (defScope st) .none kV doc pm an cdv ct) ⟨[], ks.zip ws⟩ = pure (ps.zip (perm ix ws)))
    (hkw : DK X K mg E kws pb tk gs) (hl : kws.length = ix.length := by rfl) (hk : k ≤ n := by decide) (hg : Gl X x := by rfl)
    (hall : (backToKw pos (keywordEach kws X.env)).all (·.1.isSome) = true := by rfl) (hks : (backToKw pos (keywordEach kws X.env)).filterMap (·.1) = ks := by rfl)
    (hdb : (x == ("__debug__" : Str)) = false := by decide) (hpl : (backToKw pos (keywordEach kws X.env)).any (·.1.isNone) = false := by rfl) :
    DE X K mg E (.Call (.Name x p) [] kws pos) false (tCallW (spF K mg ps.length f) E ix tk) (dApp gs (callP ps.length f ix)) := by
  obtain ⟨ad, fd, h1, h2, h3, h4⟩ := Fd.ex
  obtain ⟨rfl, rfl, rfl, up, rfl, rfl, room, calm, nd, hx, _⟩ := C
  obtain ⟨oc, od, kV, doc, pm, an, cdv, ct, osl, rfl, lk, hcd⟩ := h1.ex
  refine ⟨pe_callW h4 (room.mono hk) hg h2 h1.kp (fun s ws hl => .of_eq (hb kV doc pm an cdv ct ws hl)) hx hkw.pe hall hks hdb hpl, ?_⟩
  have hK : KOkN K X.mg E false (fun σ zs H Q => zs.length = ix.length ∧ spF K X.mg ps.length f (perm ix zs) H Q (E σ)) (callP ps.length f ix) := fun F0 G π m σ F H fp Q vs es S ev p => by
    unfold callP at p
    by_cases hl : es.length = ix.length
    · rw [if_pos hl] at p
      exact ⟨(evFs_len ev).trans hl, k_call (np := ps.length) (f := f) E F0 G π m σ F H fp Q _ _ S (evFs_perm ev ix) p⟩
    · rw [if_neg hl] at p; exact p.elim
  have := te_app hkw.ok hK
  rw [Bool.and_false] at this
  exact this
/-! ## walks -/
theorem di_seq (C : Cxt X P w KX K mg base n E) {tg : Expr} (h : DE X K mg E e pa ta ga) : DI X K mg E tg e (iSeq KX ta) (dISeq ga) := by
  obtain ⟨rfl, rfl, rfl, up, rfl, rfl, _, _, _, _, _⟩ := C
  exact ⟨pi_or (pi_list h.pe) (pi_tup h.pe), ti_seq up h.ok⟩
theorem dg_tup (C : Cxt X P w KX K mg base n E) {t : TGs} {bs : List D → M → Out Unit} {j nn : Nat} (h : DGs X K es t bs) (hn : (assignEach es X.env).length = nn := by rfl) (hst : (assignEach es X.env).findIdx? (·.1) = none := by rfl) : DG X K (.Tuple es j pos) (gTup KX nn t) (bTup nn bs) := by
  obtain ⟨rfl, rfl, rfl, up, rfl, rfl, _, calm, _, _, _⟩ := C
  exact ⟨pg_tup calm h.pe hn hst, tg_tup up h.ok⟩
/-! ### range -/
def kRange1 (m : M) (es : List EV) : Out Wk := match es with
  | [.v (.int j)] => if -(2 ^ 62) ≤ j ∧ j < 2 ^ 62 then .ok ⟨(List.range j.toNat).map fun i => .int (i : Nat), fun _ => True⟩ m else .bad
  | _ => .bad
def kRange2 (m : M) (es : List EV) : Out Wk := match es with
  | [.v (.int i), .v (.int j)] => if -(2 ^ 62) ≤ i ∧ i < 2 ^ 62 ∧ -(2 ^ 62) ≤ j ∧ j < 2 ^ 62 then .ok ⟨(List.range (j - i).toNat).map fun k => .int (i + (k : Nat)), fun _ => True⟩ m else .bad
  | _ => .bad
def dIter (gs : M → Out (List EV)) (k : M → List EV → Out Wk) (m : M) : Out Wk := (gs m).bind fun xs m1 => k m1 xs
def KOkI (K : Kf) (r : List V → Hp → (It → Hp → Prop) → Prop) (k : M → List EV → Out Wk) : Prop :=
  ∀ F0 G π m σ F H fp (R : It → Hp → Prop) xs es, StF K F0 G π m σ F H fp → EvFs K G π σ F H fp (fun _ => False) xs es → PostI K (fun _ => none) XS0 F0 G π σ F R (k m es) → r xs H R
theorem ti_app {r : List V → Hp → (It → Hp → Prop) → Prop} {k : M → List EV → Out Wk} {ts : TA} {gs : M → Out (List EV)} (hb : TAok K mg E pb ts gs) (hr : KOkI K r k) (hx : ∀ m es c d m', k m es ≠ .exc c d m') : TIok K mg E (fun σ H R => ts σ H fun vs H1 => r vs H1 R) (dIter gs k) := fun F0 G π m σ F H fp R S p => by
  refine hb F0 G π m σ F H fp _ S ?_
  unfold dIter at p
  cases e : gs m with
  | bad => rw [e] at p; exact p
  | exc c d m' => rw [e] at p; exact p
  | ok es m1 =>
    rw [e] at p
    have p : PostI K mg E F0 G π σ F R (k m1 es) := p
    intro xs F1 H1 fp1 S1 c1 e1
    refine hr F0 G π m1 σ F1 H1 fp1 R xs es S1 e1 ?_
    cases e2 : k m1 es with
    | bad => rw [e2] at p; exact p
    | exc c d m' => exact (hx _ _ _ _ _ e2).elim
    | ok w m2 =>
      rw [e2] at p
      exact fun J F' H' fp' S' s' hJ => p J F' H' fp' S' (c1.ext.trans s') hJ
theorem itr_ok {F0 G F1 : Hp} {π : List V} {lo : Int} {n : Nat} : ItOk K F0 G π (Itr lo n) F1 ⟨(List.range n).map fun k => .int (lo + (k : Nat)), fun _ => True⟩ := fun m σ F H fp S s _ => by
  refine ⟨fun i d e => ?_, by show n ≤ _; simp⟩
  have hi : i < n := by
    rcases Nat.lt_or_ge i n with z | z
    · exact z
    · rw [List.getElem?_eq_none (by simpa using z)] at e; cases e
  have ed : d = .int (lo + (i : Nat)) := by
    rw [List.getElem?_map, List.getElem?_range hi] at e
    exact (Option.some.inj e).symm
  subst ed
  refine ⟨hi, fun x H2 hy => ?_⟩
  obtain ⟨rfl, rfl⟩ := hy
  exact ⟨F, S, Same.refl _, Same.refl _, fun _ h => .inl h, rfl⟩
theorem k_range1 : KOkI K (fun vs H1 R => ∃ j : Int, vs = [.int j] ∧ -(2 ^ 62) ≤ j ∧ j < 2 ^ 62 ∧ R (Itr 0 j.toNat) H1) kRange1 := fun F0 G π m σ F H fp R xs es S h p => by
  unfold kRange1 at p
  split at p
  · rename_i j
    cases h with
    | @cons v vs _ _ h1 h2 =>
      cases h2
      have h1 : v = .int j := h1
      subst h1
      by_cases hj : -(2 ^ 62) ≤ j ∧ j < 2 ^ 62
      · rw [if_pos hj] at p
        refine ⟨j, rfl, hj.1, hj.2, p _ F H fp S (Same.refl _) fun F0' G' _ _ => ?_⟩
        have := itr_ok (K := K) (F0 := F0') (G := G') (F1 := F) (π := π) (lo := 0) (n := j.toNat)
        simpa using this
      · rw [if_neg hj] at p; exact p.elim
  · exact p.elim
theorem k_range2 : KOkI K (fun vs H1 R => ∃ i j : Int, vs = [.int i, .int j] ∧ (-(2 ^ 62) ≤ i ∧ i < 2 ^ 62 ∧ -(2 ^ 62) ≤ j ∧ j < 2 ^ 62) ∧ R (Itr i (j - i).toNat) H1) kRange2 := fun F0 G π m σ F H fp R xs es S h p => by
  unfold kRange2 at p
  split at p
  · rename_i i j
    cases h with
    | @cons v vs _ _ h1 h2 =>
      cases h2 with
      | @cons v2 vs2 _ _ h2 h3 =>
        cases h3
        have h1 : v = .int i := h1
        have h2 : v2 = .int j := h2
        subst h1 h2
        by_cases hj : -(2 ^ 62) ≤ i ∧ i < 2 ^ 62 ∧ -(2 ^ 62) ≤ j ∧ j < 2 ^ 62
        · rw [if_pos hj] at p
          exact ⟨i, j, rfl, hj, p _ F H fp S (Same.refl _) fun F0' G' _ _ => itr_ok⟩
        · rw [if_neg hj] at p; exact p.elim
  · exact p.elim
theorem di_range1 (C : Cxt X P w KX K mg base n E) {tg : Expr} {ts : TA} {gs : M → Out (List EV)} (hm : mg "range" = none) (h : DA X K mg E [a] pb ts gs) (hg : Gl X "range" := by rfl) (hs : starEach [a] X.env = [(false, eval a X.env)] := by rfl) : DI X K mg E tg (.Call (.Name "range" p) [a] [] pos) (iRng1 ts) (dIter gs kRange1) := by
  obtain ⟨rfl, rfl, rfl, up, rfl, rfl, _, _, _, _, _⟩ := C
  exact ⟨pi_range1 hg hm h.pe hs, ti_app h.ok k_range1 fun m es c d m' e => by
    unfold kRange1 at e
    split at e
    · split at e <;> cases e
    · cases e⟩
theorem di_range2 (C : Cxt X P w KX K mg base n E) {tg : Expr} {ts : TA} {gs : M → Out (List EV)} (hm : mg "range" = none) (h : DA X K mg E [a, b] pb ts gs) (hg : Gl X "range" := by rfl) (hs : starEach [a, b] X.env = [(false, eval a X.env), (false, eval b X.env)] := by rfl) (hs2 : starEach [b] X.env = [(false, eval b X.env)] := by rfl) : DI X K mg E tg (.Call (.Name "range" p) [a, b] [] pos) (iRng2 ts) (dIter gs kRange2) := by
  obtain ⟨rfl, rfl, rfl, up, rfl, rfl, _, _, _, _, _⟩ := C
  exact ⟨pi_range2 hg hm h.pe hs hs2, ti_app h.ok k_range2 fun m es c d m' e => by
    unfold kRange2 at e
    split at e
    · split at e <;> cases e
    · cases e⟩
/-! ## comprehensions -/
theorem dts_nil : DTs X K mg E [] true tYes (fun m => .ok true m) := ⟨pts_nil, fun F0 G π m σ F H fp Q S p => p F H fp S Ch.refl⟩
theorem dts_one {t : TT} {g : M → Out Bool} (h : DT X K mg E c pa t g) : DTs X K mg E [c] pa t g := ⟨pts_one h.pe, h.ok⟩
theorem de_lc (C : Cxt X P w KX K mg base n E) {elt tg iter : Expr} {ifs : List Expr} {scope : Scope} (own : List (Str × Nat)) {wi : TI} {gi : M → Out Wk} {g : TG} {bg : EV → M → Out Unit} {tt : TT} {gt : M → Out Bool} (hi : DI X K mg E tg iter wi gi) (ok : BlkOk X.N X.env.scope scope own)
    (hg : ∀ (s : Shared) (H : Hp) (Ca : Addr) (cl : List (Str × Addr)) (fp : List Addr), Cxt (X.blk s H scope (compEnvC scope cl Ca X.env) fp) P w KX K mg base n XS0 → DG (X.blk s H scope (compEnvC scope cl Ca X.env) fp) K tg g bg) (ho : OwnT' g (own.map (·.2)))
    (ht : ∀ (s : Shared) (H : Hp) (Ca : Addr) (cl : List (Str × Addr)) (fp : List Addr), Cxt (X.blk s H scope (compEnvC scope cl Ca X.env) fp) P w KX K mg base n XS0 → DTs (X.blk s H scope (compEnvC scope cl Ca X.env) fp) K mg XS0 ifs pb tt gt)
    (he : ∀ (s : Shared) (H : Hp) (Ca : Addr) (cl : List (Str × Addr)) (fp : List Addr), Cxt (X.blk s H scope (compEnvC scope cl Ca X.env) fp) P w KX K mg base n XS0 → DE (X.blk s H scope (compEnvC scope cl Ca X.env) fp) K mg XS0 elt pc te ge)
    (nd : (own.map (·.2)).Nodup := by decide) (hs : ∀ x, foldedSetIterable iter X.env x = pure x := by intro _; rfl) :
    DE X K mg E (.ListComp elt [⟨tg, iter, ifs, 0⟩] scope pos) false (tLc wi g tt te (own.map (·.2))) (dComp gi (own.map (·.2)) bg gt ge) := by
  have s0 : Shared := {}
  have Cb := fun (s : Shared) (H : Hp) (Ca : Addr) (cl : List (Str × Addr)) (fp : List Addr) => C.blk s H scope (compEnvC scope cl Ca X.env) fp
  refine ⟨pe_lc C.calm C.nd hi.pe ok (fun s H Ca cl fp => (hg s H Ca cl fp (Cb s H Ca cl fp)).pe) (fun s H Ca cl fp => (ht s H Ca cl fp (Cb s H Ca cl fp)).pe) (fun s H Ca cl fp => (he s H Ca cl fp (Cb s H Ca cl fp)).pe) hs, ?_⟩
  exact te_comp hi.ok (hg s0 (fun _ => none) 0 [] [] (Cb _ _ _ _ _)).ok ho (ht s0 (fun _ => none) 0 [] [] (Cb _ _ _ _ _)).ok (he s0 (fun _ => none) 0 [] [] (Cb _ _ _ _ _)).ok nd
end
end PD
namespace PD
open PySem PySem.Spec PyProof.Rows L2
/-! ## values as plain data of the library -/
mutual
def toPy : D → Option PyData
  | .non => some .none
  | .bl b => some (.bool b)
  | .int i => some (.int i)
  | .str x => some (.str x)
  | .tup ds => (toPyL ds).map .tuple
  | .lst ds => (toPyL ds).map .list
  | .dk _ => none
  | .dt _ => none
  | .fn _ => none
  | .scr _ => none
def toPyL : List D → Option (List PyData)
  | [] => some []
  | d :: ds => match toPy d, toPyL ds with
    | some p, some ps => some (p :: ps)
    | _, _ => none
end
mutual
def toPyS : SV → Option PyData
  | .fz d => toPy d
  | .ol xs => (toPySL xs).map .list
  | .ok _ => none
  | .ot _ => none
def toPySL : List SV → Option (List PyData)
  | [] => some []
  | d :: ds => match toPyS d, toPySL ds with
    | some p, some ps => some (p :: ps)
    | _, _ => none
end
section
variable {K : Kf} {F H : Hp}
mutual
theorem rep_dp (e : Same F H) : ∀ (d : D) (v : V) (p : PyData), Rep K F d v → toPy d = some p → Dp K H v p
  | .non, v, p, h, q => by have h : v = _ := h; subst h; cases q; exact .non
  | .bl b, v, p, h, q => by have h : v = _ := h; subst h; cases q; exact .bl b
  | .int i, v, p, h, q => by have h : v = _ := h; subst h; cases q; exact .int i
  | .str x, v, p, h, q => by have h : v = _ := h; subst h; cases q; exact .str x
  | .fn a, v, p, h, q => by cases q
  | .scr a, v, p, h, q => by cases q
  | .dk _, v, p, h, q => by cases q
  | .dt _, v, p, h, q => by cases q
  | .tup ds, v, p, ⟨a, vs, hv, hs, hr⟩, q => by
    subst hv
    rw [toPy, Option.map_eq_some_iff] at q
    obtain ⟨ps, h1, rfl⟩ := q
    exact .tup (same_t e hs).sq (repAll_dp e ds vs ps hr h1)
  | .lst ds, v, p, ⟨a, vs, hv, hs, hr⟩, q => by
    subst hv
    rw [toPy, Option.map_eq_some_iff] at q
    obtain ⟨ps, h1, rfl⟩ := q
    exact .lst (same_l e hs).sq (repAll_dp e ds vs ps hr h1)
theorem repAll_dp (e : Same F H) : ∀ (d : List D) (v : List V) (p : List PyData), RepAll K F d v → toPyL d = some p → DpAll K H v p
  | [], v, p, h, q => by have h : v = [] := h; subst h; rw [toPyL] at q; cases q; exact .nil
  | d :: ds, vs, p, ⟨v, r, hv, h1, h2⟩, q => by
    subst hv
    rw [toPyL] at q
    cases e1 : toPy d with
    | none => rw [e1] at q; cases q
    | some p1 =>
      cases e2 : toPyL ds with
      | none => rw [e1, e2] at q; cases q
      | some p2 =>
        rw [e1, e2] at q
        cases q
        exact .cons (rep_dp e d v p1 h1 e1) (repAll_dp e ds r p2 h2 e2)
end
mutual
theorem own_dp (e : Same F H) : ∀ (s : SV) (v : V) (q : List Addr) (p : PyData), Own K F H s v q → toPyS s = some p → Dp K H v p
  | .fz d, v, q, p, h, z => rep_dp e d v p h.1 z
  | .ok _, v, q, p, h, z => by cases z
  | .ot _, v, q, p, h, z => by cases z
  | .ol xs, v, q, p, ⟨a, vs, r, hv, ha, hr, hq⟩, z => by
    subst hv
    rw [toPyS, Option.map_eq_some_iff] at z
    obtain ⟨ps, h1, rfl⟩ := z
    exact .lst (SqL.of ha) (ownL_dp e xs vs r ps hr h1)
theorem ownL_dp (e : Same F H) : ∀ (s : List SV) (v : List V) (q : List Addr) (p : List PyData), OwnL K F H s v q → toPySL s = some p → DpAll K H v p
  | [], v, q, p, h, z => by have h : v = [] := h.1; subst h; rw [toPySL] at z; cases z; exact .nil
  | d :: ds, vs, q, p, ⟨v, r, q1, q2, hv, h1, h2, hq⟩, z => by
    subst hv
    rw [toPySL] at z
    cases e1 : toPyS d with
    | none => rw [e1] at z; cases z
    | some p1 =>
      cases e2 : toPySL ds with
      | none => rw [e1, e2] at z; cases z
      | some p2 =>
        rw [e1, e2] at z
        cases z
        exact .cons (own_dp e d v q1 p1 h1 e1) (ownL_dp e ds r q2 p2 h2 e2)
end
theorem cont_dp (e : Same F H) {s : SV} {v : V} {p : PyData} (h : Cont K F H s v) (z : toPyS s = some p) : Dp K H v p := let ⟨q, o⟩ := h; own_dp e s v q p o z
/-! ### what holds of views -/
theorem cont_fz {d : D} {v : V} (h : Cont K F H (.fz d) v) : Rep K F d v := let ⟨_, o⟩ := h; o.1
/-- the frozen items of a list -/
def lstD : SV → Option (List D)
  | .fz (.lst ds) => some ds
  | .ol xs => allFz xs
  | _ => none
def tupD : SV → Option (List D)
  | .fz (.tup ds) => some ds
  | _ => none
theorem ownL_all : ∀ {xs : List SV} {ds : List D} {vs : List V} {q : List Addr}, OwnL K F H xs vs q → allFz xs = some ds → RepAll K F ds vs
  | [], ds, vs, q, h, e => by cases e; exact h.1
  | .fz d :: xs, ds, vs, q, ⟨v, r, q1, q2, hv, h1, h2, hq⟩, e => by
    rw [allFz, Option.map_eq_some_iff] at e
    obtain ⟨ds', h3, rfl⟩ := e
    exact ⟨v, r, hv, h1.1, ownL_all h2 h3⟩
  | .ol _ :: xs, ds, vs, q, h, e => by cases e
  | .ok _ :: xs, ds, vs, q, h, e => by cases e
  | .ot _ :: xs, ds, vs, q, h, e => by cases e
theorem cont_lst (e : Same F H) {s : SV} {ds : List D} {v : V} (h : Cont K F H s v) (hd : lstD s = some ds) : ∃ a vs, v = .ref a ∧ LstAt K H a vs ∧ RepAll K F ds vs := by
  cases s with
  | fz d =>
    cases d with
    | lst xs =>
      cases hd
      obtain ⟨a, vs, h1, h2, h3⟩ := cont_fz h
      exact ⟨a, vs, h1, same_l e h2, h3⟩
    | _ => cases hd
  | ol xs =>
    obtain ⟨q, a, vs, r, h1, h2, h3, _⟩ := h
    exact ⟨a, vs, h1, h2, ownL_all h3 hd⟩
  | ok _ => cases hd
  | ot _ => cases hd
theorem cont_tup (e : Same F H) {s : SV} {ds : List D} {v : V} (h : Cont K F H s v) (hd : tupD s = some ds) : ∃ a vs, v = .ref a ∧ TupAt K H a vs ∧ RepAll K F ds vs := by
  cases s with
  | fz d =>
    cases d with
    | tup xs =>
      cases hd
      obtain ⟨a, vs, h1, h2, h3⟩ := cont_fz h
      exact ⟨a, vs, h1, same_t e h2, h3⟩
    | _ => cases hd
  | ol xs => cases hd
  | ok _ => cases hd
  | ot _ => cases hd
/-! ### what an operation leaves -/
structure ResOk (K : Kf) (F H F' H' : Hp) (ev : EV) (v : V) : Prop where
  sF : Same F F'
  sH : Same H H'
  sub : Same F' H'
  new : ∀ a, F' a ≠ none → F a ≠ none ∨ H a = none
  nt : ∀ a ps, F' a = some (.tbl ps) → F a = some (.tbl ps)
  val : match ev with
    | .v d => Rep K F' d v
    | .fr s => ∃ q, Own K F' H' s v q ∧ q.Nodup ∧ ∀ a ∈ q, H a = none ∧ F' a = none
    | .br _ _ => False
theorem ResOk.val0 (e : Same F H) {d : D} {v : V} (h : Rep K F d v) : ResOk K F H F H (.v d) v := ⟨Same.refl F, Same.refl H, e, fun _ h => .inl h, fun _ _ h => h, h⟩
theorem ResOk.tup0 (e : Same F H) {p : Addr} (hp : H p = none) {ds : List D} {vs : List V} (h : RepAll K F ds vs) : ResOk K F H (upd F p (.tup vs)) (upd H p (.tup vs)) (.v (.tup ds)) (.ref p) := by
  have s1 : Same F (upd F p (.tup vs)) := same_new (same_none e hp)
  refine ⟨s1, same_new hp, fun a x q => ?_, fun a q => ?_, fun a ps q => ?_, p, vs, rfl, upd_same, RepAll.mono s1 _ _ h⟩
  · by_cases z : a = p
    · subst z; rw [upd_same] at q ⊢; exact q
    · rw [upd_ne z] at q ⊢; exact e a x q
  · by_cases z : a = p
    · subst z; exact .inr hp
    · rw [upd_ne z] at q; exact .inl q
  · by_cases z : a = p
    · subst z; rw [upd_same] at q; cases q
    · rw [upd_ne z] at q; exact q
theorem ResOk.lst0 (e : Same F H) {p : Addr} (hp : H p = none) {xs : List SV} {vs : List V} (h : OwnL K F H xs vs []) : ResOk K F H F (upd H p (.lst vs)) (.fr (.ol xs)) (.ref p) := by
  refine ⟨Same.refl F, same_new hp, e.trans (same_new hp), fun _ h => .inl h, fun _ _ h => h, [p], ⟨p, vs, [], rfl, upd_same, h.keep (Same.refl F) _ _ _ (fun a z => by cases z), rfl⟩, List.nodup_cons.mpr ⟨by simp, List.nodup_nil⟩, fun a ha => ?_⟩
  have : a = p := by simpa using ha
  subst this
  exact ⟨hp, same_none e hp⟩
variable {mg : Str → Option Value} {E : XS}
theorem StF.res {F0 G : Hp} {π : List V} {m : M} {σ : L2.St} {fp : Ow → List Addr} {Q : VK} {ev : EV} (S : StF K F0 G π m σ F H fp) (p : PostE K mg E true F0 G π m σ F H fp Q (.ok ev m)) {v : V} {F' H' : Hp} (r : ResOk K F H F' H' ev v) : Q v H' := by
  refine p v F' H' fp (S.grow r.sF r.sH r.sub r.new fun a ps e => S.ntF a ps (r.nt a ps e)) ⟨r.sF, fun _ => ⟨rfl, rfl, r.sH, r.new⟩⟩ ?_
  have z := r.val
  cases ev with
  | v d => exact z
  | br o q => exact z.elim
  | fr s =>
    obtain ⟨q, h1, h2, h3⟩ := z
    exact ⟨q, h1, h2, fun a ha => ⟨(h3 a ha).2, same_none S.base (h3 a ha).1, (S.freshG (h3 a ha).1).2.2, fun _ => (h3 a ha).1⟩⟩
/-- a plain operation on two views -/
def kV2 (op : SV → SV → Option EV) (m : M) (x y : EV) : Out EV := match view m x, view m y with
  | some a, some b => match op a b with
    | some ev => .ok ev m
    | none => .bad
  | _, _ => .bad
def OpOk2 (K : Kf) (r : R2) (op : SV → SV → Option EV) : Prop := ∀ F H x y a b ev (Q : VK), Same F H → Cont K F H a x → Cont K F H b y → op a b = some ev → (∀ v F' H', ResOk K F H F' H' ev v → Q v H') → r x y H Q
theorem k_v2 {r : R2} {op : SV → SV → Option EV} (h : OpOk2 K r op) : KOk2 K mg E true r (kV2 op) := fun F0 G π m σ F H fp Q x y ex ey S hx hy p => by
  unfold kV2 at p
  cases e1 : view m ex with
  | none => simp only [e1] at p; exact p.elim
  | some a =>
    cases e2 : view m ey with
    | none => simp only [e1, e2] at p; exact p.elim
    | some b =>
      cases e3 : op a b with
      | none => simp only [e1, e2, e3] at p; exact p.elim
      | some ev =>
        simp only [e1, e2, e3] at p
        exact h F H x y a b ev Q S.sub (S.view hx e1) (S.view hy e2) e3 fun v F' H' r => S.res p r
def kV1 (op : SV → Option EV) (m : M) (x : EV) : Out EV := match view m x with
  | some a => match op a with
    | some ev => .ok ev m
    | none => .bad
  | none => .bad
def OpOk1 (K : Kf) (r : V → Hp → VK → Prop) (op : SV → Option EV) : Prop := ∀ F H x a ev (Q : VK), Same F H → Cont K F H a x → op a = some ev → (∀ v F' H', ResOk K F H F' H' ev v → Q v H') → r x H Q
theorem k_v1 {r : V → Hp → VK → Prop} {op : SV → Option EV} (h : OpOk1 K r op) : KOk1 K mg E true r (kV1 op) := fun F0 G π m σ F H fp Q x ex S hx p => by
  unfold kV1 at p
  cases e1 : view m ex with
  | none => simp only [e1] at p; exact p.elim
  | some a =>
    cases e3 : op a with
    | none => simp only [e1, e3] at p; exact p.elim
    | some ev =>
      simp only [e1, e3] at p
      exact h F H x a ev Q S.sub (S.view hx e1) e3 fun v F' H' r => S.res p r
def views (m : M) : List EV → Option (List SV)
  | [] => some []
  | e :: r => match view m e, views m r with
    | some a, some as => some (a :: as)
    | _, _ => none
def kVN (op : List SV → Option EV) (m : M) (xs : List EV) : Out EV := match views m xs with
  | some as => match op as with
    | some ev => .ok ev m
    | none => .bad
  | none => .bad
inductive Conts (K : Kf) (F H : Hp) : List SV → List V → Prop
  | nil : Conts K F H [] []
  | cons {a : SV} {as : List SV} {v : V} {vs : List V} : Cont K F H a v → Conts K F H as vs → Conts K F H (a :: as) (v :: vs)
def OpOkN (K : Kf) (r : List V → Hp → VK → Prop) (op : List SV → Option EV) : Prop := ∀ F H xs as ev (Q : VK), Same F H → Conts K F H as xs → op as = some ev → (∀ v F' H', ResOk K F H F' H' ev v → Q v H') → r xs H Q
theorem views_ok {F0 G : Hp} {π : List V} {m : M} {σ : L2.St} {fp : Ow → List Addr} (S : StF K F0 G π m σ F H fp) : ∀ {es : List EV} {vs : List V} {as : List SV}, EvFs K G π σ F H fp (fun _ => False) vs es → views m es = some as → Conts K F H as vs
  | [], vs, as, h, e => by cases h; cases e; exact .nil
  | ev :: es, vs, as, h, e => by
    cases h with
    | cons h1 h2 =>
      unfold views at e
      cases e1 : view m ev with
      | none => simp [e1] at e
      | some a =>
        cases e2 : views m es with
        | none => simp [e1, e2] at e
        | some as' =>
          simp [e1, e2] at e
          subst e
          exact .cons (S.view h1 e1) (views_ok S h2 e2)
theorem k_vn {r : List V → Hp → VK → Prop} {op : List SV → Option EV} (h : OpOkN K r op) : KOkN K mg E true (fun _ => r) (kVN op) := fun F0 G π m σ F H fp Q xs es S hx p => by
  unfold kVN at p
  cases e1 : views m es with
  | none => simp only [e1] at p; exact p.elim
  | some as =>
    cases e3 : op as with
    | none => simp only [e1, e3] at p; exact p.elim
    | some ev =>
      simp only [e1, e3] at p
      exact h F H xs as ev Q S.sub (views_ok S hx e1) e3 fun v F' H' r => S.res p r
end
/-! ### rules that are told by alternatives -/
theorem opR_or {X : Cx} {f : Value → Value → Sem Value} {r r' : R2} (h : OpR X f r) (h' : OpR X f r') : OpR X f (fun x y H Q => r x y H Q ∨ r' x y H Q) := fun pins s σ H x y v u Q I rx ry q => q.elim (h pins s σ H x y v u Q I rx ry) (h' pins s σ H x y v u Q I rx ry)
theorem callR_or {X : Cx} {f : Value} {r r' : List V → Hp → VK → Prop} (h : CallR X f r) (h' : CallR X f r') : CallR X f (fun xs H Q => r xs H Q ∨ r' xs H Q) := fun pins s σ H xs us Q I rx q => q.elim (h pins s σ H xs us Q I rx) (h' pins s σ H xs us Q I rx)
theorem mtR_or {X : Cx} {id : String} {r r' : V → List V → Hp → VK → Prop} (h : MtR X id r) (h' : MtR X id r') : MtR X id (fun x xs H Q => r x xs H Q ∨ r' x xs H Q) := fun pins s σ H x xs v us Q I rx rxs q => q.elim (h pins s σ H x xs v us Q I rx rxs) (h' pins s σ H x xs v us Q I rx rxs)
end PD
namespace PD
open PySem PySem.Spec PyProof.Rows L2
/-! ## operations by data -/
mutual
theorem plain_toPy : ∀ (d : D) (p : PyData), toPy d = some p → p.plain = true
  | .non, p, h => by cases h; rfl
  | .bl b, p, h => by cases h; rfl
  | .int i, p, h => by cases h; rfl
  | .str x, p, h => by cases h; rfl
  | .fn a, p, h => by cases h
  | .scr a, p, h => by cases h
  | .dk _, p, h => by cases h
  | .dt _, p, h => by cases h
  | .tup ds, p, h => by
    rw [toPy, Option.map_eq_some_iff] at h
    obtain ⟨ps, h1, rfl⟩ := h
    simp only [PyData.plain]; exact plain_toPyL ds ps h1
  | .lst ds, p, h => by
    rw [toPy, Option.map_eq_some_iff] at h
    obtain ⟨ps, h1, rfl⟩ := h
    simp only [PyData.plain]; exact plain_toPyL ds ps h1
theorem plain_toPyL : ∀ (d : List D) (p : List PyData), toPyL d = some p → PyData.plainAll p = true
  | [], p, h => by rw [toPyL] at h; cases h; rfl
  | d :: ds, p, h => by
    rw [toPyL] at h
    cases e1 : toPy d with
    | none => rw [e1] at h; cases h
    | some p1 =>
      cases e2 : toPyL ds with
      | none => rw [e1, e2] at h; cases h
      | some p2 =>
        rw [e1, e2] at h
        cases h
        simp only [PyData.plainAll, plain_toPy d p1 e1, plain_toPyL ds p2 e2, Bool.and_self]
end
mutual
theorem plain_toPyS : ∀ (d : SV) (p : PyData), toPyS d = some p → p.plain = true
  | .fz d, p, h => plain_toPy d p h
  | .ok _, p, h => by cases h
  | .ot _, p, h => by cases h
  | .ol ds, p, h => by
    rw [toPyS, Option.map_eq_some_iff] at h
    obtain ⟨ps, h1, rfl⟩ := h
    simp only [PyData.plain]; exact plain_toPySL ds ps h1
theorem plain_toPySL : ∀ (d : List SV) (p : List PyData), toPySL d = some p → PyData.plainAll p = true
  | [], p, h => by rw [toPySL] at h; cases h; rfl
  | d :: ds, p, h => by
    rw [toPySL] at h
    cases e1 : toPyS d with
    | none => rw [e1] at h; cases h
    | some p1 =>
      cases e2 : toPySL ds with
      | none => rw [e1, e2] at h; cases h
      | some p2 =>
        rw [e1, e2] at h
        cases h
        simp only [PyData.plainAll, plain_toPyS d p1 e1, plain_toPySL ds p2 e2, Bool.and_self]
end
/-! Dp with another frame of written objects -/
mutual
theorem dp_up {K KX : Kf} (u : Up K KX) {H : Hp} : ∀ (p : PyData) (v : V), Dp K H v p → Dp KX H v p
  | .none, _, h => by cases h; exact .non
  | .bool b, _, h => by cases h; exact .bl b
  | .int i, _, h => by cases h; exact .int i
  | .str x, _, h => by cases h; exact .str x
  | .list ds, _, h => by cases h with | lst hs ha => exact .lst (up_l u hs) (dpAll_up u ds _ ha)
  | .tuple ds, _, h => by cases h with | tup hs ha => exact .tup (up_t u hs) (dpAll_up u ds _ ha)
  | .dict _, _, h => by cases h
theorem dpAll_up {K KX : Kf} (u : Up K KX) {H : Hp} : ∀ (p : List PyData) (v : List V), DpAll K H v p → DpAll KX H v p
  | [], _, h => by cases h; exact .nil
  | d :: ds, _, h => by cases h with | cons h1 h2 => exact .cons (dp_up u d _ h1) (dpAll_up u ds _ h2)
end
def dMin (p q : PyData) : Nat := min p.depth q.depth
section
variable {X : Cx} {K : Kf}
/-- == and != of data -/
def rEqP (K : Kf) (neg : Bool) : R2 := fun x y H Q => ∃ p q, Dp K H x p ∧ Dp K H y q ∧ p.plain = true ∧ q.plain = true ∧ dMin p q ≤ 100 ∧ Q (.bl (if neg then !PyData.eqv p q else PyData.eqv p q)) H
theorem op_eqP (hu : X.A.units + 200 < cLine) : OpR X (compareOp .Eq) (rEqP X.K false) := by
  intro pins s σ H x y v u Q I rx ry ⟨p, q, h1, h2, p1, p2, hd, z⟩
  obtain ⟨as, r1⟩ := Dp.reads I p x v h1 rx
  obtain ⟨bs, r2⟩ := Dp.reads I q y u h2 ry
  exact PySem.SeqAt.eq_plain r1 r2 p1 p2 (by unfold dMin at hd; omega) ⟨.bl _, H, I, rfl, z⟩
theorem op_neP (hu : X.A.units + 200 < cLine) : OpR X (compareOp .NotEq) (rEqP X.K true) := by
  intro pins s σ H x y v u Q I rx ry ⟨p, q, h1, h2, p1, p2, hd, z⟩
  obtain ⟨as, r1⟩ := Dp.reads I p x v h1 rx
  obtain ⟨bs, r2⟩ := Dp.reads I q y u h2 ry
  exact PySem.SeqAt.ne_plain r1 r2 p1 p2 (by unfold dMin at hd; omega) ⟨.bl _, H, I, rfl, z⟩
/-- <, <=, >, >= of data that are alike -/
def rOrdP (K : Kf) (f : PyData → PyData → Bool) : R2 := fun x y H Q => ∃ p q, Dp K H x p ∧ Dp K H y q ∧ PySem.W.alike p q = true ∧ p ≠ .none ∧ dMin p q ≤ 100 ∧ Q (.bl (f p q)) H
theorem op_ltP (hu : X.A.units + 200 < cLine) : OpR X (compareOp .Lt) (rOrdP X.K PySem.W.dataLt) := by
  intro pins s σ H x y v u Q I rx ry ⟨p, q, h1, h2, p1, p2, hd, z⟩
  obtain ⟨as, r1⟩ := Dp.reads I p x v h1 rx
  obtain ⟨bs, r2⟩ := Dp.reads I q y u h2 ry
  exact PySem.W.lt_data r1 r2 p1 p2 (by unfold dMin at hd; omega) ⟨.bl _, H, I, rfl, z⟩
theorem op_gtP (hu : X.A.units + 200 < cLine) : OpR X (compareOp .Gt) (rOrdP X.K fun p q => PySem.W.dataLt q p) := by
  intro pins s σ H x y v u Q I rx ry ⟨p, q, h1, h2, p1, p2, hd, z⟩
  obtain ⟨as, r1⟩ := Dp.reads I p x v h1 rx
  obtain ⟨bs, r2⟩ := Dp.reads I q y u h2 ry
  exact PySem.W.gt_data r1 r2 p1 p2 (by unfold dMin at hd; omega) ⟨.bl _, H, I, rfl, z⟩
theorem op_leP (hu : X.A.units + 200 < cLine) : OpR X (compareOp .LtE) (rOrdP X.K fun p q => !PySem.W.dataLt q p) := by
  intro pins s σ H x y v u Q I rx ry ⟨p, q, h1, h2, p1, p2, hd, z⟩
  obtain ⟨as, r1⟩ := Dp.reads I p x v h1 rx
  obtain ⟨bs, r2⟩ := Dp.reads I q y u h2 ry
  exact PySem.W.le_data r1 r2 p1 p2 (by unfold dMin at hd; omega) ⟨.bl _, H, I, rfl, z⟩
theorem op_geP (hu : X.A.units + 200 < cLine) : OpR X (compareOp .GtE) (rOrdP X.K fun p q => !PySem.W.dataLt p q) := by
  intro pins s σ H x y v u Q I rx ry ⟨p, q, h1, h2, p1, p2, hd, z⟩
  obtain ⟨as, r1⟩ := Dp.reads I p x v h1 rx
  obtain ⟨bs, r2⟩ := Dp.reads I q y u h2 ry
  exact PySem.W.ge_data r1 r2 p1 p2 (by unfold dMin at hd; omega) ⟨.bl _, H, I, rfl, z⟩
/-- in, not in: a list or tuple of data -/
def seqP : PyData → Option (List PyData)
  | .list xs => some xs
  | .tuple xs => some xs
  | _ => none
def rInP (K : Kf) (neg : Bool) : R2 := fun x y H Q => ∃ p q xs, Dp K H x p ∧ Dp K H y q ∧ seqP q = some xs ∧ p.plain = true ∧ q.plain = true ∧ min (PyData.depthAll xs) p.depth ≤ 100 ∧ Q (.bl (if neg then !(xs.any fun z => PyData.eqv z p) else xs.any fun z => PyData.eqv z p)) H
theorem op_inP (hu : X.A.units + 200 < cLine) : OpR X (compareOp .In) (rInP X.K false) := by
  intro pins s σ H x y v u Q I rx ry ⟨p, q, xs, h1, h2, e, p1, p2, hd, z⟩
  obtain ⟨as, r1⟩ := Dp.reads I p x v h1 rx
  obtain ⟨bs, r2⟩ := Dp.reads I q y u h2 ry
  cases q with
  | list ys => cases e; exact PySem.SeqAt.in_list_data r2 r1 (by simpa only [PyData.plain] using p2) p1 (by omega) ⟨.bl _, H, I, rfl, z⟩
  | tuple ys => cases e; exact PySem.SeqAt.in_tuple_data r2 r1 (by simpa only [PyData.plain] using p2) p1 (by omega) ⟨.bl _, H, I, rfl, z⟩
  | _ => cases e
theorem op_notInP (hu : X.A.units + 200 < cLine) : OpR X (compareOp .NotIn) (rInP X.K true) := by
  intro pins s σ H x y v u Q I rx ry ⟨p, q, xs, h1, h2, e, p1, p2, hd, z⟩
  obtain ⟨as, r1⟩ := Dp.reads I p x v h1 rx
  obtain ⟨bs, r2⟩ := Dp.reads I q y u h2 ry
  cases q with
  | list ys => cases e; exact PySem.SeqAt.notIn_list_data r2 r1 (by simpa only [PyData.plain] using p2) p1 (by omega) ⟨.bl _, H, I, rfl, z⟩
  | tuple ys => cases e; exact PySem.SeqAt.notIn_tuple_data r2 r1 (by simpa only [PyData.plain] using p2) p1 (by omega) ⟨.bl _, H, I, rfl, z⟩
  | _ => cases e
end
/-! ### their denotations -/
def bin2 (f : PyData → PyData → Option EV) (a b : SV) : Option EV := match toPyS a, toPyS b with
  | some p, some q => f p q
  | _, _ => none
def pEq (p q : PyData) : Option EV := if dMin p q ≤ 100 then some (.v (.bl (PyData.eqv p q))) else none
def pNe (p q : PyData) : Option EV := if dMin p q ≤ 100 then some (.v (.bl (!PyData.eqv p q))) else none
def notNone : PyData → Bool
  | .none => false
  | _ => true
def pOrd (f : PyData → PyData → Bool) (p q : PyData) : Option EV := if PySem.W.alike p q = true ∧ notNone p = true ∧ dMin p q ≤ 100 then some (.v (.bl (f p q))) else none
def pIn (p q : PyData) : Option EV := match seqP q with
  | some xs => if min (PyData.depthAll xs) p.depth ≤ 100 then some (.v (.bl (xs.any fun z => PyData.eqv z p))) else none
  | none => none
def pNotIn (p q : PyData) : Option EV := match seqP q with
  | some xs => if min (PyData.depthAll xs) p.depth ≤ 100 then some (.v (.bl (!(xs.any fun z => PyData.eqv z p)))) else none
  | none => none
section
variable {K KX : Kf}
theorem bin2_ok {r : R2} {f : PyData → PyData → Option EV} (up : Up K KX) (h : ∀ (H : Hp) x y p q (Q : VK) ev, Dp KX H x p → Dp KX H y q → p.plain = true → q.plain = true → f p q = some ev → (∃ b, ev = .v (.bl b)) ∧ ((∀ b, ev = .v (.bl b) → Q (.bl b) H) → r x y H Q)) : OpOk2 K r (bin2 f) := fun F H x y a b ev Q e hx hy z k => by
  unfold bin2 at z
  cases e1 : toPyS a with
  | none => simp [e1] at z
  | some p =>
    cases e2 : toPyS b with
    | none => simp [e1, e2] at z
    | some q =>
      simp only [e1, e2] at z
      obtain ⟨⟨c, rfl⟩, g⟩ := h H x y p q Q ev (dp_up up _ _ (cont_dp e hx e1)) (dp_up up _ _ (cont_dp e hy e2)) (plain_toPyS a p e1) (plain_toPyS b q e2) z
      exact g fun b' eb => by cases eb; exact k _ F H (ResOk.val0 e rfl)
theorem ok_eqP (up : Up K KX) : OpOk2 K (rEqP KX false) (bin2 pEq) := bin2_ok up fun H x y p q Q ev h1 h2 p1 p2 z => by
  unfold pEq at z
  by_cases hd : dMin p q ≤ 100
  · rw [if_pos hd] at z; cases z; exact ⟨⟨_, rfl⟩, fun k => ⟨p, q, h1, h2, p1, p2, hd, k _ rfl⟩⟩
  · rw [if_neg hd] at z; cases z
theorem ok_neP (up : Up K KX) : OpOk2 K (rEqP KX true) (bin2 pNe) := bin2_ok up fun H x y p q Q ev h1 h2 p1 p2 z => by
  unfold pNe at z
  by_cases hd : dMin p q ≤ 100
  · rw [if_pos hd] at z; cases z; exact ⟨⟨_, rfl⟩, fun k => ⟨p, q, h1, h2, p1, p2, hd, k _ rfl⟩⟩
  · rw [if_neg hd] at z; cases z
theorem ok_ordP (up : Up K KX) (f : PyData → PyData → Bool) : OpOk2 K (rOrdP KX f) (bin2 (pOrd f)) := bin2_ok up fun H x y p q Q ev h1 h2 p1 p2 z => by
  unfold pOrd at z
  by_cases hd : PySem.W.alike p q = true ∧ notNone p = true ∧ dMin p q ≤ 100
  · rw [if_pos hd] at z; cases z
    exact ⟨⟨_, rfl⟩, fun k => ⟨p, q, h1, h2, hd.1, fun e => by subst e; exact absurd hd.2.1 (by decide), hd.2.2, k _ rfl⟩⟩
  · rw [if_neg hd] at z; cases z
theorem ok_inP (up : Up K KX) : OpOk2 K (rInP KX false) (bin2 pIn) := bin2_ok up fun H x y p q Q ev h1 h2 p1 p2 z => by
  unfold pIn at z
  cases e : seqP q with
  | none => simp [e] at z
  | some xs =>
    simp only [e] at z
    by_cases hd : min (PyData.depthAll xs) p.depth ≤ 100
    · rw [if_pos hd] at z; cases z; exact ⟨⟨_, rfl⟩, fun k => ⟨p, q, xs, h1, h2, e, p1, p2, hd, k _ rfl⟩⟩
    · rw [if_neg hd] at z; cases z
theorem ok_notInP (up : Up K KX) : OpOk2 K (rInP KX true) (bin2 pNotIn) := bin2_ok up fun H x y p q Q ev h1 h2 p1 p2 z => by
  unfold pNotIn at z
  cases e : seqP q with
  | none => simp [e] at z
  | some xs =>
    simp only [e] at z
    by_cases hd : min (PyData.depthAll xs) p.depth ≤ 100
    · rw [if_pos hd] at z; cases z; exact ⟨⟨_, rfl⟩, fun k => ⟨p, q, xs, h1, h2, e, p1, p2, hd, k _ rfl⟩⟩
    · rw [if_neg hd] at z; cases z
/-! ### ints -/
def int2 (c : Int → Int → Prop) [DecidableRel c] (f : Int → Int → D) (a b : SV) : Option EV := match a, b with
  | .fz (.int i), .fz (.int j) => if c i j then some (.v (f i j)) else none
  | _, _ => none
theorem ok_int2 {c : Int → Int → Prop} [DecidableRel c] {f : Int → Int → D} {g : Int → Int → V} (h : ∀ i j F, Rep K F (f i j) (g i j)) : OpOk2 K (rI c g) (int2 c f) := fun F H x y a b ev Q e hx hy z k => by
  unfold int2 at z
  split at z
  · rename_i i j
    have h1 : x = .int i := cont_fz hx
    have h2 : y = .int j := cont_fz hy
    subst h1 h2
    split at z
    · rename_i hc
      cases z
      exact ⟨i, j, rfl, rfl, hc, k _ F H (ResOk.val0 e (h i j F))⟩
    · cases z
  · cases z
def tt2 (_ _ : Int) : Prop := True
instance : DecidableRel tt2 := fun _ _ => isTrue trivial
theorem ok_int20 {f : Int → Int → D} {g : Int → Int → V} (h : ∀ i j F, Rep K F (f i j) (g i j)) : OpOk2 K (rI0 g) (int2 tt2 f) := fun F H x y a b ev Q e hx hy z k =>
  let ⟨i, j, h1, h2, _, h3⟩ := ok_int2 (c := tt2) (g := g) h F H x y a b ev Q e hx hy z k
  ⟨i, j, h1, h2, h3⟩
/-- one operation or another -/
def orOp (f g : SV → SV → Option EV) (a b : SV) : Option EV := match f a b with
  | some ev => some ev
  | none => g a b
theorem ok_or {r r' : R2} {f g : SV → SV → Option EV} (h : OpOk2 K r f) (h' : OpOk2 K r' g) : OpOk2 K (fun x y H Q => r x y H Q ∨ r' x y H Q) (orOp f g) := fun F H x y a b ev Q e hx hy z k => by
  unfold orOp at z
  cases e1 : f a b with
  | some ev' => simp only [e1] at z; cases z; exact .inl (h F H x y a b _ Q e hx hy e1 k)
  | none => simp only [e1] at z; exact .inr (h' F H x y a b ev Q e hx hy z k)
end
end PD
namespace PD
open PySem PySem.Spec PyProof.Rows L2
variable {K : Kf}
/-! ## plain operations, by words -/
instance : DecidableRel CMul := fun i j => inferInstanceAs (Decidable (_ ∨ _))
instance : DecidableRel CDiv := fun i j => inferInstanceAs (Decidable (_ ∧ _))
instance : DecidableRel CDivN := fun i j => inferInstanceAs (Decidable (_ ∧ _))
instance : DecidableRel CPow := fun i j => inferInstanceAs (Decidable (_ ∧ _))
theorem big_line {n : Nat} (h : n ≤ bigLen) : n ≤ sizeLine := big_le h
/-! ### + -/
def pCatS (a b : SV) : Option EV := match a, b with
  | .fz (.str i), .fz (.str j) => if i.length + j.length ≤ bigLen then some (.v (.str (i ++ j))) else none
  | _, _ => none
def pCatT (a b : SV) : Option EV := match tupD a, tupD b with
  | some xs, some ys => if xs.length + ys.length ≤ bigLen then some (.v (.tup (xs ++ ys))) else none
  | _, _ => none
def pCatL (a b : SV) : Option EV := match lstD a, lstD b with
  | some xs, some ys => if xs.length + ys.length ≤ bigLen then some (.fr (.ol ((xs ++ ys).map .fz))) else none
  | _, _ => none
abbrev pAddI := int2 tt2 fun i j => D.int (i + j)
def pPlus := orOp pAddI (orOp pCatS (orOp pCatT pCatL))
abbrev rStrCat : R2 := fun x y H Q => ∃ i j, x = .str i ∧ y = .str j ∧ i.length + j.length ≤ sizeLine ∧ Q (.str (i ++ j)) H
def rPlus (K : Kf) : R2 := fun x y H Q => (rI0 fun i j => .int (i + j)) x y H Q ∨ (rStrCat x y H Q ∨ (rCatA K x y H Q ∨ rCat x y H Q))
theorem op_plus {X : Cx} : OpR X (binaryOp .Add) (rPlus X.K) := opR_or op_add (opR_or op_add_str (opR_or op_catA op_cat))
theorem repAll_app {K : Kf} {F : Hp} : ∀ {xs ys : List D} {vs ws : List V}, RepAll K F xs vs → RepAll K F ys ws → RepAll K F (xs ++ ys) (vs ++ ws)
  | [], ys, vs, ws, h, h2 => by have h : vs = [] := h; subst h; exact h2
  | x :: xs, ys, vs, ws, ⟨v, r, e, h1, h3⟩, h2 => by subst e; exact ⟨v, r ++ ws, rfl, h1, repAll_app h3 h2⟩
theorem repAll_take {K : Kf} {F : Hp} : ∀ (n : Nat) {xs : List D} {vs : List V}, RepAll K F xs vs → RepAll K F (xs.take n) (vs.take n)
  | 0, _, _, _ => rfl
  | n + 1, [], vs, h => by have h : vs = [] := h; subst h; rfl
  | n + 1, x :: xs, vs, ⟨v, r, e, h1, h3⟩ => by subst e; exact ⟨v, r.take n, rfl, h1, repAll_take n h3⟩
theorem repAll_drop {K : Kf} {F : Hp} : ∀ (n : Nat) {xs : List D} {vs : List V}, RepAll K F xs vs → RepAll K F (xs.drop n) (vs.drop n)
  | 0, _, _, h => h
  | n + 1, [], vs, h => by have h : vs = [] := h; subst h; rfl
  | n + 1, x :: xs, vs, ⟨v, r, e, h1, h3⟩ => by subst e; exact repAll_drop n h3
theorem repAll_rev {K : Kf} {F : Hp} : ∀ {xs : List D} {vs : List V}, RepAll K F xs vs → RepAll K F xs.reverse vs.reverse
  | [], vs, h => by have h : vs = [] := h; subst h; rfl
  | x :: xs, vs, ⟨v, r, e, h1, h3⟩ => by
    subst e
    rw [List.reverse_cons, List.reverse_cons]
    exact repAll_app (repAll_rev h3) ⟨v, [], rfl, h1, rfl⟩
theorem ok_catS {K : Kf} : OpOk2 K rStrCat pCatS := fun F H x y a b ev Q e hx hy z k => by
  unfold pCatS at z
  split at z
  · rename_i i j
    have h1 : x = .str i := cont_fz hx
    have h2 : y = .str j := cont_fz hy
    subst h1 h2
    split at z
    · rename_i hc
      cases z
      exact ⟨i, j, rfl, rfl, big_le hc, k _ F H (ResOk.val0 e rfl)⟩
    · cases z
  · cases z
theorem ok_catT {KX : Kf} : OpOk2 K (rCatA KX) pCatT := fun F H x y a b ev Q e hx hy z k => by
  unfold pCatT at z
  cases e1 : tupD a with
  | none => simp [e1] at z
  | some xs =>
    cases e2 : tupD b with
    | none => simp [e1, e2] at z
    | some ys =>
      simp only [e1, e2] at z
      split at z
      · rename_i hc
        cases z
        obtain ⟨p, vs, rfl, h1, r1⟩ := cont_tup e hx e1
        obtain ⟨q, ws, rfl, h2, r2⟩ := cont_tup e hy e2
        have ra := repAll_app r1 r2
        have l1 := repAll_len r1
        have l2 := repAll_len r2
        have hF : ∀ {c : Addr} {us : List V} {s : SV} {zs : List D}, Cont K F H s (.ref c) → tupD s = some zs → ∃ us, Rep K F (.tup zs) (.ref c) := fun {c us s zs} hc hz => by
          cases s with
          | fz d => cases d <;> cases hz; exact ⟨us, cont_fz hc⟩
          | _ => cases hz
        refine ⟨p, q, vs, ws, rfl, rfl, .inl (.inl h1.at), .inl (.inl h2.at), by rw [l1, l2]; exact big_le hc, fun z => ?_, fun _ z => ?_, fun _ _ t ht => k _ _ _ (ResOk.tup0 e ht ra)⟩
        · subst z
          have : xs = [] := by cases xs with | nil => rfl | cons _ _ => obtain ⟨_, _, h, _⟩ := r1; cases h
          subst this
          obtain ⟨_, h⟩ := hF (us := ws) hy e2
          exact k _ F H (ResOk.val0 e h)
        · subst z
          have : ys = [] := by cases ys with | nil => rfl | cons _ _ => obtain ⟨_, _, h, _⟩ := r2; cases h
          subst this
          obtain ⟨_, h⟩ := hF (us := vs) hx e1
          rw [List.append_nil] at *
          exact k _ F H (ResOk.val0 e h)
      · cases z
theorem ok_catL : OpOk2 K rCat pCatL := fun F H x y a b ev Q e hx hy z k => by
  unfold pCatL at z
  cases e1 : lstD a with
  | none => simp [e1] at z
  | some xs =>
    cases e2 : lstD b with
    | none => simp [e1, e2] at z
    | some ys =>
      simp only [e1, e2] at z
      split at z
      · rename_i hc
        cases z
        obtain ⟨p, vs, rfl, h1, r1⟩ := cont_lst e hx e1
        obtain ⟨q, ws, rfl, h2, r2⟩ := cont_lst e hy e2
        exact ⟨p, q, vs, ws, rfl, rfl, h1.at, h2.at, by rw [repAll_len r1, repAll_len r2]; exact big_le hc, fun t ht => k _ _ _ (ResOk.lst0 e ht (ownL_fz (repAll_app r1 r2)))⟩
      · cases z
theorem ok_plus {KX : Kf} : OpOk2 K (rPlus KX) pPlus := ok_or (ok_int20 fun _ _ _ => rfl) (ok_or ok_catS (ok_or ok_catT ok_catL))
/-! ### * -/
def pRep (a b : SV) : Option EV := match lstD a, b with
  | some xs, .fz (.int k) => if -(2 ^ 62) ≤ k ∧ k < 2 ^ 62 ∧ xs.length * k.toNat ≤ bigLen then some (.fr (.ol ((List.replicate k.toNat xs).flatten.map .fz))) else none
  | _, _ => none
def pMul := orOp (int2 CMul fun i j => D.int (i * j)) pRep
def rMulR : R2 := fun x y H Q => (rI CMul fun i j => .int (i * j)) x y H Q ∨ rRep x y H Q
theorem op_mulR {X : Cx} : OpR X (binaryOp .Mult) rMulR := opR_or op_mul op_rep
theorem repAll_flat {K : Kf} {F : Hp} {xs : List D} {vs : List V} (h : RepAll K F xs vs) : ∀ n : Nat, RepAll K F (List.replicate n xs).flatten (List.replicate n vs).flatten
  | 0 => rfl
  | n + 1 => by
    rw [List.replicate_succ, List.replicate_succ, List.flatten_cons, List.flatten_cons]
    exact repAll_app h (repAll_flat h n)
theorem ok_rep : OpOk2 K rRep pRep := fun F H x y a b ev Q e hx hy z k => by
  unfold pRep at z
  split at z
  · rename_i xs j e1
    split at z
    · rename_i hc
      cases z
      obtain ⟨p, vs, rfl, h1, r1⟩ := cont_lst e hx e1
      have h2 : y = .int j := cont_fz hy
      subst h2
      exact ⟨p, j, vs, rfl, rfl, h1.at, by omega, by omega, by rw [repAll_len r1]; exact big_le hc.2.2, fun t ht => k _ _ _ (ResOk.lst0 e ht (ownL_fz (repAll_flat r1 _)))⟩
    · cases z
  · cases z
theorem ok_mul : OpOk2 K rMulR pMul := ok_or (ok_int2 fun _ _ _ => rfl) ok_rep
/-! ### -, //, %, **, bits -/
abbrev pSub := int2 tt2 fun i j => D.int (i - j)
abbrev pDiv := int2 CDiv fun i j => D.int (i / j)
abbrev pMod := int2 (fun _ j => 0 < j) fun i j => D.int (i % j)
abbrev pPow := int2 CPow fun i j => D.int (i ^ j.toNat)
abbrev pShl := int2 CPow fun i j => D.int (i * 2 ^ j.toNat)
abbrev pShr := int2 (fun _ j => 0 ≤ j) fun i j => D.int (i / 2 ^ j.toNat)
abbrev pAnd := int2 tt2 fun i j => D.int (Builtin.bitAnd i j)
abbrev pOr := int2 tt2 fun i j => D.int (Builtin.bitOr i j)
abbrev pXor := int2 tt2 fun i j => D.int (Builtin.bitXor i j)
/-! ### comparisons -/
abbrev pLt := orOp (int2 tt2 fun i j => D.bl (decide (i < j))) (bin2 (pOrd PySem.W.dataLt))
abbrev pLe := orOp (int2 tt2 fun i j => D.bl (decide (i ≤ j))) (bin2 (pOrd fun p q => !PySem.W.dataLt q p))
abbrev pGt := orOp (int2 tt2 fun i j => D.bl (decide (j < i))) (bin2 (pOrd fun p q => PySem.W.dataLt q p))
abbrev pGe := orOp (int2 tt2 fun i j => D.bl (decide (j ≤ i))) (bin2 (pOrd fun p q => !PySem.W.dataLt p q))
theorem op_ltR {X : Cx} (hu : X.A.units + 200 < cLine) : OpR X (compareOp .Lt) (fun x y H Q => (rI0 fun i j => .bl (decide (i < j))) x y H Q ∨ rOrdP X.K PySem.W.dataLt x y H Q) := opR_or op_lt (op_ltP hu)
theorem op_leR {X : Cx} (hu : X.A.units + 200 < cLine) : OpR X (compareOp .LtE) (fun x y H Q => (rI0 fun i j => .bl (decide (i ≤ j))) x y H Q ∨ rOrdP X.K (fun p q => !PySem.W.dataLt q p) x y H Q) := opR_or op_le (op_leP hu)
theorem op_gtR {X : Cx} (hu : X.A.units + 200 < cLine) : OpR X (compareOp .Gt) (fun x y H Q => (rI0 fun i j => .bl (decide (j < i))) x y H Q ∨ rOrdP X.K (fun p q => PySem.W.dataLt q p) x y H Q) := opR_or op_gt (op_gtP hu)
theorem op_geR {X : Cx} (hu : X.A.units + 200 < cLine) : OpR X (compareOp .GtE) (fun x y H Q => (rI0 fun i j => .bl (decide (j ≤ i))) x y H Q ∨ rOrdP X.K (fun p q => !PySem.W.dataLt p q) x y H Q) := opR_or op_ge (op_geP hu)
/-! ### is None -/
abbrev rIsN : R2 := fun x y H Q => y = .non ∧ Q (.bl (decide (x = .non))) H
abbrev rNotN : R2 := fun x y H Q => y = .non ∧ Q (.bl (!decide (x = .non))) H
def isNonS : SV → Bool
  | .fz .non => true
  | _ => false
theorem isNon_of {K : Kf} {F H : Hp} : ∀ {s : SV} {v : V}, Cont K F H s v → decide (v = .non) = isNonS s
  | .fz .non, v, h => by have h : v = .non := cont_fz h; subst h; rfl
  | .fz (.bl b), v, h => by have h : v = .bl b := cont_fz h; subst h; rfl
  | .fz (.int b), v, h => by have h : v = .int b := cont_fz h; subst h; rfl
  | .fz (.str b), v, h => by have h : v = .str b := cont_fz h; subst h; rfl
  | .fz (.fn b), v, h => by have h : v = .ref b := cont_fz h; subst h; rfl
  | .fz (.scr b), v, h => by obtain ⟨a, h, _⟩ := cont_fz h; subst h; rfl
  | .fz (.tup b), v, h => by obtain ⟨a, vs, h, _⟩ := cont_fz h; subst h; rfl
  | .fz (.lst b), v, h => by obtain ⟨a, vs, h, _⟩ := cont_fz h; subst h; rfl
  | .fz (.dk b), v, h => by obtain ⟨a, vs, h, _⟩ := cont_fz h; subst h; rfl
  | .fz (.dt b), v, h => by obtain ⟨a, vs, h, _⟩ := cont_fz h; subst h; rfl
  | .ol _, v, h => by obtain ⟨_, a, vs, _, h, _⟩ := h; subst h; rfl
  | .ok _, v, h => by obtain ⟨_, a, vs, _, h, _⟩ := h; subst h; rfl
  | .ot _, v, h => by obtain ⟨_, a, vs, _, h, _⟩ := h; subst h; rfl
def pIsN (neg : Bool) (a b : SV) : Option EV := match b with
  | .fz .non => some (.v (.bl (if neg then !isNonS a else isNonS a)))
  | _ => none
theorem ok_isN {K : Kf} : OpOk2 K rIsN (pIsN false) := fun F H x y a b ev Q e hx hy z k => by
  unfold pIsN at z
  split at z
  · cases z
    exact ⟨cont_fz hy, by rw [isNon_of hx]; exact k _ F H (ResOk.val0 e rfl)⟩
  · cases z
theorem ok_notN {K : Kf} : OpOk2 K rNotN (pIsN true) := fun F H x y a b ev Q e hx hy z k => by
  unfold pIsN at z
  split at z
  · cases z
    exact ⟨cont_fz hy, by rw [isNon_of hx]; exact k _ F H (ResOk.val0 e rfl)⟩
  · cases z
/-! ### in: text, list or tuple, dict -/
def pInS (neg : Bool) (a b : SV) : Option EV := match a, b with
  | .fz (.str i), .fz (.str j) => some (.v (.bl (if neg then !(!(Builtin.Str.occurrences j i 0 j.length 1).isEmpty) else !(Builtin.Str.occurrences j i 0 j.length 1).isEmpty)))
  | _, _ => none
abbrev rInS : R2 := fun x y H Q => ∃ i j, x = .str i ∧ y = .str j ∧ Q (.bl (!(Builtin.Str.occurrences j i 0 j.length 1).isEmpty)) H
abbrev rNotInS : R2 := fun x y H Q => ∃ i j, x = .str i ∧ y = .str j ∧ Q (.bl (!(!(Builtin.Str.occurrences j i 0 j.length 1).isEmpty))) H
theorem ok_inS {K : Kf} : OpOk2 K rInS (pInS false) := fun F H x y a b ev Q e hx hy z k => by
  unfold pInS at z
  split at z
  · cases z; exact ⟨_, _, cont_fz hx, cont_fz hy, k _ F H (ResOk.val0 e rfl)⟩
  · cases z
theorem ok_notInS {K : Kf} : OpOk2 K rNotInS (pInS true) := fun F H x y a b ev Q e hx hy z k => by
  unfold pInS at z
  split at z
  · cases z; exact ⟨_, _, cont_fz hx, cont_fz hy, k _ F H (ResOk.val0 e rfl)⟩
  · cases z
/-- a key: an int or a text; a tuple of such -/
def keyD : D → Option Key
  | .int i => some (.inl i)
  | .str x => some (.inr x)
  | _ => none
def keysD : List D → Option (List Key)
  | [] => some []
  | d :: r => match keyD d, keysD r with
    | some k, some ks => some (k :: ks)
    | _, _ => none
theorem keyD_v {K : Kf} {F : Hp} {d : D} {v : V} {k : Key} (h : Rep K F d v) (e : keyD d = some k) : v = kV k := by
  cases d <;> cases e <;> exact h
theorem keysD_v {K : Kf} {F : Hp} : ∀ {ds : List D} {vs : List V} {ks : List Key}, RepAll K F ds vs → keysD ds = some ks → vs = ks.map kV
  | [], vs, ks, h, e => by cases e; exact h
  | d :: ds, vs, ks, ⟨v, r, hv, h1, h2⟩, e => by
    subst hv
    unfold keysD at e
    cases e1 : keyD d with
    | none => rw [e1] at e; cases e
    | some k =>
      cases e2 : keysD ds with
      | none => rw [e1, e2] at e; cases e
      | some ks' =>
        rw [e1, e2] at e
        cases e
        rw [keyD_v h1 e1, keysD_v h2 e2]
        rfl
/-- what a dict holds at a key: none, frozen, or a part -/
inductive Dct where
  | k (key : Key) (o : Option SV) | t (key : List Key) (o : Option SV)
def dctK : SV → Option (List (Key × SV))
  | .ok kvs => some kvs
  | .fz (.dk kvs) => some (kvs.map fun kv => (kv.1, .fz kv.2))
  | _ => none
def dctT : SV → Option (List (List Key × SV))
  | .ot kvs => some kvs
  | .fz (.dt kvs) => some (kvs.map fun kv => (kv.1, .fz kv.2))
  | _ => none
def keyOf (s : SV) : Option (Key ⊕ List Key) := match s with
  | .fz (.tup ds) => (keysD ds).map .inr
  | .fz d => (keyD d).map .inl
  | _ => none
/-- what stands at the key -/
def dlook (d s : SV) : Option (Option SV) := match keyOf s with
  | some (.inl k) => (dctK d).map fun kvs => look kvs k
  | some (.inr k) => (dctT d).map fun kvs => look kvs k
  | none => none
theorem look_val {κ : Type} [DecidableEq κ] (kvs : List (κ × V)) (k : κ) : look kvs k = valV kvs k := rfl
theorem repK_look {K : Kf} {F : Hp} : ∀ {kvs : List (Key × D)} {ws : List (Key × V)}, RepK K F kvs ws → ∀ k : Key, (look kvs k = none ∧ look ws k = none) ∨ ∃ d v, look kvs k = some d ∧ look ws k = some v ∧ Rep K F d v
  | [], ws, h, k => by have h : ws = [] := h; subst h; exact .inl ⟨rfl, rfl⟩
  | (k', d) :: r, ws, ⟨v, s, e, h1, h2⟩, k => by
    subst e
    by_cases z : k' = k
    · exact .inr ⟨d, v, by simp [look, z], by simp [look, z], h1⟩
    · simpa [look, z] using repK_look h2 k
theorem repT_look {K : Kf} {F : Hp} : ∀ {kvs : List (List Key × D)} {ws : List (List Key × V)}, RepT K F kvs ws → ∀ k : List Key, (look kvs k = none ∧ look ws k = none) ∨ ∃ d v, look kvs k = some d ∧ look ws k = some v ∧ Rep K F d v
  | [], ws, h, k => by have h : ws = [] := h; subst h; exact .inl ⟨rfl, rfl⟩
  | (k', d) :: r, ws, ⟨v, s, e, h1, h2⟩, k => by
    subst e
    by_cases z : k' = k
    · exact .inr ⟨d, v, by simp [look, z], by simp [look, z], h1⟩
    · simpa [look, z] using repT_look h2 k
theorem ownK_look {K : Kf} {F H : Hp} : ∀ {kvs : List (Key × SV)} {ws : List (Key × V)} {q : List Addr}, OwnK K F H kvs ws q → ∀ k : Key, (look kvs k = none ∧ look ws k = none) ∨ ∃ s v, look kvs k = some s ∧ look ws k = some v ∧ Cont K F H s v
  | [], ws, q, h, k => by have h : ws = [] := h.1; subst h; exact .inl ⟨rfl, rfl⟩
  | (k', d) :: r, ws, q, ⟨v, s, q1, q2, e, h1, h2, _⟩, k => by
    subst e
    by_cases z : k' = k
    · exact .inr ⟨d, v, by simp [look, z], by simp [look, z], q1, h1⟩
    · simpa [look, z] using ownK_look h2 k
theorem ownT_look {K : Kf} {F H : Hp} : ∀ {kvs : List (List Key × SV)} {ws : List (List Key × V)} {q : List Addr}, OwnT K F H kvs ws q → ∀ k : List Key, (look kvs k = none ∧ look ws k = none) ∨ ∃ s v, look kvs k = some s ∧ look ws k = some v ∧ Cont K F H s v
  | [], ws, q, h, k => by have h : ws = [] := h.1; subst h; exact .inl ⟨rfl, rfl⟩
  | (k', d) :: r, ws, q, ⟨v, s, q1, q2, e, h1, h2, _⟩, k => by
    subst e
    by_cases z : k' = k
    · exact .inr ⟨d, v, by simp [look, z], by simp [look, z], q1, h1⟩
    · simpa [look, z] using ownT_look h2 k
theorem look_map {κ : Type} [DecidableEq κ] {α β : Type} (f : α → β) : ∀ (kvs : List (κ × α)) (k : κ), look (kvs.map fun kv => (kv.1, f kv.2)) k = (look kvs k).map f
  | [], k => rfl
  | (k', d) :: r, k => by
    by_cases z : k' = k
    · simp [look, z]
    · simpa [look, z] using look_map f r k
theorem key_cases {H F : Hp} (e : Same F H) {s : SV} {v : V} (h : Cont K F H s v) {k : Key ⊕ List Key} (z : keyOf s = some k) : (∃ j, k = .inl j ∧ v = kV j) ∨ ∃ j b, k = .inr j ∧ v = .ref b ∧ H b = some (.tup (j.map kV)) := by
  cases s with
  | fz d =>
    cases d with
    | tup ds =>
      simp only [keyOf, Option.map_eq_some_iff] at z
      obtain ⟨j, z, rfl⟩ := z
      obtain ⟨b, vs, rfl, h1, r⟩ := cont_fz h
      rw [keysD_v r z] at h1
      exact .inr ⟨j, b, rfl, rfl, e _ _ h1.at⟩
    | int i =>
      simp only [keyOf, Option.map_eq_some_iff] at z
      obtain ⟨j, z, rfl⟩ := z
      exact .inl ⟨j, rfl, keyD_v (cont_fz h) z⟩
    | str i =>
      simp only [keyOf, Option.map_eq_some_iff] at z
      obtain ⟨j, z, rfl⟩ := z
      exact .inl ⟨j, rfl, keyD_v (cont_fz h) z⟩
    | _ => cases z
  | _ => cases z
/-- the dict's answer, in the heap -/
theorem dlook_ok {F H : Hp} (e : Same F H) {d s : SV} {x y : V} (hd : Cont K F H d x) (hs : Cont K F H s y) {o : Option SV} (z : dlook d s = some o) :
    ∃ a r, x = .ref a ∧ DGet H a y r ∧ ((o = none ∧ r = none) ∨ ∃ s' v, o = some s' ∧ r = some v ∧ Cont K F H s' v) := by
  unfold dlook at z
  cases ek : keyOf s with
  | none => rw [ek] at z; cases z
  | some k =>
    rw [ek] at z
    rcases key_cases e hs ek with ⟨j, rfl, rfl⟩ | ⟨j, b, rfl, rfl, hb⟩
    · simp only [Option.map_eq_some_iff] at z
      obtain ⟨kvs, z, rfl⟩ := z
      cases d with
      | ok ks =>
        cases z
        obtain ⟨q, a, vs, r, rfl, ha, hr, _⟩ := hd
        refine ⟨a, valV vs j, rfl, .inl ⟨vs, j, .inl ha, rfl, rfl⟩, ?_⟩
        rcases ownK_look hr j with ⟨h1, h2⟩ | ⟨s', v, h1, h2, h3⟩
        · exact .inl ⟨h1, h2⟩
        · exact .inr ⟨s', v, h1, h2, h3⟩
      | fz d =>
        cases d with
        | dk ks =>
          cases z
          obtain ⟨a, vs, rfl, ha, hr⟩ := cont_fz hd
          refine ⟨a, valV vs j, rfl, .inl ⟨vs, j, .inl (e _ _ ha), rfl, rfl⟩, ?_⟩
          rcases repK_look hr j with ⟨h1, h2⟩ | ⟨s', v, h1, h2, h3⟩
          · exact .inl ⟨by rw [look_map, h1]; rfl, h2⟩
          · exact .inr ⟨.fz s', v, by rw [look_map, h1]; rfl, h2, [], h3, rfl⟩
        | _ => cases z
      | _ => cases z
    · simp only [Option.map_eq_some_iff] at z
      obtain ⟨kvs, z, rfl⟩ := z
      cases d with
      | ot ks =>
        cases z
        obtain ⟨q, a, vs, r, rfl, ha, hr, _⟩ := hd
        refine ⟨a, valV vs j, rfl, .inr ⟨vs, j, b, .inl ha, rfl, hb, rfl⟩, ?_⟩
        rcases ownT_look hr j with ⟨h1, h2⟩ | ⟨s', v, h1, h2, h3⟩
        · exact .inl ⟨h1, h2⟩
        · exact .inr ⟨s', v, h1, h2, h3⟩
      | fz d =>
        cases d with
        | dt ks =>
          cases z
          obtain ⟨a, vs, rfl, ha, hr⟩ := cont_fz hd
          refine ⟨a, valV vs j, rfl, .inr ⟨vs, j, b, .inl (e _ _ ha), rfl, hb, rfl⟩, ?_⟩
          rcases repT_look hr j with ⟨h1, h2⟩ | ⟨s', v, h1, h2, h3⟩
          · exact .inl ⟨by rw [look_map, h1]; rfl, h2⟩
          · exact .inr ⟨.fz s', v, by rw [look_map, h1]; rfl, h2, [], h3, rfl⟩
        | _ => cases z
      | _ => cases z
def rInDict (neg : Bool) : R2 := fun y x H Q => ∃ a o, x = .ref a ∧ DGet H a y o ∧ Q (.bl (if neg then !o.isSome else o.isSome)) H
theorem op_inDict {X : Cx} (hu : X.A.units + 1 < cLine) : OpR X (compareOp .In) (rInDict false) := by
  intro pins s σ H x y v u Q I rx ry ⟨a, o, ey, g, q⟩
  subst ey
  obtain rfl : u = Value.ref a := ry
  exact d_in hu I g rx fun s3 I3 => ⟨.bl o.isSome, H, I3, rfl, q⟩
theorem op_notInDict {X : Cx} (hu : X.A.units + 1 < cLine) : OpR X (compareOp .NotIn) (rInDict true) := by
  intro pins s σ H x y v u Q I rx ry ⟨a, o, ey, g, q⟩
  subst ey
  obtain rfl : u = Value.ref a := ry
  exact d_notIn hu I g rx fun s3 I3 => ⟨.bl (!o.isSome), H, I3, rfl, q⟩
def pInDict (neg : Bool) (a b : SV) : Option EV := (dlook b a).map fun o => .v (.bl (if neg then !o.isSome else o.isSome))
theorem ok_inDict {neg : Bool} : OpOk2 K (rInDict neg) (pInDict neg) := fun F H x y a b ev Q e hx hy z k => by
  unfold pInDict at z
  rw [Option.map_eq_some_iff] at z
  obtain ⟨o, z, rfl⟩ := z
  obtain ⟨c, r, rfl, g, h⟩ := dlook_ok e hy hx z
  refine ⟨c, r, rfl, g, ?_⟩
  have : r.isSome = o.isSome := by
    rcases h with ⟨rfl, rfl⟩ | ⟨s', v, rfl, rfl, _⟩ <;> rfl
  rw [this]
  exact k _ F H (ResOk.val0 e rfl)
def pInA := orOp (pInS false) (orOp (bin2 pIn) (pInDict false))
def pNotInA := orOp (pInS true) (orOp (bin2 pNotIn) (pInDict true))
def rInA (K : Kf) : R2 := fun x y H Q => rInS x y H Q ∨ (rInP K false x y H Q ∨ rInDict false x y H Q)
def rNotInA (K : Kf) : R2 := fun x y H Q => rNotInS x y H Q ∨ (rInP K true x y H Q ∨ rInDict true x y H Q)
theorem op_inA {X : Cx} (hu : X.A.units + 200 < cLine) : OpR X (compareOp .In) (rInA X.K) := opR_or op_in_str (opR_or (op_inP hu) (op_inDict (by omega)))
theorem op_notInA {X : Cx} (hu : X.A.units + 200 < cLine) : OpR X (compareOp .NotIn) (rNotInA X.K) := opR_or op_notin_str (opR_or (op_notInP hu) (op_notInDict (by omega)))
theorem ok_inA {KX : Kf} (up : Up K KX) : OpOk2 K (rInA KX) pInA := ok_or ok_inS (ok_or (ok_inP up) ok_inDict)
theorem ok_notInA {KX : Kf} (up : Up K KX) : OpOk2 K (rNotInA KX) pNotInA := ok_or ok_notInS (ok_or (ok_notInP up) ok_inDict)
end PD
namespace PD
open PySem PySem.Spec PyProof.Rows L2
variable {K : Kf}
/-! ## subscripts, slices -/
theorem PathH.app {H : Hp} : ∀ (p : List Pth) {q : List Pth} {w v u : V}, PathH H w p v → PathH H v q u → PathH H w (p ++ q) u
  | [], q, w, v, u, h, h2 => by have h : v = w := h; subst h; exact h2
  | .i k :: p, q, w, v, u, ⟨a, vs, x, hw, ha, hk, hp⟩, h2 => ⟨a, vs, x, hw, ha, hk, PathH.app p hp h2⟩
  | .k k :: p, q, w, v, u, ⟨a, vs, x, hw, ha, hk, hp⟩, h2 => ⟨a, vs, x, hw, ha, hk, PathH.app p hp h2⟩
  | .t k :: p, q, w, v, u, ⟨a, vs, x, hw, ha, hk, hp⟩, h2 => ⟨a, vs, x, hw, ha, hk, PathH.app p hp h2⟩
/-- one step into a value: the part, the way -/
def stepIx (s key : SV) : Option (SV × Pth) := match s, key with
  | .ol xs, .fz (.int i) => (ixN xs.length i).bind fun j => (xs[j]?).map fun x => (x, .i j)
  | .fz (.lst xs), .fz (.int i) => (ixN xs.length i).bind fun j => (xs[j]?).map fun x => (.fz x, .i j)
  | .fz (.tup xs), .fz (.int i) => (ixN xs.length i).bind fun j => (xs[j]?).map fun x => (.fz x, .i j)
  | .fz (.str z), .fz (.int i) => if z.length ≤ bigLen then (atI z.cps.toList i).map fun c => (.fz (.str ⟨#[c]⟩), .i 0) else none
  | s, key => match dlook s key with
    | some (some x) => some (x, match keyOf key with
      | some (.inl k) => .k k
      | some (.inr k) => .t k
      | none => .i 0)
    | _ => none
def kIx (m : M) (x y : EV) : Out EV := match view m x, view m y with
  | some s, some k => match stepIx s k with
    | some (.fz d, _) => .ok (.v d) m
    | some (_, p') => match x with
      | .br o p => .ok (.br o (p ++ [p'])) m
      | _ => .bad
    | none => .bad
  | _, _ => .bad
def rIxDct : R2 := fun x y H Q => ∃ a v, x = .ref a ∧ DGet H a y (some v) ∧ Q v H
theorem ix_dct {X : Cx} (hu : X.A.units + 1 < cLine) : IxR X rIxDct := by
  intro value slice pins s σ H x y v u Q I rx ry h hs
  obtain ⟨a, w, rfl, g, q⟩ := h
  obtain rfl : v = Value.ref a := rx
  exact tail_any (dict_typeIs I g) PySem.F.slot_dict_getitem.lookup (d_getItem hu I g ry fun w' s3 I3 rw' => ⟨w, H, I3, rw', q⟩) hs
def rIxA (K : Kf) : R2 := fun x y H Q => rIx K x y H Q ∨ rIxDct x y H Q
theorem ix_any {X : Cx} (hu : X.A.units + 1 < cLine) : IxR X (rIxA X.K) := ix_seq.or (ix_dct hu)
/-- the step in the heap: the value v of the part; the way, if the whole is owned -/
theorem stepIx_ok {KX : Kf} {F H : Hp} (e : Same F H) {s k : SV} {x y : V} (hx : Cont K F H s x) (hy : Cont K F H k y) {s' : SV} {p' : Pth} (z : stepIx s k = some (s', p')) :
    ∃ v, Cont K F H s' v ∧ (∀ Q : VK, Q v H → rIxA KX x y H Q) ∧ ((∃ d, s' = .fz d) ∨ PathH H x [p'] v) := by
  have dct : (match dlook s k with
    | some (some x) => some (x, match keyOf k with
      | some (.inl k) => Pth.k k
      | some (.inr k) => .t k
      | none => .i 0)
    | _ => none) = some (s', p') → ∃ v, Cont K F H s' v ∧ (∀ Q : VK, Q v H → rIxA KX x y H Q) ∧ ((∃ d, s' = .fz d) ∨ PathH H x [p'] v) := fun z => by
    cases e1 : dlook s k with
    | none => rw [e1] at z; cases z
    | some o =>
      cases o with
      | none => rw [e1] at z; cases z
      | some s1 =>
        rw [e1] at z
        cases z
        obtain ⟨a, r, rfl, g, h⟩ := dlook_ok e hx hy e1
        rcases h with ⟨h, _⟩ | ⟨s2, v, h1, rfl, h3⟩
        · cases h
        · cases h1
          refine ⟨v, h3, fun Q q => .inr ⟨a, v, rfl, g, q⟩, ?_⟩
          unfold dlook at e1
          cases ek : keyOf k with
          | none => rw [ek] at e1; cases e1
          | some kk =>
            rw [ek] at e1
            rcases key_cases e hy ek with ⟨j, rfl, rfl⟩ | ⟨j, b, rfl, rfl, hb⟩
            · simp only [Option.map_eq_some_iff] at e1
              obtain ⟨kvs, e1, e2⟩ := e1
              cases s with
              | ok ks =>
                cases e1
                obtain ⟨q, a', vs, rr, ea, ha, hr, _⟩ := hx
                cases ea
                rcases ownK_look hr j with ⟨h1, h2⟩ | ⟨s'', v', h1, h2, h3'⟩
                · rw [h1] at e2; cases e2
                · refine .inr ⟨a, vs, v', rfl, ha, h2, ?_⟩
                  rcases g with ⟨kvs, k', e5, e6, e7⟩ | ⟨kvs, k', b, e5, e6, e7, e8⟩
                  · rcases e5 with e5 | ⟨o, e5⟩
                    · rw [ha] at e5; cases e5
                      have : j = k' := by cases j <;> cases k' <;> cases e6 <;> rfl
                      subst this
                      have h2 : valV vs j = some v' := h2
                      rw [h2] at e7; cases e7; rfl
                    · rw [ha] at e5; cases e5
                  · cases j <;> cases e6
              | fz d =>
                cases d with
                | dk ks =>
                  cases e1
                  rw [look_map] at e2
                  cases e9 : look ks j with
                  | none => rw [e9] at e2; cases e2
                  | some d => rw [e9] at e2; cases e2; exact .inl ⟨d, rfl⟩
                | _ => cases e1
              | _ => cases e1
            · simp only [Option.map_eq_some_iff] at e1
              obtain ⟨kvs, e1, e2⟩ := e1
              cases s with
              | ot ks =>
                cases e1
                obtain ⟨q, a', vs, rr, ea, ha, hr, _⟩ := hx
                cases ea
                rcases ownT_look hr j with ⟨h1, h2⟩ | ⟨s'', v', h1, h2, h3'⟩
                · rw [h1] at e2; cases e2
                · refine .inr ⟨a, vs, v', rfl, ha, h2, ?_⟩
                  rcases g with ⟨kvs, k', e5, e6, e7⟩ | ⟨kvs, k', b', e5, e6, e7, e8⟩
                  · cases k' <;> cases e6
                  · rcases e5 with e5 | ⟨o, e5⟩
                    · rw [ha] at e5; cases e5
                      cases e6
                      rw [hb] at e7
                      have e7 : j.map kV = k'.map kV := by injection e7 with e7; injection e7
                      have inj : ∀ (l l' : List Key), l.map kV = l'.map kV → l = l' := by
                        intro l
                        induction l with
                        | nil => intro l' h; cases l' with | nil => rfl | cons _ _ => cases h
                        | cons a l ih =>
                          intro l' h
                          cases l' with
                          | nil => cases h
                          | cons b l' =>
                            injection h with h1 h2
                            have : a = b := by cases a <;> cases b <;> cases h1 <;> rfl
                            rw [this, ih l' h2]
                      have := inj _ _ e7
                      subst this
                      have h2 : valV vs j = some v' := h2
                      rw [h2] at e8; cases e8; rfl
                    · rw [ha] at e5; cases e5
              | fz d =>
                cases d with
                | dt ks =>
                  cases e1
                  rw [look_map] at e2
                  cases e9 : look ks j with
                  | none => rw [e9] at e2; cases e2
                  | some d => rw [e9] at e2; cases e2; exact .inl ⟨d, rfl⟩
                | _ => cases e1
              | _ => cases e1
  unfold stepIx at z
  split at z
  · rename_i xs i
    have hy : y = .int i := cont_fz hy
    subst hy
    rw [Option.bind_eq_some_iff] at z
    obtain ⟨j, ej, z⟩ := z
    rw [Option.map_eq_some_iff] at z
    obtain ⟨x0, ex, z⟩ := z
    cases z
    obtain ⟨q, a, vs, r, rfl, ha, hr, _⟩ := hx
    obtain ⟨v, g, ev, ov, _⟩ := ownL_get hr ex
    have hl : vs.length = xs.length := by
      have : ∀ {xs : List SV} {vs : List V} {q : List Addr}, OwnL K F H xs vs q → vs.length = xs.length := by
        intro xs
        induction xs with
        | nil => intro vs q h; have := h.1; subst this; rfl
        | cons x xs ih => intro vs q ⟨v, r, q1, q2, h, _, h2, _⟩; subst h; simp [ih h2]
      exact this hr
    refine ⟨v, ⟨g, ov⟩, fun Q q => .inl (.inl ⟨a, vs, i, v, rfl, rfl, SqL.of ha, ?_, q⟩), .inr ⟨a, vs, v, rfl, ha, ev, rfl⟩⟩
    unfold atI
    rw [hl, ej]
    exact ev
  · rename_i xs i
    have hy : y = .int i := cont_fz hy
    subst hy
    rw [Option.bind_eq_some_iff] at z
    obtain ⟨j, ej, z⟩ := z
    rw [Option.map_eq_some_iff] at z
    obtain ⟨x0, ex, z⟩ := z
    cases z
    obtain ⟨a, vs, rfl, ha, hr⟩ := cont_fz hx
    obtain ⟨v, ev, rv⟩ := repAll_get hr ex
    refine ⟨v, ⟨[], rv, rfl⟩, fun Q q => .inl (.inl ⟨a, vs, i, v, rfl, rfl, SqL.of (e _ _ ha.at), ?_, q⟩), .inl ⟨_, rfl⟩⟩
    unfold atI
    rw [repAll_len hr, ej]
    exact ev
  · rename_i xs i
    have hy : y = .int i := cont_fz hy
    subst hy
    rw [Option.bind_eq_some_iff] at z
    obtain ⟨j, ej, z⟩ := z
    rw [Option.map_eq_some_iff] at z
    obtain ⟨x0, ex, z⟩ := z
    cases z
    obtain ⟨a, vs, rfl, ha, hr⟩ := cont_fz hx
    obtain ⟨v, ev, rv⟩ := repAll_get hr ex
    refine ⟨v, ⟨[], rv, rfl⟩, fun Q q => .inl (.inr (.inl ⟨a, vs, i, v, rfl, rfl, SqT.of (e _ _ ha.at), ?_, q⟩)), .inl ⟨_, rfl⟩⟩
    unfold atI
    rw [repAll_len hr, ej]
    exact ev
  · rename_i t i
    have hy : y = .int i := cont_fz hy
    subst hy
    have hx : x = .str t := cont_fz hx
    subst hx
    split at z
    · rename_i hl
      rw [Option.map_eq_some_iff] at z
      obtain ⟨c, ex, z⟩ := z
      cases z
      exact ⟨.str ⟨#[c]⟩, ⟨[], rfl, rfl⟩, fun Q q => .inl (.inr (.inr ⟨t, i, c, rfl, rfl, big_le hl, ex, q⟩)), .inl ⟨_, rfl⟩⟩
    · cases z
  · exact dct z
section
variable {K : Kf} {mg : Str → Option Value} {E : XS} {pa pb pc pu pl ph : Bool} {ta tb te : TE} {ga gb ge : M → Out EV}
theorem k_ix {KX : Kf} : KOk2 K mg E true (rIxA KX) kIx := fun F0 G π m σ F H fp Q x y ex ey S hx hy p => by
  unfold kIx at p
  cases e1 : view m ex with
  | none => simp only [e1] at p; exact p.elim
  | some s =>
    cases e2 : view m ey with
    | none => simp only [e1, e2] at p; exact p.elim
    | some k =>
      simp only [e1, e2] at p
      cases e3 : stepIx s k with
      | none => simp only [e3] at p; exact p.elim
      | some z =>
        obtain ⟨s', p'⟩ := z
        obtain ⟨v, cv, run, way⟩ := stepIx_ok (KX := KX) S.sub (S.view hx e1) (S.view hy e2) e3
        refine run Q ?_
        simp only [e3] at p
        have br : ∀ o q, ex = .br o q → (∀ d, s' ≠ .fz d) → PostE K mg E true F0 G π m σ F H fp Q (.ok (.br o (q ++ [p'])) m) → Q v H := fun o q eq n pp => by
          subst eq
          obtain ⟨w, h1, h2⟩ := hx
          rcases way with ⟨d, hd⟩ | way
          · exact absurd hd (n d)
          · exact pp v F H fp S Ch.refl ⟨w, h1, h2.app _ way⟩
        cases s' with
        | fz d => exact p v F H fp S Ch.refl (cont_fz cv)
        | ol _ =>
          cases ex with
          | br o q => exact br o q rfl (fun _ h => by cases h) p
          | _ => exact p.elim
        | ok _ =>
          cases ex with
          | br o q => exact br o q rfl (fun _ h => by cases h) p
          | _ => exact p.elim
        | ot _ =>
          cases ex with
          | br o q => exact br o q rfl (fun _ h => by cases h) p
          | _ => exact p.elim
/-! ### slices -/
def PostO (K : Kf) (mg : Str → Option Value) (E : XS) (pu : Bool) (F0 G : Hp) (π : List V) (m : M) (σ : L2.St) (F H : Hp) (fp : Ow → List Addr) (Q : Option Int → Hp → Prop) : Out (Option Int) → Prop
  | .ok b m' => ∀ F' H' fp', StF K F0 G π m' σ F' H' fp' → Ch pu m m' F H F' H' fp fp' → Q b H'
  | .exc c d m' => ExcW K mg F0 G π E σ c d m'
  | .bad => False
def TOok (K : Kf) (mg : Str → Option Value) (E : XS) (pu : Bool) (t : TO) (g : M → Out (Option Int)) : Prop :=
  ∀ F0 G π m σ F H fp (Q : Option Int → Hp → Prop), StF K F0 G π m σ F H fp → PostO K mg E pu F0 G π m σ F H fp Q (g m) → t σ H Q
def dNoPart (m : M) : Out (Option Int) := .ok none m
def dPart (g : M → Out EV) (m : M) : Out (Option Int) := (g m).bind fun ev m1 => match ev with
  | .v (.int i) => .ok (some i) m1
  | _ => .bad
theorem to_none : TOok K mg E true tNoPart dNoPart := fun F0 G π m σ F H fp Q S p => p F H fp S Ch.refl
theorem to_some (h : TEok K mg E pa ta ga) : TOok K mg E pa (tPart ta) (dPart ga) := fun F0 G π m σ F H fp Q S p => by
  refine h F0 G π m σ F H fp _ S ?_
  unfold dPart at p
  cases e : ga m with
  | bad => rw [e] at p; exact p
  | exc c d m' => rw [e] at p; exact p
  | ok ev m1 =>
    rw [e] at p
    intro v F1 H1 fp1 S1 c1 e1
    cases ev with
    | br o q => exact p.elim
    | fr s => exact p.elim
    | v d =>
      cases d with
      | int i => exact ⟨i, e1, p F1 H1 fp1 S1 c1⟩
      | _ => exact p.elim
def cutD {α : Type} (xs : List α) (lo hi : Option Int) : List α := (xs.drop (HT.sIx xs.length 0 lo)).take (HT.sIx xs.length xs.length hi - HT.sIx xs.length 0 lo)
/-- a slice: of a list, of a tuple, of a text -/
def pSl (s : SV) (lo hi : Option Int) : Option EV := match lstD s with
  | some ds => some (.fr (.ol ((cutD ds lo hi).map .fz)))
  | none => match s with
    | .fz (.tup ds) => some (.v (.tup (cutD ds lo hi)))
    | .fz (.scr ns) => some (.fr (.ol ((cutD ns lo hi).map fun i => .fz (.int i))))
    | .fz (.str z) => if z.length ≤ bigLen then some (.v (.str (cutS z lo hi))) else none
    | _ => none
theorem repAll_cut {F : Hp} {ds : List D} {vs : List V} (h : RepAll K F ds vs) (lo hi : Option Int) : RepAll K F (cutD ds lo hi) (cutV vs lo hi) := by
  unfold cutD cutV
  rw [repAll_len h]
  exact repAll_take _ (repAll_drop _ h)
def rSlAll (KX : Kf) : V → Option Int → Option Int → Hp → VK → Prop := fun x lo hi H Q => rSlL KX x lo hi H Q ∨ (rSlA KX x lo hi H Q ∨ rSlS x lo hi H Q)
theorem sl_all {X : Cx} : SlR X (rSlAll X.K) := sl_list.or (sl_tupA.or sl_str)
theorem cutD_all {α : Type} {xs : List α} {lo hi : Option Int} (h : HT.sIx xs.length 0 lo = 0 ∧ HT.sIx xs.length xs.length hi = xs.length) : cutD xs lo hi = xs := by
  unfold cutD
  rw [h.1, h.2]
  simp
theorem pSl_ok {KX : Kf} (up : Up K KX) {F H : Hp} {x : V} {s : SV} {lo hi : Option Int} {ev : EV} {Q : VK} (e : Same F H) (hx : Cont K F H s x) (z : pSl s lo hi = some ev) (k : ∀ v F' H', ResOk K F H F' H' ev v → Q v H') : rSlAll KX x lo hi H Q := by
  unfold pSl at z
  cases e1 : lstD s with
  | some ds =>
    simp only [e1] at z
    cases z
    obtain ⟨a, vs, rfl, h1, r1⟩ := cont_lst e hx e1
    exact .inl ⟨a, vs, rfl, SqL.of h1.at, fun p hp => k _ _ _ (ResOk.lst0 e hp (ownL_fz (repAll_cut r1 lo hi)))⟩
  | none =>
    simp only [e1] at z
    split at z
    · rename_i ds
      cases z
      obtain ⟨a, vs, rfl, h1, r1⟩ := cont_fz hx
      refine .inr (.inl ⟨a, vs, rfl, SqT.of (e _ _ h1.at), fun h => ?_, fun _ p hp => k _ _ _ (ResOk.tup0 e hp (repAll_cut r1 lo hi))⟩)
      rw [repAll_len r1] at h
      rw [cutD_all h] at k
      exact k _ F H (ResOk.val0 e (cont_fz hx))
    · rename_i ns
      cases z
      obtain ⟨a, rfl, h1⟩ := cont_fz hx
      refine .inl ⟨a, ns.map V.int, rfl, up_l up (e.seq h1), fun p hp => ?_⟩
      have ec : cutV (ns.map V.int) lo hi = (cutD ns lo hi).map V.int := by
        unfold cutV cutD
        rw [List.length_map, List.map_take, List.map_drop]
      rw [ec]
      have : ∀ ns : List Int, RepAll K F (ns.map D.int) (ns.map V.int) := by
        intro ns
        induction ns with
        | nil => rfl
        | cons n ns ih => exact ⟨_, _, rfl, rfl, ih⟩
      have r := ResOk.lst0 e hp (ownL_fz (H := H) (this (cutD ns lo hi)))
      rw [List.map_map] at r
      exact k _ _ _ r
    · rename_i t
      split at z
      · rename_i hl
        cases z
        exact .inr (.inr ⟨t, cont_fz hx, big_le hl, k _ F H (ResOk.val0 e rfl)⟩)
      · cases z
    · cases z
def dSl (pl ph : Bool) (ga : M → Out EV) (gl gh : M → Out (Option Int)) (m : M) : Out EV :=
  (opd ga m).bind fun x m1 => (gl m1).bind fun l m2 => (gh m2).bind fun h m3 => if stable (pl && ph) x = true then (match view m3 x with
    | some s => match pSl s l h with
      | some ev => .ok ev m3
      | none => .bad
    | none => .bad) else .bad
theorem te_sl {KX : Kf} (up : Up K KX) {tl th : TO} {gl gh : M → Out (Option Int)} (ha : TEok K mg E pa ta ga) (hl : TOok K mg E pl tl gl) (hh : TOok K mg E ph th gh) : TEok K mg E (pa && (pl && ph)) (tSl (rSlAll KX) ta tl th) (dSl pl ph ga gl gh) := fun F0 G π m σ F H fp Q S p => by
  refine ha.opd F0 G π m σ F H fp _ S ?_
  unfold dSl at p
  cases e : opd ga m with
  | bad => rw [e] at p; exact p
  | exc c d m' => rw [e] at p; exact p
  | ok ex m1 =>
    rw [e] at p
    intro x F1 H1 fp1 S1 c1 e1
    refine hl F0 G π m1 σ F1 H1 fp1 _ S1 ?_
    have p : PostE K mg E _ F0 G π m σ F H fp Q ((gl m1).bind fun l m2 => (gh m2).bind fun h m3 => if stable (pl && ph) ex = true then (match view m3 ex with
      | some s => match pSl s l h with
        | some ev => .ok ev m3
        | none => .bad
      | none => .bad) else .bad) := p
    cases e2 : gl m1 with
    | bad => rw [e2] at p; exact p
    | exc c d m' => rw [e2] at p; exact p
    | ok l m2 =>
      rw [e2] at p
      intro F2 H2 fp2 S2 c2
      refine hh F0 G π m2 σ F2 H2 fp2 _ S2 ?_
      have p : PostE K mg E _ F0 G π m σ F H fp Q ((gh m2).bind fun h m3 => if stable (pl && ph) ex = true then (match view m3 ex with
        | some s => match pSl s l h with
          | some ev => .ok ev m3
          | none => .bad
        | none => .bad) else .bad) := p
      cases e3 : gh m2 with
      | bad => rw [e3] at p; exact p
      | exc c d m' => rw [e3] at p; exact p
      | ok h m3 =>
        rw [e3] at p
        intro F3 H3 fp3 S3 c3
        have p : PostE K mg E _ F0 G π m σ F H fp Q (if stable (pl && ph) ex = true then (match view m3 ex with
          | some s => match pSl s l h with
            | some ev => .ok ev m3
            | none => .bad
          | none => .bad) else .bad) := p
        by_cases st : stable (pl && ph) ex = true
        · rw [if_pos st] at p
          have e4 := e1.carry (N' := fun _ => False) (opd_nofr e) (c2.trans c3) st
          cases ev : view m3 ex with
          | none => simp only [ev] at p; exact p.elim
          | some s =>
            cases es : pSl s l h with
            | none => simp only [ev, es] at p; exact p.elim
            | some r =>
              simp only [ev, es] at p
              have p1 := PostE.weak (pa := pa && (pl && ph)) (pb := true) (c1.trans (c2.trans c3)) (by rw [Bool.and_true]; exact p)
              exact pSl_ok up S3.sub (S3.view e4 ev) es fun v F' H' r => S3.res p1 r
        · rw [if_neg st] at p; exact p.elim
/-- xs[::-1] -/
def pRev (s : SV) : Option EV := (lstD s).map fun ds => .fr (.ol (ds.reverse.map .fz))
theorem ok_rev {KX : Kf} : OpOk1 K (fun x H1 Q => ∃ a xs, x = .ref a ∧ SqL KX H1 a xs ∧ ∀ p, H1 p = none → Q (.ref p) (upd H1 p (.lst xs.reverse))) pRev := fun F H x a ev Q e hx z k => by
  unfold pRev at z
  rw [Option.map_eq_some_iff] at z
  obtain ⟨ds, z, rfl⟩ := z
  obtain ⟨b, vs, rfl, h1, r1⟩ := cont_lst e hx z
  exact ⟨b, vs, rfl, SqL.of h1.at, fun p hp => k _ _ _ (ResOk.lst0 e hp (ownL_fz (repAll_rev r1)))⟩
end
/-! ## as pieces -/
structure DO (X : Cx) (K : Kf) (mg : Str → Option Value) (E : XS) (e : Option Expr) (pu : Bool) (t : TO) (g : M → Out (Option Int)) : Prop where
  pe : PO X e t
  ok : TOok K mg E pu t g
section
variable {X : Cx} {P : Program} {w : World} {KX K : Kf} {mg : Str → Option Value} {base : Heap} {n : Nat} {E : XS} {pa pb pc pu pl ph : Bool} {ta tb tc te : TE} {ga gb gc ge : M → Out EV} {a b c e : Expr} {es : List Expr} {pos p p2 : Pos} {x : Str}
theorem do_none : DO X K mg E none true tNoPart dNoPart := ⟨po_none, to_none⟩
theorem do_some (h : DE X K mg E e pa ta ga) : DO X K mg E (some e) pa (tPart ta) (dPart ga) := ⟨po_some h.pe, to_some h.ok⟩
theorem de_sl (C : Cxt X P w KX K mg base n E) {lo hi : Option Expr} {tl th : TO} {gl gh : M → Out (Option Int)} (h : DE X K mg E e pa ta ga) (hl : DO X K mg E lo pl tl gl) (hh : DO X K mg E hi ph th gh) : DE X K mg E (.Subscript e (.Slice lo hi none p2) pos) (pa && (pl && ph)) (tSl (rSlAll KX) ta tl th) (dSl pl ph ga gl gh) := by
  rw [← C.hK]
  exact ⟨pe_slice sl_all h.pe hl.pe hh.pe, te_sl (KX := X.K) (by rw [C.hK]; exact C.up) h.ok hl.ok hh.ok⟩
theorem de_rev (C : Cxt X P w KX K mg base n E) {k : Nat} {p1 p2 p3 : Pos} (h : DE X K mg E e pa ta ga) : DE X K mg E (.Subscript e (.Slice none none (some (.UnaryOp .USub (.Constant (.int 1) k p1) p2)) p3) pos) (pa && true) (tRevL KX ta) (dUn ga (kV1 pRev)) := by
  rw [← C.hK]
  exact ⟨pe_revL h.pe, (te_un1 h.ok (k_v1 ok_rev) : TEok K mg E _ (fun σ H Q => ta σ H fun x H1 => ∃ a xs, x = .ref a ∧ SqL X.K H1 a xs ∧ ∀ p, H1 p = none → Q (.ref p) (upd H1 p (.lst xs.reverse))) _)⟩
theorem de_sub (C : Cxt X P w KX K mg base n E) (h1 : DE X K mg E a pa ta ga) (h2 : DE X K mg E b pb tb gb) (hs : PlainIx b := by exact fun _ _ => rfl) : DE X K mg E (.Subscript a b pos) (pa && (pb && true)) (tOp (rIxA KX) ta tb) (dBin pb ga gb kIx) := by
  rw [← C.hK]
  exact de_ix (ix_any C.hu1) k_ix h1 h2 hs
end
end PD
namespace PD
open PySem PySem.Spec PyProof.Rows L2
variable {K : Kf}
/-! ## owned objects are changed -/
section
variable {K : Kf} {F0 G : Hp} {π : List V} {m : M} {σ : L2.St} {F H : Hp} {fp : Ow → List Addr}
theorem StF.mutate (S : StF K F0 G π m σ F H fp) {o : Ow} {r s : SV} {p : List Pth} {w v : V} (hg : get m o = some r) (hs : PD.sub r p = some s) (hw : refO σ π o = some w) (hp : PathH H w p v) :
    ∃ g, Own K F H s v g ∧ g.Nodup ∧ (∀ a ∈ g, a ∈ fp o) ∧ ∀ (H' : Hp) (s' : SV) (g' : List Addr), Own K F H' s' v g' → g'.Nodup → (∀ a x, H a = some x → a ∉ g → H' a = some x) →
      (∀ a ∈ g', a ∈ g ∨ (G a = none ∧ F a = none ∧ ∀ o', a ∉ fp o')) → ∃ fp', StF K F0 G π (setO m o (put r p s')) σ F H' fp' := by
  obtain ⟨w', h1, h2⟩ := S.own o r hg
  rw [hw] at h1; cases h1
  obtain ⟨u, g, pu, ou, ng, mg, re⟩ := own_put p h2 (S.nd o) hs
  obtain rfl : v = u := PathH.fun p _ _ _ hp pu
  refine ⟨g, ou, ng, mg, fun H' s' g' ho nd k f => ?_⟩
  obtain ⟨q', oq, nq, hq, _⟩ := re F H' s' g' (Same.refl F) ho nd (fun a ha na => by
    cases e : H a with
    | none => exact absurd e (S.there ha)
    | some x => exact k a x e na) (fun a ha => (f a ha).imp id fun z => z.2.2 o)
  refine ⟨_, S.change hg hw (Same.refl F) (fun a x e => k a x (S.sub a x e) fun z => by rw [(S.fr o a (mg a z)).1] at e; cases e) S.new (fun a x e n => k a x e fun z => n (mg a z)) oq nq (fun a ha => ?_) (fun a ha => ?_) (fun o' a ne ha => (S.fr o' a ha).1) S.ntF⟩
  · rcases hq a ha with z | z
    · rcases f a z with y | y
      · exact .inl (mg a y)
      · exact .inr ⟨y.1, y.2.2⟩
    · exact .inl z.1
  · rcases hq a ha with z | z
    · rcases f a z with y | y
      · exact (S.fr o a (mg a y)).1
      · exact y.2.1
    · exact (S.fr o a z.1).1
/-- as an own thing, what may be owned as it is -/
def ownE (m : M) : EV → Out SV
  | .v d => .ok (.fz d) m
  | .fr s => .ok s m
  | .br o p => (dFzE m (.br o p)).bind fun d m1 => .ok (.fz d) m1
theorem ownE_ok {m' : M} {v : V} {ev : EV} {s : SV} {N : Addr → Prop} (S : StF K F0 G π m σ F H fp) (h : EvF K G π σ F H fp N v ev) (e : ownE m ev = .ok s m') :
    ∃ F' fp' q, StF K F0 G π m' σ F' H fp' ∧ Own K F' H s v q ∧ q.Nodup ∧ (∀ a ∈ q, F' a = none ∧ G a = none ∧ ∀ o, a ∉ fp' o) ∧ Same F F' := by
  cases ev with
  | v d => cases e; exact ⟨F, fp, [], S, ⟨h, rfl⟩, List.nodup_nil, fun a h => (by cases h), Same.refl F⟩
  | fr s' =>
    cases e
    obtain ⟨q, h1, h2, h3⟩ := h
    exact ⟨F, fp, q, S, h1, h2, fun a ha => ⟨(h3 a ha).1, (h3 a ha).2.1, (h3 a ha).2.2.1⟩, Same.refl F⟩
  | br o p =>
    have e : ((dFzE m (.br o p)).bind fun d m1 => Out.ok (SV.fz d) m1) = .ok s m' := e
    cases e1 : dFzE m (.br o p) with
    | bad => rw [e1] at e; cases e
    | exc c d m1 => rw [e1] at e; cases e
    | ok d m1 =>
      rw [e1] at e
      cases e
      obtain ⟨F', fp', S', r, s'⟩ := fzE_ok S h e1
      exact ⟨F', fp', [], S', ⟨r, rfl⟩, List.nodup_nil, fun a h => (by cases h), s'⟩
theorem fzE_exc {c : Str} {d : D} {m1 : M} {ev : EV} : dFzE m ev ≠ .exc c d m1 := fun e1 => by
  cases ev with
  | v d => cases e1
  | fr s => cases e1
  | br o q =>
    unfold dFzE at e1
    cases eg : get m o with
    | none => simp [eg] at e1
    | some r =>
      cases es : sub r q with
      | none => simp [eg, es] at e1
      | some s => simp [eg, es] at e1
theorem ownE_exc {c : Str} {d : D} {m1 : M} {ev : EV} : ownE m ev ≠ .exc c d m1 := fun e1 => by
  cases ev with
  | v d => cases e1
  | fr s => cases e1
  | br o q =>
    have e1 : ((dFzE m (.br o q)).bind fun d m1 => Out.ok (SV.fz d) m1) = .exc c d m1 := e1
    cases e : dFzE m (.br o q) with
    | bad => rw [e] at e1; cases e1
    | exc c d m2 => exact fzE_exc e
    | ok d m2 => rw [e] at e1; cases e1
end
/-! ### lists that are owned -/
section
variable {K : Kf} {F H H' : Hp}
theorem ownL_cat : ∀ {xs ys : List SV} {vs ws : List V} {q r : List Addr}, OwnL K F H xs vs q → OwnL K F H ys ws r → OwnL K F H (xs ++ ys) (vs ++ ws) (q ++ r)
  | [], ys, vs, ws, q, r, h, h2 => by
    obtain ⟨h, h'⟩ := h
    subst h h'
    exact h2
  | x :: xs, ys, vs, ws, q, r, ⟨v, s, q1, q2, hv, h1, h3, hq⟩, h2 => by
    subst hv hq
    exact ⟨v, s ++ ws, q1, q2 ++ r, rfl, h1, ownL_cat h3 h2, by rw [List.append_assoc]⟩
theorem ownL_one {x : SV} {v : V} {q : List Addr} (h : Own K F H x v q) : OwnL K F H [x] [v] q := ⟨v, [], q, [], rfl, h, ⟨rfl, rfl⟩, by simp⟩
theorem ownL_erase : ∀ {xs : List SV} {vs : List V} {q : List Addr}, OwnL K F H xs vs q → ∀ {j : Nat} {d : D}, xs[j]? = some (.fz d) → ∃ v, vs[j]? = some v ∧ Rep K F d v ∧ OwnL K F H (xs.eraseIdx j) (vs.eraseIdx j) q
  | [], vs, q, h, j, d, e => by simp at e
  | x :: xs, vs, q, ⟨v, r, q1, q2, hv, h1, h2, hq⟩, 0, d, e => by
    subst hv hq
    simp at e; subst e
    refine ⟨v, rfl, h1.1, ?_⟩
    rw [h1.2]
    exact h2
  | x :: xs, vs, q, ⟨v, r, q1, q2, hv, h1, h2, hq⟩, j + 1, d, e => by
    subst hv hq
    obtain ⟨u, e1, e2, e3⟩ := ownL_erase h2 (j := j) (d := d) (by simpa using e)
    exact ⟨u, by simpa using e1, e2, v, r.eraseIdx j, q1, q2, rfl, h1, e3, rfl⟩
theorem nodup_swap {a b c : List Addr} (h : (a ++ (b ++ c)).Nodup) : (a ++ c).Nodup ∧ (b ++ c).Nodup ∧ ∀ x ∈ a, x ∉ b ∧ x ∉ c := by
  obtain ⟨h1, h2, h3⟩ := nodup_app h
  obtain ⟨h4, h5, h6⟩ := nodup_app h2
  exact ⟨nodup_mk h1 h5 fun x hx z => h3 x hx (List.mem_append_right _ z), h2, fun x hx => ⟨fun z => h3 x hx (List.mem_append_left _ z), fun z => h3 x hx (List.mem_append_right _ z)⟩⟩
theorem ownL_setx : ∀ {xs : List SV} {vs : List V} {q q2 : List Addr} {x : SV} {y : V}, OwnL K F H xs vs q → Own K F H x y q2 → (q ++ q2).Nodup → ∀ (j : Nat), j < xs.length → ∃ q', OwnL K F H (xs.set j x) (vs.set j y) q' ∧ q'.Nodup ∧ ∀ a ∈ q', a ∈ q ++ q2
  | [], vs, q, q2, x, y, h, ho, nd, j, hj => by simp at hj
  | x0 :: xs, vs, q, q2, x, y, ⟨v, r, q1, q3, hv, h1, h2, hq⟩, ho, nd, 0, hj => by
    subst hv hq
    rw [List.append_assoc] at nd
    obtain ⟨n1, n2, n3⟩ := nodup_swap nd
    obtain ⟨n4, n5, n6⟩ := nodup_app n2
    refine ⟨q2 ++ q3, ⟨y, r, q2, q3, rfl, ho, h2, rfl⟩, nodup_mk n5 n4 fun a ha hb => n6 a hb ha, fun a ha => ?_⟩
    rcases List.mem_append.mp ha with z | z
    · exact List.mem_append_right _ z
    · exact List.mem_append_left _ (List.mem_append_right _ z)
  | x0 :: xs, vs, q, q2, x, y, ⟨v, r, q1, q3, hv, h1, h2, hq⟩, ho, nd, j + 1, hj => by
    subst hv hq
    rw [List.append_assoc] at nd
    obtain ⟨n1, n2, n3⟩ := nodup_swap nd
    obtain ⟨n0, _, _⟩ := nodup_app nd
    obtain ⟨q', o', nd', h'⟩ := ownL_setx h2 ho n2 j (by simpa using hj)
    refine ⟨q1 ++ q', ⟨v, r.set j y, q1, q', rfl, h1, o', rfl⟩, nodup_mk n0 nd' fun a ha hb => ?_, fun a ha => ?_⟩
    · rcases List.mem_append.mp (h' a hb) with z | z
      · exact (n3 a ha).1 z
      · exact (n3 a ha).2 z
    · rw [List.append_assoc]
      rcases List.mem_append.mp ha with z | z
      · exact List.mem_append_left _ z
      · exact List.mem_append_right _ (h' a z)
def putG {κ β : Type} [DecidableEq κ] (kvs : List (κ × β)) (k : κ) (x : β) : List (κ × β) :=
  if (kvs.any fun kv => decide (kv.1 = k)) = true then kvs.map (fun kv => if kv.1 = k then (kv.1, x) else kv) else kvs ++ [(k, x)]
theorem ownK_len : ∀ {xs : List (Key × SV)} {vs : List (Key × V)} {q : List Addr}, OwnK K F H xs vs q → vs.length = xs.length
  | [], vs, q, h => by have := h.1; subst this; rfl
  | (k, x) :: xs, vs, q, ⟨v, r, q1, q2, h, _, h2, _⟩ => by subst h; simp [ownK_len h2]
theorem ownK_any (k : Key) : ∀ {xs : List (Key × SV)} {vs : List (Key × V)} {q : List Addr}, OwnK K F H xs vs q → (vs.any fun kv => decide (kv.1 = k)) = (xs.any fun kv => decide (kv.1 = k))
  | [], vs, q, h => by have := h.1; subst this; rfl
  | (k', x) :: xs, vs, q, ⟨v, r, q1, q2, h, _, h2, _⟩ => by subst h; simp only [List.any_cons, ownK_any k h2]
theorem ownK_map {k : Key} {d : D} {v : V} (hr : Rep K F d v) : ∀ {xs : List (Key × SV)} {vs : List (Key × V)} {q : List Addr}, OwnK K F H xs vs q → ∃ q', OwnK K F H (xs.map fun kv => if kv.1 = k then (kv.1, .fz d) else kv) (vs.map fun kv => if kv.1 = k then (kv.1, v) else kv) q' ∧ q'.Sublist q
  | [], vs, q, h => by
    obtain ⟨h1, h2⟩ := h
    subst h1 h2
    exact ⟨[], ⟨rfl, rfl⟩, List.Sublist.refl _⟩
  | (k', x) :: xs, vs, q, ⟨u, r, q1, q2, h, h1, h2, hq⟩ => by
    subst h hq
    obtain ⟨q', h3, h4⟩ := ownK_map hr h2
    by_cases z : k' = k
    · refine ⟨q', ?_, h4.trans (List.sublist_append_right _ _)⟩
      rw [List.map_cons, List.map_cons, if_pos z, if_pos z]
      exact ⟨v, _, [], q', rfl, ⟨hr, rfl⟩, h3, rfl⟩
    · refine ⟨q1 ++ q', ?_, (List.Sublist.refl q1).append h4⟩
      rw [List.map_cons, List.map_cons, if_neg z, if_neg z]
      exact ⟨u, _, q1, q', rfl, h1, h3, rfl⟩
theorem ownK_app : ∀ {xs ys : List (Key × SV)} {vs ws : List (Key × V)} {q r : List Addr}, OwnK K F H xs vs q → OwnK K F H ys ws r → OwnK K F H (xs ++ ys) (vs ++ ws) (q ++ r)
  | [], ys, vs, ws, q, r, h, h2 => by
    obtain ⟨h, h'⟩ := h
    subst h h'
    exact h2
  | (k, x) :: xs, ys, vs, ws, q, r, ⟨v, s, q1, q2, hv, h1, h3, hq⟩, h2 => by
    subst hv hq
    exact ⟨v, s ++ ws, q1, q2 ++ r, rfl, h1, ownK_app h3 h2, by rw [List.append_assoc]⟩
theorem ownK_one {k : Key} {x : SV} {v : V} {q : List Addr} (h : Own K F H x v q) : OwnK K F H [(k, x)] [(k, v)] q := ⟨v, [], q, [], rfl, h, ⟨rfl, rfl⟩, by simp⟩
theorem ownK_put {k : Key} {x : SV} {v : V} {q q2 : List Addr} {xs : List (Key × SV)} {vs : List (Key × V)} (h : OwnK K F H xs vs q) (hx : Own K F H x v q2) (nd : (q ++ q2).Nodup) (hz : (∃ d, x = .fz d) ∨ (xs.any fun kv => decide (kv.1 = k)) = false) :
    ∃ q', OwnK K F H (putG xs k x) (putK vs k v) q' ∧ q'.Nodup ∧ ∀ a ∈ q', a ∈ q ++ q2 := by
  unfold putG putK
  rw [ownK_any k h]
  by_cases z : (xs.any fun kv => decide (kv.1 = k)) = true
  · rw [if_pos z, if_pos z]
    rcases hz with ⟨d, rfl⟩ | hz
    · obtain ⟨q', h1, h2⟩ := ownK_map (k := k) hx.1 h
      exact ⟨q', h1, h2.nodup (nodup_app nd).1, fun a ha => List.mem_append_left _ (h2.subset ha)⟩
    · rw [hz] at z; cases z
  · rw [if_neg z, if_neg z]
    exact ⟨q ++ q2, ownK_app h (ownK_one hx), nd, fun a ha => ha⟩
theorem ownT_len : ∀ {xs : List (List Key × SV)} {vs : List (List Key × V)} {q : List Addr}, OwnT K F H xs vs q → vs.length = xs.length
  | [], vs, q, h => by have := h.1; subst this; rfl
  | (k, x) :: xs, vs, q, ⟨v, r, q1, q2, h, _, h2, _⟩ => by subst h; simp [ownT_len h2]
theorem ownT_any (k : List Key) : ∀ {xs : List (List Key × SV)} {vs : List (List Key × V)} {q : List Addr}, OwnT K F H xs vs q → (vs.any fun kv => decide (kv.1 = k)) = (xs.any fun kv => decide (kv.1 = k))
  | [], vs, q, h => by have := h.1; subst this; rfl
  | (k', x) :: xs, vs, q, ⟨v, r, q1, q2, h, _, h2, _⟩ => by subst h; simp only [List.any_cons, ownT_any k h2]
theorem ownT_map {k : List Key} {d : D} {v : V} (hr : Rep K F d v) : ∀ {xs : List (List Key × SV)} {vs : List (List Key × V)} {q : List Addr}, OwnT K F H xs vs q → ∃ q', OwnT K F H (xs.map fun kv => if kv.1 = k then (kv.1, .fz d) else kv) (vs.map fun kv => if kv.1 = k then (kv.1, v) else kv) q' ∧ q'.Sublist q
  | [], vs, q, h => by
    obtain ⟨h1, h2⟩ := h
    subst h1 h2
    exact ⟨[], ⟨rfl, rfl⟩, List.Sublist.refl _⟩
  | (k', x) :: xs, vs, q, ⟨u, r, q1, q2, h, h1, h2, hq⟩ => by
    subst h hq
    obtain ⟨q', h3, h4⟩ := ownT_map hr h2
    by_cases z : k' = k
    · refine ⟨q', ?_, h4.trans (List.sublist_append_right _ _)⟩
      rw [List.map_cons, List.map_cons, if_pos z, if_pos z]
      exact ⟨v, _, [], q', rfl, ⟨hr, rfl⟩, h3, rfl⟩
    · refine ⟨q1 ++ q', ?_, (List.Sublist.refl q1).append h4⟩
      rw [List.map_cons, List.map_cons, if_neg z, if_neg z]
      exact ⟨u, _, q1, q', rfl, h1, h3, rfl⟩
theorem ownT_app : ∀ {xs ys : List (List Key × SV)} {vs ws : List (List Key × V)} {q r : List Addr}, OwnT K F H xs vs q → OwnT K F H ys ws r → OwnT K F H (xs ++ ys) (vs ++ ws) (q ++ r)
  | [], ys, vs, ws, q, r, h, h2 => by
    obtain ⟨h, h'⟩ := h
    subst h h'
    exact h2
  | (k, x) :: xs, ys, vs, ws, q, r, ⟨v, s, q1, q2, hv, h1, h3, hq⟩, h2 => by
    subst hv hq
    exact ⟨v, s ++ ws, q1, q2 ++ r, rfl, h1, ownT_app h3 h2, by rw [List.append_assoc]⟩
theorem ownT_one {k : List Key} {x : SV} {v : V} {q : List Addr} (h : Own K F H x v q) : OwnT K F H [(k, x)] [(k, v)] q := ⟨v, [], q, [], rfl, h, ⟨rfl, rfl⟩, by simp⟩
theorem ownT_put {k : List Key} {x : SV} {v : V} {q q2 : List Addr} {xs : List (List Key × SV)} {vs : List (List Key × V)} (h : OwnT K F H xs vs q) (hx : Own K F H x v q2) (nd : (q ++ q2).Nodup) (hz : (∃ d, x = .fz d) ∨ (xs.any fun kv => decide (kv.1 = k)) = false) :
    ∃ q', OwnT K F H (putG xs k x) (putK vs k v) q' ∧ q'.Nodup ∧ ∀ a ∈ q', a ∈ q ++ q2 := by
  unfold putG putK
  rw [ownT_any k h]
  by_cases z : (xs.any fun kv => decide (kv.1 = k)) = true
  · rw [if_pos z, if_pos z]
    rcases hz with ⟨d, rfl⟩ | hz
    · obtain ⟨q', h1, h2⟩ := ownT_map (k := k) hx.1 h
      exact ⟨q', h1, h2.nodup (nodup_app nd).1, fun a ha => List.mem_append_left _ (h2.subset ha)⟩
    · rw [hz] at z; cases z
  · rw [if_neg z, if_neg z]
    exact ⟨q ++ q2, ownT_app h (ownT_one hx), nd, fun a ha => ha⟩
end
/-! ## methods that change their object -/
section
variable {K : Kf} {mg : Str → Option Value} {E : XS} {pa pb pc pu po : Bool} {ta to : TE} {ga go : M → Out EV}
def kMut (f : SV → List SV → Option (SV × D)) (m : M) (x : EV) (ss : List SV) : Out EV := match x with
  | .br o p => match get m o with
    | some r => match sub r p with
      | some s => match f s ss with
        | some (s', d) => .ok (.v d) (setO m o (put r p s'))
        | none => .bad
      | none => .bad
    | none => .bad
  | _ => .bad
def MutOk (K : Kf) (r : V → List V → Hp → VK → Prop) (f : SV → List SV → Option (SV × D)) : Prop :=
  ∀ F H v s g ss ys q s' d (Q : VK), Same F H → Own K F H s v g → (g ++ q).Nodup → (∀ a ∈ g ++ q, F a = none) → OwnL K F H ss ys q → f s ss = some (s', d) →
    (∀ y H' g', Own K F H' s' v g' → g'.Nodup → (∀ a x, H a = some x → a ∉ g → H' a = some x) → (∀ a ∈ g', a ∈ g ++ q) → Rep K F d y → Q y H') → r v ys H Q
theorem k_mut {r : V → List V → Hp → VK → Prop} {f : SV → List SV → Option (SV × D)} (hf : MutOk K r f) {F0 G : Hp} {π : List V} {m m0 : M} {σ : L2.St} {F F1 H : Hp} {fp fp1 : Ow → List Addr} {Q : VK} {x : EV} {v : V} {ss : List SV} {ys : List V} {q : List Addr} {N : Addr → Prop}
    (S : StF K F0 G π m σ F H fp) (hx : EvF K G π σ F H fp N v x) (ho : OwnL K F H ss ys q) (nd : q.Nodup) (fr : ∀ a ∈ q, F a = none ∧ G a = none ∧ ∀ o, a ∉ fp o) (s1 : Same F1 F) {H1 : Hp} (p : PostE K mg E false F0 G π m0 σ F1 H1 fp1 Q (kMut f m x ss)) : r v ys H Q := by
  unfold kMut at p
  cases x with
  | v d => exact p.elim
  | fr s => exact p.elim
  | br o pt =>
    cases eg : get m o with
    | none => simp only [eg] at p; exact p.elim
    | some rr =>
      cases es : sub rr pt with
      | none => simp only [eg, es] at p; exact p.elim
      | some s =>
        cases ef : f s ss with
        | none => simp only [eg, es, ef] at p; exact p.elim
        | some z =>
          obtain ⟨s', d⟩ := z
          simp only [eg, es, ef] at p
          obtain ⟨w, hw, hp⟩ := hx
          obtain ⟨g, og, ng, mg', re⟩ := S.mutate eg es hw hp
          refine hf F H v s g ss ys q s' d Q S.sub og (nodup_mk ng nd fun a ha hb => (fr a hb).2.2 o (mg' a ha)) (fun a ha => ?_) ho ef fun y H' g' o' n' k' h' ry => ?_
          · rcases List.mem_append.mp ha with z | z
            · exact (S.fr o a (mg' a z)).1
            · exact (fr a z).1
          · obtain ⟨fp', S'⟩ := re H' s' g' o' n' k' fun a ha => by
              rcases List.mem_append.mp (h' a ha) with z | z
              · exact .inl z
              · exact .inr ⟨(fr a z).2.1, (fr a z).1, (fr a z).2.2⟩
            exact p y F H' fp' S' ⟨s1, fun z => by cases z⟩ ry
/-- the type of what a way leads to -/
def tyS (s : SV) (T : String) : Bool := match s with
  | .ol _ => T == "list"
  | .ok _ => T == "dict"
  | .ot _ => T == "dict"
  | _ => false
theorem tyS_ok {KX : Kf} {F H : Hp} {s : SV} {v : V} {T : String} (h : Cont K F H s v) (e : tyS s T = true) : tyV KX T v H := by
  cases s with
  | fz d => cases e
  | ol xs =>
    obtain ⟨q, a, vs, r, rfl, ha, _⟩ := h
    exact .inl ⟨eq_of_beq e, vs, SqL.of ha⟩
  | ok xs =>
    obtain ⟨q, a, vs, r, rfl, ha, _⟩ := h
    exact .inr (.inr (.inl ⟨eq_of_beq e, .inl ⟨vs, ha⟩⟩))
  | ot xs =>
    obtain ⟨q, a, vs, r, rfl, ha, _⟩ := h
    exact .inr (.inr (.inl ⟨eq_of_beq e, .inr ⟨vs, ha⟩⟩))
def isTy (m : M) (x : EV) (T : String) : Bool := match view m x with
  | some s => tyS s T
  | none => false
theorem carryE {G : Hp} {π : List V} {m m' : M} {σ : L2.St} {F H F' H' : Hp} {fp fp' : Ow → List Addr} {N N' : Addr → Prop} {v : V} {ev : EV} (h : EvF K G π σ F H fp N v ev) (n : nofr ev = true) (c : Ch pb m m' F H F' H' fp fp') (s : stable pb ev = true) : EvF K G π σ F' H' fp' N' v ev := h.carry n c s
/-- o.m(a, ..), the arguments frozen -/
def dMt (T : String) (pb : Bool) (go : M → Out EV) (gs : M → Out (List EV)) (f : SV → List SV → Option (SV × D)) (m : M) : Out EV :=
  (go m).bind fun x m1 => if (isTy m1 x T && (nofr x && stable pb x)) = true then (gs m1).bind fun es m2 => (evD m2 es).bind fun ds m3 => kMut f m3 x (ds.map .fz) else .bad
theorem te_mt {KX : Kf} {T : String} {r : V → List V → Hp → VK → Prop} {f : SV → List SV → Option (SV × D)} {ts : TA} {gs : M → Out (List EV)} (hf : MutOk K r f) (h1 : TEok K mg E po to go) (h2 : TAok K mg E pb ts gs) : TEok K mg E false (tBM KX T r to ts) (dMt T pb go gs f) := fun F0 G π m σ F H fp Q S p => by
  refine h1 F0 G π m σ F H fp _ S ?_
  unfold dMt at p
  cases e : go m with
  | bad => rw [e] at p; exact p
  | exc c d m' => rw [e] at p; exact p
  | ok x m1 =>
    rw [e] at p
    intro v F1 H1 fp1 S1 c1 e1
    have p : PostE K mg E false F0 G π m σ F H fp Q (if (isTy m1 x T && (nofr x && stable pb x)) = true then (gs m1).bind fun es m2 => (evD m2 es).bind fun ds m3 => kMut f m3 x (ds.map .fz) else .bad) := p
    by_cases hc : (isTy m1 x T && (nofr x && stable pb x)) = true
    · rw [if_pos hc] at p
      rw [Bool.and_eq_true, Bool.and_eq_true] at hc
      obtain ⟨c2, c3, c4⟩ := hc
      refine ⟨?_, h2 F0 G π m1 σ F1 H1 fp1 _ S1 ?_⟩
      · unfold isTy at c2
        cases ev : view m1 x with
        | none => rw [ev] at c2; cases c2
        | some s => rw [ev] at c2; exact tyS_ok (S1.view e1 ev) c2
      · cases e2 : gs m1 with
        | bad => rw [e2] at p; exact p
        | exc c d m' => rw [e2] at p; exact p
        | ok es m2 =>
          rw [e2] at p
          intro vs F2 H2 fp2 S2 cc e3
          have p : PostE K mg E false F0 G π m σ F H fp Q ((evD m2 es).bind fun ds m3 => kMut f m3 x (ds.map .fz)) := p
          cases e4 : evD m2 es with
          | bad => rw [e4] at p; exact p.elim
          | exc c d m' => exact (evD_exc es m2 m' e4).elim
          | ok ds m3 =>
            rw [e4] at p
            obtain ⟨F3, fp3, S3, r3, s3⟩ := evD_ok es vs m2 m3 F2 fp2 ds S2 e3 e4
            have hx : EvF K G π σ F3 H2 fp3 (fun _ => False) v x := by
              have z := e1.carry (N' := fun _ => False) c3 cc c4
              cases x with
              | v d => exact Rep.mono s3 d v z
              | fr s => cases c3
              | br o q => exact z
            exact k_mut hf S3 hx (ownL_fz r3) List.nodup_nil (fun a h => by cases h) (c1.ext.trans (cc.ext.trans s3)) p
    · rw [if_neg hc] at p; exact p.elim
/-- o.m(a), a as it is -/
def dMt1 (T : String) (pb : Bool) (go ga : M → Out EV) (f : SV → List SV → Option (SV × D)) (m : M) : Out EV :=
  (go m).bind fun x m1 => if (isTy m1 x T && (nofr x && stable pb x)) = true then (ga m1).bind fun ev m2 => (ownE m2 ev).bind fun s m3 => kMut f m3 x [s] else .bad
theorem te_mt1 {KX : Kf} {T : String} {r : V → List V → Hp → VK → Prop} {f : SV → List SV → Option (SV × D)} (hf : MutOk K r f) (h1 : TEok K mg E po to go) (h2 : TEok K mg E pb ta ga) : TEok K mg E false (tBM KX T r to (tCons ta tNil)) (dMt1 T pb go ga f) := fun F0 G π m σ F H fp Q S p => by
  refine h1 F0 G π m σ F H fp _ S ?_
  unfold dMt1 at p
  cases e : go m with
  | bad => rw [e] at p; exact p
  | exc c d m' => rw [e] at p; exact p
  | ok x m1 =>
    rw [e] at p
    intro v F1 H1 fp1 S1 c1 e1
    have p : PostE K mg E false F0 G π m σ F H fp Q (if (isTy m1 x T && (nofr x && stable pb x)) = true then (ga m1).bind fun ev m2 => (ownE m2 ev).bind fun s m3 => kMut f m3 x [s] else .bad) := p
    by_cases hc : (isTy m1 x T && (nofr x && stable pb x)) = true
    · rw [if_pos hc] at p
      rw [Bool.and_eq_true, Bool.and_eq_true] at hc
      obtain ⟨c2, c3, c4⟩ := hc
      refine ⟨?_, h2 F0 G π m1 σ F1 H1 fp1 _ S1 ?_⟩
      · unfold isTy at c2
        cases ev : view m1 x with
        | none => rw [ev] at c2; cases c2
        | some s => rw [ev] at c2; exact tyS_ok (S1.view e1 ev) c2
      · cases e2 : ga m1 with
        | bad => rw [e2] at p; exact p
        | exc c d m' => rw [e2] at p; exact p
        | ok ev m2 =>
          rw [e2] at p
          intro y F2 H2 fp2 S2 cc e3
          have p : PostE K mg E false F0 G π m σ F H fp Q ((ownE m2 ev).bind fun s m3 => kMut f m3 x [s]) := p
          cases e4 : ownE m2 ev with
          | bad => rw [e4] at p; exact p.elim
          | exc c d m' => exact (ownE_exc e4).elim
          | ok s m3 =>
            rw [e4] at p
            obtain ⟨F3, fp3, q3, S3, o3, n3, f3, s3⟩ := ownE_ok S2 e3 e4
            have hx : EvF K G π σ F3 H2 fp3 (fun _ => False) v x := by
              have z := e1.carry (N' := fun _ => False) c3 cc c4
              cases x with
              | v d => exact Rep.mono s3 d v z
              | fr s => cases c3
              | br o q => exact z
            exact k_mut hf S3 hx (ownL_one o3) n3 f3 (c1.ext.trans (cc.ext.trans s3)) p
    · rw [if_neg hc] at p; exact p.elim
/-! ### append, pop -/
theorem upd_keep {H : Hp} {a : Addr} {o : HO} {g : List Addr} (h : a ∈ g) : ∀ b x, H b = some x → b ∉ g → upd H a o b = some x := fun b x e n => by
  rw [upd_ne fun z => n (by rw [z]; exact h)]; exact e
def fAppend (s : SV) (ss : List SV) : Option (SV × D) := match s, ss with
  | .ol xs, [x] => if xs.length < bigLen then some (.ol (xs ++ [x]), .non) else none
  | _, _ => none
theorem ok_append : MutOk K rAppend fAppend := fun F H v s g ss ys q s' d Q e hs nd fr ho z k => by
  unfold fAppend at z
  split at z
  · rename_i xs x
    split at z
    · rename_i hl
      cases z
      obtain ⟨a, vs, r, rfl, ha, hr, rfl⟩ := hs
      obtain ⟨y, t, q1, q2, rfl, h1, ⟨rfl, rfl⟩, rfl⟩ := ho
      rw [List.append_nil] at *
      have na : a ∉ r ++ q1 := by
        have := nd
        rw [List.cons_append, List.nodup_cons] at this
        exact this.1
      have hk : ∀ b ∈ r ++ q1, upd H a (.lst (vs ++ [y])) b = H b := fun b hb => upd_ne fun z => na (by rw [← z]; exact hb)
      refine ⟨a, vs, y, rfl, rfl, ha, by rw [ownL_len hr]; exact Nat.lt_of_lt_of_le hl (big_le (Nat.le_refl _)), k .non _ (a :: (r ++ q1)) ⟨a, vs ++ [y], r ++ q1, rfl, upd_same, ?_, rfl⟩ nd (upd_keep List.mem_cons_self) (fun b hb => hb) rfl⟩
      exact (ownL_cat hr (ownL_one h1)).keep (Same.refl F) _ _ _ hk
    · cases z
  · cases z
def fPopAt (s : SV) (ss : List SV) : Option (SV × D) := match s, ss with
  | .ol xs, [.fz (.int i)] => if -(2 ^ 62) ≤ i ∧ i < 2 ^ 62 then (match seqIndex? i xs.length with
    | some k => match xs[k]? with
      | some (.fz d) => some (.ol (xs.eraseIdx k), d)
      | _ => none
    | none => none) else none
  | _, _ => none
theorem ok_popAt : MutOk K rPopAt fPopAt := fun F H v s g ss ys q s' d Q e hs nd fr ho z k => by
  unfold fPopAt at z
  split at z
  · rename_i xs i
    split at z
    · rename_i hi
      split at z
      · rename_i j ej
        split at z
        · rename_i d' ed
          cases z
          obtain ⟨a, vs, r, rfl, ha, hr, rfl⟩ := hs
          obtain ⟨y, t, q1, q2, rfl, ⟨h1, rfl⟩, ⟨rfl, rfl⟩, rfl⟩ := ho
          have h1 : y = .int i := h1
          subst h1
          simp only [List.append_nil] at *
          obtain ⟨u, eu, ru, hr'⟩ := ownL_erase hr ed
          have na : a ∉ r := (List.nodup_cons.mp nd).1
          refine ⟨a, vs, i, j, u, rfl, rfl, ha, by omega, by omega, by rw [ownL_len hr]; exact ej, eu, k u _ (a :: r) ⟨a, vs.eraseIdx j, r, rfl, upd_same, ?_, rfl⟩ nd (upd_keep List.mem_cons_self) (fun b hb => hb) ru⟩
          exact hr'.keep (Same.refl F) _ _ _ fun b hb => upd_ne fun z => na (by rw [← z]; exact hb)
        · cases z
      · cases z
    · cases z
  · cases z
def fPop (s : SV) (ss : List SV) : Option (SV × D) := match s, ss with
  | .ol xs, [] => match xs[xs.length - 1]? with
    | some (.fz d) => some (.ol (xs.eraseIdx (xs.length - 1)), d)
    | _ => none
  | _, _ => none
theorem ok_pop : MutOk K rPop fPop := fun F H v s g ss ys q s' d Q e hs nd fr ho z k => by
  unfold fPop at z
  split at z
  · rename_i xs
    split at z
    · rename_i d' ed
      cases z
      obtain ⟨a, vs, r, rfl, ha, hr, rfl⟩ := hs
      obtain ⟨rfl, rfl⟩ := ho
      simp only [List.append_nil] at *
      obtain ⟨u, eu, ru, hr'⟩ := ownL_erase hr ed
      have na : a ∉ r := (List.nodup_cons.mp nd).1
      have hl : vs.length - 1 + 1 = vs.length := by
        have : 0 < xs.length := by
          rcases Nat.eq_zero_or_pos xs.length with z | z
          · have : xs = [] := List.length_eq_zero_iff.mp z
            subst this
            simp at ed
          · exact z
        rw [ownL_len hr]; omega
      refine ⟨a, vs, u, rfl, rfl, ha, by rw [ownL_len hr]; exact eu, k u _ (a :: r) ⟨a, vs.dropLast, r, rfl, upd_same, ?_, rfl⟩ nd (upd_keep List.mem_cons_self) (fun b hb => hb) ru⟩
      rw [← List.eraseIdx_eq_dropLast hl, ownL_len hr]
      exact hr'.keep (Same.refl F) _ _ _ fun b hb => upd_ne fun z => na (by rw [← z]; exact hb)
    · cases z
  · cases z
/-! ### stores -/
def keyEq (k : Key ⊕ List Key) : Pth := match k with
  | .inl k => .k k
  | .inr k => .t k
def isFz : SV → Bool
  | .fz _ => true
  | _ => false
def fSet (s : SV) (ss : List SV) : Option (SV × D) := match s, ss with
  | .ol xs, [.fz (.int i), x] => (ixN xs.length i).map fun j => (.ol (xs.set j x), .non)
  | .ok kvs, [k, x] => match keyOf k with
    | some (.inl k) => if kvs.length < bigLen ∧ (isFz x = true ∨ (kvs.any fun kv => decide (kv.1 = k)) = false) then some (.ok (putG kvs k x), .non) else none
    | _ => none
  | .ot kvs, [k, x] => match keyOf k with
    | some (.inr k) => if kvs.length < bigLen ∧ (isFz x = true ∨ (kvs.any fun kv => decide (kv.1 = k)) = false) then some (.ot (putG kvs k x), .non) else none
    | _ => none
  | _, _ => none
def rSetAny : V → List V → Hp → VK → Prop := fun o ys H Q => ∃ i v, ys = [i, v] ∧ (rSetL o i v H (fun H' => Q .non H') ∨ rSetD o i v H (fun H' => Q .non H'))
theorem fzOr {x : SV} {b : Bool} (h : isFz x = true ∨ b = false) : (∃ d, x = .fz d) ∨ b = false := by
  rcases h with h | h
  · cases x with
    | fz d => exact .inl ⟨d, rfl⟩
    | _ => cases h
  · exact .inr h
theorem ok_set : MutOk K rSetAny fSet := fun F H v s g ss ys q s' d Q e hs nd fr ho z k => by
  unfold fSet at z
  split at z
  · rename_i xs i x
    rw [Option.map_eq_some_iff] at z
    obtain ⟨j, ej, z⟩ := z
    cases z
    obtain ⟨a, vs, r, rfl, ha, hr, rfl⟩ := hs
    obtain ⟨y, t, q1, q2, rfl, ⟨h1, rfl⟩, ⟨u, t2, q3, q4, rfl, h2, ⟨rfl, rfl⟩, rfl⟩, rfl⟩ := ho
    have h1 : y = .int i := h1
    subst h1
    simp only [List.append_nil, List.nil_append] at *
    have na : a ∉ r ++ q3 := by
      have := nd
      rw [List.cons_append, List.nodup_cons] at this
      exact this.1
    have nd2 : (r ++ q3).Nodup := by
      have := nd
      rw [List.cons_append, List.nodup_cons] at this
      exact this.2
    have hj : j < xs.length := (ixN_seq ej).2.1
    have hk : ∀ b ∈ r ++ q3, upd H a (.lst (vs.set j u)) b = H b := fun b hb => upd_ne fun z => na (by rw [← z]; exact hb)
    obtain ⟨q', o', n', m'⟩ := ownL_setx hr h2 nd2 j hj
    refine ⟨.int i, u, rfl, .inl ⟨a, vs, i, j, rfl, rfl, ha, by rw [ownL_len hr]; exact ej, k .non _ (a :: q') ⟨a, _, q', rfl, upd_same, o'.keep (Same.refl F) _ _ _ (fun b hb => hk b (m' b hb)), rfl⟩ (List.nodup_cons.mpr ⟨fun z => na (m' a z), n'⟩) (upd_keep List.mem_cons_self) (fun b hb => ?_) rfl⟩⟩
    rcases List.mem_cons.mp hb with rfl | hb
    · exact List.mem_cons_self
    · exact List.mem_cons_of_mem _ (m' b hb)
  · rename_i kvs kk x
    split at z
    · rename_i key ek
      split at z
      · rename_i hl
        cases z
        obtain ⟨a, vs, r, rfl, ha, hr, rfl⟩ := hs
        obtain ⟨y, t, q1, q2, rfl, h1, ⟨u, t2, q3, q4, rfl, h2, ⟨rfl, rfl⟩, rfl⟩, rfl⟩ := ho
        have hq1 : q1 = [] := by
          cases kk with
          | fz d => exact h1.2
          | _ => cases ek
        subst hq1
        rcases key_cases e ⟨[], h1⟩ ek with ⟨j, hj, rfl⟩ | ⟨j, b, hj, rfl, hb⟩
        · cases hj
          simp only [List.append_nil, List.nil_append] at *
          have na : a ∉ r ++ q3 := by
            have := nd
            rw [List.cons_append, List.nodup_cons] at this
            exact this.1
          have nd2 : (r ++ q3).Nodup := by
            have := nd
            rw [List.cons_append, List.nodup_cons] at this
            exact this.2
          obtain ⟨q', o', n', m'⟩ := ownK_put (k := key) hr h2 nd2 (fzOr hl.2)
          have hk : ∀ b ∈ r ++ q3, upd H a (.dK (putK vs key u)) b = H b := fun b hb => upd_ne fun z => na (by rw [← z]; exact hb)
          refine ⟨kV key, u, rfl, .inr ⟨a, _, rfl, .inl ⟨vs, key, ha, rfl, by rw [ownK_len hr]; exact Nat.lt_of_lt_of_le hl.1 (big_le (Nat.le_refl _)), rfl⟩, k .non _ (a :: q') ⟨a, _, q', rfl, upd_same, o'.keep (Same.refl F) _ _ _ (fun b hb => hk b (m' b hb)), rfl⟩ (List.nodup_cons.mpr ⟨fun z => na (m' a z), n'⟩) (upd_keep List.mem_cons_self) (fun b hb => ?_) rfl⟩⟩
          rcases List.mem_cons.mp hb with rfl | hb
          · exact List.mem_cons_self
          · exact List.mem_cons_of_mem _ (m' b hb)
        · cases hj
      · cases z
    · cases z
  · rename_i kvs kk x
    split at z
    · rename_i key ek
      split at z
      · rename_i hl
        cases z
        obtain ⟨a, vs, r, rfl, ha, hr, rfl⟩ := hs
        obtain ⟨y, t, q1, q2, rfl, h1, ⟨u, t2, q3, q4, rfl, h2, ⟨rfl, rfl⟩, rfl⟩, rfl⟩ := ho
        have hq1 : q1 = [] := by
          cases kk with
          | fz d => exact h1.2
          | _ => cases ek
        subst hq1
        rcases key_cases e ⟨[], h1⟩ ek with ⟨j, hj, rfl⟩ | ⟨j, b, hj, rfl, hb⟩
        · cases hj
        · cases hj
          simp only [List.append_nil, List.nil_append] at *
          have na : a ∉ r ++ q3 := by
            have := nd
            rw [List.cons_append, List.nodup_cons] at this
            exact this.1
          have nd2 : (r ++ q3).Nodup := by
            have := nd
            rw [List.cons_append, List.nodup_cons] at this
            exact this.2
          obtain ⟨q', o', n', m'⟩ := ownT_put (k := key) hr h2 nd2 (fzOr hl.2)
          have hk : ∀ b ∈ r ++ q3, upd H a (.dT (putK vs key u)) b = H b := fun b hb => upd_ne fun z => na (by rw [← z]; exact hb)
          refine ⟨.ref b, u, rfl, .inr ⟨a, _, rfl, .inr ⟨vs, key, b, ha, rfl, hb, by rw [ownT_len hr]; exact Nat.lt_of_lt_of_le hl.1 (big_le (Nat.le_refl _)), rfl⟩, k .non _ (a :: q') ⟨a, _, q', rfl, upd_same, o'.keep (Same.refl F) _ _ _ (fun b hb => hk b (m' b hb)), rfl⟩ (List.nodup_cons.mpr ⟨fun z => na (m' a z), n'⟩) (upd_keep List.mem_cons_self) (fun b hb => ?_) rfl⟩⟩
          rcases List.mem_cons.mp hb with rfl | hb
          · exact List.mem_cons_self
          · exact List.mem_cons_of_mem _ (m' b hb)
      · cases z
    · cases z
  · cases z
/-- o[i] as a target; o and i change nothing -/
def bSub (go gi : M → Out EV) (ev : EV) (m : M) : Out Unit := (ownE m ev).bind fun s m1 => (opd go m1).bind fun x _ => (opd gi m1).bind fun y _ => match view m1 y with
  | some k => (kMut fSet m1 x [k, s]).bind fun _ m2 => .ok () m2
  | none => .bad
end
end PD
namespace PD
open PySem PySem.Spec PyProof.Rows L2
variable {K : Kf}
theorem PSet.or {X : Cx} {t t' : TSet} (h : PSet X t) (h' : PSet X t') : PSet X (fun o i v H Q => t o i v H Q ∨ t' o i v H Q) := fun pins s σ H o i v ov iv u Q I r1 r2 r3 q => q.elim (h pins s σ H o i v ov iv u Q I r1 r2 r3) (h' pins s σ H o i v ov iv u Q I r1 r2 r3)
/-! ## o[i] as a target -/
def bSubA (go gi : M → Out EV) (ev : EV) (m : M) : Out Unit := (ownE m ev).bind fun s m1 => (opd go m1).bind fun x _ => (opd gi m1).bind fun y _ => match view m1 y with
  | some (.fz k) => (kMut fSet m1 x [.fz k, s]).bind fun _ m2 => .ok () m2
  | _ => .bad
section
variable {mg : Str → Option Value} {E : XS} {pa pb pc pu po : Bool} {ti to : TE} {gi go : M → Out EV}
theorem tg_sub (h1 : TEok K mg E true to go) (h2 : TEok K mg E true ti gi) : TGok K (gSub to ti fun o i v H Q => rSetL o i v H Q ∨ rSetD o i v H Q) (bSubA go gi) := fun F0 G π m σ F H fp Q v ev S he p => by
  unfold bSubA at p
  cases e0 : ownE m ev with
  | bad => rw [e0] at p; exact p.elim
  | exc c d m' => rw [e0] at p; exact p.elim
  | ok s m1 =>
    rw [e0] at p
    obtain ⟨F1, fp1, q1, S1, o1, n1, f1, s1⟩ := ownE_ok S he e0
    have p : PostG K F0 G π Q ((opd go m1).bind fun x _ => (opd gi m1).bind fun y _ => match view m1 y with
      | some (.fz k) => (kMut fSet m1 x [.fz k, s]).bind fun _ m2 => .ok () m2
      | _ => .bad) := p
    refine h1.opd F0 G π m1 σ F1 H fp1 _ S1 ?_
    cases e1 : opd go m1 with
    | bad => rw [e1] at p; exact p.elim
    | exc c d m' => rw [e1] at p; exact p.elim
    | ok ex m2 =>
      rw [e1] at p
      intro x F2 H2 fp2 S2 c2 ex2
      obtain ⟨em, efp, sH, nw⟩ := c2.pure rfl
      subst em efp
      have p : PostG K F0 G π Q ((opd gi m2).bind fun y _ => match view m2 y with
        | some (.fz k) => (kMut fSet m2 ex [.fz k, s]).bind fun _ m3 => .ok () m3
        | _ => .bad) := p
      refine h2.opd F0 G π m2 σ F2 H2 fp2 _ S2 ?_
      cases e2 : opd gi m2 with
      | bad => rw [e2] at p; exact p.elim
      | exc c d m' => rw [e2] at p; exact p.elim
      | ok ey m3 =>
        rw [e2] at p
        intro y F3 H3 fp3 S3 c3 ey3
        obtain ⟨em, efp, sH3, nw3⟩ := c3.pure rfl
        subst em efp
        have p : PostG K F0 G π Q (match view m3 ey with
          | some (.fz k) => (kMut fSet m3 ex [.fz k, s]).bind fun _ m4 => .ok () m4
          | _ => .bad) := p
        cases e3 : view m3 ey with
        | none => simp only [e3] at p; exact p.elim
        | some k0 =>
          cases k0 with
          | ol _ => simp only [e3] at p; exact p.elim
          | ok _ => simp only [e3] at p; exact p.elim
          | ot _ => simp only [e3] at p; exact p.elim
          | fz k =>
            simp only [e3] at p
            have hk : Rep K F3 k y := cont_fz (S3.view ey3 e3)
            have th : ∀ a ∈ q1, H a ≠ none := fun a ha => o1.there _ _ _ a ha
            have nF : ∀ a ∈ q1, F3 a = none := fun a ha => by
              cases e : F3 a with
              | none => rfl
              | some z =>
                rcases nw3 a (by rw [e]; exact Option.some_ne_none _) with h | h
                · rcases nw a h with h | h
                  · exact absurd (f1 a ha).1 h
                  · exact absurd h (th a ha)
                · exact absurd (same_none sH h) (th a ha)
            have o3 : Own K F3 H3 s v q1 := o1.keep (c2.ext.trans c3.ext) _ _ _ fun a ha => by rw [same_of sH3 (same_ne sH (th a ha)), same_of sH (th a ha)]
            have hx : EvF K G π σ F3 H3 fp3 (fun _ => False) x ex := ex2.carry (opd_nofr e1) c3 (by cases ex with | br o q => cases q <;> rfl | _ => rfl)
            have ho : OwnL K F3 H3 [.fz k, s] [y, v] q1 := ⟨y, [v], [], q1, rfl, ⟨hk, rfl⟩, ownL_one o3, rfl⟩
            have fr : ∀ a ∈ q1, F3 a = none ∧ G a = none ∧ ∀ o, a ∉ fp3 o := fun a ha => ⟨nF a ha, (f1 a ha).2.1, (f1 a ha).2.2⟩
            have pp : PostE K mg E false F0 G π m3 σ F3 H3 fp3 (fun _ H' => Q σ H') (kMut fSet m3 ex [.fz k, s]) := by
              cases e4 : kMut fSet m3 ex [.fz k, s] with
              | bad => rw [e4] at p; exact p.elim
              | exc c d m' => rw [e4] at p; exact p.elim
              | ok r m4 =>
                rw [e4] at p
                exact fun v F' H' fp' S' _ _ => p σ F' H' fp' S'
            have z : rSetAny x [y, v] H3 (fun _ H' => Q σ H') := k_mut ok_set S3 hx ho n1 fr (Same.refl _) pp
            obtain ⟨i', v', e, z⟩ := z
            cases e
            exact z
end
section
variable {X : Cx} {P : Program} {w : World} {KX : Kf} {mg : Str → Option Value} {base : Heap} {n : Nat} {E : XS} {pa pb pc pu pl ph : Bool} {ta tb tc te : TE} {ga gb gc ge : M → Out EV} {a b c e o i : Expr} {es : List Expr} {pos p p2 : Pos} {x : Str}
theorem dg_sub (C : Cxt X P w KX K mg base n E) (h1 : DE X K mg E o true ta ga) (h2 : DE X K mg E i true tb gb) (ha : ∀ v, assign (.Subscript o i pos) X.env v = (do
      let ov ← holding [v] (eval o X.env)
      let iv ← holding [v, ov] (eval i X.env)
      standAt pos
      holding [v, ov, iv] (setItem ov iv v)
      release [v, ov, iv] []) := by intro _; rfl) : DG X K (.Subscript o i pos) (gSub ta tb fun o i v H Q => rSetL o i v H Q ∨ rSetD o i v H Q) (bSubA ga gb) :=
  ⟨pg_sub h1.pe h2.pe (PSet.or set_list (set_dict C.hu1)) ha, tg_sub h1.ok h2.ok⟩
/-! ## builtins -/
theorem de_b (C : Cxt X P w KX K mg base n E) {id : String} {r : List V → Hp → VK → Prop} {op : List SV → Option EV} {t : TA} {gs : M → Out (List EV)} (hc : CallR X (.builtin id) r) (hk : OpOkN K r op) (hm : mg x = none) (hv : bootBuiltins x = some (.builtin id)) (ha : DA X K mg E (e :: es) pb t gs) (hg : Gl X x := by rfl) (hn : x ≠ "__name__" := by decide) (hdb : (x == ("__debug__" : Str)) = false := by decide)
    (he : starEach (e :: es) X.env = (false, eval e X.env) :: starEach es X.env := by rfl) (hpl : (backTo pos (starEach es X.env)).any (·.1) = false := by rfl) : DE X K mg E (.Call (.Name x p) (e :: es) [] pos) (pb && true) (tCB r t) (dApp gs (kVN op)) := by
  obtain ⟨rfl, rfl, rfl, up, rfl, rfl, _, _, _, _, _⟩ := C
  exact ⟨pe_callB hc hg hm hv ha.pe hn hdb he hpl, te_app ha.ok (k_vn hk)⟩
theorem de_bt (C : Cxt X P w KX K mg base n E) {T : String} {r : List V → Hp → VK → Prop} {op : List SV → Option EV} {t : TA} {gs : M → Out (List EV)} (hc : CallR X (.type T) r) (hk : OpOkN K r op) (hm : mg x = none) (hv : bootBuiltins x = some (.type T)) (ha : DA X K mg E (e :: es) pb t gs) (hg : Gl X x := by rfl) (hn : x ≠ "__name__" := by decide) (hdb : (x == ("__debug__" : Str)) = false := by decide)
    (he : starEach (e :: es) X.env = (false, eval e X.env) :: starEach es X.env := by rfl) (hpl : (backTo pos (starEach es X.env)).any (·.1) = false := by rfl) : DE X K mg E (.Call (.Name x p) (e :: es) [] pos) (pb && true) (tCB r t) (dApp gs (kVN op)) := by
  obtain ⟨rfl, rfl, rfl, up, rfl, rfl, _, _, _, _, _⟩ := C
  exact ⟨pe_callTy hc hg hm hv ha.pe hn hdb he hpl, te_app ha.ok (k_vn hk)⟩
end
theorem conts1 {K : Kf} {F H : Hp} {a : SV} {xs : List V} (h : Conts K F H [a] xs) : ∃ v, xs = [v] ∧ Cont K F H a v := by
  cases h with | cons h1 h2 => cases h2; exact ⟨_, rfl, h1⟩
theorem conts2 {K : Kf} {F H : Hp} {a b : SV} {xs : List V} (h : Conts K F H [a, b] xs) : ∃ v u, xs = [v, u] ∧ Cont K F H a v ∧ Cont K F H b u := by
  cases h with | cons h1 h2 => cases h2 with | cons h2 h3 => cases h3; exact ⟨_, _, rfl, h1, h2⟩
/-! ### len -/
def lenS : SV → Option Nat
  | .ol xs => some xs.length
  | .ok xs => some xs.length
  | .ot xs => some xs.length
  | .fz (.lst xs) => some xs.length
  | .fz (.tup xs) => some xs.length
  | .fz (.dk xs) => some xs.length
  | .fz (.dt xs) => some xs.length
  | .fz (.str z) => if z.length ≤ bigLen then some z.length else none
  | _ => none
def pLen : List SV → Option EV
  | [a] => (lenS a).map fun (n : Nat) => .v (.int (n : Int))
  | _ => none
theorem repK_len {K : Kf} {F : Hp} : ∀ {xs : List (Key × D)} {vs : List (Key × V)}, RepK K F xs vs → vs.length = xs.length
  | [], vs, h => by have h : vs = [] := h; subst h; rfl
  | (k, d) :: xs, vs, ⟨v, r, h, _, h2⟩ => by subst h; simp [repK_len h2]
theorem repT_len {K : Kf} {F : Hp} : ∀ {xs : List (List Key × D)} {vs : List (List Key × V)}, RepT K F xs vs → vs.length = xs.length
  | [], vs, h => by have h : vs = [] := h; subst h; rfl
  | (k, d) :: xs, vs, ⟨v, r, h, _, h2⟩ => by subst h; simp [repT_len h2]
def rLenA (KX : Kf) : List V → Hp → VK → Prop := fun xs H Q => (∃ x n, xs = [x] ∧ LenV KX x H n ∧ Q (.int n) H) ∨ ((∃ a kvs, xs = [V.ref a] ∧ H a = some (.dK kvs) ∧ Q (.int kvs.length) H) ∨ rLenT xs H Q)
theorem call_lenA {X : Cx} : CallR X (.builtin "len") (rLenA X.K) := callR_or call_len (callR_or call_lenD call_len_dT)
theorem ok_len {KX : Kf} : OpOkN K (rLenA KX) pLen := fun F H xs as ev Q e hx z k => by
  unfold pLen at z
  split at z
  · rename_i a
    obtain ⟨v, rfl, hv⟩ := conts1 hx
    rw [Option.map_eq_some_iff] at z
    obtain ⟨n, z, rfl⟩ := z
    have k' := k (.int (n : Int)) F H (ResOk.val0 e rfl)
    cases a with
    | ol xs =>
      cases z
      obtain ⟨q, a, vs, r, rfl, ha, hr, _⟩ := hv
      exact .inl ⟨_, xs.length, rfl, .inl ⟨vs, SqL.of ha, (ownL_len hr).symm⟩, k'⟩
    | ok xs =>
      cases z
      obtain ⟨q, a, vs, r, rfl, ha, hr, _⟩ := hv
      exact .inr (.inl ⟨a, vs, rfl, ha, by rw [ownK_len hr]; exact k'⟩)
    | ot xs =>
      cases z
      obtain ⟨q, a, vs, r, rfl, ha, hr, _⟩ := hv
      exact .inr (.inr ⟨a, vs, rfl, ha, by rw [ownT_len hr]; exact k'⟩)
    | fz d =>
      cases d with
      | lst xs =>
        cases z
        obtain ⟨a, vs, rfl, ha, hr⟩ := cont_fz hv
        exact .inl ⟨_, xs.length, rfl, .inl ⟨vs, SqL.of (e _ _ ha.at), (repAll_len hr).symm⟩, k'⟩
      | tup xs =>
        cases z
        obtain ⟨a, vs, rfl, ha, hr⟩ := cont_fz hv
        exact .inl ⟨_, xs.length, rfl, .inr ⟨vs, SqT.of (e _ _ ha.at), (repAll_len hr).symm⟩, k'⟩
      | dk xs =>
        cases z
        obtain ⟨a, vs, rfl, ha, hr⟩ := cont_fz hv
        exact .inr (.inl ⟨a, vs, rfl, e _ _ ha, by rw [repK_len hr]; exact k'⟩)
      | dt xs =>
        cases z
        obtain ⟨a, vs, rfl, ha, hr⟩ := cont_fz hv
        exact .inr (.inr ⟨a, vs, rfl, e _ _ ha, by rw [repT_len hr]; exact k'⟩)
      | str t =>
        have hv : v = .str t := cont_fz hv
        subst hv
        have z : (if t.length ≤ bigLen then some t.length else none) = some n := z
        by_cases hl : t.length ≤ bigLen
        · rw [if_pos hl] at z
          cases z
          exact .inl ⟨_, t.length, rfl, ⟨big_le hl, rfl⟩, k'⟩
        · rw [if_neg hl] at z
          cases z
      | _ => cases z
  · cases z
/-! ### list, tuple -/
def seqS (s : SV) : Option (List D) := match tupD s with
  | some xs => some xs
  | none => lstD s
def pList : List SV → Option EV
  | [a] => (seqS a).map fun ds => .fr (.ol (ds.map .fz))
  | _ => none
abbrev rListOf (KX : Kf) : List V → Hp → VK → Prop := fun xs H Q => ∃ p ys, xs = [.ref p] ∧ (SqL KX H p ys ∨ SqT KX H p ys) ∧ ∀ l, H l = none → Q (.ref l) (upd H l (.lst ys))
theorem cont_seq {F H : Hp} (e : Same F H) {s : SV} {ds : List D} {v : V} (h : Cont K F H s v) (hd : seqS s = some ds) : ∃ a vs, v = .ref a ∧ ((H a = some (.lst vs) ∧ lstD s = some ds) ∨ (H a = some (.tup vs) ∧ tupD s = some ds)) ∧ RepAll K F ds vs := by
  unfold seqS at hd
  cases e1 : tupD s with
  | some xs =>
    simp only [e1] at hd
    cases hd
    obtain ⟨a, vs, h1, h2, h3⟩ := cont_tup e h e1
    exact ⟨a, vs, h1, .inr ⟨h2.at, rfl⟩, h3⟩
  | none =>
    simp only [e1] at hd
    obtain ⟨a, vs, h1, h2, h3⟩ := cont_lst e h hd
    exact ⟨a, vs, h1, .inl ⟨h2.at, hd⟩, h3⟩
theorem ok_list {KX : Kf} : OpOkN K (rListOf KX) pList := fun F H xs as ev Q e hx z k => by
  unfold pList at z
  split at z
  · rename_i a
    obtain ⟨v, rfl, hv⟩ := conts1 hx
    rw [Option.map_eq_some_iff] at z
    obtain ⟨ds, z, rfl⟩ := z
    obtain ⟨p, vs, rfl, h, r⟩ := cont_seq e hv z
    exact ⟨p, vs, rfl, h.imp (fun h => SqL.of h.1) (fun h => SqT.of h.1), fun l hl => k _ _ _ (ResOk.lst0 e hl (ownL_fz r))⟩
  · cases z
def pTuple : List SV → Option EV
  | [a] => (seqS a).map fun ds => .v (.tup ds)
  | _ => none
abbrev rTupleOf (KX : Kf) : List V → Hp → VK → Prop := fun xs H Q => ∃ p ys, xs = [.ref p] ∧ ((SqL KX H p ys ∧ ∀ l, H l = none → Q (.ref l) (upd H l (.tup ys))) ∨ (SqT KX H p ys ∧ Q (.ref p) H))
theorem ok_tuple {KX : Kf} : OpOkN K (rTupleOf KX) pTuple := fun F H xs as ev Q e hx z k => by
  unfold pTuple at z
  split at z
  · rename_i a
    obtain ⟨v, rfl, hv⟩ := conts1 hx
    rw [Option.map_eq_some_iff] at z
    obtain ⟨ds, z, rfl⟩ := z
    obtain ⟨p, vs, rfl, h, r⟩ := cont_seq e hv z
    refine ⟨p, vs, rfl, ?_⟩
    rcases h with ⟨h, _⟩ | ⟨h, h'⟩
    · exact .inl ⟨SqL.of h, fun l hl => k _ _ _ (ResOk.tup0 e hl r)⟩
    · refine .inr ⟨SqT.of h, k _ _ _ (ResOk.val0 e ?_)⟩
      cases a with
      | fz d => cases d <;> cases h'; exact cont_fz hv
      | _ => cases h'
  · cases z
/-! ### any, all, sum, max, min, abs, int -/
def boolsD : List D → Option (List Bool)
  | [] => some []
  | .bl b :: r => (boolsD r).map (b :: ·)
  | _ => none
def intsD : List D → Option (List Int)
  | [] => some []
  | .int b :: r => (intsD r).map (b :: ·)
  | _ => none
theorem boolsD_v {K : Kf} {F : Hp} : ∀ {ds : List D} {vs : List V} {bs : List Bool}, RepAll K F ds vs → boolsD ds = some bs → vs = bs.map V.bl
  | [], vs, bs, h, e => by cases e; exact h
  | d :: ds, vs, bs, ⟨v, r, hv, h1, h2⟩, e => by
    subst hv
    cases d <;> try cases e
    rename_i b
    rw [boolsD, Option.map_eq_some_iff] at e
    obtain ⟨r', e, rfl⟩ := e
    have h1 : v = .bl b := h1
    subst h1
    rw [boolsD_v h2 e]; rfl
theorem intsD_v {K : Kf} {F : Hp} : ∀ {ds : List D} {vs : List V} {bs : List Int}, RepAll K F ds vs → intsD ds = some bs → vs = bs.map V.int
  | [], vs, bs, h, e => by cases e; exact h
  | d :: ds, vs, bs, ⟨v, r, hv, h1, h2⟩, e => by
    subst hv
    cases d <;> try cases e
    rename_i b
    rw [intsD, Option.map_eq_some_iff] at e
    obtain ⟨r', e, rfl⟩ := e
    have h1 : v = .int b := h1
    subst h1
    rw [intsD_v h2 e]; rfl
def pAny : List SV → Option EV
  | [a] => ((lstD a).bind boolsD).map fun bs => .v (.bl (bs.any id))
  | _ => none
def pAll : List SV → Option EV
  | [a] => ((lstD a).bind boolsD).map fun bs => .v (.bl (bs.all id))
  | _ => none
def pSum : List SV → Option EV
  | [a] => ((lstD a).bind intsD).map fun bs => .v (.int bs.sum)
  | _ => none
theorem ok_any {KX : Kf} : OpOkN K (rAny KX) pAny := fun F H xs as ev Q e hx z k => by
  unfold pAny at z
  split at z
  · rename_i a
    obtain ⟨v, rfl, hv⟩ := conts1 hx
    rw [Option.map_eq_some_iff] at z
    obtain ⟨bs, z, rfl⟩ := z
    rw [Option.bind_eq_some_iff] at z
    obtain ⟨ds, z, z2⟩ := z
    obtain ⟨p, vs, rfl, h, r⟩ := cont_lst e hv z
    rw [boolsD_v r z2] at h
    exact ⟨p, bs, rfl, SqL.of h.at, k _ _ _ (ResOk.val0 e rfl)⟩
  · cases z
theorem ok_all {KX : Kf} : OpOkN K (rAll KX) pAll := fun F H xs as ev Q e hx z k => by
  unfold pAll at z
  split at z
  · rename_i a
    obtain ⟨v, rfl, hv⟩ := conts1 hx
    rw [Option.map_eq_some_iff] at z
    obtain ⟨bs, z, rfl⟩ := z
    rw [Option.bind_eq_some_iff] at z
    obtain ⟨ds, z, z2⟩ := z
    obtain ⟨p, vs, rfl, h, r⟩ := cont_lst e hv z
    rw [boolsD_v r z2] at h
    exact ⟨p, bs, rfl, SqL.of h.at, k _ _ _ (ResOk.val0 e rfl)⟩
  · cases z
theorem ok_sum {KX : Kf} : OpOkN K (rSum KX) pSum := fun F H xs as ev Q e hx z k => by
  unfold pSum at z
  split at z
  · rename_i a
    obtain ⟨v, rfl, hv⟩ := conts1 hx
    rw [Option.map_eq_some_iff] at z
    obtain ⟨bs, z, rfl⟩ := z
    rw [Option.bind_eq_some_iff] at z
    obtain ⟨ds, z, z2⟩ := z
    obtain ⟨p, vs, rfl, h, r⟩ := cont_lst e hv z
    rw [intsD_v r z2] at h
    exact ⟨p, bs, rfl, SqL.of h.at, k _ _ _ (ResOk.val0 e rfl)⟩
  · cases z
def pMax2 : List SV → Option EV
  | [.fz (.int i), .fz (.int j)] => some (.v (.int (if j > i then j else i)))
  | _ => none
def pMin2 : List SV → Option EV
  | [.fz (.int i), .fz (.int j)] => some (.v (.int (if j < i then j else i)))
  | _ => none
def pAbs : List SV → Option EV
  | [.fz (.int i)] => some (.v (.int (if i < 0 then -i else i)))
  | _ => none
def pInt : List SV → Option EV
  | [.fz (.int i)] => some (.v (.int i))
  | [.fz (.bl b)] => some (.v (.int (if b then 1 else 0)))
  | _ => none
abbrev rMin2 : List V → Hp → VK → Prop := fun xs H Q => ∃ i j, xs = [.int i, .int j] ∧ Q (.int (if j < i then j else i)) H
theorem ok_max2 : OpOkN K (fun xs H Q => ∃ i j, xs = [V.int i, .int j] ∧ Q (.int (if j > i then j else i)) H) pMax2 := fun F H xs as ev Q e hx z k => by
  unfold pMax2 at z
  split at z
  · cases z
    obtain ⟨v, u, rfl, h1, h2⟩ := conts2 hx
    exact ⟨_, _, by rw [show v = _ from cont_fz h1, show u = _ from cont_fz h2], k _ _ _ (ResOk.val0 e rfl)⟩
  · cases z
theorem ok_min2 : OpOkN K rMin2 pMin2 := fun F H xs as ev Q e hx z k => by
  unfold pMin2 at z
  split at z
  · cases z
    obtain ⟨v, u, rfl, h1, h2⟩ := conts2 hx
    exact ⟨_, _, by rw [show v = _ from cont_fz h1, show u = _ from cont_fz h2], k _ _ _ (ResOk.val0 e rfl)⟩
  · cases z
theorem ok_abs : OpOkN K (fun xs H Q => ∃ i, xs = [V.int i] ∧ Q (.int (if i < 0 then -i else i)) H) pAbs := fun F H xs as ev Q e hx z k => by
  unfold pAbs at z
  split at z
  · cases z
    obtain ⟨v, rfl, h1⟩ := conts1 hx
    exact ⟨_, by rw [show v = _ from cont_fz h1], k _ _ _ (ResOk.val0 e rfl)⟩
  · cases z
theorem ok_int : OpOkN K (fun xs H Q => (∃ i, xs = [V.int i] ∧ Q (.int i) H) ∨ ∃ k, xs = [V.bl k] ∧ Q (.int (if k then 1 else 0)) H) pInt := fun F H xs as ev Q e hx z k => by
  unfold pInt at z
  split at z
  · cases z
    obtain ⟨v, rfl, h1⟩ := conts1 hx
    exact .inl ⟨_, by rw [show v = _ from cont_fz h1], k _ _ _ (ResOk.val0 e rfl)⟩
  · cases z
    obtain ⟨v, rfl, h1⟩ := conts1 hx
    exact .inr ⟨_, by rw [show v = _ from cont_fz h1], k _ _ _ (ResOk.val0 e rfl)⟩
  · cases z
/-! ### max, min of three -/
end PD
namespace PD
open PySem PySem.Spec PyProof.Rows L2
variable {K : Kf}
/-! ### max of three -/
abbrev rMax3 : List V → Hp → VK → Prop := fun xs H Q => ∃ i j k, xs = [.int i, .int j, .int k] ∧ Q (.int (max (max i j) k)) H
theorem call_max3 {X : Cx} (hc : X.calm = true) : CallR X (.builtin "max") rMax3 := by
  intro pins s σ H xs us Q I r h
  obtain ⟨i, j, k, rfl, q⟩ := h
  cases r with
  | cons r1 r =>
    cases r with
    | cons r2 r =>
      cases r with
      | cons r3 r =>
        cases r
        obtain ⟨t1, rfl⟩ := r1
        obtain ⟨t2, rfl⟩ := r2
        obtain ⟨t3, rfl⟩ := r3
        refine max_three_ints (I.ok.hd hc) fun h' tk kk => ⟨_, H, I.kept kk, ?_, q⟩
        by_cases h1 : j > i
        · rw [if_pos h1]
          by_cases h2 : k > j
          · rw [if_pos h2]; exact ⟨t3, by congr 1; omega⟩
          · rw [if_neg h2]; exact ⟨t2, by congr 1; omega⟩
        · rw [if_neg h1]
          by_cases h2 : k > i
          · rw [if_pos h2]; exact ⟨t3, by congr 1; omega⟩
          · rw [if_neg h2]; exact ⟨t1, by congr 1; omega⟩
def pMax3 : List SV → Option EV
  | [.fz (.int i), .fz (.int j), .fz (.int k)] => some (.v (.int (max (max i j) k)))
  | _ => none
theorem conts3 {F H : Hp} {a b c : SV} {xs : List V} (h : Conts K F H [a, b, c] xs) : ∃ v u w, xs = [v, u, w] ∧ Cont K F H a v ∧ Cont K F H b u ∧ Cont K F H c w := by
  cases h with | cons h1 h2 => cases h2 with | cons h2 h3 => cases h3 with | cons h3 h4 => cases h4; exact ⟨_, _, _, rfl, h1, h2, h3⟩
theorem ok_max3 : OpOkN K rMax3 pMax3 := fun F H xs as ev Q e hx z k => by
  unfold pMax3 at z
  split at z
  · cases z
    obtain ⟨v, u, w, rfl, h1, h2, h3⟩ := conts3 hx
    exact ⟨_, _, _, by rw [show v = _ from cont_fz h1, show u = _ from cont_fz h2, show w = _ from cont_fz h3], k _ _ _ (ResOk.val0 e rfl)⟩
  · cases z
/-! ### isinstance of a built-in type -/
def tyOfS : SV → Option String
  | .fz .non => some "NoneType"
  | .fz (.bl _) => some "bool"
  | .fz (.int _) => some "int"
  | .fz (.str _) => some "str"
  | .fz (.tup _) => some "tuple"
  | .fz (.lst _) => some "list"
  | .fz (.dk _) => some "dict"
  | .fz (.dt _) => some "dict"
  | .fz (.fn _) => none
  | .fz (.scr _) => none
  | .ol _ => some "list"
  | .ok _ => some "dict"
  | .ot _ => some "dict"
def tyNames : List String := ["NoneType", "bool", "int", "str", "tuple", "list", "dict"]
theorem tyOfS_in {s : SV} {n : String} (h : tyOfS s = some n) : n ∈ tyNames := by
  cases s with
  | fz d => cases d <;> cases h <;> simp [tyNames]
  | _ => cases h; simp [tyNames]
theorem tyOfS_ok {KX : Kf} {F H : Hp} (e : Same F H) {s : SV} {v : V} {n : String} (h : Cont K F H s v) (z : tyOfS s = some n) : TyX KX H v (.type n) := by
  cases s with
  | fz d =>
    cases d with
    | non => cases z; have h : v = .non := cont_fz h; subst h; exact .base .non
    | bl b => cases z; have h : v = .bl b := cont_fz h; subst h; exact .base (.bl _)
    | int b => cases z; have h : v = .int b := cont_fz h; subst h; exact .base (.int _)
    | str b => cases z; have h : v = .str b := cont_fz h; subst h; exact .base (.str _)
    | fn b => cases z
    | scr b => cases z
    | tup b => cases z; obtain ⟨a, vs, rfl, h, _⟩ := cont_fz h; exact .base (.tup (e _ _ h))
    | lst b => cases z; obtain ⟨a, vs, rfl, h, _⟩ := cont_fz h; exact .base (.lst (e _ _ h))
    | dk b => cases z; obtain ⟨a, vs, rfl, h, _⟩ := cont_fz h; exact .base (.dK (e _ _ h))
    | dt b => cases z; obtain ⟨a, vs, rfl, h, _⟩ := cont_fz h; exact .base (.dT (e _ _ h))
  | ol xs => cases z; obtain ⟨q, a, vs, r, rfl, h, _⟩ := h; exact .base (.lst h)
  | ok xs => cases z; obtain ⟨q, a, vs, r, rfl, h, _⟩ := h; exact .base (.dK h)
  | ot xs => cases z; obtain ⟨q, a, vs, r, rfl, h, _⟩ := h; exact .base (.dT h)
def isB (T n : String) : Bool := n == T || (n == "bool" && T == "int")
def KitAll (T : String) : Prop := ∀ (K : Kf) (n : String), n ∈ tyNames → PySem.W.kitOne K (.type n) (.type T) = some (isB T n)
theorem kit_of_each {T : String} (h : ∀ K : Kf, PySem.W.kitOne K (.type "NoneType") (.type T) = some (isB T "NoneType") ∧ PySem.W.kitOne K (.type "bool") (.type T) = some (isB T "bool") ∧ PySem.W.kitOne K (.type "int") (.type T) = some (isB T "int") ∧ PySem.W.kitOne K (.type "str") (.type T) = some (isB T "str") ∧
    PySem.W.kitOne K (.type "tuple") (.type T) = some (isB T "tuple") ∧ PySem.W.kitOne K (.type "list") (.type T) = some (isB T "list") ∧ PySem.W.kitOne K (.type "dict") (.type T) = some (isB T "dict")) : KitAll T := fun K n hn => by
  obtain ⟨h1, h2, h3, h4, h5, h6, h7⟩ := h K
  simp only [tyNames, List.mem_cons, List.not_mem_nil, or_false] at hn
  rcases hn with rfl | rfl | rfl | rfl | rfl | rfl | rfl <;> assumption
theorem kit_int : KitAll "int" := kit_of_each fun K => ⟨rfl, rfl, rfl, rfl, rfl, rfl, rfl⟩
theorem kit_bool : KitAll "bool" := kit_of_each fun K => ⟨rfl, rfl, rfl, rfl, rfl, rfl, rfl⟩
theorem kit_str : KitAll "str" := kit_of_each fun K => ⟨rfl, rfl, rfl, rfl, rfl, rfl, rfl⟩
theorem kit_tuple : KitAll "tuple" := kit_of_each fun K => ⟨rfl, rfl, rfl, rfl, rfl, rfl, rfl⟩
theorem kit_list : KitAll "list" := kit_of_each fun K => ⟨rfl, rfl, rfl, rfl, rfl, rfl, rfl⟩
theorem kit_dict : KitAll "dict" := kit_of_each fun K => ⟨rfl, rfl, rfl, rfl, rfl, rfl, rfl⟩
def pIsi (T : String) (s : SV) : Option EV := (tyOfS s).map fun n => .v (.bl (isB T n))
theorem ok_isi {KX : Kf} {T : String} (hT : KitAll T) : OpOk1 K (fun x H Q => rIsi KX [x, .ty T] H Q) (pIsi T) := fun F H x a ev Q e hx z k => by
  unfold pIsi at z
  rw [Option.map_eq_some_iff] at z
  obtain ⟨n, z, rfl⟩ := z
  exact ⟨x, .ty T, .type n, .type T, isB T n, rfl, .ty T, tyOfS_ok e hx z, hT _ n (tyOfS_in z), k _ F H (ResOk.val0 e rfl)⟩
section
variable {X : Cx} {P : Program} {w : World} {KX : Kf} {mg : Str → Option Value} {base : Heap} {n : Nat} {E : XS} {pa pb pc pu pl ph : Bool} {ta tb tc te : TE} {ga gb gc ge : M → Out EV} {a b c e o i : Expr} {es : List Expr} {pos p p2 p3 : Pos} {x : Str}
theorem de_isi (C : Cxt X P w KX K mg base n E) {t : Str} {T : String} (hT : KitAll T) (hm : mg "isinstance" = none) (hm2 : mg t = none) (hv2 : bootBuiltins t = some (.type T)) (h : DE X K mg E a pa ta ga) (hg : Gl X "isinstance" := by rfl) (hg2 : Gl X t := by rfl) (hv : bootBuiltins "isinstance" = some (.builtin "isinstance") := by decide +kernel) (hn : t ≠ "__name__" := by decide) (hd : (t == ("__debug__" : Str)) = false := by decide)
    (he : starEach [a, .Name t p2] X.env = (false, eval a X.env) :: starEach [.Name t p2] X.env := by rfl) (he2 : starEach [.Name t p2] X.env = (false, eval (.Name t p2) X.env) :: starEach [] X.env := by rfl) (hpl : (backTo pos (starEach [.Name t p2] X.env)).any (·.1) = false := by rfl) :
    DE X K mg E (.Call (.Name "isinstance" p) [a, .Name t p2] [] pos) (pa && true) (tCB (rIsi KX) (tCons ta (tCons (tC (.ty T)) tNil))) (dUn ga (kV1 (pIsi T))) := by
  obtain ⟨rfl, rfl, rfl, up, rfl, rfl, _, _, _, _, _⟩ := C
  refine ⟨pe_callB call_isi hg hm hv (pa_cons h.pe (pa_cons (pe_bltn hg2 hm2 hv2 rfl hn hd) pa_nil he2) he) (by decide) (by decide) he hpl, ?_⟩
  exact (te_un1 h.ok (k_v1 (ok_isi hT)) : TEok K X.mg E _ (fun σ H Q => ta σ H fun x H1 => rIsi X.K [x, .ty T] H1 Q) _)
/-! ### repr -/
abbrev rRepr (K : Kf) : List V → Hp → VK → Prop := fun xs H Q => ∃ (a : Addr) (p : PyData), xs = [.ref a] ∧ Dp K H (.ref a) p ∧ p.showable = true ∧ p.hasDict = false ∧ p.depth ≤ 100 ∧ p.shown.length ≤ sizeLine ∧ Q (.str p.shown) H
theorem call_reprD (hg : X.A.guards = some []) (hu : X.A.units + 200 < cLine) : CallR X (.builtin "repr") (rRepr X.K) := by
  intro pins s σ H xs us Q I r h
  obtain ⟨a, p, rfl, hd, h1, h2, h3, h4, q⟩ := h
  obtain ⟨u, rfl, rx⟩ := vals1 r
  obtain rfl : u = .ref a := rx
  obtain ⟨as, rd⟩ := Dp.reads I p _ _ hd rfl
  exact repr_of_reads' rd h1 (PyData.noDict_hsm h2) hg (by omega) (fun _ _ e => e) (fun h' u tk k => ⟨.str p.shown, H, I.kept k, ⟨u, rfl⟩, q⟩) h4
def refS : SV → Bool
  | .fz (.tup _) => true
  | .fz (.lst _) => true
  | .ol _ => true
  | _ => false
theorem refS_ok {F H : Hp} {s : SV} {v : V} (h : Cont K F H s v) (z : refS s = true) : ∃ a, v = .ref a := by
  cases s with
  | fz d => cases d <;> try cases z
            · obtain ⟨a, vs, h, _⟩ := cont_fz h; exact ⟨a, h⟩
            · obtain ⟨a, vs, h, _⟩ := cont_fz h; exact ⟨a, h⟩
  | ol xs => obtain ⟨q, a, vs, r, h, _⟩ := h; exact ⟨a, h⟩
  | _ => cases z
def pRepr : List SV → Option EV
  | [a] => if refS a = true then (toPyS a).bind fun p => if p.showable = true ∧ p.hasDict = false ∧ p.depth ≤ 100 ∧ p.shown.length ≤ bigLen then some (.v (.str p.shown)) else none else none
  | _ => none
theorem ok_repr {KX : Kf} (up : Up K KX) : OpOkN K (rRepr KX) pRepr := fun F H xs as ev Q e hx z k => by
  unfold pRepr at z
  split at z
  · rename_i a
    obtain ⟨v, rfl, hv⟩ := conts1 hx
    split at z
    · rename_i hr
      obtain ⟨b, rfl⟩ := refS_ok hv hr
      rw [Option.bind_eq_some_iff] at z
      obtain ⟨p, z, z2⟩ := z
      split at z2
      · rename_i hp
        cases z2
        exact ⟨b, p, rfl, dp_up up _ _ (cont_dp e hv z), hp.1, hp.2.1, hp.2.2.1, big_le hp.2.2.2, k _ F H (ResOk.val0 e rfl)⟩
      · cases z2
    · cases z
  · cases z
/-! ### sorted -/
def encD (d : D) : PyData := (toPy d).getD .none
def sortOkD (ds : List D) : Bool := ds.all (fun d => (toPy d).isSome && decide ((encD d).depth ≤ 100)) && (ds.all fun d => ds.all fun d' => PySem.W.alike (encD d) (encD d')) && decide (ds.length ≤ bigLen) &&
  ((ds.all fun d => match encD d with | .tuple (_ :: _) => true | _ => false) || (ds.all fun d => match encD d with | .tuple _ => false | .none => false | _ => true))
def sortD (ds : List D) : List D := ds.mergeSort (PySem.W.dataLe false encD)
abbrev rSortD (K : Kf) : List V → Hp → VK → Prop := fun xs H Q => ∃ (F : Hp) (a : Addr) (vs : List V) (ds : List D), xs = [.ref a] ∧ Same F H ∧ H a = some (.lst vs) ∧ RepAll K F ds vs ∧ sortOkD ds = true ∧
  ∀ p ys, H p = none → RepAll K F (sortD ds) ys → Q (.ref p) (upd H p (.lst ys))
theorem each_of {F : Hp} : ∀ {ds : List D} {vs : List V} {us : List Value}, RepAll K F ds vs → Vals vs us → PySem.W.EachIs (fun (u : Value) d => ∃ v, Rep K F d v ∧ RelV v u) us ds
  | [], vs, us, h, r => by have h : vs = [] := h; subst h; cases r; exact .nil
  | d :: ds, vs, us, ⟨v, r', e, h1, h2⟩, r => by
    subst e
    cases r with | cons r1 r2 => exact .cons ⟨v, h1, r1⟩ (each_of h2 r2)
theorem each_back {F : Hp} : ∀ {ds : List D} {us : List Value}, PySem.W.EachIs (fun (u : Value) d => ∃ v, Rep K F d v ∧ RelV v u) us ds → ∃ vs, RepAll K F ds vs ∧ Vals vs us
  | _, _, .nil => ⟨[], rfl, .nil⟩
  | _, _, .cons ⟨v, h1, h2⟩ t => let ⟨vs, h3, h4⟩ := each_back t; ⟨v :: vs, ⟨v, vs, rfl, h1, h3⟩, .cons h2 h4⟩
end
end PD
namespace PD
open PySem PySem.Spec PyProof.Rows L2
variable {K : Kf}
section
variable {X : Cx} {P : Program} {w : World} {KX : Kf} {mg : Str → Option Value} {base : Heap} {n : Nat} {E : XS} {pa pb pc pu pl ph : Bool} {ta tb tc te : TE} {ga gb gc ge : M → Out EV} {a b c e o i : Expr} {es : List Expr} {pos p p2 p3 : Pos} {x : Str}
theorem toPy_enc {d : D} (h : (toPy d).isSome = true) : toPy d = some (encD d) := by
  unfold encD
  cases e : toPy d with
  | none => rw [e] at h; cases h
  | some p => rfl
theorem call_sortD (up : Up K X.K) (hu : X.A.units + 200 < cLine) : CallR X (.builtin "sorted") (rSortD K) := by
  intro pins s σ H xs us Q I r h
  obtain ⟨F, a, vs, ds, rfl, sF, ha, rep, ok, q⟩ := h
  obtain ⟨u, rfl, rx⟩ := vals1 r
  obtain rfl : u = .ref a := rx
  obtain ⟨its, rv, hl, hz⟩ := I.list (SqL.of ha)
  unfold sortOkD at ok
  simp only [Bool.and_eq_true, List.all_eq_true, decide_eq_true_eq] at ok
  obtain ⟨⟨⟨ok1, ok2⟩, ok3⟩, ok4⟩ := ok
  have er : PySem.W.EachIs (fun (u : Value) d => ∃ v, Rep K F d v ∧ RelV v u) its ds := each_of rep rv
  refine PySem.W.sorted_data (enc := encD) hl.isList er ?_ ?_ ?_ (big_le ok3) (fun d hd => ?_) fun out h1 h2 => ?_
  · refine (PySem.W.each_mem er).mono fun u d hd => ?_
    obtain ⟨⟨v, r1, r2⟩, hm⟩ := hd
    exact Dp.reads I (encD d) v u (dp_up up _ _ (rep_dp sF d v _ r1 (toPy_enc (ok1 d hm).1))) r2
  · intro d hd d' hd'
    obtain ⟨x, hx, rfl⟩ := List.mem_map.mp hd
    obtain ⟨y, hy, rfl⟩ := List.mem_map.mp hd'
    exact ok2 x hx y hy
  · rcases Bool.or_eq_true _ _ ▸ ok4 with z | z
    · refine .inl fun d hd => ?_
      obtain ⟨x, hx, rfl⟩ := List.mem_map.mp hd
      have := List.all_eq_true.mp z x hx
      split at this
      · rename_i y r' e; exact ⟨y, r', e⟩
      · cases this
    · refine .inr fun d hd => ?_
      obtain ⟨x, hx, rfl⟩ := List.mem_map.mp hd
      have := List.all_eq_true.mp z x hx
      refine ⟨fun e => ?_, fun xs e => ?_⟩ <;> rw [e] at this <;> cases this
  · have := (ok1 d hd).2; omega
  · obtain ⟨ep, he'⟩ := PyProof.Rows.sortedAll_at s.heap its out.toArray
    obtain ⟨ys, r3, r4⟩ := each_back h2
    have hlen : ys.length ≤ sizeLine := by
      rw [repAll_len r3, List.length_mergeSort]
      exact big_le ok3
    exact ⟨.ref _, upd H (s.heap.objs.size + 1) (.lst ys), I.laid (t' := s.toks) (fun _ _ => PyProof.Rows.sortedAll_old) (Nat.le_succ _) ⟨hlen, out, ep, r4, he'⟩, rfl, q _ ys (I.hok.fresh (Nat.le_succ _)) r3⟩
def pSorted : List SV → Option EV
  | [a] => (lstD a).bind fun ds => if sortOkD ds = true then some (.fr (.ol ((sortD ds).map .fz))) else none
  | _ => none
theorem ok_sorted : OpOkN K (rSortD K) pSorted := fun F H xs as ev Q e hx z k => by
  unfold pSorted at z
  split at z
  · rename_i a
    obtain ⟨v, rfl, hv⟩ := conts1 hx
    rw [Option.bind_eq_some_iff] at z
    obtain ⟨ds, z, z2⟩ := z
    split at z2
    · rename_i hp
      cases z2
      obtain ⟨b, vs, rfl, h, r⟩ := cont_lst e hv z
      exact ⟨F, b, vs, ds, rfl, e, h, r, hp, fun p ys hq ry => k _ _ _ (ResOk.lst0 e hq (ownL_fz ry))⟩
    · cases z2
  · cases z
/-! ### new dicts -/
def dNewK (m : M) : Out EV := .ok (.fr (.ok [])) m
def dNewT (m : M) : Out EV := .ok (.fr (.ot [])) m
theorem te_newK : TEok K mg E true tDNewK dNewK := fun F0 G π m σ F H fp Q S p q hq => by
  have f := S.freshG hq
  refine p (.ref q) F _ fp (S.allocO (.dK []) hq) ⟨Same.refl F, fun _ => ⟨rfl, rfl, same_new hq, fun _ h => .inl h⟩⟩ ⟨[q], ⟨q, [], [], rfl, upd_same, ⟨rfl, rfl⟩, rfl⟩, List.nodup_cons.mpr ⟨by simp, List.nodup_nil⟩, fun a ha => ?_⟩
  obtain rfl : a = q := by simpa using ha
  exact ⟨f.1, f.2.1, f.2.2, fun _ => hq⟩
theorem te_newT : TEok K mg E true tDNewT dNewT := fun F0 G π m σ F H fp Q S p q hq => by
  have f := S.freshG hq
  refine p (.ref q) F _ fp (S.allocO (.dT []) hq) ⟨Same.refl F, fun _ => ⟨rfl, rfl, same_new hq, fun _ h => .inl h⟩⟩ ⟨[q], ⟨q, [], [], rfl, upd_same, ⟨rfl, rfl⟩, rfl⟩, List.nodup_cons.mpr ⟨by simp, List.nodup_nil⟩, fun a ha => ?_⟩
  obtain rfl : a = q := by simpa using ha
  exact ⟨f.1, f.2.1, f.2.2, fun _ => hq⟩
theorem de_newK : DE X K mg E (.Dict [] [] pos) true tDNewK dNewK := ⟨pe_dnewK, te_newK⟩
theorem de_newT : DE X K mg E (.Dict [] [] pos) true tDNewT dNewT := ⟨pe_dnewT, te_newT⟩
/-! ### displays of dicts -/
def PostP (K : Kf) (mg : Str → Option Value) (E : XS) (F0 G : Hp) (π : List V) (σ : L2.St) (F : Hp) (Q : List (V × V) → Hp → Prop) : Out (List (Key × SV)) → Prop
  | .ok kvs m' => ∀ ws F' H' fp' q, StF K F0 G π m' σ F' H' fp' → Same F F' → OwnK K F' H' kvs ws q → q.Nodup → (∀ a ∈ q, F' a = none ∧ G a = none ∧ ∀ o, a ∉ fp' o) → Q (ws.map fun kv => (kV kv.1, kv.2)) H'
  | .exc c d m' => ExcW K mg F0 G π E σ c d m'
  | .bad => False
def TPok (K : Kf) (mg : Str → Option Value) (E : XS) (trs : List (TE × TE)) (g : M → Out (List (Key × SV))) : Prop :=
  ∀ F0 G π m σ F H fp (Q : List (V × V) → Hp → Prop), StF K F0 G π m σ F H fp → PostP K mg E F0 G π σ F Q (g m) → tPairs trs σ H Q
def dPairs0 (m : M) : Out (List (Key × SV)) := .ok [] m
def keyEV : EV → Option Key
  | .v d => keyD d
  | _ => none
def dPairs (gk gv : M → Out EV) (gr : M → Out (List (Key × SV))) (m : M) : Out (List (Key × SV)) :=
  (gk m).bind fun ek m1 => match keyEV ek with
    | some k => (gv m1).bind fun ev m2 => (ownE m2 ev).bind fun s m3 => (gr m3).bind fun kvs m4 => .ok ((k, s) :: kvs) m4
    | none => .bad
theorem tp_nil : TPok K mg E [] dPairs0 := fun F0 G π m σ F H fp Q S p => p [] F H fp [] S (Same.refl F) ⟨rfl, rfl⟩ List.nodup_nil (fun a h => by cases h)
theorem tp_cons {trs : List (TE × TE)} {gr : M → Out (List (Key × SV))} (hk : TEok K mg E pa ta ga) (hv : TEok K mg E pb tb gb) (hr : TPok K mg E trs gr) : TPok K mg E ((ta, tb) :: trs) (dPairs ga gb gr) := fun F0 G π m σ F H fp Q S p => by
  refine hk F0 G π m σ F H fp _ S ?_
  unfold dPairs at p
  cases e : ga m with
  | bad => rw [e] at p; exact p
  | exc c d m' => rw [e] at p; exact p
  | ok ek m1 =>
    rw [e] at p
    intro v F1 H1 fp1 S1 c1 e1
    have p : PostP K mg E F0 G π σ F Q (match keyEV ek with
      | some k => (gb m1).bind fun ev m2 => (ownE m2 ev).bind fun s m3 => (gr m3).bind fun kvs m4 => .ok ((k, s) :: kvs) m4
      | none => .bad) := p
    cases hk1 : keyEV ek with
    | none => simp only [hk1] at p; exact p.elim
    | some k =>
      simp only [hk1] at p
      have ev : v = kV k := by
        cases ek with
        | v d => exact keyD_v e1 hk1
        | _ => cases hk1
      subst ev
      refine hv F0 G π m1 σ F1 H1 fp1 _ S1 ?_
      cases e2 : gb m1 with
      | bad => rw [e2] at p; exact p
      | exc c d m' => rw [e2] at p; exact p
      | ok ev m2 =>
        rw [e2] at p
        intro u F2 H2 fp2 S2 c2 e3
        have p : PostP K mg E F0 G π σ F Q ((ownE m2 ev).bind fun s m3 => (gr m3).bind fun kvs m4 => .ok ((k, s) :: kvs) m4) := p
        cases e4 : ownE m2 ev with
        | bad => rw [e4] at p; exact p.elim
        | exc c d m' => exact (ownE_exc e4).elim
        | ok s m3 =>
          rw [e4] at p
          obtain ⟨F3, fp3, q3, S3, o3, n3, f3, s3⟩ := ownE_ok S2 e3 e4
          have p : PostP K mg E F0 G π σ F Q ((gr m3).bind fun kvs m4 => .ok ((k, s) :: kvs) m4) := p
          have SP := S3.protect (q := q3) (fun a ha => ⟨(f3 a ha).1, (f3 a ha).2.2⟩) fun a ha => o3.plain _ _ _ a ha
          refine hr F0 _ π m3 σ F3 H2 fp3 _ SP ?_
          cases e5 : gr m3 with
          | bad => rw [e5] at p; exact p
          | exc c d m' =>
            rw [e5] at p
            intro C dx v F' H' fp' hC T hd hrp
            exact p C dx v F' H' fp' hC (S3.unprotect (q := q3) (fun a ha => ⟨(f3 a ha).1, o3.plain _ _ _ a ha⟩) T).1 hd hrp
          | ok kvs m4 =>
            rw [e5] at p
            intro ws F4 H4 fp4 q4 S4 s4 o4 n4 f4
            obtain ⟨U4, k4⟩ := S3.unprotect (q := q3) (fun a ha => ⟨(f3 a ha).1, o3.plain _ _ _ a ha⟩) S4
            have o5 : Own K F4 H4 s u q3 := o3.keep s4 _ _ _ fun a ha => (k4 a ha).1
            refine p ((k, u) :: ws) F4 H4 fp4 (q3 ++ q4) U4 (c1.ext.trans (c2.ext.trans (s3.trans s4))) ⟨u, ws, q3, q4, rfl, o5, o4, rfl⟩ (nodup_mk n3 n4 fun a ha hb => ?_) fun a ha => ?_
            · have := (f4 a hb).2.1
              rw [addF_in ha] at this
              exact o3.there _ _ _ a ha this
            · rcases List.mem_append.mp ha with z | z
              · exact ⟨(k4 a z).2.1, (f3 a z).2.1, (k4 a z).2.2⟩
              · refine ⟨(f4 a z).1, ?_, (f4 a z).2.2⟩
                have h := (f4 a z).2.1
                by_cases y : a ∈ q3
                · rw [addF_in y] at h; exact absurd h (o3.there _ _ _ a y)
                · rw [addF_out y] at h; exact h
/-- {k: v, ..}, its keys unlike each other -/
def dDisp (g : M → Out (List (Key × SV))) (m : M) : Out EV := (g m).bind fun kvs m1 => if kvs.length ≤ 15 ∧ (kvs.map (·.1)).Nodup then .ok (.fr (.ok kvs)) m1 else .bad
theorem mergeK_nd : ∀ (ws acc : List (Key × V)), ((acc ++ ws).map (·.1)).Nodup → mergeK acc ws = acc ++ ws
  | [], acc, _ => by show acc = acc ++ []; simp
  | kv :: ws, acc, h => by
    have e : putK acc kv.1 kv.2 = acc ++ [kv] := by
      unfold putK
      rw [if_neg]
      intro z
      obtain ⟨x, hx, hz⟩ := List.any_eq_true.mp z
      have hz := of_decide_eq_true hz
      rw [List.map_append, List.nodup_append] at h
      exact h.2.2 x.1 (List.mem_map.mpr ⟨x, hx, rfl⟩) kv.1 (by simp) hz
    show mergeK (putK acc kv.1 kv.2) ws = _
    rw [e, mergeK_nd ws (acc ++ [kv]) (by simpa using h)]
    simp
theorem ownK_keys {F H : Hp} : ∀ {xs : List (Key × SV)} {vs : List (Key × V)} {q : List Addr}, OwnK K F H xs vs q → vs.map (·.1) = xs.map (·.1)
  | [], vs, q, h => by have := h.1; subst this; rfl
  | (k, x) :: xs, vs, q, ⟨v, r, q1, q2, h, _, h2, _⟩ => by subst h; simp [ownK_keys h2]
theorem te_disp {trs : List (TE × TE)} {g : M → Out (List (Key × SV))} (hg : TPok K mg E trs g) : TEok K mg E false (tDisp trs) (dDisp g) := fun F0 G π m σ F H fp Q S p q hq => by
  have f := S.freshG hq
  have S1 := S.allocO (.dK []) hq
  have nd1 : [q].Nodup := List.nodup_cons.mpr ⟨by simp, List.nodup_nil⟩
  have pr : ∀ a ∈ [q], F a = none ∧ ∀ o, a ∉ fp o := fun a ha => by
    obtain rfl : a = q := by simpa using ha
    exact ⟨f.1, f.2.2⟩
  have pr2 : ∀ a ∈ [q], F a = none ∧ ∃ x, upd H q (.dK []) a = some x ∧ plainO x := fun a ha => by
    obtain rfl : a = q := by simpa using ha
    exact ⟨f.1, _, upd_same, .inr (.inl ⟨_, rfl⟩)⟩
  refine hg F0 _ π m σ F _ fp _ (S1.protect pr fun a ha => by
    obtain rfl : a = q := by simpa using ha
    exact ⟨_, upd_same, .inr (.inl ⟨_, rfl⟩)⟩) ?_
  unfold dDisp at p
  cases e : g m with
  | bad => rw [e] at p; exact p
  | exc c d m' =>
    rw [e] at p
    intro C dx v F' H' fp' hC T hd hrp
    exact p C dx v F' H' fp' hC (S1.unprotect pr2 T).1 hd hrp
  | ok kvs m1 =>
    rw [e] at p
    have p : PostE K mg E false F0 G π m σ F H fp Q (if kvs.length ≤ 15 ∧ (kvs.map (·.1)).Nodup then .ok (.fr (.ok kvs)) m1 else .bad) := p
    by_cases hl : kvs.length ≤ 15 ∧ (kvs.map (·.1)).Nodup
    · rw [if_pos hl] at p
      intro ws F1 H1 fp1 q1 T s1 o1 n1 f1
      obtain ⟨U, kq⟩ := S1.unprotect pr2 T
      obtain ⟨k1, k2, k3⟩ := kq q (by simp)
      rw [upd_same] at k1
      have kk := ownK_keys o1
      refine ⟨k1, ws, rfl, by rw [ownK_len o1]; exact hl.1, ?_⟩
      have em : mergeK [] ws = ws := by
        have := mergeK_nd ws [] (by rw [List.nil_append, kk]; exact hl.2)
        simpa using this
      rw [em]
      have nq : q ∉ q1 := fun z => by
        have := (f1 q z).2.1
        rw [addF_in (by simp)] at this
        rw [upd_same] at this
        cases this
      have hk : ∀ a x, H1 a = some x → a ≠ q → upd H1 q (.dK ws) a = some x := fun a x e ne => by rw [upd_ne ne]; exact e
      -- the dict's own object is not within the state
      have T2 : StF K F0 G π m1 σ F1 (upd H1 q (.dK ws)) fp1 := by
        refine ⟨U.len, U.plen, fun a x e => hk a x (U.sub a x e) (fun z => by rw [z, k2] at e; cases e), fun a x e => hk a x (U.base a x e) (fun z => by rw [z, f.2.1] at e; cases e), U.mono, U.new, fun o s e => ?_, U.non, U.ali, U.nd, U.dj, U.fr, U.ntF, U.ntG, tabs_keep U.tab fun a x e hp => hk a x e fun z => hp (by rw [z, k1] at e; cases e; exact .inr (.inl ⟨_, rfl⟩))⟩
        obtain ⟨v, h1, h2⟩ := U.own o s e
        exact ⟨v, h1, h2.keep (Same.refl F1) _ _ _ fun a ha => upd_ne fun z => k3 o (by rw [← z]; exact ha)⟩
      refine p (.ref q) F1 _ fp1 T2 ⟨s1, fun z => by cases z⟩ ⟨q :: q1, ⟨q, ws, q1, rfl, upd_same, o1.keep (Same.refl F1) _ _ _ (fun a ha => upd_ne fun z => nq (by rw [← z]; exact ha)), rfl⟩, List.nodup_cons.mpr ⟨nq, n1⟩, fun a ha => ?_⟩
      rcases List.mem_cons.mp ha with rfl | hb
      · exact ⟨k2, f.2.1, k3, fun z => by cases z⟩
      · refine ⟨(f1 a hb).1, ?_, (f1 a hb).2.2, fun z => by cases z⟩
        have := (f1 a hb).2.1
        rw [addF_out] at this
        · exact this
        · intro z
          have e : a = q := by simpa using z
          exact nq (by rw [← e]; exact hb)
    · rw [if_neg hl] at p; exact p.elim
structure DPs (X : Cx) (K : Kf) (mg : Str → Option Value) (E : XS) (pos : Pos) (keys : List (Option Expr)) (values : List Expr) (trs : List (TE × TE)) (g : M → Out (List (Key × SV))) : Prop where
  pe : PPs X pos keys values trs
  ok : TPok K mg E trs g
theorem dps_nil : DPs X K mg E pos [] [] [] dPairs0 := ⟨pps_nil, tp_nil⟩
theorem dps_cons {ks : List (Option Expr)} {vs : List Expr} {trs : List (TE × TE)} {gr : M → Out (List (Key × SV))} (h1 : DE X K mg E a pa ta ga) (h2 : DE X K mg E b pb tb gb) (h3 : DPs X K mg E pos ks vs trs gr) : DPs X K mg E pos (some a :: ks) (b :: vs) ((ta, tb) :: trs) (dPairs ga gb gr) := ⟨pps_cons h1.pe h2.pe h3.pe, tp_cons h1.ok h2.ok h3.ok⟩
theorem de_disp {keys : List (Option Expr)} {values : List Expr} {trs : List (TE × TE)} {g : M → Out (List (Key × SV))} (h : DPs X K mg E pos keys values trs g) (hall : keys.all (·.isSome) = true := by rfl) (hl : keys.length = values.length := by rfl) (h0 : keys ≠ [] := by exact fun z => nomatch z) (h15 : keys.length ≤ 15 := by decide) :
    DE X K mg E (.Dict keys values pos) false (tDisp trs) (dDisp g) := ⟨pe_disp h.pe hall hl h0 h15, te_disp h.ok⟩
end
end PD
namespace PD
open PySem PySem.Spec PyProof.Rows L2
variable {K : Kf}
/-! ### dict of pairs -/
def pairsD : List D → Option (List (Key × D))
  | [] => some []
  | .tup [k, v] :: r => match keyD k, pairsD r with
    | some k, some kvs => some ((k, v) :: kvs)
    | _, _ => none
  | _ => none
theorem pairsD_ok {KX : Kf} {F H : Hp} (e : Same F H) : ∀ {ds : List D} {vs : List V} {kvs : List (Key × D)}, RepAll K F ds vs → pairsD ds = some kvs →
    ∃ (ps : List Addr) (ws : List (Key × V)), vs = ps.map V.ref ∧ Paired (fun p kv => SqT KX H p [kV kv.1, kv.2]) ps ws ∧ RepK K F kvs ws
  | [], vs, kvs, h, z => by cases z; have h : vs = [] := h; subst h; exact ⟨[], [], rfl, .nil, rfl⟩
  | d :: ds, vs, kvs, ⟨v, r, hv, h1, h2⟩, z => by
    subst hv
    cases d <;> try cases z
    rename_i xs
    cases xs with
    | nil => cases z
    | cons k xs =>
      cases xs with
      | nil => cases z
      | cons u xs =>
        cases xs with
        | cons _ _ => cases z
        | nil =>
          unfold pairsD at z
          cases e1 : keyD k with
          | none => rw [e1] at z; cases z
          | some kk =>
            cases e2 : pairsD ds with
            | none => rw [e1, e2] at z; cases z
            | some kvs' =>
              rw [e1, e2] at z
              cases z
              obtain ⟨ps, ws, rfl, hp, hr⟩ := pairsD_ok (KX := KX) e h2 e2
              obtain ⟨a, us, rfl, ha, y1, r1, rfl, hk, y2, r2, rfl, hu, hn⟩ := h1
              have hn : r2 = [] := hn
              subst hn
              rw [keyD_v hk e1] at ha
              exact ⟨a :: ps, (kk, y2) :: ws, rfl, .cons (SqT.of (e _ _ ha)) hp, y2, ws, rfl, hu, hr⟩
theorem ownK_fz {F H : Hp} : ∀ {kvs : List (Key × D)} {ws : List (Key × V)}, RepK K F kvs ws → OwnK K F H (kvs.map fun kv => (kv.1, .fz kv.2)) ws []
  | [], ws, h => ⟨h, rfl⟩
  | (k, d) :: r, ws, ⟨v, s, e, h1, h2⟩ => ⟨v, s, [], [], e, ⟨h1, rfl⟩, ownK_fz h2, rfl⟩
theorem ResOk.dk0 {F H : Hp} (e : Same F H) {p : Addr} (hp : H p = none) {xs : List (Key × SV)} {vs : List (Key × V)} (h : OwnK K F H xs vs []) : ResOk K F H F (upd H p (.dK vs)) (.fr (.ok xs)) (.ref p) := by
  refine ⟨Same.refl F, same_new hp, e.trans (same_new hp), fun _ h => .inl h, fun _ _ h => h, [p], ⟨p, vs, [], rfl, upd_same, h.keep (Same.refl F) _ _ _ (fun a z => by cases z), rfl⟩, List.nodup_cons.mpr ⟨by simp, List.nodup_nil⟩, fun a ha => ?_⟩
  have : a = p := by simpa using ha
  subst this
  exact ⟨hp, same_none e hp⟩
def pDictP : List SV → Option EV
  | [a] => (lstD a).bind fun ds => (pairsD ds).bind fun kvs => if (kvs.map (·.1)).Nodup then some (.fr (.ok (kvs.map fun kv => (kv.1, .fz kv.2)))) else none
  | _ => none
abbrev rDictP (KX : Kf) : List V → Hp → VK → Prop := fun xs H Q => ∃ (a : Addr) (ps : List Addr) (kvs : List (Key × V)), xs = [.ref a] ∧ SqL KX H a (ps.map V.ref) ∧ Paired (fun p kv => SqT KX H p [kV kv.1, kv.2]) ps kvs ∧
    ∀ p, H p = none → Q (.ref p) (upd H p (.dK (mergeK [] kvs)))
theorem repK_keys {F : Hp} : ∀ {xs : List (Key × D)} {vs : List (Key × V)}, RepK K F xs vs → vs.map (·.1) = xs.map (·.1)
  | [], vs, h => by have h : vs = [] := h; subst h; rfl
  | (k, x) :: xs, vs, ⟨v, r, h, _, h2⟩ => by subst h; simp [repK_keys h2]
theorem ok_dictP {KX : Kf} : OpOkN K (rDictP KX) pDictP := fun F H xs as ev Q e hx z k => by
  unfold pDictP at z
  split at z
  · rename_i a
    obtain ⟨v, rfl, hv⟩ := conts1 hx
    rw [Option.bind_eq_some_iff] at z
    obtain ⟨ds, z, z2⟩ := z
    rw [Option.bind_eq_some_iff] at z2
    obtain ⟨kvs, z2, z3⟩ := z2
    split at z3
    · rename_i hn
      cases z3
      obtain ⟨b, vs, rfl, h, r⟩ := cont_lst e hv z
      obtain ⟨ps, ws, rfl, hp, hr⟩ := pairsD_ok (KX := KX) e r z2
      have em : mergeK [] ws = ws := by
        have := mergeK_nd ws [] (by rw [List.nil_append, repK_keys hr]; exact hn)
        simpa using this
      exact ⟨b, ps, ws, rfl, SqL.of h, hp, fun p hp => by rw [em]; exact k _ _ _ (ResOk.dk0 e hp (ownK_fz hr))⟩
    · cases z3
  · cases z
/-! ### update -/
def mergeG {κ β : Type} [DecidableEq κ] (kvs more : List (κ × β)) : List (κ × β) := more.foldl (fun acc kv => putG acc kv.1 kv.2) kvs
abbrev rUpd : V → List V → Hp → VK → Prop := fun x xs H Q => ∃ (a b : Addr) (kvs more : List (Key × V)), x = .ref a ∧ xs = [.ref b] ∧ a ≠ b ∧ H a = some (.dK kvs) ∧ H b = some (.dK more) ∧ kvs.length + more.length ≤ sizeLine ∧ Q .non (upd H a (.dK (mergeK kvs more)))
theorem mt_update {X : Cx} : MtR X "dict.update" rUpd := by
  intro pins s σ H x xs v us Q I rx rxs h
  obtain ⟨a, b, kvs, more, rfl, rfl, hab, ha, hb, hz, q⟩ := h
  cases rx
  obtain ⟨u1, rfl, r1⟩ := vals1 rxs
  cases r1
  obtain ⟨z, hd, vs, rel, dd⟩ := dk_of I.hok ha
  obtain ⟨z2, hd2, vs2, rel2, dd2⟩ := dk_of I.hok hb
  refine call_meetsIn PySem.F.slot_dict_update dd.typeIs PySem.F.entry_dict_update (PySem.F.args_dict_update_2 _ _) (meets_dict_update (mixKind X.prog X.w) a b hab hd2)
    ⟨vs, vs2, dd, dd2, by rw [← rel.length, ← rel2.length]; exact hz, fun h' d1 d2 sb => ?_⟩
  have he : ∃ q, h'.get? a = some q := let ⟨q, _, _, hq, _⟩ := d1; ⟨q, hq⟩
  exact ⟨.non, _, d_write I (t' := s.toks) (by rw [ha]; exact True.intro) sb he (dk_new (Nat.le_trans (length_mergeK more kvs) hz) hd (rel2.merge rel) d1), rfl, q⟩
theorem ownK_merge {F H : Hp} : ∀ {more : List (Key × D)} {ms : List (Key × V)} {kvs : List (Key × SV)} {ws : List (Key × V)} {q : List Addr}, RepK K F more ms → OwnK K F H kvs ws q → q.Nodup →
    ∃ q', OwnK K F H (mergeG kvs (more.map fun kv => (kv.1, .fz kv.2))) (mergeK ws ms) q' ∧ q'.Nodup ∧ ∀ a ∈ q', a ∈ q
  | [], ms, kvs, ws, q, h, o, n => by have h : ms = [] := h; subst h; exact ⟨q, o, n, fun a h => h⟩
  | (k, d) :: more, ms, kvs, ws, q, ⟨v, s, e, h1, h2⟩, o, n => by
    subst e
    obtain ⟨q1, o1, n1, m1⟩ := ownK_put (k := k) o (x := .fz d) (v := v) (q2 := []) ⟨h1, rfl⟩ (by simpa using n) (.inl ⟨d, rfl⟩)
    obtain ⟨q2, o2, n2, m2⟩ := ownK_merge h2 o1 n1
    exact ⟨q2, o2, n2, fun a ha => by simpa using m1 a (m2 a ha)⟩
def fUpd (s : SV) (ss : List SV) : Option (SV × D) := match s, ss with
  | .ok kvs, [.fz (.dk more)] => if kvs.length + more.length ≤ bigLen then some (.ok (mergeG kvs (more.map fun kv => (kv.1, .fz kv.2))), .non) else none
  | _, _ => none
theorem ok_upd : MutOk K rUpd fUpd := fun F H v s g ss ys q s' d Q e hs nd fr ho z k => by
  unfold fUpd at z
  split at z
  · rename_i kvs more
    split at z
    · rename_i hl
      cases z
      obtain ⟨a, vs, r, rfl, ha, hr, rfl⟩ := hs
      obtain ⟨y, t, q1, q2, rfl, ⟨h1, rfl⟩, ⟨rfl, rfl⟩, rfl⟩ := ho
      obtain ⟨b, ms, rfl, hb, hm⟩ := h1
      simp only [List.append_nil] at *
      have hab : a ≠ b := fun z => by
        have := fr a List.mem_cons_self
        rw [z, hb] at this
        cases this
      have nr := (List.nodup_cons.mp nd).2
      have na : a ∉ r := (List.nodup_cons.mp nd).1
      obtain ⟨q', o', n', m'⟩ := ownK_merge hm hr nr
      refine ⟨a, b, vs, ms, rfl, rfl, hab, ha, e _ _ hb, by rw [ownK_len hr, repK_len hm]; exact big_le hl, k .non _ (a :: q') ⟨a, _, q', rfl, upd_same, o'.keep (Same.refl F) _ _ _ (fun b hb => upd_ne fun z => na (by rw [← z]; exact m' b hb)), rfl⟩ (List.nodup_cons.mpr ⟨fun z => na (m' a z), n'⟩) (upd_keep List.mem_cons_self) (fun b hb => ?_) rfl⟩
      rcases List.mem_cons.mp hb with rfl | hb
      · exact List.mem_cons_self
      · exact List.mem_cons_of_mem _ (m' b hb)
    · cases z
  · cases z
section
variable {X : Cx} {P : Program} {w : World} {KX : Kf} {mg : Str → Option Value} {base : Heap} {n : Nat} {E : XS} {pa pb pc pu pl ph po : Bool} {ta tb tc te to : TE} {ga gb gc ge go : M → Out EV} {a b c e o i : Expr} {es : List Expr} {pos p p2 p3 apos cpos : Pos} {x : Str}
/-! ### methods as pieces -/
theorem de_mt (C : Cxt X P w KX K mg base n E) {T id : String} {name : Str} {r : V → List V → Hp → VK → Prop} {f : SV → List SV → Option (SV × D)} {t : TA} {gs : M → Out (List EV)} (pa' : PlainAttrs T) (slot : Slot T name id) (hty : typeOf (.builtin id) = pure (.type "method_descriptor")) (hm : MtR X id r) (hf : MutOk K r f) (ho : DE X K mg E o po to go) (ha : DA X K mg E (e :: es) pb t gs)
    (hbase : attributeBase o name X.env (eval o X.env) = eval o X.env := by rfl)
    (hfew : ((backTo cpos (starEach (e :: es) X.env)).all (fun x => !x.1) && (backToKw cpos (keywordEach [] X.env)).all (fun x => x.1.isSome)
      && decide ((e :: es).length + ([] : List Keyword).length + (if ([] : List Keyword).isEmpty then 0 else 1) < 30)) = true := by rfl)
    (hline : (apos.endLine == cpos.line) = true := by rfl) (hs : starEach (e :: es) X.env = (false, eval e X.env) :: starEach es X.env := by rfl) (hplain : (backTo cpos (starEach es X.env)).any (·.1) = false := by rfl) :
    DE X K mg E (.Call (.Attribute o name apos) (e :: es) [] cpos) false (tBM KX T r to t) (dMt T pb go gs f) := by
  rw [← C.hK]
  exact ⟨pe_bm pa' slot hty hm ho.pe ha.pe hbase hfew hline hs hplain, te_mt hf ho.ok ha.ok⟩
theorem de_mt1 (C : Cxt X P w KX K mg base n E) {T id : String} {name : Str} {r : V → List V → Hp → VK → Prop} {f : SV → List SV → Option (SV × D)} (pa' : PlainAttrs T) (slot : Slot T name id) (hty : typeOf (.builtin id) = pure (.type "method_descriptor")) (hm : MtR X id r) (hf : MutOk K r f) (ho : DE X K mg E o po to go) (ha : DE X K mg E e pb ta ga)
    (hbase : attributeBase o name X.env (eval o X.env) = eval o X.env := by rfl)
    (hfew : ((backTo cpos (starEach (e :: []) X.env)).all (fun x => !x.1) && (backToKw cpos (keywordEach [] X.env)).all (fun x => x.1.isSome)
      && decide ((e :: []).length + ([] : List Keyword).length + (if ([] : List Keyword).isEmpty then 0 else 1) < 30)) = true := by rfl)
    (hline : (apos.endLine == cpos.line) = true := by rfl) (hs : starEach (e :: []) X.env = (false, eval e X.env) :: starEach [] X.env := by rfl) (hplain : (backTo cpos (starEach [] X.env)).any (·.1) = false := by rfl) :
    DE X K mg E (.Call (.Attribute o name apos) [e] [] cpos) false (tBM KX T r to (tCons ta tNil)) (dMt1 T pb go ga f) := by
  rw [← C.hK]
  exact ⟨pe_bm pa' slot hty hm ho.pe (pa_cons ha.pe pa_nil hs) hbase hfew hline hs hplain, te_mt1 hf ho.ok ha.ok⟩
theorem de_mt0 (C : Cxt X P w KX K mg base n E) {T id : String} {name : Str} {r : V → List V → Hp → VK → Prop} {f : SV → List SV → Option (SV × D)} (pa' : PlainAttrs T) (slot : Slot T name id) (hty : typeOf (.builtin id) = pure (.type "method_descriptor")) (hm : MtR X id r) (hf : MutOk K r f) (ho : DE X K mg E o po to go)
    (hbase : attributeBase o name X.env (eval o X.env) = eval o X.env := by rfl) (hline : (apos.endLine == cpos.line) = true := by rfl) :
    DE X K mg E (.Call (.Attribute o name apos) [] [] cpos) false (tBM0 KX T r to) (dMt T true go dNil f) := by
  rw [← C.hK]
  exact ⟨pe_bm0 pa' slot hty hm ho.pe hbase hline, (te_mt hf ho.ok ta_nil : TEok K mg E false (tBM X.K T r to tNil) _)⟩
theorem de_append (C : Cxt X P w KX K mg base n E) (ho : DE X K mg E o po to go) (ha : DE X K mg E e pb ta ga)
    (hbase : attributeBase o "append" X.env (eval o X.env) = eval o X.env := by rfl)
    (hfew : ((backTo cpos (starEach (e :: []) X.env)).all (fun x => !x.1) && (backToKw cpos (keywordEach [] X.env)).all (fun x => x.1.isSome)
      && decide ((e :: []).length + ([] : List Keyword).length + (if ([] : List Keyword).isEmpty then 0 else 1) < 30)) = true := by rfl)
    (hline : (apos.endLine == cpos.line) = true := by rfl) (hs : starEach (e :: []) X.env = (false, eval e X.env) :: starEach [] X.env := by rfl) (hplain : (backTo cpos (starEach [] X.env)).any (·.1) = false := by rfl) :
    DE X K mg E (.Call (.Attribute o "append" apos) [e] [] cpos) false (tBM KX "list" rAppend to (tCons ta tNil)) (dMt1 "list" pb go ga fAppend) := de_mt1 C PySem.F.plainAttrs_list PySem.F.slot_list_append PySem.F.type_list_append mt_append ok_append ho ha hbase hfew hline hs hplain
theorem de_popAt (C : Cxt X P w KX K mg base n E) (ho : DE X K mg E o po to go) (ha : DE X K mg E e pb ta ga)
    (hbase : attributeBase o "pop" X.env (eval o X.env) = eval o X.env := by rfl)
    (hfew : ((backTo cpos (starEach (e :: []) X.env)).all (fun x => !x.1) && (backToKw cpos (keywordEach [] X.env)).all (fun x => x.1.isSome)
      && decide ((e :: []).length + ([] : List Keyword).length + (if ([] : List Keyword).isEmpty then 0 else 1) < 30)) = true := by rfl)
    (hline : (apos.endLine == cpos.line) = true := by rfl) (hs : starEach (e :: []) X.env = (false, eval e X.env) :: starEach [] X.env := by rfl) (hplain : (backTo cpos (starEach [] X.env)).any (·.1) = false := by rfl) :
    DE X K mg E (.Call (.Attribute o "pop" apos) [e] [] cpos) false (tBM KX "list" rPopAt to (tCons ta tNil)) (dMt1 "list" pb go ga fPopAt) := de_mt1 C PySem.F.plainAttrs_list PySem.F.slot_list_pop PySem.F.type_list_pop mt_popAt ok_popAt ho ha hbase hfew hline hs hplain
theorem de_pop (C : Cxt X P w KX K mg base n E) (ho : DE X K mg E o po to go)
    (hbase : attributeBase o "pop" X.env (eval o X.env) = eval o X.env := by rfl) (hline : (apos.endLine == cpos.line) = true := by rfl) :
    DE X K mg E (.Call (.Attribute o "pop" apos) [] [] cpos) false (tBM0 KX "list" rPop to) (dMt "list" true go dNil fPop) := de_mt0 C PySem.F.plainAttrs_list PySem.F.slot_list_pop PySem.F.type_list_pop mt_pop ok_pop ho hbase hline
theorem de_update (C : Cxt X P w KX K mg base n E) {t : TA} {gs : M → Out (List EV)} (ho : DE X K mg E o po to go) (ha : DA X K mg E [e] pb t gs)
    (hbase : attributeBase o "update" X.env (eval o X.env) = eval o X.env := by rfl)
    (hfew : ((backTo cpos (starEach (e :: []) X.env)).all (fun x => !x.1) && (backToKw cpos (keywordEach [] X.env)).all (fun x => x.1.isSome)
      && decide ((e :: []).length + ([] : List Keyword).length + (if ([] : List Keyword).isEmpty then 0 else 1) < 30)) = true := by rfl)
    (hline : (apos.endLine == cpos.line) = true := by rfl) (hs : starEach (e :: []) X.env = (false, eval e X.env) :: starEach [] X.env := by rfl) (hplain : (backTo cpos (starEach [] X.env)).any (·.1) = false := by rfl) :
    DE X K mg E (.Call (.Attribute o "update" apos) [e] [] cpos) false (tBM KX "dict" rUpd to t) (dMt "dict" pb go gs fUpd) := de_mt C PySem.F.plainAttrs_dict PySem.F.slot_dict_update PySem.F.type_dict_update mt_update ok_upd ho ha hbase hfew hline hs hplain
/-! ### chains of two comparisons -/
def dChain (pb pc : Bool) (ga gb gc : M → Out EV) (k k' : M → EV → EV → Out EV) (m : M) : Out EV :=
  (opd ga m).bind fun x m1 => (opd gb m1).bind fun y m2 => if stable pb x = true then (k m2 x y).bind fun z m3 => match z with
    | .v (.bl true) => (opd gc m3).bind fun u m4 => if stable pc y = true then k' m4 y u else .bad
    | .v (.bl false) => .ok (.v (.bl false)) m3
    | _ => .bad else .bad
theorem te_chain {r r' : R2} {k k' : M → EV → EV → Out EV} (ha : TEok K mg E pa ta ga) (hb : TEok K mg E pb tb gb) (hc : TEok K mg E pc tc gc) (hk : KOk2 K mg E true r k) (hk' : KOk2 K mg E true r' k') : TEok K mg E (pa && (pb && pc)) (tChain r r' ta tb tc) (dChain pb pc ga gb gc k k') := fun F0 G π m σ F H fp Q S p => by
  refine ha.opd F0 G π m σ F H fp _ S ?_
  unfold dChain at p
  cases e : opd ga m with
  | bad => rw [e] at p; exact p
  | exc c d m' => rw [e] at p; exact p
  | ok ex m1 =>
    rw [e] at p
    intro x F1 H1 fp1 S1 c1 e1
    refine hb.opd F0 G π m1 σ F1 H1 fp1 _ S1 ?_
    have p : PostE K mg E _ F0 G π m σ F H fp Q ((opd gb m1).bind fun y m2 => if stable pb ex = true then (k m2 ex y).bind fun z m3 => match z with
      | .v (.bl true) => (opd gc m3).bind fun u m4 => if stable pc y = true then k' m4 y u else .bad
      | .v (.bl false) => .ok (.v (.bl false)) m3
      | _ => .bad else .bad) := p
    cases e2 : opd gb m1 with
    | bad => rw [e2] at p; exact p
    | exc c d m' => rw [e2] at p; exact p
    | ok ey m2 =>
      rw [e2] at p
      intro y F2 H2 fp2 S2 c2 e3
      have p : PostE K mg E _ F0 G π m σ F H fp Q (if stable pb ex = true then (k m2 ex ey).bind fun z m3 => match z with
        | .v (.bl true) => (opd gc m3).bind fun u m4 => if stable pc ey = true then k' m4 ey u else .bad
        | .v (.bl false) => .ok (.v (.bl false)) m3
        | _ => .bad else .bad) := p
      by_cases st : stable pb ex = true
      · rw [if_pos st] at p
        have ex2 := e1.carry (N' := fun _ => False) (opd_nofr e) c2 st
        have ey2 := e3.plain (N' := fun _ => False) (opd_nofr e2)
        refine hk F0 G π m2 σ F2 H2 fp2 _ x y ex ey S2 ex2 ey2 ?_
        cases e4 : k m2 ex ey with
        | bad => rw [e4] at p; exact p
        | exc c d m' => rw [e4] at p; exact p
        | ok z m3 =>
          rw [e4] at p
          intro zv F3 H3 fp3 S3 c3 ez
          cases z with
          | br o q => exact p.elim
          | fr s => exact p.elim
          | v d =>
            cases d with
            | bl bb =>
              refine ⟨bb, ez, ?_⟩
              cases bb with
              | false => exact p _ F3 H3 fp3 S3 ((c1.trans (c2.trans c3)).mono fun z => by simp only [Bool.and_eq_true] at z ⊢; exact ⟨z.1, z.2.1, trivial⟩) rfl
              | true =>
                rw [if_pos rfl]
                refine hc.opd F0 G π m3 σ F3 H3 fp3 _ S3 ?_
                have p : PostE K mg E _ F0 G π m σ F H fp Q ((opd gc m3).bind fun u m4 => if stable pc ey = true then k' m4 ey u else .bad) := p
                cases e5 : opd gc m3 with
                | bad => rw [e5] at p; exact p
                | exc c d m' => rw [e5] at p; exact p
                | ok eu m4 =>
                  rw [e5] at p
                  intro u F4 H4 fp4 S4 c4 e6
                  have p : PostE K mg E _ F0 G π m σ F H fp Q (if stable pc ey = true then k' m4 ey eu else .bad) := p
                  by_cases st2 : stable pc ey = true
                  · rw [if_pos st2] at p
                    have ey3 : EvF K G π σ F3 H3 fp3 (fun _ => False) y ey := ey2.carry (pb := true) (opd_nofr e2) c3 (by cases ey with | br o q => cases q <;> rfl | _ => rfl)
                    have ey4 := ey3.carry (N' := fun _ => False) (opd_nofr e2) c4 st2
                    refine hk' F0 G π m4 σ F4 H4 fp4 Q y u ey eu S4 ey4 (e6.plain (opd_nofr e5)) (PostE.weak (pa := pa && (pb && (true && pc))) (pb := true) (c1.trans (c2.trans (c3.trans c4))) ?_)
                    simpa using p
                  · rw [if_neg st2] at p; exact p.elim
            | _ => exact p.elim
      · rw [if_neg st] at p; exact p.elim
theorem de_chain {op op' : CmpOp} {r r' : R2} {k k' : M → EV → EV → Out EV} (ho : OpR X (compareOp op) r) (ho' : OpR X (compareOp op') r') (hk : KOk2 K mg E true r k) (hk' : KOk2 K mg E true r' k') (h1 : DE X K mg E a pa ta ga) (h2 : DE X K mg E b pb tb gb) (h3 : DE X K mg E c pc tc gc) (hm : lastMarks [op, op'] [b, c] = false := by with_unfolding_all rfl) :
    DE X K mg E (.Compare a [op, op'] [b, c] pos) (pa && (pb && pc)) (tChain r r' ta tb tc) (dChain pb pc ga gb gc k k') := ⟨pe_chain ho ho' h1.pe h2.pe h3.pe hm, te_chain h1.ok h2.ok h3.ok hk hk'⟩
/-! ### several things at once -/
def PostR (K : Kf) (mg : Str → Option Value) (E : XS) (F0 G : Hp) (π : List V) (σ : L2.St) (F : Hp) (Q : List V → Hp → Prop) : Out (List SV) → Prop
  | .ok ss m' => ∀ vs F' H' fp' q, StF K F0 G π m' σ F' H' fp' → Same F F' → OwnL K F' H' ss vs q → q.Nodup → (∀ a ∈ q, F' a = none ∧ G a = none ∧ ∀ o, a ∉ fp' o) → Q vs H'
  | .exc c d m' => ExcW K mg F0 G π E σ c d m'
  | .bad => False
def TRok (K : Kf) (mg : Str → Option Value) (E : XS) (ts : TA) (g : M → Out (List SV)) : Prop :=
  ∀ F0 G π m σ F H fp (Q : List V → Hp → Prop), StF K F0 G π m σ F H fp → PostR K mg E F0 G π σ F Q (g m) → ts σ H Q
def dRaw0 (m : M) : Out (List SV) := .ok [] m
def dRaw (gv : M → Out EV) (gr : M → Out (List SV)) (m : M) : Out (List SV) :=
  (gv m).bind fun ev m2 => (ownE m2 ev).bind fun s m3 => (gr m3).bind fun ss m4 => .ok (s :: ss) m4
theorem tr_nil : TRok K mg E tNil dRaw0 := fun F0 G π m σ F H fp Q S p => p [] F H fp [] S (Same.refl F) ⟨rfl, rfl⟩ List.nodup_nil (fun a h => by cases h)
theorem tr_cons {ts : TA} {gr : M → Out (List SV)} (hv : TEok K mg E pb tb gb) (hr : TRok K mg E ts gr) : TRok K mg E (tCons tb ts) (dRaw gb gr) := fun F0 G π m σ F H fp Q S p => by
  refine hv F0 G π m σ F H fp _ S ?_
  unfold dRaw at p
  cases e2 : gb m with
  | bad => rw [e2] at p; exact p
  | exc c d m' => rw [e2] at p; exact p
  | ok ev m2 =>
    rw [e2] at p
    intro u F2 H2 fp2 S2 c2 e3
    have p : PostR K mg E F0 G π σ F Q ((ownE m2 ev).bind fun s m3 => (gr m3).bind fun kvs m4 => .ok (s :: kvs) m4) := p
    cases e4 : ownE m2 ev with
    | bad => rw [e4] at p; exact p.elim
    | exc c d m' => exact (ownE_exc e4).elim
    | ok s m3 =>
      rw [e4] at p
      obtain ⟨F3, fp3, q3, S3, o3, n3, f3, s3⟩ := ownE_ok S2 e3 e4
      have p : PostR K mg E F0 G π σ F Q ((gr m3).bind fun kvs m4 => .ok (s :: kvs) m4) := p
      have SP := S3.protect (q := q3) (fun a ha => ⟨(f3 a ha).1, (f3 a ha).2.2⟩) fun a ha => o3.plain _ _ _ a ha
      refine hr F0 _ π m3 σ F3 H2 fp3 _ SP ?_
      cases e5 : gr m3 with
      | bad => rw [e5] at p; exact p
      | exc c d m' =>
        rw [e5] at p
        intro C dx v F' H' fp' hC T hd hrp
        exact p C dx v F' H' fp' hC (S3.unprotect (q := q3) (fun a ha => ⟨(f3 a ha).1, o3.plain _ _ _ a ha⟩) T).1 hd hrp
      | ok kvs m4 =>
        rw [e5] at p
        intro ws F4 H4 fp4 q4 S4 s4 o4 n4 f4
        obtain ⟨U4, k4⟩ := S3.unprotect (q := q3) (fun a ha => ⟨(f3 a ha).1, o3.plain _ _ _ a ha⟩) S4
        have o5 : Own K F4 H4 s u q3 := o3.keep s4 _ _ _ fun a ha => (k4 a ha).1
        refine p (u :: ws) F4 H4 fp4 (q3 ++ q4) U4 (c2.ext.trans (s3.trans s4)) ⟨u, ws, q3, q4, rfl, o5, o4, rfl⟩ (nodup_mk n3 n4 fun a ha hb => ?_) fun a ha => ?_
        · have := (f4 a hb).2.1
          rw [addF_in ha] at this
          exact o3.there _ _ _ a ha this
        · rcases List.mem_append.mp ha with z | z
          · exact ⟨(k4 a z).2.1, (f3 a z).2.1, (k4 a z).2.2⟩
          · refine ⟨(f4 a z).1, ?_, (f4 a z).2.2⟩
            have h := (f4 a z).2.1
            by_cases y : a ∈ q3
            · rw [addF_in y] at h; exact absurd h (o3.there _ _ _ a y)
            · rw [addF_out y] at h; exact h
structure DR (X : Cx) (K : Kf) (mg : Str → Option Value) (E : XS) (es : List Expr) (t : TA) (g : M → Out (List SV)) : Prop where
  pe : PA X es t
  ok : TRok K mg E t g
theorem dr_nil : DR X K mg E [] tNil dRaw0 := ⟨pa_nil, tr_nil⟩
theorem dr_cons {ts : TA} {gs : M → Out (List SV)} (h : DE X K mg E a pa ta ga) (h2 : DR X K mg E es ts gs) (he : starEach (a :: es) X.env = (false, eval a X.env) :: starEach es X.env := by rfl) : DR X K mg E (a :: es) (tCons ta ts) (dRaw ga gs) := ⟨pa_cons h.pe h2.pe he, tr_cons h.ok h2.ok⟩
def putSl : List Nat → List SV → M → Out Unit
  | [], [], m => .ok () m
  | i :: is, s :: ss, m => if i < m.sl.length then putSl is ss { m with sl := m.sl.set i (some (.sv s)) } else .bad
  | _, _, _ => .bad
def dPar (is : List Nat) (g : M → Out (List SV)) (m : M) : Out Ctl := (g m).bind fun ss m1 => match putSl is ss m1 with
  | .ok _ m2 => .ok .nx m2
  | _ => .bad
def setSt : List Nat → List V → L2.St → L2.St
  | i :: is, v :: vs, σ => setSt is vs (σ.set i (some v))
  | _, _, σ => σ
theorem putSl_ok {F0 G : Hp} {π : List V} {F H : Hp} : ∀ {is : List Nat} {ss : List SV} {vs : List V} {q : List Addr} {m m' : M} {σ : L2.St} {fp : Ow → List Addr}, StF K F0 G π m σ F H fp → OwnL K F H ss vs q → q.Nodup → (∀ a ∈ q, F a = none ∧ G a = none ∧ ∀ o, a ∉ fp o) → putSl is ss m = .ok () m' →
    ∃ fp', StF K F0 G π m' (setSt is vs σ) F H fp' ∧ vs.length = is.length
  | [], [], vs, q, m, m', σ, fp, S, o, nd, fr, e => by
    have := o.1
    subst this
    cases e
    exact ⟨fp, S, rfl⟩
  | [], s :: ss, vs, q, m, m', σ, fp, S, o, nd, fr, e => by cases e
  | i :: is, [], vs, q, m, m', σ, fp, S, o, nd, fr, e => by cases e
  | i :: is, s :: ss, vs, q, m, m', σ, fp, S, ⟨v, r, q1, q2, hv, h1, h2, hq⟩, nd, fr, e => by
    subst hv hq
    unfold putSl at e
    by_cases hi : i < m.sl.length
    · rw [if_pos hi] at e
      obtain ⟨n1, n2, n3⟩ := nodup_app nd
      have T := S.store i (some (.sv s)) (some v) q1 (fun s' e => by cases e; exact ⟨v, rfl, h1⟩) (fun h => absurd rfl (h s)) (fun k e => by cases e) n1 (fun a ha => ⟨(fr a (List.mem_append_left _ ha)).1, (fr a (List.mem_append_left _ ha)).2.1, fun o _ => (fr a (List.mem_append_left _ ha)).2.2 o⟩) (.inl hi)
      have nz : ∀ a ∈ q2, ∀ o, a ∉ (if o = Ow.s i then if i < m.sl.length then q1 else [] else fp o) := fun a ha o z => by
        by_cases eo : o = .s i
        · rw [if_pos eo, if_pos hi] at z
          exact n3 a z ha
        · rw [if_neg eo] at z
          exact (fr a (List.mem_append_right _ ha)).2.2 o z
      obtain ⟨fp', S', hl⟩ := putSl_ok T h2 n2 (fun a ha => ⟨(fr a (List.mem_append_right _ ha)).1, (fr a (List.mem_append_right _ ha)).2.1, nz a ha⟩) e
      exact ⟨fp', S', by simp [hl]⟩
    · rw [if_neg hi] at e; cases e
theorem ts_par {ts : TA} {g : M → Out (List SV)} {is : List Nat} {q : Ends → L2.St → List V → Hp → Prop} (hq : ∀ D σ vs H, vs.length = is.length → D.nx (setSt is vs σ) H → q D σ vs H) (h : TRok K mg E ts g) : TSok K mg E (fun D σ H => ts σ H (q D σ)) (dPar is g) := fun F0 G π m σ F H fp Dn S p => by
  refine h F0 G π m σ F H fp _ S ?_
  unfold dPar at p
  cases e : g m with
  | bad => rw [e] at p; exact p
  | exc c d m' => rw [e] at p; exact p σ
  | ok ss m1 =>
    rw [e] at p
    intro vs F' H' fp' q S' _ o nd fr
    have p : PostS K mg E F0 G π Dn (match putSl is ss m1 with
      | .ok _ m2 => .ok .nx m2
      | _ => .bad) := p
    cases e2 : putSl is ss m1 with
    | bad => rw [e2] at p; exact p.elim
    | exc c d m' => rw [e2] at p; exact p.elim
    | ok u m2 =>
      rw [e2] at p
      obtain ⟨fp2, S2, hl⟩ := putSl_ok S' o nd fr e2
      exact hq Dn σ vs H' hl (p _ F' H' fp2 S2)
theorem ts_par2 {ts : TA} {g : M → Out (List SV)} {i j : Nat} (h : TRok K mg E ts g) : TSok K mg E (tPar i j ts) (dPar [i, j] g) :=
  ts_par (is := [i, j]) (q := fun D σ vs H1 => ∃ v w, vs = [v, w] ∧ D.nx ((σ.set i (some v)).set j (some w)) H1) (fun D σ vs H hl z => match vs, hl, z with | [v, w], _, z => ⟨v, w, rfl, z⟩) h
theorem ts_par3 {ts : TA} {g : M → Out (List SV)} {i j l : Nat} (h : TRok K mg E ts g) : TSok K mg E (tPar3 i j l ts) (dPar [i, j, l] g) :=
  ts_par (is := [i, j, l]) (q := fun D σ vs H1 => ∃ u v w, vs = [u, v, w] ∧ D.nx (((σ.set i (some u)).set j (some v)).set l (some w)) H1) (fun D σ vs H hl z => match vs, hl, z with | [u, v, w], _, z => ⟨u, v, w, rfl, z⟩) h
theorem ds_par2 (C : Cxt X P w KX K mg base n E) (i j : Nat) {y : Str} {ts : TA} {g : M → Out (List SV)} {px py pt : Pos} {kt k2 : Nat} {pt2 : Pos} (h : DR X K mg E [a, b] ts g) (hi : X.N[i]? = some x := by rfl) (hj : X.N[j]? = some y := by rfl) (hij : i ≠ j := by decide)
    (hx : X.env.scope.names.lookup x = some .local := by rfl) (hy : X.env.scope.names.lookup y = some .local := by rfl)
    (hw : swappedStores [.Tuple [.Name x px, .Name y py] kt pt] (.Tuple [a, b] k2 pt2) X.env = pure (some [x, y]) := by rfl)
    (hs : swapsWithSole [.Tuple [.Name x px, .Name y py] kt pt] (.Tuple [a, b] k2 pt2) pos.line X.env = pure false := by rfl) :
    DS X K mg E (.Assign [.Tuple [.Name x px, .Name y py] kt pt] (.Tuple [a, b] k2 pt2) pos) (tPar i j ts) (dPar [i, j] g) := ⟨ps_par C.calm C.nd hi hj hij hx hy h.pe hw hs, ts_par2 h.ok⟩
theorem ds_par3 (C : Cxt X P w KX K mg base n E) (i j l : Nat) {y z : Str} {ts : TA} {g : M → Out (List SV)} {px py pz pt : Pos} {kt k2 : Nat} {pt2 : Pos} (h : DR X K mg E [a, b, c] ts g) (hi : X.N[i]? = some x := by rfl) (hj : X.N[j]? = some y := by rfl) (hl : X.N[l]? = some z := by rfl) (hij : i ≠ j := by decide) (hil : i ≠ l := by decide) (hjl : j ≠ l := by decide)
    (hx : X.env.scope.names.lookup x = some .local := by rfl) (hy : X.env.scope.names.lookup y = some .local := by rfl) (hz : X.env.scope.names.lookup z = some .local := by rfl)
    (hw : swappedStores [.Tuple [.Name x px, .Name y py, .Name z pz] kt pt] (.Tuple [a, b, c] k2 pt2) X.env = pure (some [x, y, z]) := by rfl)
    (hs : swapsWithSole [.Tuple [.Name x px, .Name y py, .Name z pz] kt pt] (.Tuple [a, b, c] k2 pt2) pos.line X.env = pure false := by rfl) :
    DS X K mg E (.Assign [.Tuple [.Name x px, .Name y py, .Name z pz] kt pt] (.Tuple [a, b, c] k2 pt2) pos) (tPar3 i j l ts) (dPar [i, j, l] g) := ⟨ps_par3 C.calm C.nd hi hj hl hij hil hjl hx hy hz h.pe hw hs, ts_par3 h.ok⟩
end
end PD
namespace PD
open PySem PySem.Spec PyProof.Rows L2
/-! ## own exceptions: class X(..): def __init__(self, thing): self.thing = thing -/
def thA (p1 p2 : Pos) : Arguments := { posonlyargs := [], args := [{ arg := "self", annotation := none, pos := p1 }, { arg := "thing", annotation := none, pos := p2 }], vararg := none, kwonlyargs := [], kw_defaults := [], kwarg := none, defaults := [] }
def thB (q1 q2 q3 q4 : Pos) : List Stmt := [.Assign [.Attribute (.Name "self" q1) "thing" q2] (.Name "thing" q3) q4]
def thS : Scope := { kind := .function, names := [(PySem.Str.ofString "self", .local), (PySem.Str.ofString "thing", .local)], isGenerator := false, isCoroutine := false, more := [] }
abbrev exTail : List Value := [.type "Exception", .type "BaseException", .type "object"]
/-- what the written part says of such a class x, at C, its __init__ at fI -/
structure ThC (K : Kf) (mg : Str → Option Value) (x qi : Str) (C fI : Addr) : Prop where
  gC : mg x = some (.ref C)
  ini : PySem.W.excInitIn K C exTail "Exception.__new__" = true
  ovr : PySem.W.excOver K C exTail = true
  iC : PySem.W.findIn K (.ref C) "__init__" = some (some (.ref fI))
  sa : PySem.W.findIn K (.ref C) "__setattr__" = some (some (.builtin "object.__setattr__"))
  tkr : PySem.W.takerIn K C "thing" = some none
  noT : PySem.W.findIn K (.ref C) "thing" = some none
  hd : PySem.W.hasDictIn K C = true
  kC : PySem.W.keepIn K (.ref C) = true
  exC : PySem.W.subIn K (.ref C) (.type "BaseException") = some true
  tyC : PySem.W.typeIn K (.ref C) = some (.type "type")
  tI : PySem.W.typeIn K (.ref fI) = some (.type "function")
  ga : PySem.W.findIn K (.ref C) "__getattribute__" = some (some (.builtin "BaseException.__getattribute__"))
  gg : PySem.W.findIn K (.ref C) "__getattr__" = some none
  cl : PySem.W.findIn K (.ref C) "__class__" = some (some (.builtin "object.__class__"))
  mr : PySem.W.mroIn K C (.type "object") = some true
  fn : ∃ (oc : Value) (od : Option Addr) (doc pm : Value) (an : Option Addr) (cdv ct : Value) (osl : Array (Option Value)) (p1 p2 q1 q2 q3 q4 : Pos),
    K.lookup fI = some ⟨oc, od, .func (PySem.W.fnOf "__init__" qi (thA p1 p2) (thB q1 q2 q3 q4) thS .none .none doc pm an cdv ct), osl⟩ ∧ PySem.W.codeIn K cdv qi = true
/-- what __init__ leaves -/
structure ThEnd (h h' : Heap) (x C dx t1 : Addr) (v : Value) : Prop where
  keep : ∀ b o, b ≠ x → h.get? b = some o → h'.get? b = some o
  obj : h'.get? x = some (PySem.W.excObj C t1 (some dx) .none)
  dbig : h.objs.size ≤ dx
  dne : dx ≠ x
  ns : h'.Ns1 dx (fun y => if y = "thing" then some v else none)
section
variable {prog : Program} {w : World} {A : Around} {E : Value → Shared → Prop} {R : Result → Shared → Prop} {s : Shared} {K : Kf} {mg : Str → Option Value} {x0 qi : Str} {C fI : Addr}
/-- the first store into an exception -/
theorem th_store {hp : Heap} {g : Array GenState} {d : Drawn} {t : Nat} {os : OsState} {name : Str} {tk : Tok} {v : Value} {x t0 : Addr} (X : K.In hp) (hx : hp.get? x = some (PySem.W.excObj C t0 none .none)) (hp' : PySem.W.excOver K C exTail = true)
    (ht : PySem.W.takerIn K C name = some none) (hh : PySem.W.hasDictIn K C = true)
    (hq : ∀ h' tk' dx, (∀ b o, b ≠ x → hp.get? b = some o → h'.get? b = some o) → hp.objs.size ≤ dx → dx ≠ x → h'.get? x = some (PySem.W.excObj C t0 (some dx) .none) → h'.Ns1 dx (fun y => if y = name then some v else none) → R (.ok (.ret .none)) ⟨h', g, d, tk', os⟩) :
    codeAny (model prog w) A (.call (.builtin "object.__setattr__") ⟨[.ref x, .str name tk, v], []⟩) R ⟨hp, g, d, t, os⟩ := by
  have hxs : x ≠ hp.objs.size := Nat.ne_of_lt (Heap.lt_size hx)
  refine PySem.W.osa_openX (od := none) PySem.F.store_Exception X ⟨hx, rfl, rfl, trivial⟩ hp' ht fun b => ?_
  obtain ⟨cd, hc, hd'⟩ := PySem.W.any_some hh
  refine wpAny_bind (wpAny_pure (wpAny_bind (PySem.W.instanceDict_exc hx (PySem.W.looks_clsIn X hc) hd' ?_)))
  show wpAny _ _ (Builtin.ObjectAttr.storeInDict hp.objs.size (.str name tk) name v) _ _ _
  refine PySem.HandSPX.store_in_new ⟨_, #[], _, (Heap.get?_update_ne _ _ _ _ hxs.symm).trans (Heap.get?_push_at rfl rfl), rfl, fun e he => absurd he (by simp), fun _ => rfl⟩ fun h' tk' hn' hs => ?_
  have h1 : (hp.push (PySem.W.dictOf [] 0)).get? x = some (PySem.W.excObj C t0 none .none) := Heap.get?_push_of_some _ hx
  refine hq h' tk' hp.objs.size (fun b o hb ho => ?_) (Nat.le_refl _) hxs.symm ?_ hn'
  · have h2 := hs.2 b (Nat.ne_of_lt (Heap.lt_size ho))
    exact h2.trans ((Heap.get?_update_ne _ _ _ _ hb).trans (Heap.get?_push_of_some _ ho))
  · exact (hs.2 x hxs).trans (Heap.get?_update_self _ h1 rfl)
theorem th_load {M : Model} {sh : Shared} {nm : Str} {sc : Scope} {L a : Addr} {cd : Value} {m : Str → Option Value} {y : Str} {ps : Pos} {u : Value} {Q : Value → Shared → Prop} (hn : sh.heap.Ns L m) (hv : m y = some u) (h : Q u sh)
    (hk : sc.kind = .function := by rfl) (hl : (PyProof.Rows.envOfC nm sc L a cd).kindOf y = some .local := by rfl) (hd : (y == ("__debug__" : Str)) = false := by decide) :
    wpAny M A (eval (.Name y ps) (PyProof.Rows.envOfC nm sc L a cd)) Q E sh := wpAny_Name (wpAny_loadName_local hk hl hn hv h) hd
theorem th_init (T : ThC K mg x0 qi C fI) {x t0 : Addr} {v : Value} (X : K.In s.heap) (hlim : s.heap.NoLimit) (hx : s.heap.get? x = some (PySem.W.excObj C t0 none .none)) (hroom : A.depth < recursionLimit)
    (hq : ∀ h' tk dx, ThEnd s.heap h' x C dx t0 v → R (.ok (.ret .none)) { s with heap := h', toks := tk }) : codeAny (model prog w) A (.call (.ref fI) ⟨[.ref x, v], []⟩) R s := by
  obtain ⟨oc, od, doc, pm, an, cdv, ct, osl, p1, p2, q1, q2, q3, q4, ho, hcd⟩ := T.fn
  refine Att.call_fn (binds := [("self", .ref x), ("thing", v)]) X hlim ho hcd hroom (BindsTo.of_eq (by first | rfl | with_unfolding_all rfl)) (by first | rfl | decide | with_unfolding_all rfl) (fun s₁ IC => ?_) rfl rfl rfl
  obtain ⟨h₁, tk₁, rfl⟩ := IC.toInCall.same
  have k := IC.toInCall.keep
  have hn := IC.toInCall.ns
  show wpAny _ _ (execs _ _) _ _ _
  refine wpAny_execs_cons (plainObj_wpAny_Assign_Attribute ?_)
  refine th_load (u := v) hn (by first | rfl | with_unfolding_all rfl | kernel_rfl) (th_load (u := .ref x) hn (by first | rfl | with_unfolding_all rfl | kernel_rfl) ?_)
  refine PySem.W.set_plain (X.keeps k) (ox := PySem.W.excObj C t0 none .none) (od := none) ⟨k _ _ hx, rfl, rfl, trivial⟩ T.sa ?_
  refine th_store (X.keeps k) (k _ _ hx) T.ovr T.tkr T.hd fun h₃ tk₃ dx k₃ dn dne hx₃ hn₃ => ?_
  show wpAny _ _ (execs _ _) _ _ _
  have z : s.heap.objs.size < h₁.objs.size := hn.lt
  exact wpAny_execs_nil (hq h₃ tk₃ dx ⟨fun b o hb e => k₃ b o hb (k b o e), hx₃, Nat.le_of_lt (Nat.lt_of_lt_of_le z dn), dne, hn₃⟩)
/-- a made exception -/
structure ThMade (h h' : Heap) (e C d : Addr) (v : Value) : Prop where
  keep : ∀ b o, h.get? b = some o → h'.get? b = some o
  new : h.objs.size ≤ e
  obj : ∃ oe vs, h'.get? e = some oe ∧ oe.cls = .ref C ∧ oe.dict = some d ∧ oe.data = .fields vs ∧ vs[1]? = some .none
  dbig : h.objs.size ≤ d
  dne : d ≠ e
  ns : h'.Ns1 d (fun y => if y = "thing" then some v else none)
theorem th_made (T : ThC K mg x0 qi C fI) {v : Value} (X : K.In s.heap) (hlim : s.heap.NoLimit) (hroom : A.depth + 1 < recursionLimit)
    (hq : ∀ h' tk e d, ThMade s.heap h' e C d v → R (.ok (.ret (.ref e))) { s with heap := h', toks := tk }) : codeAny (model prog w) A (.call (.ref C) ⟨[v], []⟩) R s := by
  obtain ⟨nm, N, qn, bs, bm, hdct, sn, sub, ab, col, dd, k0, k1, k2, k3, k5, hC, hT⟩ := PySem.W.excInit_of X T.ini
  obtain ⟨hp, g, dr, tk, os⟩ := s
  have k : ∀ b o, hp.get? b = some o → ((hp.push (PySem.W.kdv_tup [v])).push (PySem.HandSPX.excO C hp.objs.size)).get? b = some o := fun b o e => Heap.get?_push_of_some _ (Heap.get?_push_of_some _ e)
  have hg : ((hp.push (PySem.W.kdv_tup [v])).push (PySem.HandSPX.excO C hp.objs.size)).get? (hp.objs.size + 1) = some (PySem.W.excObj C hp.objs.size none .none) := by heap_get
  have one : [v].length ≤ sizeLine := by rw [sizeLine_eq]; exact (by decide : 1 ≤ 16777216)
  refine PySem.HandSPX.call_own PySem.F.excBase_Exception hT hC (PySem.W.looks_findIn X T.iC) (fun self => PySem.W.bind_fn X self T.tI) one ?_
  refine th_init (s := ⟨(hp.push (PySem.W.kdv_tup [v])).push (PySem.HandSPX.excO C hp.objs.size), g, dr, tk, os⟩) T (X.keeps k) (hlim.keeps k) hg ?_ fun h' tk' dx ⟨k', hx, dn, dne, hns⟩ => ?_
  · show A.depth + 1 < recursionLimit
    exact hroom
  · have old : ∀ b o, hp.get? b = some o → h'.get? b = some o := fun b o e => k' b o (Nat.ne_of_lt (Nat.lt_succ_of_lt (Heap.lt_size e))) (k b o e)
    have z : hp.objs.size + 1 + 1 ≤ dx := by
      have q := dn
      first
        | exact q
        | (rw [Heap.size_push, Heap.size_push] at q; exact q)
    exact ⟨rfl, hq h' tk' (hp.objs.size + 1) dx ⟨old, Nat.le_succ _, ⟨_, _, hx, rfl, rfl, rfl, rfl⟩, Nat.le_trans (Nat.le_trans (Nat.le_succ _) (Nat.le_succ _)) z, dne, hns⟩⟩
end
theorem relO_th {v : V} {v' : Value} (r : RelV v v') (f : Str) : RelO (List.lookup f [(("thing" : Str), v)]) (if f = "thing" then some v' else none) := by
  by_cases hw : f = "thing"
  · subst hw
    rw [if_pos rfl, show List.lookup ("thing" : Str) [(("thing" : Str), v)] = some v by simp [List.lookup]]
    exact r
  · rw [if_neg hw, show List.lookup f [(("thing" : Str), v)] = none by simp [List.lookup, show (f == ("thing" : Str)) = false by simpa using hw]]
    trivial
section
variable {X : Cx} {P : Program} {w : World} {KX K : Kf} {mg : Str → Option Value} {base : Heap} {n : Nat} {E : XS} {pa pb pc pu : Bool} {ta tb tc te : TE} {ga gb gc ge : M → Out EV} {a b c e : Expr} {es : List Expr} {pos p p2 pos2 : Pos} {x qi : Str} {C fI : Addr}
def tMkTh (C : Addr) (ta : TA) : L2.St → Hp → XK → Prop := fun σ H Q => ta σ H fun vs H1 => ∃ v, vs = [v] ∧ ∀ d, H1 d = none → Q (.ref C) (some d) (upd H1 d (.xd [(("thing" : Str), v)]))
theorem pmk_th {ta : TA} {k : Nat} (T : ThC X.K X.mg x qi C fI) (hr : Room k X.A) (ha : PA X [a] ta) (hg : Gl X x) (hdb : (x == ("__debug__" : Str)) = false := by decide)
    (he : starEach (a :: []) X.env = (false, eval a X.env) :: starEach [] X.env := by rfl) (hpl : (backTo pos (starEach [] X.env)).any (·.1) = false := by rfl) : PMk X (.Call (.Name x p) [a] [] pos) (tMkTh C ta) := by
  intro pins s σ H Q I h
  refine wpAny_Call_Name_kw (ld_glob I hg T.gC ?_ hdb)
  refine PySem.W.callWith_K (h₀ := X.base) I.ok.mod.kin T.kC (thn (ha.run pos pins s σ H _ I h) fun us s1 hh => ?_) he hpl
  obtain ⟨vs, H1, I1, r1, v, rfl, q1⟩ := hh
  refine ⟨I1.kIn, ?_⟩
  obtain ⟨v', rfl, rv⟩ := vals1 r1
  show wpAny _ _ (call (.ref C) [v']) _ _ _
  have hlim := I1.nolimit
  obtain ⟨hp, g, dr, tk, os⟩ := s1
  refine wpAny_call (th_made T I1.kIn hlim (by have := hr.dp; omega) fun h' tk' e d M => ?_)
  show MkP X pins σ Q (.ref e) ⟨h', g, dr, tk', os⟩
  obtain ⟨oe, fv, hoe, hc, hd, hdat, h1⟩ := M.obj
  obtain ⟨G', g1, g2⟩ := restrict h' fun b => decide (b ≠ e)
  have gk : ∀ b, b ≠ e → G'.get? b = h'.get? b := fun b hb => g1 b (decide_eq_true hb)
  have ge : G'.get? e = none := g2 e (by simp)
  have old : ∀ b o, hp.get? b = some o → G'.get? b = some o := fun b o q => (gk b (Nat.ne_of_lt (Nat.lt_of_lt_of_le (Heap.lt_size q) M.new))).trans (M.keep b o q)
  have J : Inv X pins σ (upd H1 d (.xd [(("thing" : Str), v)])) ⟨G', g, dr, tk', os⟩ := I1.laid (t' := tk') old M.dbig ⟨_, M.ns.at (fun o q => (gk d M.dne).trans q), fun f => relO_th rv f⟩
  refine ⟨e, oe, fv, ⟨G', g, dr, tk', os⟩, _, .ref C, some d, rfl, J, fun b o q => ?_, ge, hoe, ⟨hc, hd⟩, hdat, h1, ?_, rfl, I1.bare, raises_own T.exC T.tyC, q1 d (I1.hok.fresh M.dbig)⟩
  · by_cases hb : b = e
    · have q' : G'.get? b = some o := q
      rw [hb, ge] at q'; cases q'
    · exact (gk b hb).symm.trans q
  · rw [upd_ne (Ne.symm M.dne)]
    exact I1.hok.fresh M.new
/-- raise X(e) -/
def dRaise (c : Str) (g : M → Out EV) (m : M) : Out Ctl := (g m).bind fun ev m1 => (dFzE m1 ev).bind fun d m2 => .exc c d m2
theorem ts_raise {K : Kf} {mg : Str → Option Value} {ta : TE} {ga : M → Out EV} {c : Str} {C : Addr} (h : TEok K mg E pa ta ga) (hc : mg c = some (.ref C)) : TSok K mg E (fun _ σ H => tMkTh C (tCons ta tNil) σ H fun cls d H' => E σ cls d H') (dRaise c ga) := fun F0 G π m σ F H fp Dn S p => by
  refine h F0 G π m σ F H fp _ S ?_
  unfold dRaise at p
  cases e : ga m with
  | bad => rw [e] at p; exact p
  | exc c d m' => rw [e] at p; exact p σ
  | ok ev m1 =>
    rw [e] at p
    intro v F' H' fp' S' _ ev'
    have p : PostS K mg E F0 G π Dn ((dFzE m1 ev).bind fun d m2 => .exc c d m2) := p
    refine ⟨v, rfl, fun d hd => ?_⟩
    cases e2 : dFzE m1 ev with
    | bad => rw [e2] at p; exact p.elim
    | exc c d m' => exact (fzE_exc e2).elim
    | ok dd m2 =>
      rw [e2] at p
      obtain ⟨F2, fp2, S2, r, _⟩ := fzE_ok S' ev' e2
      exact p σ C d v F2 _ fp2 hc (S2.allocO (.xd [(("thing" : Str), v)]) hd) upd_same r
end
end PD
namespace PD
open PySem PySem.Spec PyProof.Rows L2
/-! ## try: body, several clauses except X as n -/
/-- a suite's ends: the name n (slot i) is gone behind it -/
def behind (i : Nat) (D : Ends) : Ends := { nx := fun σ H => D.nx (σ.set i none) H, rt := D.rt, bk := fun σ H => D.bk (σ.set i none) H, ct := fun σ H => D.ct (σ.set i none) H }
abbrev Hd := Value × Nat × (Addr → Value → Option Addr → TS)
def wMAs (K : Kf) (Wo : WX) (D : Ends) : List Hd → WX
  | [] => Wo
  | (c, i, ts) :: r => fun cls d σ H => ∃ b, PySem.W.exmOne K cls c = some b ∧ (b = true → ∀ a, H a = none → ts a cls d (behind i D) (σ.set i (some (.ref a))) H) ∧ (b = false → wMAs K Wo D r cls d σ H)
inductive HdAs (X : Cx) : List ExceptHandler → List Hd → Prop
  | nil : HdAs X [] []
  | cons {x n : Str} {i : Nat} {c : Value} {ts : Addr → Value → Option Addr → TS} {b₀ : Stmt} {suite : List Stmt} {np p' : Pos} {hs : List ExceptHandler} {l : List Hd} (hi : X.N[i]? = some n) (hl : X.env.kindOf n = some .local) (hc : Names X x c)
      (hsu : ∀ (a : Addr) (oe : Obj) (cls : Value) (d : Option Addr) (pn : List (Addr × Obj)), Zc cls d oe → (∃ vs, oe.data = .fields vs) → PSs (X.suite a ((a, oe) :: pn)) (b₀ :: suite) (ts a cls d)) (r : HdAs X hs l) :
      HdAs X (.ExceptHandler (some (.Name x np)) (some n) (b₀ :: suite) p' :: hs) ((c, i, ts) :: l)
section
variable {X : Cx} {body : List Stmt} {h₀ : ExceptHandler} {hds : List ExceptHandler} {l : List Hd} {pos : Pos} {tb : WX → TS} {Wo : WX}
theorem ps_try_asMany (st : X.stack = X.env :: X.outer) (fr : X.env.frame = some X.env.locals) (hN : X.N.Nodup) (tk : Takes X Wo)
    (hb : ∀ (W : WX) (pn : List (Addr × Obj)) (xe : Value → Shared → Prop), Takes (X.tr pn xe) W → PassesOwn (model X.prog X.w) X.A X.env xe → PSs (X.tr pn xe) body (tb W))
    (hh : HdAs X (h₀ :: hds) l) : PS X (.Try body (h₀ :: hds) [] [] pos) (fun D σ H => tb (wMAs X.K Wo D l) D σ H) := by
  refine ⟨fun pins s0 σ H D I h => wpAny_Try_except (wpAny_mono ((hb (wMAs X.K Wo D l) (X.pn ++ pins) _ (fun u s' flight => ?_) PassesOwn.looking).run [] s0 σ H D (I.toTry _) h) (fun f s1 ended => ?_) (fun e s1 he => he))⟩
  · obtain ⟨a, B, sI, pins', σ1, H1, cls, d, rfl, J0, nb, up, sky, na, os, ag, w⟩ := flight
    have okX := I.ok
    have J := J0.ofTry okX
    rw [st] at sky
    show wpAny (model X.prog X.w) X.A (noteFrame (.ref a) X.env) _ _ _
    refine Sky.land Zc.steady (okX.frames.trans (congrArg some st)) fr sky fun h3 fl3 up3 => ?_
    have J3 := J.landed (s' := { s' with heap := h3 }) nb fl3.1 (up.trans up3) os ag
    obtain ⟨o3, v3, got3, z3, dat3⟩ := fl3.there
    have far : a ∉ frs (X.env :: X.outer) := fun hm => by
      obtain ⟨_, o', e', away⟩ := fl3.2.2.1.mem hm
      rw [got3] at e'; cases e'
      exact away _ dat3
    have aL : a ≠ X.env.locals := fun z => far (List.mem_filterMap.mpr ⟨X.env, List.mem_cons_self, by rw [fr, z]⟩)
    have aF : a ∉ X.fs := fun hm => by
      obtain ⟨en, hen, q⟩ := List.mem_filterMap.mp hm
      exact far (List.mem_filterMap.mpr ⟨en, List.mem_cons_of_mem _ hen, q⟩)
    have S3 := J3.suite got3 dat3 na aL aF
    suffices all : ∀ {hs' : List ExceptHandler} {l' : List Hd}, HdAs X hs' l' → wMAs X.K Wo D l' cls d σ1 H1 → wpAny (model X.prog X.w) X.A (handleBy (.ref a) X.env hs') (SP X pins D) X.xe { s' with heap := h3 } from all hh w
    intro hs' l' hk
    induction hk with
    | nil =>
      refine fun out => wpAny_handleBy_nil ?_
      obtain ⟨_, _, _, oe, vs, T, oT, ts', got, hz, hd, h1, hr⟩ := id fl3
      have fin : wpAny (model X.prog X.w) X.A (setFlight (.ref a) X.env.frame) (fun _ s4 => wpAny (model X.prog X.w) X.A (throw (.ref a) : Sem Flow) (SP X pins D) X.xe s4) X.xe { s' with heap := h3 } := by
        rw [fr]
        exact HandSPX.setFlight_upZ fl3 fun h4 hh4 up4 => wpAny_throw (tk _ _ ⟨a, B, sI, pins, σ1, H1, cls, d, rfl, J, nb, (up.trans up3).trans up4, .inr (.inr (by rw [st]; exact hh4)), na, os, ag, out⟩)
      unfold PySem.passOn
      refine wpAny_bind (wpAny_field got hd h1 ?_)
      rw [if_neg (by simp : ¬ ((Value.ref T == Value.none) = true))]
      first
        | exact wpAny_bind (wpAny_pure (wpAny_bind fin))
        | exact wpAny_bind fin
    | @cons x n i c ts b₀ suite np p' hs2 l2 hi hl hc hsu r ih =>
      rintro ⟨b, hit, yes, no⟩
      have LT : PySem.W.Looks (model X.prog X.w) h3 (typeOf (.ref a)) cls := fun A Q E s k q => wpAny_typeOf_ref (k _ _ got3) (by rw [z3.1]; exact q)
      have LM := PySem.W.exm_one (M := model X.prog X.w) J3.kIn LT hit
      refine wpAny_handleBy_cons (codeAny_handlers_test ?_) (by intro q; cases q)
      have ask : ∀ {Q E : Value → Shared → Prop}, Q c { s' with heap := h3 } → wpAny (model X.prog X.w) (X.A.mark (some (.ref a))) (eval (.Name x np) X.env) Q E { s' with heap := h3 } := fun {Q E} q =>
        match hc with
        | ⟨g, db, .inl m⟩ => ld_glob (X := X.suite a ((a, o3) :: (X.pn ++ pins))) S3 g m q db
        | ⟨g, db, .inr ⟨m, bv, nn⟩⟩ => ld_blt (X := X.suite a ((a, o3) :: (X.pn ++ pins))) S3 g m bv q nn db
      refine ask (LM.here ?_)
      cases b with
      | false =>
        show wpAny _ X.A (handleBy (.ref a) X.env hs2) _ _ _
        exact ih (no rfl)
      | true =>
        refine codeAny_handlers_suite_as (HandSPX.lands_againZ fl3 fun h4 fl4 up4 => ?_)
        have J4 := J.landed (s' := { s' with heap := h4 }) nb fl4.1 ((up.trans up3).trans up4) os ag
        obtain ⟨o4, v4, got4, z4, dat4⟩ := fl4.there
        refine store_ok (X := X.suite a ((a, o4) :: (X.pn ++ pins))) (v := .ref a) (J4.suite got4 dat4 na aL aF) hN hi (.inl hl) rfl (fun s5 S5 => ?_) (.inr hl)
        refine wpAny_mono ((hsu a o4 cls d (X.pn ++ pins) z4 ⟨_, dat4⟩).run [] s5 _ H1 _ S5 (yes rfl a na)) (fun f s6 ended => ?_) (fun _ _ z => z.elim)
        have gone : ∀ {σ6 : L2.St} {H6 : Hp} {Q : Shared → Prop}, Inv (X.suite a ((a, o4) :: (X.pn ++ pins))) [] σ6 H6 s6 → (∀ s7, Inv X pins (σ6.set i none) H6 s7 → Q s7) →
            wpAny (model X.prog X.w) X.A (do bindName X.env n .none; unbindBehindTheSuite X.env n p') (fun _ s7 => Q s7) X.xe s6 := fun S6 hq => gone_ok (S6.unsuite okX) hN hi hl hq
        cases f with
        | next => exact let ⟨_, _, S6, q6⟩ := ended; gone S6 fun s7 J7 => ⟨_, _, J7, q6⟩
        | brk => exact let ⟨_, _, S6, q6⟩ := ended; gone S6 fun s7 J7 => ⟨_, _, J7, q6⟩
        | cont => exact let ⟨_, _, S6, q6⟩ := ended; gone S6 fun s7 J7 => ⟨_, _, J7, q6⟩
        | ret u => exact let ⟨_, _, _, S6, r6, q6⟩ := ended; gone S6 fun s7 J7 => ⟨_, _, _, J7, r6, q6⟩
  · cases f with
    | next => exact let ⟨_, _, J', q⟩ := ended; wpAny_execs_nil ⟨_, _, J'.ofTry I.ok, q⟩
    | brk => exact let ⟨_, _, J', q⟩ := ended; ⟨_, _, J'.ofTry I.ok, q⟩
    | cont => exact let ⟨_, _, J', q⟩ := ended; ⟨_, _, J'.ofTry I.ok, q⟩
    | ret u => exact let ⟨_, _, _, J', r, q⟩ := ended; ⟨_, _, _, J'.ofTry I.ok, r, q⟩
end
/-! ### isinstance(e, R) of the exception that is held -/
/-- what isinstance asks of a built-in thing -/
structure ThG (K : Kf) : Prop where
  hn : PySem.W.specialIn K (.builtin "object.__class__") "__get__" = some (some (.builtin "getset_descriptor.__get__"))
  ht : PySem.W.takesIn K (.builtin "object.__class__") = some true
def rIsT (K : Kf) (C a : Addr) (cls : Value) (d : Option Addr) : List V → Hp → VK → Prop := fun xs H Q => ∃ (R dd : Addr) (fs : List (Str × V)) (b : Bool), xs = [.ref a, .ref R] ∧ cls = .ref C ∧ d = some dd ∧ H dd = some (.xd fs) ∧ PySem.W.kitOne K (.ref C) (.ref R) = some b ∧ Q (.bl b) H
section
variable {X : Cx} {mg : Str → Option Value} {x qi : Str} {C fI a : Addr} {oe : Obj} {cls : Value} {d : Option Addr} {pn : List (Addr × Obj)}
theorem call_isT (T : ThC X.K mg x qi C fI) (G : ThG X.K) (hz : Zc cls d oe) (hf : ∃ vs, oe.data = .fields vs) : CallR (X.suite a ((a, oe) :: pn)) (.builtin "isinstance") (rIsT X.K C a cls d) := by
  intro pins s σ H xs us Q I r h
  obtain ⟨R, dd, fs, b, rfl, rfl, rfl, hd, hk, q⟩ := h
  obtain ⟨u1, u2, rfl, r1, r2⟩ := vals2 r
  obtain rfl : u1 = .ref a := r1
  obtain rfl : u2 = .ref R := r2
  obtain ⟨got, _⟩ := I.pin (a, oe) (List.mem_append_left _ List.mem_cons_self)
  obtain ⟨vs, hv⟩ := hf
  obtain ⟨mA, hns, _⟩ := (show ObjOk X.prog X.w H s.heap dd (.xd fs) from I.hok dd _ hd)
  obtain ⟨od, ho, _⟩ := lookIn_ns hns
  have J : PySem.W.InstAt s.heap a oe C (some od) := ⟨got, hz.1, by unfold PySem.W.notCls; rw [hv] <;> rfl, by rw [hz.2]; exact ho⟩
  have hcl : (PySem.W.clsIn X.K C).isSome = true := by
    obtain ⟨cd, hc, _⟩ := PySem.W.any_some T.hd
    rw [hc]; rfl
  exact PySem.W.kia_one (PySem.W.kitx_exc (od := some od) hcl T.ga T.gg T.exC T.cl G.hn G.ht T.mr) I.kIn J hk (fun z => nomatch z) fun tk => ⟨.bl b, H, I.tok tk, rfl, q⟩
end
/-- return (t, e.thing, isinstance(e, R)) -/
def tCatch (K : Kf) (i : Nat) (C R : Addr) (t : Str) (a : Addr) (cls : Value) (d : Option Addr) : TS :=
  tRet (tTup (tCons (tC (.str t)) (tCons (tXf a cls d C "thing" (tVar i)) (tCons (tCB (rIsT K C a cls d) (tCons (tVar i) (tCons (tC (.ref R)) tNil))) tNil))))
structure Cl where
  x : Str
  C : Addr
  t : Str
def hdOf (K : Kf) (i : Nat) (R : Addr) (c : Cl) : Hd := (.ref c.C, i, tCatch K i c.C R c.t)
/-- the classes of the clauses, unrelated to each other, all beneath R -/
structure ExT (K : Kf) (mg : Str → Option Value) (R : Addr) (cs : List Cl) : Prop where
  g : ∀ c ∈ cs, mg c.x = some (.ref c.C)
  ex : ∀ c ∈ cs, ∀ e ∈ cs, PySem.W.exmOne K (.ref c.C) (.ref e.C) = some (decide (c.x = e.x))
  ki : ∀ c ∈ cs, PySem.W.kitOne K (.ref c.C) (.ref R) = some true
def tagOf (cs : List (Str × Str)) (c : Str) : Option Str := (cs.find? fun p => decide (p.1 = c)).map (·.2)
def dTry (i : Nat) (hs : List (Str × Str)) (gb : M → Out Ctl) (m : M) : Out Ctl := match gb m with
  | .exc c d m' => match tagOf hs c with
    | some t => if i < m'.sl.length then .ok (.rt (.fz (.tup [.str t, d, .bl true]))) { m' with sl := m'.sl.set i none } else .bad
    | none => .bad
  | r => r
section
variable {X : Cx} {P : Program} {w : World} {KX K : Kf} {mg : Str → Option Value} {base : Heap} {n : Nat} {E : XS}
theorem catch_ok {Wo : WX} {i : Nat} {R : Addr} {F0 G : Hp} {π : List V} {Dn : Ends} {c t : Str} {d : D} {m' : M} {C dx : Addr} {v : V} {σ' : L2.St} {F' H' : Hp} {fp' : Ow → List Addr} (S : StF K F0 G π m' σ' F' H' fp') (hd : H' dx = some (.xd [(("thing" : Str), v)])) (hr : Rep K F' d v) (hi : i < m'.sl.length)
    (p : PostS K mg E F0 G π Dn (.ok (.rt (.fz (.tup [.str t, d, .bl true]))) { m' with sl := m'.sl.set i none })) :
    ∀ cs all : List Cl, (∀ x ∈ cs, x ∈ all) → ExT KX mg R all → (∃ c0 ∈ all, c0.x = c ∧ c0.C = C) → tagOf (cs.map fun c => (c.x, c.t)) c = some t → wMAs KX Wo Dn (cs.map (hdOf KX i R)) (.ref C) (some dx) σ' H'
  | [], all, _, _, _, z => by cases z
  | e :: cs, all, sub, T, ⟨c0, m0, hx, hC⟩, z => by
    subst hx hC
    refine ⟨decide (c0.x = e.x), T.ex c0 m0 e (sub e List.mem_cons_self), fun hb a na => ?_, fun hb => ?_⟩
    · have he : c0.x = e.x := of_decide_eq_true hb
      have hC : c0.C = e.C := by
        have h1 := T.g c0 m0
        have h2 := T.g e (sub e List.mem_cons_self)
        rw [he, h2] at h1
        exact (Value.ref.inj (Option.some.inj h1)).symm
      have ht : e.t = t := by
        have : tagOf ((e :: cs).map fun c => (c.x, c.t)) c0.x = some e.t := by
          simp [tagOf, he]
        rw [this] at z
        cases z; rfl
      have hl : i < σ'.length := by rw [← S.len]; exact hi
      have gs : (σ'.set i (some (.ref a)))[i]? = some (some (.ref a)) := List.getElem?_set_self hl
      refine ⟨.ref a, gs, rfl, by rw [hC], dx, _, v, rfl, hd, by simp [List.lookup], .ref a, gs, R, dx, _, true, rfl, by rw [hC], rfl, hd, T.ki e (sub e List.mem_cons_self), (by rw [sizeLine_eq]; exact (by decide : 3 ≤ 16777216)), fun q hq => ?_⟩
      rw [ht]
      have S2 := (S.store i none (some (.ref a)) [] (fun s e => by cases e) (fun h => rfl) (fun k e => by cases e) List.nodup_nil (fun a h => by cases h) (.inr rfl)).allocF (.tup [.str t, v, .bl true]) hq
      exact p (.ref q) _ _ _ _ S2 ⟨[], ⟨⟨q, _, rfl, upd_same, _, _, rfl, rfl, _, _, rfl, hr.mono (same_new (same_none S.sub hq)) _ _, _, _, rfl, rfl, rfl⟩, rfl⟩, List.nodup_nil, fun a h => by cases h⟩
    · have he : ¬ c0.x = e.x := of_decide_eq_false hb
      refine catch_ok S hd hr hi p cs all (fun x hx => sub x (List.mem_cons_of_mem _ hx)) T ⟨c0, m0, rfl, rfl⟩ ?_
      have : ¬ e.x = c0.x := fun z => he z.symm
      simpa [tagOf, this] using z
theorem ts_try {i : Nat} {R : Addr} {cs : List Cl} {tb : WX → TS} {gb : M → Out Ctl} (T : ExT KX mg R cs) (hb : ∀ W : WX, TSok K mg (fun σ cls d H => W cls d σ H) (tb W) gb) :
    TSok K mg E (fun D σ H => tb (wMAs KX (fun cls d σ H => E σ cls d H) D (cs.map (hdOf KX i R))) D σ H) (dTry i (cs.map fun c => (c.x, c.t)) gb) := fun F0 G π m σ F H fp Dn S p => by
  refine hb _ F0 G π m σ F H fp Dn S ?_
  unfold dTry at p
  cases e : gb m with
  | bad => rw [e] at p; exact p
  | ok c m' => rw [e] at p; cases c <;> exact p
  | exc c d m' =>
    rw [e] at p
    have p : PostS K mg E F0 G π Dn (match tagOf (cs.map fun c => (c.x, c.t)) c with
      | some t => if i < m'.sl.length then .ok (.rt (.fz (.tup [.str t, d, .bl true]))) { m' with sl := m'.sl.set i none } else .bad
      | none => .bad) := p
    cases et : tagOf (cs.map fun c => (c.x, c.t)) c with
    | none => simp only [et] at p; exact p.elim
    | some t =>
      simp only [et] at p
      by_cases hi : i < m'.sl.length
      · rw [if_pos hi] at p
        intro σ' C dx v F' H' fp' hC S' hd hr
        have ⟨c0, m0, hx⟩ : ∃ c0 ∈ cs, c0.x = c := by
          unfold tagOf at et
          rw [Option.map_eq_some_iff] at et
          obtain ⟨q, h1, _⟩ := et
          have h2 := List.find?_some h1
          obtain ⟨c0, m0, e0⟩ := List.mem_map.mp (List.mem_of_find?_eq_some h1)
          subst e0
          exact ⟨c0, m0, of_decide_eq_true h2⟩
        have hc0 : c0.C = C := by
          have := T.g c0 m0
          rw [hx, hC] at this
          cases this; rfl
        exact catch_ok S' hd hr hi p cs cs (fun _ h => h) T ⟨c0, m0, hx, hc0⟩ et
      · rw [if_neg hi] at p; exact p.elim
end
end PD
namespace PD
open PySem PySem.Spec PyProof.Rows L2
section
variable {X : Cx} {P : Program} {w : World} {KX K : Kf} {mg : Str → Option Value} {base : Heap} {n : Nat} {E : XS} {pa pb pc pu : Bool} {ta tb tc te : TE} {ga gb gc ge : M → Out EV} {a b c e : Expr} {es : List Expr} {pos p p2 pos2 : Pos} {x qi : Str} {C0 fI : Addr}
theorem ds_raise (C : Cxt X P w KX K mg base n E) (T : ThC KX mg x qi C0 fI) (h : DE X K mg E a pa ta ga) (hg : Gl X x := by rfl) (hdb : (x == ("__debug__" : Str)) = false := by decide)
    (he : starEach (a :: []) X.env = (false, eval a X.env) :: starEach [] X.env := by rfl) (hpl : (backTo pos (starEach [] X.env)).any (·.1) = false := by rfl) :
    DS X K mg E (.Raise (some (.Call (.Name x p) [a] [] pos)) none pos2) (fun _ σ H => tMkTh C0 (tCons ta tNil) σ H fun cls d H' => E σ cls d H') (dRaise x ga) := by
  obtain ⟨rfl, rfl, rfl, up, rfl, rfl, room, calm, nd, hx, pw, tk⟩ := C
  exact ⟨ps_raise calm tk (pmk_th T room (pa_cons h.pe pa_nil he) hg hdb he hpl), ts_raise h.ok T.gC⟩
theorem hd_th (C : Cxt X P w KX K mg base n E) (T : ThC KX mg x qi C0 fI) (G : ThG KX) {R : Addr} {r v t : Str} {i : Nat} (hm : mg "isinstance" = none) (gR : mg r = some (.ref R)) {np p0 p3 p4 p5 p6 p7 p8 p9 p10 p' : Pos} {j jj : Nat} {hs : List ExceptHandler} {l : List Hd} (rest : HdAs X hs l)
    (hi : X.N[i]? = some v := by rfl) (hl : X.env.kindOf v = some .local := by rfl) (hg : Gl X x := by rfl) (hdb : (x == ("__debug__" : Str)) = false := by decide) (hgi : Gl X "isinstance" := by rfl) (hgr : Gl X r := by rfl)
    (hv : Vis X.env.scope v := by first | exact Or.inl rfl | exact Or.inr (Or.inl rfl) | exact Or.inr (Or.inr rfl)) (hd : (v == ("__debug__" : Str)) = false := by decide) (hcd : (v == ("__classdict__" : Str)) = false := by decide) (hdr : (r == ("__debug__" : Str)) = false := by decide)
    (h1 : starEach [.Name v p6, .Name r p7] X.env = (false, eval (.Name v p6) X.env) :: starEach [.Name r p7] X.env := by rfl) (h2 : starEach [.Name r p7] X.env = (false, eval (.Name r p7) X.env) :: starEach [] X.env := by rfl) (h3 : (backTo p8 (starEach [.Name r p7] X.env)).any (·.1) = false := by rfl)
    (h4 : starEach [.Constant (.str t) j p0, .Attribute (.Name v p3) "thing" p4, .Call (.Name "isinstance" p5) [.Name v p6, .Name r p7] [] p8] X.env = (false, eval (.Constant (.str t) j p0) X.env) :: starEach [.Attribute (.Name v p3) "thing" p4, .Call (.Name "isinstance" p5) [.Name v p6, .Name r p7] [] p8] X.env := by rfl)
    (h5 : starEach [.Attribute (.Name v p3) "thing" p4, .Call (.Name "isinstance" p5) [.Name v p6, .Name r p7] [] p8] X.env = (false, eval (.Attribute (.Name v p3) "thing" p4) X.env) :: starEach [.Call (.Name "isinstance" p5) [.Name v p6, .Name r p7] [] p8] X.env := by rfl)
    (h6 : starEach [.Call (.Name "isinstance" p5) [.Name v p6, .Name r p7] [] p8] X.env = (false, eval (.Call (.Name "isinstance" p5) [.Name v p6, .Name r p7] [] p8) X.env) :: starEach [] X.env := by rfl)
    (h7 : attributeBase (.Name v p3) "thing" X.env (eval (.Name v p3) X.env) = eval (.Name v p3) X.env := by rfl) (hbi : bootBuiltins "isinstance" = some (.builtin "isinstance") := by decide +kernel) :
    HdAs X (.ExceptHandler (some (.Name x np)) (some v) [.Return (some (.Tuple [.Constant (.str t) j p0, .Attribute (.Name v p3) "thing" p4, .Call (.Name "isinstance" p5) [.Name v p6, .Name r p7] [] p8] jj p9)) p10] p' :: hs) (hdOf KX i R ⟨x, C0, t⟩ :: l) := by
  obtain ⟨rfl, rfl, rfl, up, rfl, rfl, room, calm, nd, hx, pw, tk⟩ := C
  refine .cons hi hl ⟨hg, hdb, .inl T.gC⟩ (fun a oe cls d pn hz hf => ?_) rest
  refine pss_one (ps_ret (pe_tup (pa_cons pe_str (pa_cons (pe_xf ⟨T.ga, T.gg, T.exC, T.hd⟩ T.noT hz hf (pe_var hi hv hd hcd) h7) (pa_cons ?_ pa_nil h6) h5) h4)))
  exact pe_callB (X := X.suite a ((a, oe) :: pn)) (call_isT T G hz hf) hgi hm hbi (pa_cons (pe_var hi hv hd hcd) (pa_cons (pe_glob hgr gR rfl hdr) pa_nil h2) h1) (by decide) (by decide) h1 h3
theorem ds_try (C : Cxt X P w KX K mg base n E) {body : List Stmt} {h₀ : ExceptHandler} {hds : List ExceptHandler} {cs : List Cl} {i : Nat} {R : Addr} {tb : WX → TS} {gb : M → Out Ctl} (T : ExT KX mg R cs) (hh : HdAs X (h₀ :: hds) (cs.map (hdOf KX i R)))
    (hb : ∀ (W : WX) (pn : List (Addr × Obj)) (xe : Value → Shared → Prop), Cxt (X.tr pn xe) P w KX K mg base n (fun σ cls d H => W cls d σ H) → DSs (X.tr pn xe) K mg (fun σ cls d H => W cls d σ H) body (tb W) gb)
    (st : X.stack = X.env :: X.outer := by rfl) (fr : X.env.frame = some X.env.locals := by rfl) :
    DS X K mg E (.Try body (h₀ :: hds) [] [] pos) (fun D σ H => tb (wMAs KX (fun cls d σ H => E σ cls d H) D (cs.map (hdOf KX i R))) D σ H) (dTry i (cs.map fun c => (c.x, c.t)) gb) := by
  obtain ⟨rfl, rfl, rfl, up, rfl, rfl, room, calm, nd, hx, pw, tk⟩ := C
  have mk : ∀ (W : WX) (pn : List (Addr × Obj)) (xe : Value → Shared → Prop), Takes (X.tr pn xe) W → PassesOwn (model X.prog X.w) X.A X.env xe → Cxt (X.tr pn xe) X.prog X.w X.K K X.mg X.base n (fun σ cls d H => W cls d σ H) := fun W pn xe tk' po => ⟨rfl, rfl, rfl, up, rfl, rfl, room, calm, nd, fun σ => passAt tk' σ, po, tk'⟩
  refine ⟨ps_try_asMany st fr nd tk (fun W pn xe tk' po => (hb W pn xe (mk W pn xe tk' po)).pe) hh, ts_try T fun W => ?_⟩
  -- some exit for the body's context: what follows in it is of no matter here
  refine (hb W [] (fun e s' => wpAny (model X.prog X.w) X.A (noteFrame e X.env) (fun _ s2 => wpAny (model X.prog X.w) X.A (setFlight e none) (fun _ _ => True) (fun _ _ => True) s2) (fun _ _ => True) s') (mk W [] _ (fun u s' z => ?_) (PassesOwn.looking (K := fun e s2 => wpAny (model X.prog X.w) X.A (setFlight e none) (fun _ _ => True) (fun _ _ => True) s2)))).ok
  obtain ⟨a, B, sI, pins, σ, H, cls, d, rfl, I, nb, up, sky, _⟩ := z
  have sky' : Sky B (X.env :: X.outer) a (Zc cls d) X.env.locals s'.heap := by rw [← st]; exact sky
  have hfr : X.A.frames = some (X.env :: X.outer) := (show X.A.frames = some X.stack from I.ok.frames).trans (congrArg some st)
  exact Sky.land (Q := fun _ _ => True) (E₁ := fun _ _ => True) Zc.steady hfr fr sky' fun h3 fl3 up3 => trivial
end
end PD
namespace PD
open PySem PySem.Spec PyProof.Rows L2
/-! ## {k: v for .. in ..} -/
open Classical in
noncomputable def compK (live : M → Prop) (vs : List Nat) (b : EV → M → Out Unit) (gt : M → Out Bool) (gk gv : M → Out EV) : List D → List (Key × D) → M → Out (List (Key × D))
  | [], acc, m => if live m then .ok acc m else .bad
  | d :: r, acc, m => if live m then (match b (.v d) m with
      | .ok _ m1 => (match gt m1 with
        | .ok true m2 => (match gk m2 with
          | .ok ek m3 => (match keyEV ek with
            | some k => (match gv m3 with
              | .ok ev m4 => (match dFzE m4 ev with
                | .ok dv m5 => if acc.length < bigLen then compK live vs b gt gk gv r (putG acc k dv) (wipeM m5 vs) else .bad
                | _ => .bad)
              | _ => .bad)
            | none => .bad)
          | _ => .bad)
        | .ok false m2 => compK live vs b gt gk gv r acc (wipeM m2 vs)
        | _ => .bad)
      | _ => .bad) else .bad
noncomputable def dCompK (gi : M → Out Wk) (vs : List Nat) (b : EV → M → Out Unit) (gt : M → Out Bool) (gk gv : M → Out EV) (m : M) : Out EV :=
  (gi m).bind fun w m1 => if vs.all (fun v => plainSl (m1.sl[v]?.join)) = true then
    (match compK w.live vs b gt gk gv w.items [] (wipeM m1 vs) with
      | .ok xs m2 => .ok (.fr (.ok (xs.map fun kv => (kv.1, .fz kv.2)))) (restM m2 m1 vs)
      | _ => .bad) else .bad
section
variable {K : Kf} {mg : Str → Option Value} {E : XS} {pa pb pc pd pu : Bool}
theorem repK_any {F : Hp} (k : Key) : ∀ {xs : List (Key × D)} {vs : List (Key × V)}, RepK K F xs vs → (vs.any fun kv => decide (kv.1 = k)) = (xs.any fun kv => decide (kv.1 = k))
  | [], vs, h => by have h : vs = [] := h; subst h; rfl
  | (k', x) :: xs, vs, ⟨v, r, h, _, h2⟩ => by subst h; simp only [List.any_cons, repK_any k h2]
theorem repK_putG {F : Hp} {k : Key} {d : D} {v : V} (hd : Rep K F d v) {xs : List (Key × D)} {vs : List (Key × V)} (h : RepK K F xs vs) : RepK K F (putG xs k d) (putK vs k v) := by
  have mp : ∀ {xs : List (Key × D)} {vs : List (Key × V)}, RepK K F xs vs → RepK K F (xs.map fun kv => if kv.1 = k then (kv.1, d) else kv) (vs.map fun kv => if kv.1 = k then (kv.1, v) else kv) := by
    intro xs
    induction xs with
    | nil => intro vs h; have h : vs = [] := h; subst h; rfl
    | cons p xs ih =>
      obtain ⟨k', x⟩ := p
      intro vs ⟨u, r, e, h1, h2⟩
      subst e
      rw [List.map_cons, List.map_cons]
      by_cases z : k' = k
      · rw [if_pos z, if_pos z]; exact ⟨v, _, rfl, hd, ih h2⟩
      · rw [if_neg z, if_neg z]; exact ⟨u, _, rfl, h1, ih h2⟩
  have ap : ∀ {xs : List (Key × D)} {vs : List (Key × V)}, RepK K F xs vs → RepK K F (xs ++ [(k, d)]) (vs ++ [(k, v)]) := by
    intro xs
    induction xs with
    | nil => intro vs h; have h : vs = [] := h; subst h; exact ⟨v, [], rfl, hd, rfl⟩
    | cons p xs ih =>
      obtain ⟨k', x⟩ := p
      intro vs ⟨u, r, e, h1, h2⟩
      subst e
      exact ⟨u, r ++ [(k, v)], rfl, h1, ih h2⟩
  unfold putG putK
  rw [repK_any k h]
  split
  · exact mp h
  · exact ap h
theorem te_dcomp {wi : TI} {gi : M → Out Wk} {g : TG} {b : EV → M → Out Unit} {tt : TT} {gt : M → Out Bool} {tk tv : TE} {gk gv : M → Out EV} {vs : List Nat} (hi : TIok K mg E wi gi) (hg : TGok K g b) (ho : OwnT' g vs) (ht : TTok K mg XS0 pb tt gt) (hk : TEok K mg XS0 pc tk gk) (hv : TEok K mg XS0 pd tv gv) (nd : vs.Nodup) :
    TEok K mg E false (tDc wi g tt tk tv vs) (dCompK gi vs b gt gk gv) := fun F0 G π m σ F H fp Q S p => by
  refine hi F0 G π m σ F H fp _ S ?_
  unfold dCompK at p
  cases e : gi m with
  | bad => rw [e] at p; exact p
  | exc c d m' => rw [e] at p; exact p
  | ok w m1 =>
    rw [e] at p
    intro J F1 H1 fp1 S1 sF hJ D hD
    have p : PostE K mg E false F0 G π m σ F H fp Q (if vs.all (fun v => plainSl (m1.sl[v]?.join)) = true then
      (match compK w.live vs b gt gk gv w.items [] (wipeM m1 vs) with
        | .ok xs m2 => .ok (.fr (.ok (xs.map fun kv => (kv.1, .fz kv.2)))) (restM m2 m1 vs)
        | _ => .bad) else .bad) := p
    by_cases al : vs.all (fun v => plainSl (m1.sl[v]?.join)) = true
    · rw [if_pos al] at p
      generalize hr : compK w.live vs b gt gk gv w.items [] (wipeM m1 vs) = r at p
      have nb : ∃ xs m2, r = .ok xs m2 := by
        cases r with
        | ok xs m2 => exact ⟨xs, m2, rfl⟩
        | exc c d m' => exact p.elim
        | bad => exact p.elim
      obtain ⟨xs, mE, er⟩ := nb
      subst er
      obtain ⟨fpw, Sw, hw⟩ := S1.wipe vs
      have dF := S1.freshG hD
      have SD : StF K F0 G π (wipeM m1 vs) (L2.wipe σ vs) F1 (upd H1 D (.dK [])) fpw := Sw.allocO (.dK []) hD
      refine ⟨fun i k H => ∃ m F fp acc kvs, StF K F0 G π m (L2.wipe σ vs) F H fp ∧ Same F1 F ∧ H D = some (.dK acc) ∧ RepK K F kvs acc ∧ (F D = none ∧ G D = none ∧ ∀ o, D ∉ fp o) ∧ i + k = w.items.length ∧ compK w.live vs b gt gk gv (w.items.drop i) kvs m = .ok xs mE,
        ⟨w.items.length, _, F1, fpw, [], [], SD, Same.refl _, upd_same, rfl, ⟨dF.1, dF.2.1, fun o z => dF.2.2 o (hw o _ z)⟩, Nat.zero_add _, hr⟩, ?_⟩
      rintro i k H2 ⟨m2, F2, fp2, acc, kvs, S2, s2, hacc, own, frq, el, e2⟩
      have hlv : w.live m2 := by
        apply Classical.byContradiction
        intro hl
        cases el2 : w.items.drop i with
        | nil => rw [el2, compK, if_neg hl] at e2; cases e2
        | cons d r' => rw [el2, compK, if_neg hl] at e2; cases e2
      have jj := hJ F0 G (Same.refl _) (Same.refl _) m2 _ F2 H2 fp2 S2 s2 hlv
      have hne : H2 D ≠ none := by rw [hacc]; exact Option.some_ne_none _
      cases ed : w.items.drop i with
      | nil =>
        left
        rw [ed, compK, if_pos hlv] at e2
        cases e2
        have hlen : w.items.length ≤ i := List.drop_eq_nil_iff.mp ed
        have hi' : i = w.items.length := by omega
        subst hi'
        refine ⟨jj.2, ?_⟩
        obtain ⟨fp3, S3, ap⟩ := StF.restore S1 vs nd S2 s2 al
        refine p (.ref D) F2 H2 fp3 S3 ⟨sF.trans s2, fun z => by cases z⟩ ⟨[D], ⟨D, acc, [], rfl, hacc, ownK_fz own, rfl⟩, List.nodup_cons.mpr ⟨by simp, List.nodup_nil⟩, fun a ha => ?_⟩
        have ha : a = D := by simpa using ha
        subst ha
        exact ⟨frq.1, frq.2.1, fun o z => frq.2.2 o (ap o _ z), fun z => by cases z⟩
      | cons d r' =>
        right
        have hd : w.items[i]? = some d := by
          have := List.getElem?_drop (xs := w.items) (i := i) (j := 0)
          rw [ed] at this
          simpa using this.symm
        have hr' : w.items.drop (i + 1) = r' := by
          rw [← List.drop_drop, ed]
          rfl
        have hlt : i < w.items.length := by
          rcases Nat.lt_or_ge i w.items.length with z | z
          · exact z
          · rw [List.drop_eq_nil_of_le z] at ed; cases ed
        obtain ⟨j1, j2⟩ := jj.1 i d hd
        refine ⟨j1, fun H => ∃ m F fp acc kvs, StF K F0 G π m (L2.wipe σ vs) F H fp ∧ Same F1 F ∧ H D = some (.dK acc) ∧ RepK K F kvs acc ∧ (F D = none ∧ G D = none ∧ ∀ o, D ∉ fp o) ∧ compK w.live vs b gt gk gv (w.items.drop (i + 1)) kvs m = .ok xs mE, ?_, ?_⟩
        · rintro H' ⟨m3, F3, fp3, acc3, kvs3, h1, h2, h3, h4, h6, h7⟩
          exact ⟨k - 1, by omega, m3, F3, fp3, acc3, kvs3, h1, h2, h3, h4, h6, by omega, h7⟩
        · intro x H3 hy
          obtain ⟨F3, S3, s3, sH, new3, hx⟩ := j2 x H3 hy
          rw [ed, compK, if_pos hlv] at e2
          have keep3 : H3 D = H2 D := same_of sH hne
          have F3n : F3 D = none := by
            cases e : F3 D with
            | none => rfl
            | some y =>
              rcases new3 D (by rw [e]; exact Option.some_ne_none _) with z | z
              · exact absurd frq.1 z
              · exact absurd z hne
          have one : ∀ a ∈ [D], a = D := fun a ha => by simpa using ha
          have SP : StF K F0 (addF G H3 [D]) π m2 (L2.wipe σ vs) F3 H3 fp2 := S3.protect (fun a ha => by
            rw [one a ha]
            exact ⟨F3n, frq.2.2⟩) fun a ha => by
            rw [one a ha, keep3]
            exact ⟨_, hacc, .inr (.inl ⟨_, rfl⟩)⟩
          refine ho x _ H3 _ (hg F3 _ π m2 _ F3 H3 fp2 _ x (.v d) SP.rebase hx ?_)
          cases eb : b (.v d) m2 with
          | bad => rw [eb] at e2; cases e2
          | exc c d' m' => rw [eb] at e2; cases e2
          | ok u m3 =>
            rw [eb] at e2
            intro σ4 F4 H4 fp4 S4 hw4
            have hw4 : L2.wipe σ4 vs = L2.wipe σ vs := hw4.trans (wipe_wipe vs)
            refine ⟨hw4, ?_⟩
            refine ht F4 _ π m3 σ4 F4 H4 fp4 _ S4.rebase ?_
            have fin : ∀ {m5 : M} {F5 H5 : Hp} {fp5 : Ow → List Addr}, StF K F4 (addF G H3 [D]) π m5 σ4 F5 H5 fp5 →
                (∃ fp6, StF K F0 G π (wipeM m5 vs) (L2.wipe σ vs) F5 H5 fp6 ∧ ∀ o a, a ∈ fp6 o → a ∈ fp5 o) ∧ (H5 D = H2 D ∧ F5 D = none ∧ ∀ o, D ∉ fp5 o) ∧ Same F2 F5 := fun {m5 F5 H5 fp5} S5 => by
              have T5 := SP.unbase (S4.unbase S5)
              obtain ⟨U5, k5⟩ := S3.unprotect (q := [D]) (fun a ha => by rw [one a ha]; exact ⟨F3n, by rw [keep3]; exact ⟨_, hacc, .inr (.inl ⟨_, rfl⟩)⟩⟩) T5
              obtain ⟨fp6, W6, h6⟩ := U5.wipe vs
              rw [hw4] at W6
              have k := k5 D (by simp)
              exact ⟨⟨fp6, W6, h6⟩, ⟨k.1.trans keep3, k.2⟩, (s3.trans S4.mono).trans S5.mono⟩
            have e2 : (match gt m3 with
              | .ok true m2 => (match gk m2 with
                | .ok ek m3 => (match keyEV ek with
                  | some k => (match gv m3 with
                    | .ok ev m4 => (match dFzE m4 ev with
                      | .ok dv m5 => if kvs.length < bigLen then compK w.live vs b gt gk gv r' (putG kvs k dv) (wipeM m5 vs) else .bad
                      | _ => .bad)
                    | _ => .bad)
                  | none => .bad)
                | _ => .bad)
              | .ok false m2 => compK w.live vs b gt gk gv r' kvs (wipeM m2 vs)
              | _ => .bad) = .ok xs mE := e2
            cases et : gt m3 with
            | bad => rw [et] at e2; cases e2
            | exc c d' m' => rw [et] at e2; cases e2
            | ok bb m5 =>
              rw [et] at e2
              intro F5 H5 fp5 S5 _
              cases bb with
              | false =>
                have e2 : compK w.live vs b gt gk gv r' kvs (wipeM m5 vs) = .ok xs mE := e2
                rw [if_neg Bool.false_ne_true]
                obtain ⟨⟨fp6, W6, h6⟩, k5, s5⟩ := fin S5
                exact ⟨_, F5, fp6, acc, kvs, W6, s2.trans s5, k5.1.trans hacc, RepK.mono s5 _ _ own, ⟨k5.2.1, frq.2.1, fun o z => k5.2.2 o (h6 o _ z)⟩, by rw [hr']; exact e2⟩
              | true =>
                rw [if_pos rfl]
                refine hk F4 _ π m5 σ4 F5 H5 fp5 _ S5 ?_
                cases ek : gk m5 with
                | bad => simp only [ek] at e2; cases e2
                | exc c d' m' => simp only [ek] at e2; cases e2
                | ok ekv m6 =>
                  simp only [ek] at e2
                  intro y F6 H6 fp6 S6 _ e6
                  cases kk : keyEV ekv with
                  | none => simp only [kk] at e2; cases e2
                  | some key =>
                    simp only [kk] at e2
                    have ey : y = kV key := by
                      cases ekv with
                      | v d => exact keyD_v e6 kk
                      | _ => cases kk
                    refine hv F4 _ π m6 σ4 F6 H6 fp6 _ S6 ?_
                    cases ev : gv m6 with
                    | bad => simp only [ev] at e2; cases e2
                    | exc c d' m' => simp only [ev] at e2; cases e2
                    | ok evv m7 =>
                      simp only [ev] at e2
                      intro z F7 H7 fp7 S7 _ e7
                      cases ez : dFzE m7 evv with
                      | bad => simp only [ez] at e2; cases e2
                      | exc c d' m' => simp only [ez] at e2; cases e2
                      | ok dv m8 =>
                        simp only [ez] at e2
                        by_cases hb : kvs.length < bigLen
                        · rw [if_pos hb] at e2
                          obtain ⟨F8, fp8, S8, r8, s8⟩ := fzE_ok S7 e7 ez
                          obtain ⟨⟨fp9, W9, h9⟩, k9, s29⟩ := fin S8
                          exact ⟨acc, key, ey, k9.1.trans hacc, by rw [repK_len own]; exact big_lt hb, _, F8, fp9, putK acc key z, putG kvs key dv, W9.poke _ k9.2.1 frq.2.1 (fun o z => k9.2.2 o (h9 o D z)) (fun x e => by
                            rw [k9.1.trans hacc] at e
                            cases e
                            exact .inr (.inl ⟨_, rfl⟩)), s2.trans s29, upd_same, repK_putG r8 (RepK.mono s29 _ _ own), ⟨k9.2.1, frq.2.1, fun o z => k9.2.2 o (h9 o D z)⟩, by rw [hr']; exact e2⟩
                        · rw [if_neg hb] at e2; cases e2
    · rw [if_neg al] at p
      exact p.elim
end
section
variable {X : Cx} {P : Program} {w : World} {KX K : Kf} {mg : Str → Option Value} {base : Heap} {n : Nat} {E : XS} {pa pb pc pu pd po pf : Bool} {ta tb tc td te to tf : TE} {ga gb gc gd ge go gf : M → Out EV} {a b c e o f : Expr} {es : List Expr} {pos p apos cpos : Pos} {x : Str}
theorem de_dc (C : Cxt X P w KX K mg base n E) {kx vx tg iter : Expr} {ifs : List Expr} {scope : Scope} (own : List (Str × Nat)) {wi : TI} {gi : M → Out Wk} {g : TG} {bg : EV → M → Out Unit} {tt : TT} {gt : M → Out Bool} (hi : DI X K mg E tg iter wi gi) (ok : BlkOk X.N X.env.scope scope own)
    (hg : ∀ (s : Shared) (H : Hp) (Ca : Addr) (cl : List (Str × Addr)) (fp : List Addr), Cxt (X.blk s H scope (compEnvC scope cl Ca X.env) fp) P w KX K mg base n XS0 → DG (X.blk s H scope (compEnvC scope cl Ca X.env) fp) K tg g bg) (ho : OwnT' g (own.map (·.2)))
    (ht : ∀ (s : Shared) (H : Hp) (Ca : Addr) (cl : List (Str × Addr)) (fp : List Addr), Cxt (X.blk s H scope (compEnvC scope cl Ca X.env) fp) P w KX K mg base n XS0 → DTs (X.blk s H scope (compEnvC scope cl Ca X.env) fp) K mg XS0 ifs pb tt gt)
    (hk : ∀ (s : Shared) (H : Hp) (Ca : Addr) (cl : List (Str × Addr)) (fp : List Addr), Cxt (X.blk s H scope (compEnvC scope cl Ca X.env) fp) P w KX K mg base n XS0 → DE (X.blk s H scope (compEnvC scope cl Ca X.env) fp) K mg XS0 kx pc te ge)
    (hv : ∀ (s : Shared) (H : Hp) (Ca : Addr) (cl : List (Str × Addr)) (fp : List Addr), Cxt (X.blk s H scope (compEnvC scope cl Ca X.env) fp) P w KX K mg base n XS0 → DE (X.blk s H scope (compEnvC scope cl Ca X.env) fp) K mg XS0 vx pd td gd)
    (nd : (own.map (·.2)).Nodup := by decide) (hs : ∀ x, foldedSetIterable iter X.env x = pure x := by intro _; rfl) :
    DE X K mg E (.DictComp kx vx [⟨tg, iter, ifs, 0⟩] scope pos) false (tDc wi g tt te td (own.map (·.2))) (dCompK gi (own.map (·.2)) bg gt ge gd) := by
  have s0 : Shared := {}
  have Cb := fun (s : Shared) (H : Hp) (Ca : Addr) (cl : List (Str × Addr)) (fp : List Addr) => C.blk s H scope (compEnvC scope cl Ca X.env) fp
  refine ⟨pe_dc C.calm C.nd hi.pe ok (fun s H Ca cl fp => (hg s H Ca cl fp (Cb s H Ca cl fp)).pe) (fun s H Ca cl fp => (ht s H Ca cl fp (Cb s H Ca cl fp)).pe) (fun s H Ca cl fp => (hk s H Ca cl fp (Cb s H Ca cl fp)).pe) (fun s H Ca cl fp => (hv s H Ca cl fp (Cb s H Ca cl fp)).pe) hs, ?_⟩
  exact te_dcomp hi.ok (hg s0 (fun _ => none) 0 [] [] (Cb _ _ _ _ _)).ok ho (ht s0 (fun _ => none) 0 [] [] (Cb _ _ _ _ _)).ok (hk s0 (fun _ => none) 0 [] [] (Cb _ _ _ _ _)).ok (hv s0 (fun _ => none) 0 [] [] (Cb _ _ _ _ _)).ok nd
/-! ## d.get(k, x) -/
def isDct (s : SV) : Bool := match s with
  | .ok _ => true
  | .ot _ => true
  | .fz (.dk _) => true
  | .fz (.dt _) => true
  | _ => false
theorem isDct_ok {F H : Hp} (e : Same F H) {s : SV} {v : V} (h : Cont K F H s v) (z : isDct s = true) : ∃ a, v = .ref a ∧ IsD H a := by
  cases s with
  | fz d =>
    cases d <;> try cases z
    · obtain ⟨a, ws, rfl, h, _⟩ := cont_fz h; exact ⟨a, rfl, .inl ⟨ws, .inl (e _ _ h)⟩⟩
    · obtain ⟨a, ws, rfl, h, _⟩ := cont_fz h; exact ⟨a, rfl, .inr ⟨ws, .inl (e _ _ h)⟩⟩
  | ol _ => cases z
  | ok xs => obtain ⟨q, a, vs, r, rfl, h, _⟩ := h; exact ⟨a, rfl, .inl ⟨vs, .inl h⟩⟩
  | ot xs => obtain ⟨q, a, vs, r, rfl, h, _⟩ := h; exact ⟨a, rfl, .inr ⟨vs, .inl h⟩⟩
/-- the key and the other value change nothing -/
def dGet2 (gd gk gx : M → Out EV) (m : M) : Out EV := (opd gd m).bind fun d m1 => match view m1 d with
  | some ds => if isDct ds = true then (opd gk m1).bind fun k _ => (opd gx m1).bind fun x _ => (match view m1 k, x with
    | some ks, .v xd => (match dlook ds ks with
      | some (some (.fz d')) => .ok (.v d') m1
      | some none => .ok (.v xd) m1
      | _ => .bad)
    | _, _ => .bad) else .bad
  | none => .bad
theorem te_get2 (h1 : TEok K mg E po to go) (h2 : TEok K mg E true ta ga) (h3 : TEok K mg E true tf gf) : TEok K mg E po (tDGet2 to ta tf) (dGet2 go ga gf) := fun F0 G π m σ F H fp Q S p => by
  refine h1.opd F0 G π m σ F H fp _ S ?_
  unfold dGet2 at p
  cases e : opd go m with
  | bad => rw [e] at p; exact p
  | exc c d m' => rw [e] at p; exact p
  | ok dv m1 =>
    rw [e] at p
    intro x F1 H1 fp1 S1 c1 e1
    have p : PostE K mg E po F0 G π m σ F H fp Q (match view m1 dv with
      | some ds => if isDct ds = true then (opd ga m1).bind fun k _ => (opd gf m1).bind fun x _ => (match view m1 k, x with
        | some ks, .v xd => (match dlook ds ks with
          | some (some (.fz d')) => .ok (.v d') m1
          | some none => .ok (.v xd) m1
          | _ => .bad)
        | _, _ => .bad) else .bad
      | none => .bad) := p
    cases ev : view m1 dv with
    | none => simp only [ev] at p; exact p.elim
    | some ds =>
      simp only [ev] at p
      by_cases hd : isDct ds = true
      · rw [if_pos hd] at p
        have cv := S1.view e1 ev
        obtain ⟨a, rfl, isd⟩ := isDct_ok S1.sub cv hd
        refine ⟨a, rfl, isd, ?_⟩
        refine h2.opd F0 G π m1 σ F1 H1 fp1 _ S1 ?_
        cases e2 : opd ga m1 with
        | bad => rw [e2] at p; exact p
        | exc c d m' => rw [e2] at p; exact p
        | ok kv m2 =>
          rw [e2] at p
          intro y F2 H2 fp2 S2 c2 ey
          obtain ⟨em, efp, sH, nw⟩ := c2.pure rfl
          subst em efp
          refine h3.opd F0 G π m2 σ F2 H2 fp2 _ S2 ?_
          have p : PostE K mg E po F0 G π m σ F H fp Q ((opd gf m2).bind fun x _ => (match view m2 kv, x with
            | some ks, .v xd => (match dlook ds ks with
              | some (some (.fz d')) => .ok (.v d') m2
              | some none => .ok (.v xd) m2
              | _ => .bad)
            | _, _ => .bad)) := p
          cases e3 : opd gf m2 with
          | bad => rw [e3] at p; exact p
          | exc c d m' => rw [e3] at p; exact p
          | ok fv m3 =>
            rw [e3] at p
            intro z F3 H3 fp3 S3 c3 ez
            obtain ⟨em, efp, sH3, nw3⟩ := c3.pure rfl
            subst em efp
            have p : PostE K mg E po F0 G π m σ F H fp Q (match (generalizing := false) view m3 kv, fv with
              | some ks, .v xd => (match dlook ds ks with
                | some (some (.fz d')) => .ok (.v d') m3
                | some none => .ok (.v xd) m3
                | _ => .bad)
              | _, _ => .bad) := p
            have c13 := c1.trans (c2.trans c3)
            have ch : Ch po m m3 F H F3 H3 fp fp3 := c13.mono fun z => by simp [z]
            have d3 : EvF K G π σ F3 H3 fp3 (fun _ => False) (.ref a) dv := e1.carry (pb := true) (opd_nofr e) (c2.trans c3) (by cases dv with | br o q => cases q <;> rfl | _ => rfl)
            have k3 : EvF K G π σ F3 H3 fp3 (fun _ => False) y kv := ey.carry (pb := true) (opd_nofr e2) c3 (by cases kv with | br o q => cases q <;> rfl | _ => rfl)
            cases evk : view m3 kv with
            | none => simp only [evk] at p; exact p.elim
            | some ks =>
              cases fv with
              | br o q => simp only [evk] at p; exact p.elim
              | fr s => simp only [evk] at p; exact p.elim
              | v xd =>
                simp only [evk] at p
                cases el : dlook ds ks with
                | none => simp only [el] at p; exact p.elim
                | some r =>
                  obtain ⟨a', o', ea, g, hh⟩ := dlook_ok S3.sub (S3.view d3 ev) (S3.view k3 evk) el
                  cases ea
                  refine ⟨o', g, ?_⟩
                  cases r with
                  | none =>
                    simp only [el] at p
                    rcases hh with ⟨_, rfl⟩ | ⟨_, _, h, _⟩
                    · exact p z F3 H3 fp3 S3 ch ez
                    · cases h
                  | some s =>
                    simp only [el] at p
                    rcases hh with ⟨h, _⟩ | ⟨s', v, h, rfl, cv'⟩
                    · cases h
                    · cases h
                      cases s with
                      | fz d' => exact p v F3 H3 fp3 S3 ch (cont_fz cv')
                      | ol _ => exact p.elim
                      | ok _ => exact p.elim
                      | ot _ => exact p.elim
      · rw [if_neg hd] at p; exact p.elim
theorem de_get2 (C : Cxt X P w KX K mg base n E) (h1 : DE X K mg E o po to go) (h2 : DE X K mg E a true ta ga) (h3 : DE X K mg E f true tf gf)
    (m1 : attributeBase o "get" X.env (eval o X.env) = eval o X.env := by rfl)
    (m2 : ((backTo cpos (starEach [a, f] X.env)).all (fun x => !x.1) && (backToKw cpos (keywordEach [] X.env)).all (fun x => x.1.isSome)
    && decide (([a, f] : List Expr).length + ([] : List Keyword).length + (if ([] : List Keyword).isEmpty then 0 else 1) < 30)) = true := by rfl)
    (m3 : (apos.endLine == cpos.line) = true := by rfl) (m4 : backTo cpos (starEach [a, f] X.env) = [(false, eval a X.env), (false, eval f X.env)] := by rfl) :
    DE X K mg E (.Call (.Attribute o "get" apos) [a, f] [] cpos) po (tDGet2 to ta tf) (dGet2 go ga gf) := ⟨pe_dget2 C.hu1 h1.pe h2.pe h3.pe ⟨m1, m2, m3, m4⟩, te_get2 h1.ok h2.ok h3.ok⟩
end
end PD
namespace PD
open PySem PySem.Spec PyProof.Rows L2
/-! ## defs as values, called by a local name -/
def adOf (mg : Str → Option Value) (x : Str) : Addr := match mg x with
  | some (.ref a) => a
  | _ => 0
/-- defs of the same parameters -/
abbrev Tb := List (Addr × Den)
structure FnV (P : Program) (w : World) (KX K : Kf) (mg : Str → Option Value) (base : Heap) (k : Nat) (ps : List Str) (ks : List Str) (ix : List Nat) (t : Addr × Den) : Prop where
  ex : ∃ fd : FuncData, FnOk P w KX mg base (L2.CX P w) k t.1 fd ps (spF K mg ps.length t.2) ∧ PySem.W.keepIn KX (.ref t.1) = true ∧ Binds KX fd ps [] ∧ ∀ (s : Shared) (ws : List Value), ws.length = ix.length → BindsTo s fd ⟨[], ks.zip ws⟩ (ps.zip (perm ix ws))
section
variable {X : Cx} {P : Program} {w : World} {KX K : Kf} {mg : Str → Option Value} {base : Heap} {n : Nat} {E : XS} {pa pb pc pu : Bool} {e : Expr} {es : List Expr} {pos p : Pos} {x : Str}
theorem fnV_of {st : Stmt} {j k : Nat} {ps ks : List Str} {ix : List Nat} {f : Den} (F : FnD P w KX K mg base x st j ps f) (hj : j ≤ k)
    (hb : ∀ (kV doc pm : Value) (an : Option Addr) (cdv ct : Value) (ws : List Value), ws.length = ix.length → bindArgs (PySem.W.fnOf x x (defArgs st) (defBody st) (defScope st) .none kV doc pm an cdv ct) ⟨[], ks.zip ws⟩ = pure (ps.zip (perm ix ws))) :
    FnV P w KX K mg base k ps ks ix (adOf mg x, f) := by
  obtain ⟨ad, fd, h1, h2, h3, h4⟩ := F.ex
  have e : adOf mg x = ad := by unfold adOf; rw [h2]
  rw [e]
  have kp := h1.kp
  obtain ⟨oc, od, kV, doc, pm, an, cdv, ct, osl, rfl, lk, hcd⟩ := h1.ex
  exact ⟨_, h4.mono hj, kp, h3, fun s ws hl => .of_eq (hb kV doc pm an cdv ct ws hl)⟩
theorem de_fn {st : Stmt} {k : Nat} {ps : List Str} {f : Den} (C : Cxt X P w KX K mg base n E) (F : FnD P w KX K mg base x st k ps f) (hg : Gl X x := by rfl) (hdb : (x == ("__debug__" : Str)) = false := by decide) : DE X K mg E (.Name x pos) true (tC (.ref (adOf mg x))) (dC (.fn (adOf mg x))) := by
  obtain ⟨ad, fd, h1, h2, h3, h4⟩ := F.ex
  have e : adOf mg x = ad := by unfold adOf; rw [h2]
  rw [e]
  exact de_glob (v := .ref ad) C hg h2 rfl (fun _ => rfl) hdb
def tCallV (K : Kf) (mg : Str → Option Value) (np i : Nat) (T : Tb) (E : XS) (t : TA) : TE := fun σ H Q => ∃ q ∈ T, σ[i]? = some (some (.ref q.1)) ∧ t σ H fun vs H1 => spF K mg np q.2 vs H1 Q (E σ)
def tCallVW (K : Kf) (mg : Str → Option Value) (np i : Nat) (T : Tb) (E : XS) (ix : List Nat) (t : TA) : TE := fun σ H Q => ∃ q ∈ T, σ[i]? = some (some (.ref q.1)) ∧ t σ H fun zs H1 => zs.length = ix.length ∧ spF K mg np q.2 (perm ix zs) H1 Q (E σ)
def slFn (m : M) (i : Nat) (T : Tb) : Option (Addr × Den) := match m.sl[i]? with
  | some (some (.sv (.fz (.fn a)))) => T.find? fun q => decide (q.1 = a)
  | _ => none
def dCallV (np i : Nat) (T : Tb) (gs : M → Out (List EV)) (m : M) : Out EV := match slFn m i T with
  | some q => (gs m).bind fun es m1 => callK np q.2 m1 es
  | none => .bad
def dCallVW (np i : Nat) (T : Tb) (ix : List Nat) (gs : M → Out (List EV)) (m : M) : Out EV := match slFn m i T with
  | some q => (gs m).bind fun es m1 => callP np q.2 ix m1 es
  | none => .bad
theorem slFn_ok {F0 G : Hp} {π : List V} {m : M} {σ : L2.St} {F H : Hp} {fp : Ow → List Addr} (S : StF K F0 G π m σ F H fp) {i : Nat} {T : Tb} {q : Addr × Den} (h : slFn m i T = some q) : q ∈ T ∧ σ[i]? = some (some (.ref q.1)) := by
  unfold slFn at h
  split at h
  · rename_i a e
    have h1 := List.find?_some h
    have h2 : q.1 = a := of_decide_eq_true h1
    have hg : get m (.s i) = some (.fz (.fn a)) := by simp [get, e]
    obtain ⟨v, h3, h4⟩ := S.own _ _ hg
    have h4 : v = .ref a := h4.1
    subst h4
    rw [h2]
    exact ⟨List.mem_of_find?_eq_some h, refO_some h3⟩
  · cases h
theorem te_callV {np i : Nat} {T : Tb} {t : TA} {gs : M → Out (List EV)} (ha : TAok K mg E pb t gs) : TEok K mg E false (tCallV K mg np i T E t) (dCallV np i T gs) := fun F0 G π m σ F H fp Q S p => by
  unfold dCallV at p
  cases e : slFn m i T with
  | none => rw [e] at p; exact p.elim
  | some q =>
    rw [e] at p
    obtain ⟨h1, h2⟩ := slFn_ok S e
    refine ⟨q, h1, h2, ?_⟩
    have := te_app ha (k_call (K := K) (mg := mg) (np := np) (f := q.2) E)
    rw [Bool.and_false] at this
    exact this F0 G π m σ F H fp Q S p
theorem te_callVW {np i : Nat} {T : Tb} {ix : List Nat} {t : TA} {gs : M → Out (List EV)} (ha : TAok K mg E pb t gs) : TEok K mg E false (tCallVW K mg np i T E ix t) (dCallVW np i T ix gs) := fun F0 G π m σ F H fp Q S p => by
  unfold dCallVW at p
  cases e : slFn m i T with
  | none => rw [e] at p; exact p.elim
  | some q =>
    rw [e] at p
    obtain ⟨h1, h2⟩ := slFn_ok S e
    refine ⟨q, h1, h2, ?_⟩
    have hK : KOkN K mg E false (fun σ zs H Q => zs.length = ix.length ∧ spF K mg np q.2 (perm ix zs) H Q (E σ)) (callP np q.2 ix) := fun F0 G π m σ F H fp Q vs es S ev p => by
      unfold callP at p
      by_cases hl : es.length = ix.length
      · rw [if_pos hl] at p
        exact ⟨(evFs_len ev).trans hl, k_call (np := np) (f := q.2) E F0 G π m σ F H fp Q _ _ S (evFs_perm ev ix) p⟩
      · rw [if_neg hl] at p; exact p.elim
    have := te_app ha hK
    rw [Bool.and_false] at this
    exact this F0 G π m σ F H fp Q S p
theorem de_callV (C : Cxt X P w KX K mg base n E) {k i : Nat} {ps ks : List Str} {ix : List Nat} {T : Tb} {t : TA} {gs : M → Out (List EV)} (hT : ∀ q ∈ T, FnV P w KX K mg base k ps ks ix q) (ha : DA X K mg E (e :: es) pb t gs) (hk : k ≤ n := by decide) (hN : X.N[i]? = some x := by rfl)
    (hv : Vis X.env.scope x := by first | exact Or.inl rfl | exact Or.inr (Or.inl rfl) | exact Or.inr (Or.inr rfl)) (hdb : (x == ("__debug__" : Str)) = false := by decide) (hcd : (x == ("__classdict__" : Str)) = false := by decide)
    (he : starEach (e :: es) X.env = (false, eval e X.env) :: starEach es X.env := by rfl) (hpl : (backTo pos (starEach es X.env)).any (·.1) = false := by rfl) :
    DE X K mg E (.Call (.Name x p) (e :: es) [] pos) false (tCallV K mg ps.length i T E t) (dCallV ps.length i T gs) := by
  refine ⟨⟨fun pins s σ H Q I h => ?_⟩, te_callV ha.ok⟩
  obtain ⟨rfl, rfl, rfl, up, rfl, rfl, room, calm, nd, hx, pw, tk⟩ := C
  obtain ⟨q, hq, hs, ht⟩ := h
  obtain ⟨fd, F, kp, bd, _⟩ := (hT q hq).ex
  refine wpAny_Call_Name_kw (thn ((pe_var (pos := p) hN hv hdb hcd).run pins s σ H (fun v H1 => v = .ref q.1 ∧ H1 = H) I ⟨.ref q.1, hs, rfl, rfl⟩) fun u s1 ⟨v, H1, I1, r1, q1⟩ => ?_)
  obtain ⟨rfl, rfl⟩ := q1
  cases r1
  refine PySem.W.callWith_K (h₀ := X.base) I.ok.mod.kin kp (thn (ha.pe.run pos pins s1 σ _ _ I1 ht) fun us s2 ⟨vs, H2, I2, r, z⟩ => ⟨I2.kIn, ?_⟩) he hpl
  exact run_fnS F (room.mono hk) bd (hx σ) I2 r z
theorem de_callVW (C : Cxt X P w KX K mg base n E) {k i : Nat} {ps ks : List Str} {ix : List Nat} {T : Tb} {kws : List Keyword} {t : TA} {gs : M → Out (List EV)} (hT : ∀ q ∈ T, FnV P w KX K mg base k ps ks ix q) (hkw : DK X K mg E kws pb t gs) (hk : k ≤ n := by decide) (hN : X.N[i]? = some x := by rfl)
    (hv : Vis X.env.scope x := by first | exact Or.inl rfl | exact Or.inr (Or.inl rfl) | exact Or.inr (Or.inr rfl)) (hdb : (x == ("__debug__" : Str)) = false := by decide) (hcd : (x == ("__classdict__" : Str)) = false := by decide)
    (hall : (backToKw pos (keywordEach kws X.env)).all (·.1.isSome) = true := by rfl) (hks : (backToKw pos (keywordEach kws X.env)).filterMap (·.1) = ks := by rfl) (hpl : (backToKw pos (keywordEach kws X.env)).any (·.1.isNone) = false := by rfl) :
    DE X K mg E (.Call (.Name x p) [] kws pos) false (tCallVW K mg ps.length i T E ix t) (dCallVW ps.length i T ix gs) := by
  refine ⟨⟨fun pins s σ H Q I h => ?_⟩, te_callVW hkw.ok⟩
  obtain ⟨rfl, rfl, rfl, up, rfl, rfl, room, calm, nd, hx, pw, tk⟩ := C
  obtain ⟨q, hq, hs, ht⟩ := h
  obtain ⟨fd, F, kp, bd, kb⟩ := (hT q hq).ex
  refine wpAny_Call_Name_kw (thn ((pe_var (pos := p) hN hv hdb hcd).run pins s σ H (fun v H1 => v = .ref q.1 ∧ H1 = H) I ⟨.ref q.1, hs, rfl, rfl⟩) fun u s1 ⟨v, H1, I1, r1, q1⟩ => ?_)
  obtain ⟨rfl, rfl⟩ := q1
  cases r1
  refine PySem.W.callWith_KW0 (h₀ := X.base) I.ok.mod.kin kp hall (thn (hkw.pe.run pos pins s1 σ _ _ I1 ht) fun ws s2 ⟨zs, H2, I2, rz, hl, z⟩ => ⟨I2.kIn, ?_⟩) hpl
  rw [hks]
  exact run_fnP (args := ⟨[], ks.zip ws⟩) F (room.mono hk) (kb s2 ws (by rw [← rz.length]; exact hl)) (hx σ) I2 (vals_perm rz ix) z
end
end PD
namespace PD
open PySem PySem.Spec PyProof.Rows L2
section
variable {X : Cx} {P : Program} {w : World} {KX K : Kf} {mg : Str → Option Value} {base : Heap} {n : Nat} {E : XS} {pa pb pc pu : Bool} {ta tb tc te : TE} {ga gb gc ge : M → Out EV} {a b c e : Expr} {es : List Expr} {pos p : Pos} {x : Str}
theorem Cxt.upX (C : Cxt X P w KX K mg base n E) : Up K X.K := by rw [C.hK]; exact C.up
theorem Cxt.hu200 (C : Cxt X P w KX K mg base n E) : X.A.units + 200 < cLine := by have := C.room.un; omega
/-! ### list(range(n)), -n, a module's number -/
def rgD (j : Int) : List D := (List.range j.toNat).map fun i => .int (i : Nat)
def dLR (g : M → Out EV) (m : M) : Out EV := (g m).bind fun ev m1 => match ev with
  | .v (.int j) => if 0 ≤ j ∧ j ≤ bigLen then .ok (.fr (.ol ((rgD j).map .fz))) m1 else .bad
  | _ => .bad
theorem te_lr (h : TEok K mg E pa ta ga) : TEok K mg E pa (tLstRg (tRg1 ta)) (dLR ga) := fun F0 G π m σ F H fp Q S p => by
  refine h F0 G π m σ F H fp _ S ?_
  unfold dLR at p
  cases e : ga m with
  | bad => rw [e] at p; exact p
  | exc c d m' => rw [e] at p; exact p
  | ok ev m1 =>
    rw [e] at p
    intro v F1 H1 fp1 S1 c1 e1
    cases ev with
    | br o q => exact p.elim
    | fr s => exact p.elim
    | v d =>
      cases d with
      | int j =>
        have p : PostE K mg E pa F0 G π m σ F H fp Q (if 0 ≤ j ∧ j ≤ bigLen then .ok (.fr (.ol ((rgD j).map .fz))) m1 else .bad) := p
        by_cases hj : 0 ≤ j ∧ j ≤ bigLen
        · rw [if_pos hj] at p
          have hb : (bigLen : Int) = 1000000 := rfl
          refine ⟨j, e1, RgOk.of_le (by omega) (by omega) (by omega) (by omega), fun q hq => ?_⟩
          have er : RepAll K F1 (rgD j) (rgV 0 j) := by
            have : ∀ l : List Nat, RepAll K F1 (l.map fun i => D.int (i : Nat)) (l.map fun i => V.int (0 + (i : Nat))) := by
              intro l
              induction l with
              | nil => rfl
              | cons x l ih => exact ⟨_, _, rfl, by show V.int _ = V.int _; rw [Int.zero_add], ih⟩
            unfold rgD rgV
            rw [Int.sub_zero]
            exact this _
          have f := S1.freshG hq
          refine p (.ref q) F1 _ fp1 (S1.allocO (.lst (rgV 0 j)) hq) ⟨c1.ext, fun z => ?_⟩ ⟨[q], ⟨q, _, [], rfl, upd_same, ownL_fz er, rfl⟩, List.nodup_cons.mpr ⟨by simp, List.nodup_nil⟩, fun a ha => ?_⟩
          · obtain ⟨z1, z2, z3, z4⟩ := c1.pure z
            exact ⟨z1, z2, z3.trans (same_new hq), z4⟩
          · obtain rfl : a = q := by simpa using ha
            exact ⟨f.1, f.2.1, f.2.2, fun z => same_none (c1.pure z).2.2.1 hq⟩
        · rw [if_neg hj] at p; exact p.elim
      | _ => exact p.elim
theorem de_lr (C : Cxt X P w KX K mg base n E) {p1 p2 pos1 : Pos} (zl : mg "list" = none) (zr : mg "range" = none) (h : DE X K mg E a pa ta ga) (hg : Gl X "list" := by rfl) (hg2 : Gl X "range" := by rfl)
    (na : starEach [.Call (.Name "range" p2) [a] [] pos1] X.env = (false, eval (.Call (.Name "range" p2) [a] [] pos1) X.env) :: starEach [] X.env := by rfl) (nb : starEach [a] X.env = (false, eval a X.env) :: starEach [] X.env := by rfl) :
    DE X K mg E (.Call (.Name "list" p1) [.Call (.Name "range" p2) [a] [] pos1] [] pos) pa (tLstRg (tRg1 ta)) (dLR ga) := by
  obtain ⟨rfl, rfl, rfl, up, rfl, rfl, room, calm, nd, hx, pw, tk⟩ := C
  exact ⟨pe_listRg calm hg zl (prg_1 hg2 zr h.pe nb) na, te_lr h.ok⟩
def pNeg : SV → Option EV
  | .fz (.int i) => some (.v (.int (-i)))
  | _ => none
theorem ok_neg : OpOk1 K (rU fun i => .int (-i)) pNeg := fun F H x a ev Q e hx z k => by
  unfold pNeg at z
  split at z
  · cases z; exact ⟨_, cont_fz hx, k _ F H (ResOk.val0 e rfl)⟩
  · cases z
theorem q_neg (h : DE X K mg E a pa ta ga) : DE X K mg E (.UnaryOp .USub a pos) (pa && true) (tUn (rU fun i => .int (-i)) ta) (dUn ga (kV1 pNeg)) := de_un un_neg (k_v1 ok_neg) h
theorem q_gint (C : Cxt X P w KX K mg base n E) {i : Int} (h : ∃ t, mg x = some (.int i t)) (hg : Gl X x := by rfl) (hdb : (x == ("__debug__" : Str)) = false := by decide) : DE X K mg E (.Name x pos) true (tC (.int i)) (dC (.int i)) := by
  obtain ⟨t, h⟩ := h
  exact de_glob C hg h ⟨t, rfl⟩ (fun _ => rfl) hdb
theorem q_gstr (C : Cxt X P w KX K mg base n E) {i : Str} (h : ∃ t, mg x = some (.str i t)) (hg : Gl X x := by rfl) (hdb : (x == ("__debug__" : Str)) = false := by decide) : DE X K mg E (.Name x pos) true (tC (.str i)) (dC (.str i)) := by
  obtain ⟨t, h⟩ := h
  exact de_glob C hg h ⟨t, rfl⟩ (fun _ => rfl) hdb
/-! ### a def that is never told to end -/
def dBad : Den := fun _ _ => .bad
theorem fnD_bad {st : Stmt} {k : Nat} {ps : List Str} (h : ∃ (a : Addr) (fd : FuncData), Fun KX x x st a fd ∧ mg x = some (.ref a) ∧ Binds KX fd ps []) : FnD P w KX K mg base x st k ps dBad :=
  let ⟨a, fd, h1, h2, h3⟩ := h
  ⟨a, fd, h1, h2, h3, ⟨fun vs H Q E h => h.1, fun A outer s H args us vs Q E _ _ _ _ hs => by
    obtain ⟨_, F, G, π, pins, fp, as, _, _, post⟩ := hs
    exact post.elim⟩⟩
/-! ### operators in short -/
theorem q_add (C : Cxt X P w KX K mg base n E) (h1 : DE X K mg E a pa ta ga) (h2 : DE X K mg E b pb tb gb) : DE X K mg E (.BinOp a .Add b pos) (pa && (pb && true)) (tOp (rPlus KX) ta tb) (dBin pb ga gb (kV2 pPlus)) := by
  rw [← C.hK]
  exact de_op op_plus (k_v2 ok_plus) h1 h2
theorem q_sub (C : Cxt X P w KX K mg base n E) (h1 : DE X K mg E a pa ta ga) (h2 : DE X K mg E b pb tb gb) : DE X K mg E (.BinOp a .Sub b pos) (pa && (pb && true)) (tOp (rI0 fun i j => .int (i - j)) ta tb) (dBin pb ga gb (kV2 pSub)) := by
  skip
  exact de_op op_sub (k_v2 (ok_int20 fun _ _ _ => rfl)) h1 h2
theorem q_mul (C : Cxt X P w KX K mg base n E) (h1 : DE X K mg E a pa ta ga) (h2 : DE X K mg E b pb tb gb) : DE X K mg E (.BinOp a .Mult b pos) (pa && (pb && true)) (tOp (rMulR) ta tb) (dBin pb ga gb (kV2 pMul)) := by
  skip
  exact de_op op_mulR (k_v2 ok_mul) h1 h2
theorem q_div (C : Cxt X P w KX K mg base n E) (h1 : DE X K mg E a pa ta ga) (h2 : DE X K mg E b pb tb gb) : DE X K mg E (.BinOp a .FloorDiv b pos) (pa && (pb && true)) (tOp (rI CDiv fun i j => .int (i / j)) ta tb) (dBin pb ga gb (kV2 pDiv)) := by
  skip
  exact de_op op_fdiv (k_v2 (ok_int2 fun _ _ _ => rfl)) h1 h2
theorem q_mod (C : Cxt X P w KX K mg base n E) (h1 : DE X K mg E a pa ta ga) (h2 : DE X K mg E b pb tb gb) : DE X K mg E (.BinOp a .Mod b pos) (pa && (pb && true)) (tOp (rI (fun _ j => 0 < j) fun i j => .int (i % j)) ta tb) (dBin pb ga gb (kV2 pMod)) := by
  skip
  exact de_op op_mod (k_v2 (ok_int2 fun _ _ _ => rfl)) h1 h2
theorem q_pow (C : Cxt X P w KX K mg base n E) (h1 : DE X K mg E a pa ta ga) (h2 : DE X K mg E b pb tb gb) : DE X K mg E (.BinOp a .Pow b pos) (pa && (pb && true)) (tOp (rI CPow fun i j => .int (i ^ j.toNat)) ta tb) (dBin pb ga gb (kV2 pPow)) := by
  skip
  exact de_op op_pow (k_v2 (ok_int2 fun _ _ _ => rfl)) h1 h2
theorem q_shl (C : Cxt X P w KX K mg base n E) (h1 : DE X K mg E a pa ta ga) (h2 : DE X K mg E b pb tb gb) : DE X K mg E (.BinOp a .LShift b pos) (pa && (pb && true)) (tOp (rI CPow fun i j => .int (i * 2 ^ j.toNat)) ta tb) (dBin pb ga gb (kV2 pShl)) := by
  skip
  exact de_op op_shl (k_v2 (ok_int2 fun _ _ _ => rfl)) h1 h2
theorem q_shr (C : Cxt X P w KX K mg base n E) (h1 : DE X K mg E a pa ta ga) (h2 : DE X K mg E b pb tb gb) : DE X K mg E (.BinOp a .RShift b pos) (pa && (pb && true)) (tOp (rI (fun _ j => 0 ≤ j) fun i j => .int (i / 2 ^ j.toNat)) ta tb) (dBin pb ga gb (kV2 pShr)) := by
  skip
  exact de_op op_shr (k_v2 (ok_int2 fun _ _ _ => rfl)) h1 h2
theorem q_band (C : Cxt X P w KX K mg base n E) (h1 : DE X K mg E a pa ta ga) (h2 : DE X K mg E b pb tb gb) : DE X K mg E (.BinOp a .BitAnd b pos) (pa && (pb && true)) (tOp (rI0 fun i j => .int (Builtin.bitAnd i j)) ta tb) (dBin pb ga gb (kV2 pAnd)) := by
  skip
  exact de_op op_and (k_v2 (ok_int20 fun _ _ _ => rfl)) h1 h2
theorem q_bor (C : Cxt X P w KX K mg base n E) (h1 : DE X K mg E a pa ta ga) (h2 : DE X K mg E b pb tb gb) : DE X K mg E (.BinOp a .BitOr b pos) (pa && (pb && true)) (tOp (rI0 fun i j => .int (Builtin.bitOr i j)) ta tb) (dBin pb ga gb (kV2 pOr)) := by
  skip
  exact de_op op_or (k_v2 (ok_int20 fun _ _ _ => rfl)) h1 h2
theorem q_bxor (C : Cxt X P w KX K mg base n E) (h1 : DE X K mg E a pa ta ga) (h2 : DE X K mg E b pb tb gb) : DE X K mg E (.BinOp a .BitXor b pos) (pa && (pb && true)) (tOp (rI0 fun i j => .int (Builtin.bitXor i j)) ta tb) (dBin pb ga gb (kV2 pXor)) := by
  skip
  exact de_op op_xor (k_v2 (ok_int20 fun _ _ _ => rfl)) h1 h2
def rLtA (K : Kf) : R2 := fun x y H Q => (rI0 fun i j => .bl (decide (i < j))) x y H Q ∨ rOrdP K (PySem.W.dataLt) x y H Q
def rLeA (K : Kf) : R2 := fun x y H Q => (rI0 fun i j => .bl (decide (i ≤ j))) x y H Q ∨ rOrdP K (fun p q => !PySem.W.dataLt q p) x y H Q
def rGtA (K : Kf) : R2 := fun x y H Q => (rI0 fun i j => .bl (decide (j < i))) x y H Q ∨ rOrdP K (fun p q => PySem.W.dataLt q p) x y H Q
def rGeA (K : Kf) : R2 := fun x y H Q => (rI0 fun i j => .bl (decide (j ≤ i))) x y H Q ∨ rOrdP K (fun p q => !PySem.W.dataLt p q) x y H Q
theorem k_eq (C : Cxt X P w KX K mg base n E) : KOk2 K mg E true (rEqP X.K false) (kV2 (bin2 pEq)) := (k_v2 (ok_eqP C.upX))
theorem o_eq (C : Cxt X P w KX K mg base n E) : OpR X (compareOp .Eq) (rEqP X.K false) := op_eqP C.hu200
theorem q_eq (C : Cxt X P w KX K mg base n E) (h1 : DE X K mg E a pa ta ga) (h2 : DE X K mg E b pb tb gb) (hm : behindInMarks .Eq b = false := by rfl) : DE X K mg E (.Compare a [.Eq] [b] pos) (pa && (pb && true)) (tOp (rEqP KX false) ta tb) (dBin pb ga gb (kV2 (bin2 pEq))) := by
  rw [← C.hK]
  exact de_cmp (o_eq C) (k_eq C) h1 h2 hm
theorem t_eq (C : Cxt X P w KX K mg base n E) (h1 : DE X K mg E a pa ta ga) (h2 : DE X K mg E b pb tb gb) (hm : behindInMarks .Eq b = false := by rfl) : DT X K mg E (.Compare a [.Eq] [b] pos) (pa && (pb && true)) (tTest (tOp (rEqP KX false) ta tb)) (dTest (dBin pb ga gb (kV2 (bin2 pEq)))) := by
  rw [← C.hK]
  exact dt_cmp (o_eq C) (k_eq C) h1 h2 hm
theorem k_ne (C : Cxt X P w KX K mg base n E) : KOk2 K mg E true (rEqP X.K true) (kV2 (bin2 pNe)) := (k_v2 (ok_neP C.upX))
theorem o_ne (C : Cxt X P w KX K mg base n E) : OpR X (compareOp .NotEq) (rEqP X.K true) := op_neP C.hu200
theorem q_ne (C : Cxt X P w KX K mg base n E) (h1 : DE X K mg E a pa ta ga) (h2 : DE X K mg E b pb tb gb) (hm : behindInMarks .NotEq b = false := by rfl) : DE X K mg E (.Compare a [.NotEq] [b] pos) (pa && (pb && true)) (tOp (rEqP KX true) ta tb) (dBin pb ga gb (kV2 (bin2 pNe))) := by
  rw [← C.hK]
  exact de_cmp (o_ne C) (k_ne C) h1 h2 hm
theorem t_ne (C : Cxt X P w KX K mg base n E) (h1 : DE X K mg E a pa ta ga) (h2 : DE X K mg E b pb tb gb) (hm : behindInMarks .NotEq b = false := by rfl) : DT X K mg E (.Compare a [.NotEq] [b] pos) (pa && (pb && true)) (tTest (tOp (rEqP KX true) ta tb)) (dTest (dBin pb ga gb (kV2 (bin2 pNe)))) := by
  rw [← C.hK]
  exact dt_cmp (o_ne C) (k_ne C) h1 h2 hm
theorem k_lt (C : Cxt X P w KX K mg base n E) : KOk2 K mg E true (rLtA X.K) (kV2 (pLt)) := (k_v2 (ok_or (ok_int20 fun _ _ _ => rfl) (ok_ordP C.upX _)))
theorem o_lt (C : Cxt X P w KX K mg base n E) : OpR X (compareOp .Lt) (rLtA X.K) := op_ltR C.hu200
theorem q_lt (C : Cxt X P w KX K mg base n E) (h1 : DE X K mg E a pa ta ga) (h2 : DE X K mg E b pb tb gb) (hm : behindInMarks .Lt b = false := by rfl) : DE X K mg E (.Compare a [.Lt] [b] pos) (pa && (pb && true)) (tOp (rLtA KX) ta tb) (dBin pb ga gb (kV2 (pLt))) := by
  rw [← C.hK]
  exact de_cmp (o_lt C) (k_lt C) h1 h2 hm
theorem t_lt (C : Cxt X P w KX K mg base n E) (h1 : DE X K mg E a pa ta ga) (h2 : DE X K mg E b pb tb gb) (hm : behindInMarks .Lt b = false := by rfl) : DT X K mg E (.Compare a [.Lt] [b] pos) (pa && (pb && true)) (tTest (tOp (rLtA KX) ta tb)) (dTest (dBin pb ga gb (kV2 (pLt)))) := by
  rw [← C.hK]
  exact dt_cmp (o_lt C) (k_lt C) h1 h2 hm
theorem k_le (C : Cxt X P w KX K mg base n E) : KOk2 K mg E true (rLeA X.K) (kV2 (pLe)) := (k_v2 (ok_or (ok_int20 fun _ _ _ => rfl) (ok_ordP C.upX _)))
theorem o_le (C : Cxt X P w KX K mg base n E) : OpR X (compareOp .LtE) (rLeA X.K) := op_leR C.hu200
theorem q_le (C : Cxt X P w KX K mg base n E) (h1 : DE X K mg E a pa ta ga) (h2 : DE X K mg E b pb tb gb) (hm : behindInMarks .LtE b = false := by rfl) : DE X K mg E (.Compare a [.LtE] [b] pos) (pa && (pb && true)) (tOp (rLeA KX) ta tb) (dBin pb ga gb (kV2 (pLe))) := by
  rw [← C.hK]
  exact de_cmp (o_le C) (k_le C) h1 h2 hm
theorem t_le (C : Cxt X P w KX K mg base n E) (h1 : DE X K mg E a pa ta ga) (h2 : DE X K mg E b pb tb gb) (hm : behindInMarks .LtE b = false := by rfl) : DT X K mg E (.Compare a [.LtE] [b] pos) (pa && (pb && true)) (tTest (tOp (rLeA KX) ta tb)) (dTest (dBin pb ga gb (kV2 (pLe)))) := by
  rw [← C.hK]
  exact dt_cmp (o_le C) (k_le C) h1 h2 hm
theorem k_gt (C : Cxt X P w KX K mg base n E) : KOk2 K mg E true (rGtA X.K) (kV2 (pGt)) := (k_v2 (ok_or (ok_int20 fun _ _ _ => rfl) (ok_ordP C.upX _)))
theorem o_gt (C : Cxt X P w KX K mg base n E) : OpR X (compareOp .Gt) (rGtA X.K) := op_gtR C.hu200
theorem q_gt (C : Cxt X P w KX K mg base n E) (h1 : DE X K mg E a pa ta ga) (h2 : DE X K mg E b pb tb gb) (hm : behindInMarks .Gt b = false := by rfl) : DE X K mg E (.Compare a [.Gt] [b] pos) (pa && (pb && true)) (tOp (rGtA KX) ta tb) (dBin pb ga gb (kV2 (pGt))) := by
  rw [← C.hK]
  exact de_cmp (o_gt C) (k_gt C) h1 h2 hm
theorem t_gt (C : Cxt X P w KX K mg base n E) (h1 : DE X K mg E a pa ta ga) (h2 : DE X K mg E b pb tb gb) (hm : behindInMarks .Gt b = false := by rfl) : DT X K mg E (.Compare a [.Gt] [b] pos) (pa && (pb && true)) (tTest (tOp (rGtA KX) ta tb)) (dTest (dBin pb ga gb (kV2 (pGt)))) := by
  rw [← C.hK]
  exact dt_cmp (o_gt C) (k_gt C) h1 h2 hm
theorem k_ge (C : Cxt X P w KX K mg base n E) : KOk2 K mg E true (rGeA X.K) (kV2 (pGe)) := (k_v2 (ok_or (ok_int20 fun _ _ _ => rfl) (ok_ordP C.upX _)))
theorem o_ge (C : Cxt X P w KX K mg base n E) : OpR X (compareOp .GtE) (rGeA X.K) := op_geR C.hu200
theorem q_ge (C : Cxt X P w KX K mg base n E) (h1 : DE X K mg E a pa ta ga) (h2 : DE X K mg E b pb tb gb) (hm : behindInMarks .GtE b = false := by rfl) : DE X K mg E (.Compare a [.GtE] [b] pos) (pa && (pb && true)) (tOp (rGeA KX) ta tb) (dBin pb ga gb (kV2 (pGe))) := by
  rw [← C.hK]
  exact de_cmp (o_ge C) (k_ge C) h1 h2 hm
theorem t_ge (C : Cxt X P w KX K mg base n E) (h1 : DE X K mg E a pa ta ga) (h2 : DE X K mg E b pb tb gb) (hm : behindInMarks .GtE b = false := by rfl) : DT X K mg E (.Compare a [.GtE] [b] pos) (pa && (pb && true)) (tTest (tOp (rGeA KX) ta tb)) (dTest (dBin pb ga gb (kV2 (pGe)))) := by
  rw [← C.hK]
  exact dt_cmp (o_ge C) (k_ge C) h1 h2 hm
theorem k_in (C : Cxt X P w KX K mg base n E) : KOk2 K mg E true (rInA X.K) (kV2 (pInA)) := (k_v2 (ok_inA C.upX))
theorem o_in (C : Cxt X P w KX K mg base n E) : OpR X (compareOp .In) (rInA X.K) := op_inA C.hu200
theorem q_in (C : Cxt X P w KX K mg base n E) (h1 : DE X K mg E a pa ta ga) (h2 : DE X K mg E b pb tb gb) (hm : behindInMarks .In b = false := by rfl) : DE X K mg E (.Compare a [.In] [b] pos) (pa && (pb && true)) (tOp (rInA KX) ta tb) (dBin pb ga gb (kV2 (pInA))) := by
  rw [← C.hK]
  exact de_cmp (o_in C) (k_in C) h1 h2 hm
theorem t_in (C : Cxt X P w KX K mg base n E) (h1 : DE X K mg E a pa ta ga) (h2 : DE X K mg E b pb tb gb) (hm : behindInMarks .In b = false := by rfl) : DT X K mg E (.Compare a [.In] [b] pos) (pa && (pb && true)) (tTest (tOp (rInA KX) ta tb)) (dTest (dBin pb ga gb (kV2 (pInA)))) := by
  rw [← C.hK]
  exact dt_cmp (o_in C) (k_in C) h1 h2 hm
theorem k_nin (C : Cxt X P w KX K mg base n E) : KOk2 K mg E true (rNotInA X.K) (kV2 (pNotInA)) := (k_v2 (ok_notInA C.upX))
theorem o_nin (C : Cxt X P w KX K mg base n E) : OpR X (compareOp .NotIn) (rNotInA X.K) := op_notInA C.hu200
theorem q_nin (C : Cxt X P w KX K mg base n E) (h1 : DE X K mg E a pa ta ga) (h2 : DE X K mg E b pb tb gb) (hm : behindInMarks .NotIn b = false := by rfl) : DE X K mg E (.Compare a [.NotIn] [b] pos) (pa && (pb && true)) (tOp (rNotInA KX) ta tb) (dBin pb ga gb (kV2 (pNotInA))) := by
  rw [← C.hK]
  exact de_cmp (o_nin C) (k_nin C) h1 h2 hm
theorem t_nin (C : Cxt X P w KX K mg base n E) (h1 : DE X K mg E a pa ta ga) (h2 : DE X K mg E b pb tb gb) (hm : behindInMarks .NotIn b = false := by rfl) : DT X K mg E (.Compare a [.NotIn] [b] pos) (pa && (pb && true)) (tTest (tOp (rNotInA KX) ta tb)) (dTest (dBin pb ga gb (kV2 (pNotInA)))) := by
  rw [← C.hK]
  exact dt_cmp (o_nin C) (k_nin C) h1 h2 hm
theorem q_is (h1 : DE X K mg E a pa ta ga) (h2 : DE X K mg E b pb tb gb) (hm : behindInMarks .Is b = false := by rfl) : DE X K mg E (.Compare a [.Is] [b] pos) (pa && (pb && true)) (tOp rIsN ta tb) (dBin pb ga gb (kV2 (pIsN false))) := de_cmp op_isN (k_v2 ok_isN) h1 h2 hm
theorem t_is (h1 : DE X K mg E a pa ta ga) (h2 : DE X K mg E b pb tb gb) (hm : behindInMarks .Is b = false := by rfl) : DT X K mg E (.Compare a [.Is] [b] pos) (pa && (pb && true)) (tTest (tOp rIsN ta tb)) (dTest (dBin pb ga gb (kV2 (pIsN false)))) := dt_cmp op_isN (k_v2 ok_isN) h1 h2 hm
theorem q_isnt (h1 : DE X K mg E a pa ta ga) (h2 : DE X K mg E b pb tb gb) (hm : behindInMarks .IsNot b = false := by rfl) : DE X K mg E (.Compare a [.IsNot] [b] pos) (pa && (pb && true)) (tOp rNotN ta tb) (dBin pb ga gb (kV2 (pIsN true))) := de_cmp op_notN (k_v2 ok_notN) h1 h2 hm
theorem t_isnt (h1 : DE X K mg E a pa ta ga) (h2 : DE X K mg E b pb tb gb) (hm : behindInMarks .IsNot b = false := by rfl) : DT X K mg E (.Compare a [.IsNot] [b] pos) (pa && (pb && true)) (tTest (tOp rNotN ta tb)) (dTest (dBin pb ga gb (kV2 (pIsN true)))) := dt_cmp op_notN (k_v2 ok_notN) h1 h2 hm
theorem q_chain (C : Cxt X P w KX K mg base n E) {op op' : CmpOp} {r r' : Kf → R2} {k k' : M → EV → EV → Out EV} {pc : Bool} {c : Expr} (ho : OpR X (compareOp op) (r X.K)) (ho' : OpR X (compareOp op') (r' X.K)) (hk : KOk2 K mg E true (r X.K) k) (hk' : KOk2 K mg E true (r' X.K) k') (h1 : DE X K mg E a pa ta ga) (h2 : DE X K mg E b pb tb gb) (h3 : DE X K mg E c pc tc gc) (hm : lastMarks [op, op'] [b, c] = false := by with_unfolding_all rfl) : DE X K mg E (.Compare a [op, op'] [b, c] pos) (pa && (pb && pc)) (tChain (r KX) (r' KX) ta tb tc) (dChain pb pc ga gb gc k k') := by
  rw [← C.hK]
  exact de_chain ho ho' hk hk' h1 h2 h3 hm
/-! ### builtins in short -/
variable {t : TA} {gs : M → Out (List EV)}
theorem q_len (C : Cxt X P w KX K mg base n E) (hm : mg "len" = none) (ha : DA X K mg E (e :: es) pb t gs) (hg : Gl X "len" := by rfl) (he : starEach (e :: es) X.env = (false, eval e X.env) :: starEach es X.env := by rfl) (hpl : (backTo pos (starEach es X.env)).any (·.1) = false := by rfl) (hv : bootBuiltins "len" = some (.builtin "len") := by decide +kernel) : DE X K mg E (.Call (.Name "len" p) (e :: es) [] pos) (pb && true) (tCB (rLenA KX) t) (dApp gs (kVN pLen)) := by
  rw [← C.hK]
  exact de_b C call_lenA ok_len hm hv ha hg (by decide) (by decide) he hpl
theorem q_list (C : Cxt X P w KX K mg base n E) (hm : mg "list" = none) (ha : DA X K mg E (e :: es) pb t gs) (hg : Gl X "list" := by rfl) (he : starEach (e :: es) X.env = (false, eval e X.env) :: starEach es X.env := by rfl) (hpl : (backTo pos (starEach es X.env)).any (·.1) = false := by rfl) (hv : bootBuiltins "list" = some (.type "list") := by decide +kernel) : DE X K mg E (.Call (.Name "list" p) (e :: es) [] pos) (pb && true) (tCB (rListOf KX) t) (dApp gs (kVN pList)) := by
  rw [← C.hK]
  exact de_bt C call_list_of ok_list hm hv ha hg (by decide) (by decide) he hpl
theorem q_tuple (C : Cxt X P w KX K mg base n E) (hm : mg "tuple" = none) (ha : DA X K mg E (e :: es) pb t gs) (hg : Gl X "tuple" := by rfl) (he : starEach (e :: es) X.env = (false, eval e X.env) :: starEach es X.env := by rfl) (hpl : (backTo pos (starEach es X.env)).any (·.1) = false := by rfl) (hv : bootBuiltins "tuple" = some (.type "tuple") := by decide +kernel) : DE X K mg E (.Call (.Name "tuple" p) (e :: es) [] pos) (pb && true) (tCB (rTupleOf KX) t) (dApp gs (kVN pTuple)) := by
  rw [← C.hK]
  exact de_bt C call_tuple_of ok_tuple hm hv ha hg (by decide) (by decide) he hpl
theorem q_any (C : Cxt X P w KX K mg base n E) (hm : mg "any" = none) (ha : DA X K mg E (e :: es) pb t gs) (hg : Gl X "any" := by rfl) (he : starEach (e :: es) X.env = (false, eval e X.env) :: starEach es X.env := by rfl) (hpl : (backTo pos (starEach es X.env)).any (·.1) = false := by rfl) (hv : bootBuiltins "any" = some (.builtin "any") := by decide +kernel) : DE X K mg E (.Call (.Name "any" p) (e :: es) [] pos) (pb && true) (tCB (rAny KX) t) (dApp gs (kVN pAny)) := by
  rw [← C.hK]
  exact de_b C (cr_any C.calm) ok_any hm hv ha hg (by decide) (by decide) he hpl
theorem q_all (C : Cxt X P w KX K mg base n E) (hm : mg "all" = none) (ha : DA X K mg E (e :: es) pb t gs) (hg : Gl X "all" := by rfl) (he : starEach (e :: es) X.env = (false, eval e X.env) :: starEach es X.env := by rfl) (hpl : (backTo pos (starEach es X.env)).any (·.1) = false := by rfl) (hv : bootBuiltins "all" = some (.builtin "all") := by decide +kernel) : DE X K mg E (.Call (.Name "all" p) (e :: es) [] pos) (pb && true) (tCB (rAll KX) t) (dApp gs (kVN pAll)) := by
  rw [← C.hK]
  exact de_b C (cr_all C.calm) ok_all hm hv ha hg (by decide) (by decide) he hpl
theorem q_sum (C : Cxt X P w KX K mg base n E) (hm : mg "sum" = none) (ha : DA X K mg E (e :: es) pb t gs) (hg : Gl X "sum" := by rfl) (he : starEach (e :: es) X.env = (false, eval e X.env) :: starEach es X.env := by rfl) (hpl : (backTo pos (starEach es X.env)).any (·.1) = false := by rfl) (hv : bootBuiltins "sum" = some (.builtin "sum") := by decide +kernel) : DE X K mg E (.Call (.Name "sum" p) (e :: es) [] pos) (pb && true) (tCB (rSum KX) t) (dApp gs (kVN pSum)) := by
  rw [← C.hK]
  exact de_b C (cr_sum C.calm) ok_sum hm hv ha hg (by decide) (by decide) he hpl
theorem q_max2 (C : Cxt X P w KX K mg base n E) (hm : mg "max" = none) (ha : DA X K mg E (e :: es) pb t gs) (hg : Gl X "max" := by rfl) (he : starEach (e :: es) X.env = (false, eval e X.env) :: starEach es X.env := by rfl) (hpl : (backTo pos (starEach es X.env)).any (·.1) = false := by rfl) (hv : bootBuiltins "max" = some (.builtin "max") := by decide +kernel) : DE X K mg E (.Call (.Name "max" p) (e :: es) [] pos) (pb && true) (tCB ((fun xs H Q => ∃ i j, xs = [V.int i, .int j] ∧ Q (.int (if j > i then j else i)) H)) t) (dApp gs (kVN pMax2)) := by
  skip
  exact de_b C (call_max2 C.calm) ok_max2 hm hv ha hg (by decide) (by decide) he hpl
theorem q_min2 (C : Cxt X P w KX K mg base n E) (hm : mg "min" = none) (ha : DA X K mg E (e :: es) pb t gs) (hg : Gl X "min" := by rfl) (he : starEach (e :: es) X.env = (false, eval e X.env) :: starEach es X.env := by rfl) (hpl : (backTo pos (starEach es X.env)).any (·.1) = false := by rfl) (hv : bootBuiltins "min" = some (.builtin "min") := by decide +kernel) : DE X K mg E (.Call (.Name "min" p) (e :: es) [] pos) (pb && true) (tCB (rMin2) t) (dApp gs (kVN pMin2)) := by
  skip
  exact de_b C (call_min2 C.calm) ok_min2 hm hv ha hg (by decide) (by decide) he hpl
theorem q_max3 (C : Cxt X P w KX K mg base n E) (hm : mg "max" = none) (ha : DA X K mg E (e :: es) pb t gs) (hg : Gl X "max" := by rfl) (he : starEach (e :: es) X.env = (false, eval e X.env) :: starEach es X.env := by rfl) (hpl : (backTo pos (starEach es X.env)).any (·.1) = false := by rfl) (hv : bootBuiltins "max" = some (.builtin "max") := by decide +kernel) : DE X K mg E (.Call (.Name "max" p) (e :: es) [] pos) (pb && true) (tCB (rMax3) t) (dApp gs (kVN pMax3)) := by
  skip
  exact de_b C (call_max3 C.calm) ok_max3 hm hv ha hg (by decide) (by decide) he hpl
theorem q_abs (C : Cxt X P w KX K mg base n E) (hm : mg "abs" = none) (ha : DA X K mg E (e :: es) pb t gs) (hg : Gl X "abs" := by rfl) (he : starEach (e :: es) X.env = (false, eval e X.env) :: starEach es X.env := by rfl) (hpl : (backTo pos (starEach es X.env)).any (·.1) = false := by rfl) (hv : bootBuiltins "abs" = some (.builtin "abs") := by decide +kernel) : DE X K mg E (.Call (.Name "abs" p) (e :: es) [] pos) (pb && true) (tCB ((fun xs H Q => ∃ i, xs = [V.int i] ∧ Q (.int (if i < 0 then -i else i)) H)) t) (dApp gs (kVN pAbs)) := by
  skip
  exact de_b C call_abs ok_abs hm hv ha hg (by decide) (by decide) he hpl
theorem q_int (C : Cxt X P w KX K mg base n E) (hm : mg "int" = none) (ha : DA X K mg E (e :: es) pb t gs) (hg : Gl X "int" := by rfl) (he : starEach (e :: es) X.env = (false, eval e X.env) :: starEach es X.env := by rfl) (hpl : (backTo pos (starEach es X.env)).any (·.1) = false := by rfl) (hv : bootBuiltins "int" = some (.type "int") := by decide +kernel) : DE X K mg E (.Call (.Name "int" p) (e :: es) [] pos) (pb && true) (tCB ((fun xs H Q => (∃ i, xs = [V.int i] ∧ Q (.int i) H) ∨ ∃ k, xs = [V.bl k] ∧ Q (.int (if k then 1 else 0)) H)) t) (dApp gs (kVN pInt)) := by
  skip
  exact de_bt C call_int1 ok_int hm hv ha hg (by decide) (by decide) he hpl
theorem q_sorted (C : Cxt X P w KX K mg base n E) (hm : mg "sorted" = none) (ha : DA X K mg E (e :: es) pb t gs) (hg : Gl X "sorted" := by rfl) (he : starEach (e :: es) X.env = (false, eval e X.env) :: starEach es X.env := by rfl) (hpl : (backTo pos (starEach es X.env)).any (·.1) = false := by rfl) (hv : bootBuiltins "sorted" = some (.builtin "sorted") := by decide +kernel) : DE X K mg E (.Call (.Name "sorted" p) (e :: es) [] pos) (pb && true) (tCB (rSortD K) t) (dApp gs (kVN pSorted)) := by
  skip
  exact de_b C (call_sortD C.upX C.hu200) ok_sorted hm hv ha hg (by decide) (by decide) he hpl
theorem q_dict (C : Cxt X P w KX K mg base n E) (hm : mg "dict" = none) (ha : DA X K mg E (e :: es) pb t gs) (hg : Gl X "dict" := by rfl) (he : starEach (e :: es) X.env = (false, eval e X.env) :: starEach es X.env := by rfl) (hpl : (backTo pos (starEach es X.env)).any (·.1) = false := by rfl) (hv : bootBuiltins "dict" = some (.type "dict") := by decide +kernel) : DE X K mg E (.Call (.Name "dict" p) (e :: es) [] pos) (pb && true) (tCB (rDictP KX) t) (dApp gs (kVN pDictP)) := by
  rw [← C.hK]
  exact de_bt C (call_dictP C.calm) ok_dictP hm hv ha hg (by decide) (by decide) he hpl
theorem q_repr (C : Cxt X P w KX K mg base n E) (gd : X.A.guards = some []) (hm : mg "repr" = none) (ha : DA X K mg E (e :: es) pb t gs) (hg : Gl X "repr" := by rfl) (he : starEach (e :: es) X.env = (false, eval e X.env) :: starEach es X.env := by rfl) (hpl : (backTo pos (starEach es X.env)).any (·.1) = false := by rfl) (hv : bootBuiltins "repr" = some (.builtin "repr") := by decide +kernel) : DE X K mg E (.Call (.Name "repr" p) (e :: es) [] pos) (pb && true) (tCB (rRepr KX) t) (dApp gs (kVN pRepr)) := by
  rw [← C.hK]
  exact de_b C (call_reprD gd C.hu200) (ok_repr C.upX) hm hv ha hg (by decide) (by decide) he hpl
theorem ds_setLc (C : Cxt X P w KX K mg base n E) (i : Nat) {y : Str} {py spos : Pos} {elt tg iter : Expr} {ifs : List Expr} {scope : Scope} (own : List (Str × Nat)) {wi : TI} {gi : M → Out Wk} {g : TG} {bg : EV → M → Out Unit} {tt : TT} {gt : M → Out Bool} (hi : DI X K mg E tg iter wi gi) (ok : BlkOk X.N X.env.scope scope own)
    (hg : ∀ (s : Shared) (H : Hp) (Ca : Addr) (cl : List (Str × Addr)) (fp : List Addr), Cxt (X.blk s H scope (compEnvC scope cl Ca X.env) fp) P w KX K mg base n XS0 → DG (X.blk s H scope (compEnvC scope cl Ca X.env) fp) K tg g bg) (ho : OwnT' g (own.map (·.2)))
    (ht : ∀ (s : Shared) (H : Hp) (Ca : Addr) (cl : List (Str × Addr)) (fp : List Addr), Cxt (X.blk s H scope (compEnvC scope cl Ca X.env) fp) P w KX K mg base n XS0 → DTs (X.blk s H scope (compEnvC scope cl Ca X.env) fp) K mg XS0 ifs pb tt gt)
    (he : ∀ (s : Shared) (H : Hp) (Ca : Addr) (cl : List (Str × Addr)) (fp : List Addr), Cxt (X.blk s H scope (compEnvC scope cl Ca X.env) fp) P w KX K mg base n XS0 → DE (X.blk s H scope (compEnvC scope cl Ca X.env) fp) K mg XS0 elt pa te ge)
    (hy : X.N[i]? = some y := by rfl) (hyl : X.env.scope.names.lookup y = some .local := by rfl) (hsw : swapsWith (.ListComp elt [⟨tg, iter, ifs, 0⟩] scope pos) (some (.Name y py)) spos.line X.env = pure true := by rfl) (nd : (own.map (·.2)).Nodup := by decide) (hs : ∀ x, foldedSetIterable iter X.env x = pure x := by intro _; rfl) :
    DS X K mg E (.Assign [.Name y py] (.ListComp elt [⟨tg, iter, ifs, 0⟩] scope pos) spos) (tAsg (tLc wi g tt te (own.map (·.2))) (gName i)) (dAsg (dComp gi (own.map (·.2)) bg gt ge) (bName i)) := by
  have s0 : Shared := {}
  have Cb := fun (s : Shared) (H : Hp) (Ca : Addr) (cl : List (Str × Addr)) (fp : List Addr) => C.blk s H scope (compEnvC scope cl Ca X.env) fp
  refine ⟨ps_setLc C.calm C.nd hy hyl hsw hi.pe ok (fun s H Ca cl fp => (hg s H Ca cl fp (Cb s H Ca cl fp)).pe) (fun s H Ca cl fp => (ht s H Ca cl fp (Cb s H Ca cl fp)).pe) (fun s H Ca cl fp => (he s H Ca cl fp (Cb s H Ca cl fp)).pe) hs, ?_⟩
  exact ts_asg (te_comp hi.ok (hg s0 (fun _ => none) 0 [] [] (Cb _ _ _ _ _)).ok ho (ht s0 (fun _ => none) 0 [] [] (Cb _ _ _ _ _)).ok (he s0 (fun _ => none) 0 [] [] (Cb _ _ _ _ _)).ok nd) tg_name
end
/-! ### the empty list: nothing that stands is changed -/
section
variable {X : Cx} {K : Kf} {mg : Str → Option Value} {E : XS}
def kLst0 (m : M) (es : List EV) : Out EV := match es with
  | [] => .ok (.fr (.ol [])) m
  | _ => .bad
theorem k_lst0 : KOkN K mg E true (fun _ xs H Q => xs.length ≤ sizeLine ∧ ∀ p, H p = none → Q (.ref p) (upd H p (.lst xs))) kLst0 := fun F0 G π m σ F H fp Q xs es S h p => by
  cases h with
  | cons _ _ => exact p.elim
  | nil =>
    refine ⟨Nat.zero_le _, fun q hq => ?_⟩
    have f := S.freshG hq
    refine p (.ref q) F _ fp (S.allocO (.lst []) hq) ⟨Same.refl F, fun _ => ⟨rfl, rfl, same_new hq, fun _ h => .inl h⟩⟩ ⟨[q], ⟨q, [], [], rfl, upd_same, ⟨rfl, rfl⟩, rfl⟩, List.nodup_cons.mpr ⟨by simp, List.nodup_nil⟩, fun a ha => ?_⟩
    obtain rfl : a = q := by simpa using ha
    exact ⟨f.1, f.2.1, f.2.2, fun _ => hq⟩
theorem de_lst0 {pos : Pos} : DE X K mg E (.List [] pos) true (tLst tNil) (dApp dNil kLst0) := ⟨pe_lst pa_nil, te_app ta_nil (k_lst0 (K := K) (mg := mg) (E := E))⟩
end
end PD
namespace PD
open PySem PySem.Spec PyProof.Rows L2
theorem kit_ref {K : Kf} {C R : Addr} (h1 : PySem.W.hasDictIn K R = true) (h2 : PySem.W.typeIn K (.ref R) = some (.type "type")) (h3 : PySem.W.subIn K (.ref C) (.ref R) = some true) : PySem.W.kitOne K (.ref C) (.ref R) = some true := by
  obtain ⟨cd, hc, _⟩ := PySem.W.any_some h1
  unfold PySem.W.kitOne
  split
  · rfl
  · have e2 : ((PySem.W.clsIn K R).isSome && PySem.W.typeIn K (.ref R) == some (.type "type")) = true := by rw [hc, h2] <;> rfl
    show (if ((PySem.W.clsIn K R).isSome && PySem.W.typeIn K (.ref R) == some (.type "type")) = true then PySem.W.subIn K (.ref C) (.ref R) else none) = some true
    rw [if_pos e2]
    exact h3
/-! ## the law's own call: its promise is wanted at the caller alone -/
theorem law_callA {P : Program} {w : World} {K : Kf} {mg mb : Str → Option Value} {CT : CXT} {fa a : Addr} {s1 : Shared} {vs : List Value} {ns : List Int}
    (KX : K.In s1.heap) (hns : s1.heap.Ns mainGlobals mg) (hb : s1.heap.Ns builtinsNs mb) (hbb : ∀ x : Str, x ≠ "__name__" → mb x = bootBuiltins x) (hlim : s1.heap.NoLimit) (hg : s1.gens = #[])
    (ha : s1.heap.get? a = some { cls := .type "list", data := .seq vs.toArray }) (hi : IntsAre vs ns) (hl : ns.length ≤ sizeLine)
    (hX : ∀ H e s', CT [] H s1 (fun _ _ _ => False) e s' → False)
    (F : ∀ base : Heap, K.In base → base.Ns mainGlobals mg → ∀ H : Hp, Env0 P w K mg base callerA [] s1 H → SqL K H a (ns.map V.int) → codeAny (model P w) callerA (.call (.ref fa) ⟨[.ref a], []⟩) (CR CT [] P w H s1 (fun v _ => v = .bl true) fun _ _ _ => False) s1) :
    codeAny (model P w) callerA (.call (.ref fa) ⟨[.ref a], []⟩) (fun r s' => r = .ok (.ret (.bool true)) ∧ OldK s1.heap s'.heap ∧ s'.os = s1.os ∧ AllBare s'.gens) s1 := by
  have rv := vals_ints hi
  -- H tracks the script at most, frozen
  suffices main : ∀ H : Hp, (∀ b, H b = none ∨ b = a ∧ ∃ o xs, H b = some (.frz o (.lst xs))) → SqL K H a (ns.map V.int) → HOk P w H s1.heap → (H a ≠ none → K.lookup a = none) →
      codeAny (model P w) callerA (.call (.ref fa) ⟨[.ref a], []⟩) (fun r s' => r = .ok (.ret (.bool true)) ∧ OldK s1.heap s'.heap ∧ s'.os = s1.os ∧ AllBare s'.gens) s1 by
    by_cases hk : K.lookup a = none
    · let ob : Obj := { cls := .type "list", data := .seq vs.toArray }
      let Hs : Hp := fun b => if b = a then some (.frz ob (.lst (ns.map V.int))) else none
      have at_a : Hs a = some (.frz ob (.lst (ns.map V.int))) := if_pos rfl
      refine main Hs (fun b => ?_) (.inl (.inr ⟨ob, at_a⟩)) (fun b u z => ?_) fun _ => hk
      · by_cases hb : b = a
        · exact .inr ⟨hb, ob, _, by rw [hb]; exact at_a⟩
        · exact .inl (if_neg hb)
      · by_cases hb : b = a
        · subst hb
          cases at_a.symm.trans z
          exact ⟨ha, by rw [List.length_map]; exact hl, vs, _, rv, ha⟩
        · exact nomatch (show (none : Option HO) = some u from (if_neg hb).symm.trans z)
    · obtain ⟨o, hk⟩ := Option.ne_none_iff_exists'.mp hk
      have e := KX a o hk
      rw [ha] at e
      cases e
      exact main (fun _ => none) (fun _ => .inl rfl) (.inr ⟨_, vs.toArray, _, hk, rfl, rfl, rfl, by rw [List.size_toArray, hi.length]; exact hl, by simpa using rv⟩) (fun b u z => nomatch (show (none : Option HO) = some u from z)) fun z => absurd rfl z
  intro H only hS hok hK
  have lone : ∀ b, H b ≠ none → b = a := fun b n => (only b).elim (fun z => absurd z n) fun z => z.1
  have through : ∀ {b : Addr} {o : Obj}, s1.heap.get? b = some o → H b = none → (hidT s1.heap H).get? b = some o := fun e n => hidT_get e n
  have free_dict : ∀ {b : Addr} {o : Obj} {es : Array DictEntry} {ep : Nat}, s1.heap.get? b = some o → o.data = .dict es ep → H b = none := fun {b o es ep} e d => by
    cases q : H b with
    | none => rfl
    | some u =>
      cases lone b (by rw [q]; simp)
      rw [ha] at e; cases e
      exact nomatch (show Data.seq vs.toArray _ = Data.dict es ep from d)
  have spaces : ∀ {b : Addr} {m : Str → Option Value}, s1.heap.Ns b m → (hidT s1.heap H).Ns b m := fun {b m} ⟨o, es, ep, e, d, r⟩ => ⟨o, es, ep, through e (free_dict e d), d, r⟩
  have kin : K.In (hidT s1.heap H) := fun b o e => through (KX b o e) (by
    cases q : H b with
    | none => rfl
    | some u =>
      cases lone b (by rw [q]; simp)
      rw [hK (by rw [q]; simp)] at e; cases e)
  have md : Mod K mg (hidT s1.heap H) := ⟨kin, spaces hns, ⟨mb, spaces hb, hbb⟩, let ⟨mc, h1, h2⟩ := hlim; ⟨mc, spaces h1, h2⟩⟩
  have e0 : Env0 P w K mg (hidT s1.heap H) callerA [] s1 H := ⟨rfl, md, fun b o e => of_hidT e, Nat.le_of_eq (hidT_size _ _), trivial, fun b hb => absurd (show b ∈ ([] : List Addr) from hb) (by simp), hok, .of_eq hg⟩
  refine codeAny_mono (F _ kin (spaces hns) H e0 hS) fun r s' h => ?_
  match r, h with
  | .error e, h => exact (hX H e s' h).elim
  | .ok .next, h => exact False.elim h
  | .ok .brk, h => exact False.elim h
  | .ok .cont, h => exact False.elim h
  | .ok (.ret u), h =>
    obtain ⟨v, H', os, bare, un, hok', r', q⟩ := h
    have q : v = .bl true := q
    subst q
    obtain rfl : u = Value.bool true := r'
    refine ⟨rfl, OldK.of_keep fun b o e => ?_, os, bare⟩
    rcases only b with q | ⟨_, ob, xs, q⟩
    · exact un.keep b o e q (by intro z; exact absurd (show b ∈ ([] : List Addr) from z) (by simp)) (by simp)
    · obtain ⟨e1, _⟩ := hok b _ q
      obtain ⟨e2, _⟩ := hok' b _ (un.frzs b ob _ q)
      exact (e2.trans e1.symm).trans e
/-- the end: from the head to the law's text -/
theorem walk_pd {l : PySem.W.OpenLaw} {n k : Nat} {q : Program} {loose : List Str} {XP : (Str → Option Value) → Heap → Prop} {YP : World → Heap → Prop} {d : DefRec} {K : Params → Kf} {x fnm qual : Str} {st : Stmt} {N : List Str}
    (hn : l.most = some n) (hn2 : n ≤ sizeLine) (hdf : d.params.defaults = []) (hr : Room (k + 1) callerA) (hY : ∀ (w : World) (h : Heap), YP w h → (K w.params).In h)
    (F : ∀ (w : World) (mg : Str → Option Value) (fa : Addr) (h : Heap), (K w.params).In h → h.Ns mainGlobals mg → mg d.name = some (.ref fa) →
      ∃ fd : FuncData, Fun (K w.params) fnm qual st fa fd ∧ FnScope N [x] (defScope st) ∧ (∀ (s : Shared) (u : Value), BindsTo s fd ⟨[u], []⟩ [(x, u)]) ∧
        ∀ (base : Heap) (cdv : Value) (s : Shared) (H : Hp), (K w.params).In base → base.Ns mainGlobals mg → ∀ (a : Addr) (ns : List Int), ns.length ≤ n → SqL (K w.params) H a (ns.map V.int) →
          Cxt (cxOf (L2.CX l.prog w) l.prog w (K w.params) mg base N qual (defScope st) fa cdv callerA [] s H (fun _ _ _ => False)) l.prog w (K w.params) (K w.params) mg base k (fun _ _ _ _ => False) →
          ∃ t, PSs (cxOf (L2.CX l.prog w) l.prog w (K w.params) mg base N qual (defScope st) fa cdv callerA [] s H (fun _ _ _ => False)) (defBody st) t ∧ t { nx := fun _ _ => V.non = .bl true, rt := fun v _ => v = .bl true } (L2.start N [.ref a]) H) :
    PySem.W.WalkO q loose XP YP l.row.toRowW d [] (fun f vs => PySem.call f vs) := by
  refine Att.attach_call hn hdf fun w s0 s1 mg mb fa o pm cd doc a vs ns G Y ho hd hcd hmg hobj hints hlen hg => ?_
  have KX := hY w _ Y
  obtain ⟨fd, Fn, S, hb, body⟩ := F w mg fa _ KX G.T.g hmg
  refine law_callA (CT := L2.CX l.prog w) KX G.T.g G.T.b G.T.builtins G.T.nolimit hg hobj hints (Nat.le_trans hlen hn2) (fun H e s' h => ?_) fun base kin sp H e0 hS => ?_
  · obtain ⟨_, _, _, _, _, _, _, _, _, _, _, _, z⟩ := h
    exact z
  · obtain ⟨oc, od, kV, doc', pm', an, cdv, ct, osl, rfl, lk, hcd'⟩ := Fn.ex
    refine LamX.run_ofS lk hcd' S (us := [.ref a]) (vs := [.ref a]) hr e0 (hb _ _) (.cons rfl .nil) rfl fun rm => ?_
    have tk : Takes (cxOf (L2.CX l.prog w) l.prog w (K w.params) mg base N qual (defScope st) fa cdv callerA [] s1 H (fun _ _ _ => False)) (fun cls d _ H => False) := takes_of rfl rfl rfl rfl
    obtain ⟨t, h1, h2⟩ := body base cdv s1 H kin sp a ns hlen hS ⟨rfl, rfl, rfl, up_refl _, rfl, rfl, rm, rfl, S.nd, fun σ => passAt tk σ, passes_of rfl, tk⟩
    exact ⟨t, h1, h2⟩
end PD
/-! # PFa: enumerate of a tuple; set of a tuple of ints -/
namespace PD
open PySem PySem.Spec PyProof.Rows L2
open AutoSeq1 (wpAny_loadPart')
/-- enumerate(t): its iterator over the tuple, then the enumerate object -/
theorem meets_enum_tup (l : Addr) (items : Array Value) :
    Meets (Builtin.«enumerate.__new__» ⟨[.type "enumerate", .ref l], []⟩) (fun _ R s => s.heap.IsTuple l items ∧
      R (.ok (.ret (.ref (s.heap.push { cls := .type "tuple_iterator", data := .fields #[.ref l, .int 0 0] }).objs.size)))
        { s with heap := (s.heap.push { cls := .type "tuple_iterator", data := .fields #[.ref l, .int 0 0] }).push { cls := .type "enumerate", data := .fields #[.none, .bool false, .ref s.heap.objs.size, rawInt 0, .none, .none] } }) :=
  .of_wp fun prog w A R s h => by
    obtain ⟨hp, g, d, tk, os⟩ := s; obtain ⟨h1, h⟩ := h
    have hsub := sub_enumerate
    have q1 : ∀ {A' : Around} {E : Value → Shared → Prop} {Q : Value → Shared → Prop}, Q (.ref hp.objs.size) ⟨hp.push { cls := .type "tuple_iterator", data := .fields #[.ref l, .int 0 0] }, g, d, tk, os⟩ → wpAny (model prog w) A' (pyIter (.ref l)) Q E ⟨hp, g, d, tk, os⟩ :=
      fun q => (begins_tuple l items).iter prog w _ _ ⟨hp, g, d, tk, os⟩ _ h1 q
    wp_walk using q1
    refine wpAny_stack_any fun st => wpAny_pure ?_
    split
    · rename_i c _ _ _ _ _
      cases (c == Value.type "enumerate")
      · wp_walk using q1
        exact ⟨_, rfl, h⟩
      · wp_walk using q1
        exact ⟨_, rfl, h⟩
    · wp_walk using q1
      exact ⟨_, rfl, h⟩
section
variable {prog : Program} {w : World} {A : Around} {E : Value → Shared → Prop} {s : Shared}
theorem call_enum_tup {l : Addr} {items : Array Value} {Q : Value → Shared → Prop} (hL : s.heap.IsTuple l items)
    (h : ∀ h', IsEnum h' (s.heap.objs.size + 1) s.heap.objs.size 0 .none → h'.IsTupleIter s.heap.objs.size l 0 → h'.objs.size = s.heap.objs.size + 2 →
      (∀ b o, s.heap.get? b = some o → h'.get? b = some o) → Q (.ref (s.heap.objs.size + 1)) { s with heap := h' }) :
    wpAny (model prog w) A (call (.type "enumerate") [.ref l]) Q E s := by
  refine callType_new F.called_enumerate (by decide) (F.typeCall_enumerate_1 _) (F.newCall_enumerate_1 _) (fun obj => F.args_object_init_2 obj _) F.entry_enumerate_new
    (meets_enum_tup l items) ⟨hL, ?_⟩
  have hz : (s.heap.push { cls := .type "tuple_iterator", data := .fields #[.ref l, .int 0 0] }).objs.size = s.heap.objs.size + 1 := Heap.size_push ..
  show _ ∧ _
  rw [hz]
  have he : IsEnum ((s.heap.push { cls := .type "tuple_iterator", data := .fields #[.ref l, .int 0 0] }).push
      { cls := .type "enumerate", data := .fields #[.none, .bool false, .ref s.heap.objs.size, rawInt 0, .none, .none] }) (s.heap.objs.size + 1) s.heap.objs.size 0 .none := by
    have := Heap.get?_push_size (s.heap.push { cls := .type "tuple_iterator", data := .fields #[.ref l, .int 0 0] })
      (o := { cls := .type "enumerate", data := .fields #[.none, .bool false, .ref s.heap.objs.size, rawInt 0, .none, .none] }) rfl
    rw [hz] at this; exact this
  exact ⟨⟨_, he, rfl⟩, h _ he ⟨_, Heap.get?_push_of_some _ (Heap.get?_push_size _ rfl), rfl, rfl⟩ (by rw [Heap.size_push, hz]) fun b o x => Heap.get?_push_of_some _ (Heap.get?_push_of_some _ x)⟩
end
/-- the tuple at a, each item in a new pair -/
def IteT (K : PySem.W.Frag) (a : Addr) : It :=
  ⟨fun i H => ∃ (xs : List V) (x : V), SqT K H a xs ∧ xs[i]? = some x, fun i H v H' => ∃ T x, v = .ref T ∧ H T = none ∧ H' = upd H T (.tup [.int (i : Nat), x]) ∧ ∀ xs, SqT K H a xs → xs[i]? = some x, fun i H => ∃ xs : List V, SqT K H a xs ∧ xs.length ≤ i⟩
theorem turn_enumT {P : Program} {w : World} {K : PySem.W.Frag} {elts : List Expr} {kk : Nat} {tpos : Pos} (a e it : Addr) (hne' : a ≠ it) (hea : e ≠ a) :
    Turn P w K (.Tuple elts kk tpos) (IteT K a) [e, it] e (fun i h => (∃ old, IsEnum h e it ((i : Nat) : Int) old) ∧ h.IsTupleIter it a i ∧ e ≠ it) where
  mem := by simp
  obj := fun i h st b hb => by
    obtain ⟨⟨old, he⟩, ⟨o, ho, hc, hd⟩, _⟩ := st
    have e' : b = e ∨ b = it := by simpa using hb
    rcases e' with z | z
    · rw [z]; exact ⟨_, he, fun v q => nomatch q⟩
    · rw [z]; exact ⟨o, ho, fun v q => by rw [hd] at q; cases q⟩
  keep := fun i h h' st k => let ⟨⟨old, he⟩, hi, hne⟩ := st; ⟨⟨old, k e (by simp) _ he⟩, hi.at fun o q => k it (by simp) o q, hne⟩
  item := by
    intro X hP hw hK hc i pins s σ H E I hf st hg
    subst hP hw hK
    obtain ⟨⟨old, he⟩, hit, hne⟩ := st
    obtain ⟨xs, x, hq, hx⟩ := hg
    obtain ⟨its, rv, p, hz⟩ := I.tuple hq
    obtain ⟨u, hu, ru⟩ := rv.get hx
    have hel : e < s.heap.objs.size := Heap.lt_size he
    have hil : it < s.heap.objs.size := by obtain ⟨_, q, _⟩ := hit; exact Heap.lt_size q
    have hin : i < its.toArray.size := by
      have : i < its.length := by
        rcases Nat.lt_or_ge i its.length with z | z
        · exact z
        · rw [List.getElem?_eq_none z] at hu; cases hu
      simpa using this
    refine wpAny_pyNext_enum_itemD (Draws.tuple (A := X.A.in1) (by have := I.ok.hd hc; simpa using this) it a hne' its.toArray) he ⟨hit, p⟩ hin hne (fun z => by
      have z' : e = it ∨ e = a := by simpa using z
      rcases z' with z' | z'
      · exact hne z'
      · exact hea z') fun x' h' tk hx' ho st' hT hsz hk => ?_
    have ex : x' = u := by
      have h1 : its[i]? = some x' := by simpa using hx'
      rw [hu] at h1; exact (Option.some.inj h1).symm
    subst ex
    refine ⟨_, rfl, wpAny_letOwnedTupleGo_enum (s := { s with heap := h', toks := tk + 1 }) ho fun h'' he' sb => ?_⟩
    have hT2 : h''.get? s.heap.objs.size = some { cls := .type "tuple", data := .seq #[.int i tk, x'] } := (sb.2 _ (Nat.ne_of_gt hel)).trans hT
    have new : ObjOk X.prog X.w (upd H s.heap.objs.size (.tup [.int (i : Nat), x])) h'' s.heap.objs.size (.tup [.int (i : Nat), x]) :=
      ⟨by show 2 ≤ sizeLine; decide, [.int i tk, x'], .cons ⟨_, rfl⟩ (.cons ru .nil), ⟨_, hT2, rfl, _, rfl⟩⟩
    have I1 : Inv X pins σ (upd H s.heap.objs.size (.tup [.int (i : Nat), x])) { s with heap := h'', toks := tk + 1 } :=
      I.turnedNew (ch := [e, it]) (fun b ob hb q => (sb.2 b (fun z => hb (by simp [z]))).trans (hk b ob (fun z => hb (by simp [z])) (fun z => hb (by simp [z])) q)) hf (Nat.le_refl _) new
    refine ⟨.ref s.heap.objs.size, _, I1, rfl, ⟨_, x, rfl, I.hok.fresh (Nat.le_refl _), rfl, fun ys hy => by rw [I.tuple_inj hy hq]; exact hx⟩, ⟨⟨x', ?_⟩, st'.1.at fun o q => (sb.2 it (Ne.symm hne)).trans q, hne⟩, fun b hb => ?_⟩
    · have e1 : ((i + 1 : Nat) : Int) = (i : Int) + 1 := by omega
      rw [e1]; exact he'
    · have hb' : b < s.heap.objs.size := by
        have e' : b = e ∨ b = it := by simpa using hb
        rcases e' with z | z
        · rw [z]; exact hel
        · rw [z]; exact hil
      rw [upd_ne (Nat.ne_of_lt hb')]
      exact (hf b hb).1
  done := by
    intro X hP hw hK hc i pins s σ H E I hf st hg
    subst hP hw hK
    obtain ⟨⟨old, he⟩, hit, hne⟩ := st
    obtain ⟨xs, hq, hx⟩ := hg
    obtain ⟨its, rv, p, hz⟩ := I.tuple hq
    obtain ⟨f0, f1, f2, f3, f4, f5⟩ := hf it (by simp)
    have hl := rv.length
    have hT : s.TypeIs (.ref e) "enumerate" := ⟨_, he, rfl⟩
    unfold pyNext
    refine wpAny_bind (wpAny_attempt (wpAny_callSpecial?_slot (name := Str.ofString "__next__") hT F.slot_enumerate_next
      (wpAny_call_entry F.slot_enumerate_next hT F.entry_enumerate_next ?_ (F.args_enumerate_next_1 _))))
    show wpAny _ _ (field (.ref e) 2 >>= _) _ _ _
    refine wpAny_bind (wpAny_field he rfl (x := .ref it) rfl ?_)
    refine wpAny_bind (wpAny_nextOf_tuple_end (by have := I.ok.hd hc; simpa using this) hit p (by simp; omega) fun h' x he' hx' => ?_)
    obtain ⟨o, ho, hc'⟩ := hx'
    refine wpAny_bind (wpAny_isInstance (T := "StopIteration") (b := true) ⟨o, ho, hc'⟩ isSubtype_stop ?_)
    exact wpAny_pure ⟨rfl, I.turned (t' := s.toks) (fun b o hb q => he' b o hb q) f0 f1 f3 f4 f5⟩
  self := fun A i s Q E st h => let ⟨⟨_, he⟩, _⟩ := st; wpAny_pyIter_enum he h
/-- enumerate(xs), xs a list or a tuple -/
def iEnumA (K : PySem.W.Frag) (ta : TA) : TI := fun σ H R => ta σ H fun vs H1 => ∃ a xs, vs = [.ref a] ∧ ((SqL K H1 a xs ∧ R (Ite K a) H1) ∨ (SqT K H1 a xs ∧ R (IteT K a) H1))
theorem pi_enumA {X : Cx} {e : Expr} {ta : TA} {p pos tpos : Pos} {elts : List Expr} {kk : Nat} (hg : Gl X "enumerate") (hm : X.mg "enumerate" = none) (ha : PA X [e] ta) (hs : starEach [e] X.env = [(false, eval e X.env)] := by rfl) :
    PI X (.Tuple elts kk tpos) (.Call (.Name "enumerate" p) [e] [] pos) (iEnumA X.K ta) := by
  refine ⟨fun pins s σ H R I h => ?_⟩
  refine Call_ (ld_blt I hg hm boot_enumerate (PyProof.Rows.callWith_type1 (thn (ha.run pos pins s σ H _ I h) fun us s1 ⟨vs, H1, I1, r1, q1⟩ => ?_) hs rfl))
  obtain ⟨a, xs, ex, q1⟩ := q1
  subst ex
  cases r1 with
  | cons r rr =>
    cases rr
    cases r
    have fresh2 : ∀ b, b ∈ [s1.heap.objs.size + 1, s1.heap.objs.size] → FpOk X pins H1 b := fun b hb => by
      have e' : b = s1.heap.objs.size + 1 ∨ b = s1.heap.objs.size := by simpa using hb
      have hle : s1.heap.objs.size ≤ b := by
        rcases e' with z | z
        · rw [z]; exact Nat.le_add_right _ _
        · rw [z]; exact Nat.le_refl _
      exact I1.fpOk hle (I1.hok.fresh hle)
    rcases q1 with ⟨hq, q⟩ | ⟨hq, q⟩
    · obtain ⟨its, rv, p', hz⟩ := I1.list hq
      refine call_enumerate_list p'.isList fun h' he hit hsz hk => wpAny_pyIter_enum he ?_
      have I2 : Inv X pins σ H1 { s1 with heap := h' } := I1.kept (t' := s1.toks) hk
      exact ⟨s1.heap.objs.size + 1, [s1.heap.objs.size + 1, s1.heap.objs.size], _, _, H1, rfl, I2, turn_enum a (s1.heap.objs.size + 1) s1.heap.objs.size, ⟨⟨.none, he⟩, hit, Nat.succ_ne_self _⟩, fresh2, q⟩
    · obtain ⟨its, rv, p', hz⟩ := I1.tuple hq
      obtain ⟨o1, ho1, _⟩ := id p'
      have hal : a < s1.heap.objs.size := Heap.lt_size ho1
      refine call_enum_tup p' fun h' he hit hsz hk => wpAny_pyIter_enum he ?_
      have I2 : Inv X pins σ H1 { s1 with heap := h' } := I1.kept (t' := s1.toks) hk
      exact ⟨s1.heap.objs.size + 1, [s1.heap.objs.size + 1, s1.heap.objs.size], _, _, H1, rfl, I2, turn_enumT a (s1.heap.objs.size + 1) s1.heap.objs.size (Nat.ne_of_lt hal) (Nat.ne_of_gt (Nat.lt_succ_of_lt hal)), ⟨⟨.none, he⟩, hit, Nat.succ_ne_self _⟩, fresh2, q⟩
/-- set(t), t a tuple of ints -/
def rSetTI (K : PySem.W.Frag) (w : World) : List V → Hp → VK → Prop := fun xs H Q => ∃ (l : Addr) (ns : List Int), xs = [V.ref l] ∧ SqT K H l (ns.map V.int) ∧ ns.length < 64 ∧
  ∀ p c, H p = none → c < 64 → Q (.ref p) (upd H p (SetO w p (fun j => decide (j ∈ ns)) c))
theorem cr_setTI {X : Cx} (hc : X.calm = true) : CallR X (.type "set") (rSetTI X.K X.w) := by
  intro pins s σ H xs us Q I r h
  obtain ⟨l, ns, rfl, hl, hf, q⟩ := h
  rw [Vals.ref1 r]
  obtain ⟨its, rv, pl, hz⟩ := I.tuple hl
  have hn : H s.heap.objs.size = none := I.hok.fresh (Nat.le_refl _)
  refine call_set_tupI (P := X.prog) (w := X.w) ns (I.ok.hd hc) pl (by simpa using rv.ints) (by unfold scanBound; omega) fun h' tk c R hcn k => ?_
  exact ⟨.ref s.heap.objs.size, upd H s.heap.objs.size (SetO X.w s.heap.objs.size (fun j => decide (j ∈ ns)) c), I.laid (t' := tk) k (Nat.le_refl _) (setO_new R), rfl, q _ c hn (by omega)⟩
end PD
/-! # PFb: enumerate, zip, setdefault, list of a dict, sorted(set(t)), extend -/
namespace PD
open PySem PySem.Spec PyProof.Rows L2
section
variable {K : Kf} {mg : Str → Option Value} {E : XS} {pa pb pc pu po : Bool} {ta tb to : TE} {ga gb go : M → Out EV}
/-! ### new pairs -/
def pairW (f : Nat → Option (D × D)) (n : Nat) : Prop := True
def enumD (ds : List D) : List D := ds.mapIdx fun i d => .tup [.int (i : Nat), d]
def zipD (xs ys : List D) : List D := (xs.zip ys).map fun p => .tup [p.1, p.2]
theorem enumD_get {ds : List D} {i : Nat} {d : D} (h : (enumD ds)[i]? = some d) : ∃ x, ds[i]? = some x ∧ d = .tup [.int (i : Nat), x] := by
  unfold enumD at h
  rw [List.getElem?_mapIdx] at h
  cases e : ds[i]? with
  | none => rw [e] at h; cases h
  | some x => rw [e] at h; exact ⟨x, rfl, (Option.some.inj h).symm⟩
theorem zipD_get {xs ys : List D} {i : Nat} {d : D} (h : (zipD xs ys)[i]? = some d) : ∃ x y, xs[i]? = some x ∧ ys[i]? = some y ∧ d = .tup [x, y] := by
  unfold zipD at h
  rw [List.getElem?_map] at h
  cases e : (xs.zip ys)[i]? with
  | none => rw [e] at h; cases h
  | some x =>
    rw [e] at h
    have := List.getElem?_zip_eq_some.mp e
    exact ⟨x.1, x.2, this.1, this.2, (Option.some.inj h).symm⟩
theorem pair_grow {F0 G : Hp} {π : List V} {m : M} {σ : L2.St} {F H : Hp} {fp : Ow → List Addr} (S : StF K F0 G π m σ F H fp) {T : Addr} {u v : V} {a b : D} (hT : H T = none) (ha : Rep K F a u) (hb : Rep K F b v) :
    ∃ F2, StF K F0 G π m σ F2 (upd H T (.tup [u, v])) fp ∧ Same F F2 ∧ Same H (upd H T (.tup [u, v])) ∧ (∀ a, F2 a ≠ none → F a ≠ none ∨ H a = none) ∧ Rep K F2 (.tup [a, b]) (.ref T) := by
  have s1 : Same F (upd F T (.tup [u, v])) := same_new (same_none S.sub hT)
  refine ⟨upd F T (.tup [u, v]), S.allocF _ hT, s1, same_new hT, fun x hx => ?_, ⟨T, [u, v], rfl, upd_same, ⟨u, [v], rfl, ha.mono s1 _ _, ⟨v, [], rfl, hb.mono s1 _ _, rfl⟩⟩⟩⟩
  by_cases e : x = T
  · subst e; exact .inr hT
  · rw [upd_ne e] at hx; exact .inl hx
def kEnum (ds : List D) (m2 : M) : Out Wk := match ds with
  | [.tup xs] => .ok ⟨enumD xs, fun _ => True⟩ m2
  | [.lst xs] => .ok ⟨enumD xs, fun _ => True⟩ m2
  | _ => .bad
def dEnum (gs : M → Out (List EV)) (m : M) : Out Wk := (gs m).bind fun es m1 => (evD m1 es).bind fun ds m2 => kEnum ds m2
def kZip (ds : List D) (m2 : M) : Out Wk := match ds with
  | [.tup xs, .tup ys] => .ok ⟨zipD xs ys, fun _ => True⟩ m2
  | [.lst xs, .lst ys] => .ok ⟨zipD xs ys, fun _ => True⟩ m2
  | _ => .bad
def dZip (gs : M → Out (List EV)) (m : M) : Out Wk := (gs m).bind fun es m1 => (evD m1 es).bind fun ds m2 => kZip ds m2
theorem rep1 {F : Hp} {d : D} {vs : List V} (h : RepAll K F [d] vs) : ∃ v, vs = [v] ∧ Rep K F d v := by
  obtain ⟨v, r, e, h1, h2⟩ := h
  have h2 : r = [] := h2
  subst h2
  exact ⟨v, e, h1⟩
theorem rep2 {F : Hp} {d d' : D} {vs : List V} (h : RepAll K F [d, d'] vs) : ∃ v v', vs = [v, v'] ∧ Rep K F d v ∧ Rep K F d' v' := by
  obtain ⟨v, r, e, h1, h2⟩ := h
  obtain ⟨v', e', h3⟩ := rep1 h2
  subst e'
  exact ⟨v, v', e, h1, h3⟩
theorem ti_enum {KX : Kf} {ts : TA} {gs : M → Out (List EV)} (h : TAok K mg E pb ts gs) : TIok K mg E (iEnumA KX ts) (dEnum gs) := fun F0 G π m σ F H fp R S p => by
  refine h F0 G π m σ F H fp _ S ?_
  unfold dEnum at p
  cases e : gs m with
  | bad => rw [e] at p; exact p
  | exc c d m' => rw [e] at p; exact p
  | ok es m1 =>
    rw [e] at p
    intro vs F1 H1 fp1 S1 c1 e1
    have p : PostI K mg E F0 G π σ F R ((evD m1 es).bind fun ds m2 => kEnum ds m2) := p
    cases e2 : evD m1 es with
    | bad => rw [e2] at p; exact p.elim
    | exc c d m' => exact (evD_exc es m1 m' e2).elim
    | ok ds m2 =>
      rw [e2] at p
      obtain ⟨F2, fp2, S2, r2, s2⟩ := evD_ok es vs m1 m2 F1 fp1 ds S1 e1 e2
      have p : PostI K mg E F0 G π σ F R (kEnum ds m2) := p
      unfold kEnum at p
      split at p
      · rename_i xs
        obtain ⟨v, rfl, hv⟩ := rep1 r2
        obtain ⟨a, ws, rfl, hs, hr⟩ := hv
        refine ⟨a, ws, rfl, .inr ⟨(same_t S2.sub hs).sq, p (IteT KX a) F2 H1 fp2 S2 (c1.ext.trans s2) fun F0' G' _ _ => ?_⟩⟩
        intro m3 σ3 F3 H3 fp3 S3 s3 _
        have hH : SqT KX H3 a ws := (same_t S3.sub (same_t s3 hs)).sq
        refine ⟨fun i d ed => ?_, ⟨ws, hH, by unfold enumD; rw [List.length_mapIdx]; exact Nat.le_of_eq (repAll_len hr)⟩⟩
        obtain ⟨x, ex, rfl⟩ := enumD_get ed
        obtain ⟨u, eu, ru⟩ := repAll_get hr ex
        refine ⟨⟨ws, u, hH, eu⟩, fun y H4 hy => ?_⟩
        obtain ⟨T, u', rfl, hT, rfl, hu⟩ := hy
        have := hu ws hH
        rw [eu] at this
        cases this
        exact pair_grow S3 hT rfl (ru.mono s3 _ _)
      · rename_i xs
        obtain ⟨v, rfl, hv⟩ := rep1 r2
        obtain ⟨a, ws, rfl, hs, hr⟩ := hv
        refine ⟨a, ws, rfl, .inl ⟨(same_l S2.sub hs).sq, p (Ite KX a) F2 H1 fp2 S2 (c1.ext.trans s2) fun F0' G' _ _ => ?_⟩⟩
        intro m3 σ3 F3 H3 fp3 S3 s3 _
        have hH : SqL KX H3 a ws := (same_l S3.sub (same_l s3 hs)).sq
        refine ⟨fun i d ed => ?_, ⟨ws, hH, by unfold enumD; rw [List.length_mapIdx]; exact Nat.le_of_eq (repAll_len hr)⟩⟩
        obtain ⟨x, ex, rfl⟩ := enumD_get ed
        obtain ⟨u, eu, ru⟩ := repAll_get hr ex
        refine ⟨⟨ws, u, hH, eu⟩, fun y H4 hy => ?_⟩
        obtain ⟨T, u', rfl, hT, rfl, hu⟩ := hy
        have := hu ws hH
        rw [eu] at this
        cases this
        exact pair_grow S3 hT rfl (ru.mono s3 _ _)
      · exact p.elim
theorem ti_zip {KX : Kf} {ts : TA} {gs : M → Out (List EV)} (h : TAok K mg E pb ts gs) : TIok K mg E (RZ.iZipA KX ts) (dZip gs) := fun F0 G π m σ F H fp R S p => by
  refine h F0 G π m σ F H fp _ S ?_
  unfold dZip at p
  cases e : gs m with
  | bad => rw [e] at p; exact p
  | exc c d m' => rw [e] at p; exact p
  | ok es m1 =>
    rw [e] at p
    intro vs F1 H1 fp1 S1 c1 e1
    have p : PostI K mg E F0 G π σ F R ((evD m1 es).bind fun ds m2 => kZip ds m2) := p
    cases e2 : evD m1 es with
    | bad => rw [e2] at p; exact p.elim
    | exc c d m' => exact (evD_exc es m1 m' e2).elim
    | ok ds m2 =>
      rw [e2] at p
      obtain ⟨F2, fp2, S2, r2, s2⟩ := evD_ok es vs m1 m2 F1 fp1 ds S1 e1 e2
      have p : PostI K mg E F0 G π σ F R (kZip ds m2) := p
      unfold kZip at p
      have len : ∀ {xs ys : List D} {ws zs : List V} {F : Hp}, RepAll K F xs ws → RepAll K F ys zs → ws.length ≤ (zipD xs ys).length ∨ zs.length ≤ (zipD xs ys).length := fun h1 h2 => by
        unfold zipD
        rw [List.length_map, List.length_zip, repAll_len h1, repAll_len h2]
        omega
      split at p
      · rename_i xs ys
        obtain ⟨v, v', rfl, hv, hv'⟩ := rep2 r2
        obtain ⟨a, ws, rfl, hs, hr⟩ := hv
        obtain ⟨b, zs, rfl, hs', hr'⟩ := hv'
        refine ⟨a, b, ws, zs, rfl, .inr ⟨(same_t S2.sub hs).sq, (same_t S2.sub hs').sq, p (RZ.ItzT KX a b) F2 H1 fp2 S2 (c1.ext.trans s2) fun F0' G' _ _ => ?_⟩⟩
        intro m3 σ3 F3 H3 fp3 S3 s3 _
        have hH : SqT KX H3 a ws := (same_t S3.sub (same_t s3 hs)).sq
        have hH' : SqT KX H3 b zs := (same_t S3.sub (same_t s3 hs')).sq
        refine ⟨fun i d ed => ?_, ⟨ws, zs, hH, hH', len hr hr'⟩⟩
        obtain ⟨x, y, ex, ey, rfl⟩ := zipD_get ed
        obtain ⟨u, eu, ru⟩ := repAll_get hr ex
        obtain ⟨u2, eu2, ru2⟩ := repAll_get hr' ey
        refine ⟨⟨ws, zs, u, u2, hH, hH', eu, eu2⟩, fun q H4 hy => ?_⟩
        obtain ⟨T, w1, w2, rfl, hT, rfl, h1, h2⟩ := hy
        have := h1 ws hH
        rw [eu] at this
        cases this
        have := h2 zs hH'
        rw [eu2] at this
        cases this
        exact pair_grow S3 hT (ru.mono s3 _ _) (ru2.mono s3 _ _)
      · rename_i xs ys
        obtain ⟨v, v', rfl, hv, hv'⟩ := rep2 r2
        obtain ⟨a, ws, rfl, hs, hr⟩ := hv
        obtain ⟨b, zs, rfl, hs', hr'⟩ := hv'
        refine ⟨a, b, ws, zs, rfl, .inl ⟨(same_l S2.sub hs).sq, (same_l S2.sub hs').sq, p (Itz KX a b) F2 H1 fp2 S2 (c1.ext.trans s2) fun F0' G' _ _ => ?_⟩⟩
        intro m3 σ3 F3 H3 fp3 S3 s3 _
        have hH : SqL KX H3 a ws := (same_l S3.sub (same_l s3 hs)).sq
        have hH' : SqL KX H3 b zs := (same_l S3.sub (same_l s3 hs')).sq
        refine ⟨fun i d ed => ?_, ⟨ws, zs, hH, hH', len hr hr'⟩⟩
        obtain ⟨x, y, ex, ey, rfl⟩ := zipD_get ed
        obtain ⟨u, eu, ru⟩ := repAll_get hr ex
        obtain ⟨u2, eu2, ru2⟩ := repAll_get hr' ey
        refine ⟨⟨ws, zs, u, u2, hH, hH', eu, eu2⟩, fun q H4 hy => ?_⟩
        obtain ⟨T, w1, w2, rfl, hT, rfl, h1, h2⟩ := hy
        have := h1 ws hH
        rw [eu] at this
        cases this
        have := h2 zs hH'
        rw [eu2] at this
        cases this
        exact pair_grow S3 hT (ru.mono s3 _ _) (ru2.mono s3 _ _)
      · exact p.elim
/-! ### d.setdefault(k, x), d in a slot -/
def okD (m : M) : EV → Bool
  | .br o [] => match get m o with
    | some (.ok _) => true
    | _ => false
  | _ => false
def kSetd (m : M) (x : EV) (k : Key) (s : SV) : Out EV := match x with
  | .br o [] => match get m o with
    | some (.ok kvs) => if kvs.length < bigLen then (match look kvs k with
      | some _ => .ok (.br o [.k k]) m
      | none => .ok (.br o [.k k]) (setO m o (.ok (kvs ++ [(k, s)])))) else .bad
    | _ => .bad
  | _ => .bad
def dSetd (go gk gx : M → Out EV) (m : M) : Out EV :=
  (go m).bind fun x m1 => if okD m1 x = true then (gk m1).bind fun ek m2 => match keyEV ek with
    | some k => (gx m2).bind fun ev m3 => (ownE m3 ev).bind fun s m4 => kSetd m4 x k s
    | none => .bad else .bad
theorem look_own {F H : Hp} {k : Key} : ∀ {kvs : List (Key × SV)} {vs : List (Key × V)} {q : List Addr}, OwnK K F H kvs vs q → look kvs k = none → valV vs k = none
  | [], vs, q, h, _ => by have := h.1; subst this; rfl
  | (j, x) :: kvs, vs, q, ⟨v, r, q1, q2, e, _, h2, _⟩, z => by
    subst e
    unfold look at z
    unfold valV
    rw [List.find?_cons] at z ⊢
    by_cases ej : decide (j = k) = true
    · rw [show (decide ((j, x).1 = k)) = true from ej] at z; cases z
    · have ej : decide (j = k) = false := by simpa using ej
      rw [show (decide ((j, x).1 = k)) = false from ej] at z
      rw [show (decide ((j, v).1 = k)) = false from ej]
      exact look_own h2 z
theorem look_any {β : Type} {k : Key} : ∀ {vs : List (Key × β)}, look vs k = none → (vs.any fun kv => decide (kv.1 = k)) = false
  | [], _ => rfl
  | (j, x) :: vs, z => by
    unfold look at z
    rw [List.find?_cons] at z
    by_cases ej : decide (j = k) = true
    · rw [show (decide ((j, x).1 = k)) = true from ej] at z; cases z
    · have ej : decide (j = k) = false := by simpa using ej
      rw [show (decide ((j, x).1 = k)) = false from ej] at z
      rw [List.any_cons, show (decide ((j, x).1 = k)) = false from ej, Bool.false_or]
      exact look_any z
theorem look_app {β : Type} {k : Key} {x : β} : ∀ {vs : List (Key × β)}, look vs k = none → look (vs ++ [(k, x)]) k = some x
  | [], _ => by simp [look]
  | (j, y) :: vs, z => by
    unfold look at z ⊢
    rw [List.find?_cons] at z
    rw [List.cons_append, List.find?_cons]
    by_cases ej : decide (j = k) = true
    · rw [show (decide ((j, y).1 = k)) = true from ej] at z; cases z
    · have ej : decide (j = k) = false := by simpa using ej
      rw [show (decide ((j, y).1 = k)) = false from ej] at z ⊢
      exact look_app z
theorem te_setd {tk tx : TE} {gk gx : M → Out EV} (h1 : TEok K mg E po to go) (h2 : TEok K mg E pa tk gk) (h3 : TEok K mg E pb tx gx) : TEok K mg E false (tDSetd to tk tx) (dSetd go gk gx) := fun F0 G π m σ F H fp Q S p => by
  refine h1 F0 G π m σ F H fp _ S ?_
  unfold dSetd at p
  cases e : go m with
  | bad => rw [e] at p; exact p
  | exc c d m' => rw [e] at p; exact p
  | ok x m1 =>
    rw [e] at p
    intro v F1 H1 fp1 S1 c1 e1
    have p : PostE K mg E false F0 G π m σ F H fp Q (if okD m1 x = true then (gk m1).bind fun ek m2 => match keyEV ek with
      | some k => (gx m2).bind fun ev m3 => (ownE m3 ev).bind fun s m4 => kSetd m4 x k s
      | none => .bad else .bad) := p
    by_cases hx : okD m1 x = true
    · rw [if_pos hx] at p
      match x, e1, p, hx with
      | .br o [], e1, p, hx =>
        simp only [okD] at hx
        split at hx
        · rename_i kvs1 eg1
          obtain ⟨w, hw, hp⟩ := e1
          have hp : v = w := hp
          subst hp
          obtain ⟨w', hw', ho1⟩ := S1.own o _ eg1
          rw [hw] at hw'; cases hw'
          obtain ⟨a, vs1, r1, rfl, ha1, _, _⟩ := ho1
          refine ⟨a, rfl, .inl ⟨vs1, .inl ha1⟩, h2 F0 G π m1 σ F1 H1 fp1 _ S1 ?_⟩
          cases e2 : gk m1 with
          | bad => rw [e2] at p; exact p
          | exc c d m' => rw [e2] at p; exact p
          | ok ek m2 =>
            rw [e2] at p
            intro y F2 H2 fp2 S2 c2 e2'
            have p : PostE K mg E false F0 G π m σ F H fp Q (match keyEV ek with
              | some k => (gx m2).bind fun ev m3 => (ownE m3 ev).bind fun s m4 => kSetd m4 (.br o []) k s
              | none => .bad) := p
            cases hk1 : keyEV ek with
            | none => simp only [hk1] at p; exact p.elim
            | some k =>
              simp only [hk1] at p
              have ey : y = kV k := by
                cases ek with
                | v d => exact keyD_v e2' hk1
                | _ => cases hk1
              subst ey
              refine h3 F0 G π m2 σ F2 H2 fp2 _ S2 ?_
              cases e3 : gx m2 with
              | bad => rw [e3] at p; exact p
              | exc c d m' => rw [e3] at p; exact p
              | ok ev m3 =>
                rw [e3] at p
                intro z F3 H3 fp3 S3 c3 e3'
                have p : PostE K mg E false F0 G π m σ F H fp Q ((ownE m3 ev).bind fun s m4 => kSetd m4 (.br o []) k s) := p
                cases e4 : ownE m3 ev with
                | bad => rw [e4] at p; exact p.elim
                | exc c d m' => exact (ownE_exc e4).elim
                | ok s m4 =>
                  rw [e4] at p
                  obtain ⟨F4, fp4, q4, S4, o4, n4, f4, s4⟩ := ownE_ok S3 e3' e4
                  have p : PostE K mg E false F0 G π m σ F H fp Q (kSetd m4 (.br o []) k s) := p
                  have cF : Same F F4 := c1.ext.trans (c2.ext.trans (c3.ext.trans s4))
                  unfold kSetd at p
                  simp only at p
                  split at p
                  · rename_i kvs eg4
                    obtain ⟨w'', hw'', ho4⟩ := S4.own o _ eg4
                    rw [hw] at hw''; cases hw''
                    obtain ⟨a', vs, r4, ea, ha4, hr4, hfp⟩ := ho4
                    cases ea
                    split at p
                    · rename_i hl
                      have hz : vs.length < sizeLine := by rw [ownK_len hr4]; exact Nat.lt_of_lt_of_le hl (big_le (Nat.le_refl _))
                      split at p
                      · rename_i s0 el
                        obtain ⟨u, g, eu, ou, _⟩ := ownK_get hr4 el
                        refine ⟨vs, k, ha4, rfl, hz, fun v' hv' => ?_, fun hn => ?_⟩
                        · have hv' : look vs k = some v' := hv'
                          rw [eu] at hv'; cases hv'
                          exact p u F4 H3 fp4 S4 ⟨cF, fun z => by cases z⟩ ⟨_, hw, a, vs, u, rfl, ha4, eu, rfl⟩
                        · have hn : look vs k = none := hn
                          rw [eu] at hn; cases hn
                      · rename_i el
                        have ln := look_own hr4 el
                        refine ⟨vs, k, ha4, rfl, hz, fun v' hv' => ?_, fun _ => ?_⟩
                        · rw [ln] at hv'; cases hv'
                        · have ep : putK vs k z = vs ++ [(k, z)] := by
                            unfold putK
                            rw [look_any (show look vs k = none from ln)]
                            rfl
                          rw [ep]
                          obtain ⟨g, og, ng, mg', re⟩ := S4.mutate (p := []) eg4 rfl hw rfl
                          obtain ⟨a2, vs2, r2, ea2, ha2, hr2, eg⟩ := og
                          cases ea2
                          rw [ha4] at ha2; cases ha2
                          subst eg
                          have na : a ∉ r2 := (List.nodup_cons.mp ng).1
                          have nr : r2.Nodup := (List.nodup_cons.mp ng).2
                          have aq : a ∉ q4 := fun z => (f4 a z).2.2 o (mg' a List.mem_cons_self)
                          have nq : (r2 ++ q4).Nodup := nodup_mk nr n4 fun b hb hb2 => (f4 b hb2).2.2 o (mg' b (List.mem_cons_of_mem _ hb))
                          have na2 : a ∉ r2 ++ q4 := fun z => by
                            rcases List.mem_append.mp z with z | z
                            · exact na z
                            · exact aq z
                          have o2 : Own K F4 (upd H3 a (.dK (vs ++ [(k, z)]))) (.ok (kvs ++ [(k, s)])) (.ref a) (a :: (r2 ++ q4)) :=
                            ⟨a, _, _, rfl, upd_same, (ownK_app hr2 (ownK_one o4)).keep (Same.refl F4) _ _ _ fun b hb => upd_ne fun z => na2 (by rw [← z]; exact hb), rfl⟩
                          obtain ⟨fp', S'⟩ := re (upd H3 a (.dK (vs ++ [(k, z)]))) _ _ o2 (List.nodup_cons.mpr ⟨na2, nq⟩) (upd_keep List.mem_cons_self) fun b hb => by
                            rcases List.mem_cons.mp hb with rfl | hb
                            · exact .inl List.mem_cons_self
                            · rcases List.mem_append.mp hb with hb | hb
                              · exact .inl (List.mem_cons_of_mem _ hb)
                              · exact .inr ⟨(f4 b hb).2.1, (f4 b hb).1, (f4 b hb).2.2⟩
                          exact p z F4 _ fp' S' ⟨cF, fun z => by cases z⟩ ⟨_, hw, a, _, z, rfl, upd_same, look_app ln, rfl⟩
                    · exact p.elim
                  · exact p.elim
        · cases hx
      | .br o (_ :: _), e1, p, hx => cases hx
      | .v d, e1, p, hx => cases hx
      | .fr s, e1, p, hx => cases hx
    · rw [if_neg hx] at p; exact p.elim
end
end PD
/-! # PFc: the new rules as pieces -/
namespace PD
open PySem PySem.Spec PyProof.Rows L2
/-! ### extend -/
section
variable {K : Kf}
def fExtend (s : SV) (ss : List SV) : Option (SV × D) := match s, ss with
  | .ol xs, [.fz (.lst ys)] => if xs.length + ys.length ≤ bigLen then some (.ol (xs ++ ys.map .fz), .non) else none
  | _, _ => none
theorem ok_extend : MutOk K rExtend fExtend := fun F H v s g ss ys q s' d Q e hs nd fr ho z k => by
  unfold fExtend at z
  split at z
  · rename_i xs zs
    split at z
    · rename_i hl
      cases z
      obtain ⟨a, vs, r, rfl, ha, hr, rfl⟩ := hs
      obtain ⟨y, t, q1, q2, rfl, ⟨h1, rfl⟩, ⟨rfl, rfl⟩, rfl⟩ := ho
      obtain ⟨b, ws, rfl, hb, hm⟩ := h1
      simp only [List.append_nil] at *
      have na : a ∉ r := (List.nodup_cons.mp nd).1
      have hk : ∀ b ∈ r, upd H a (.lst (vs ++ ws)) b = H b := fun b hb => upd_ne fun z => na (by rw [← z]; exact hb)
      refine ⟨a, b, vs, ws, rfl, rfl, ha, e _ _ hb, by rw [ownL_len hr, repAll_len hm]; exact big_le hl, k .non _ (a :: r) ⟨a, vs ++ ws, r, rfl, upd_same, ?_, rfl⟩ nd (upd_keep List.mem_cons_self) (fun b hb => hb) rfl⟩
      have := ownL_cat hr (ownL_fz (H := H) hm)
      rw [List.append_nil] at this
      exact this.keep (Same.refl F) _ _ _ hk
    · cases z
  · cases z
/-! ### list(d) -/
def keyOut : Key → D
  | .inl i => .int i
  | .inr x => .str x
theorem keyOut_rep {F : Hp} (k : Key) : Rep K F (keyOut k) (kV k) := by
  cases k with
  | inl i => rfl
  | inr x => rfl
theorem keys_rep {F : Hp} : ∀ ks : List Key, RepAll K F (ks.map keyOut) (ks.map kV)
  | [] => rfl
  | k :: ks => ⟨kV k, ks.map kV, rfl, keyOut_rep k, keys_rep ks⟩
def pListK : List SV → Option EV
  | [.ok kvs] => some (.fr (.ol (((kvs.map (·.1)).map keyOut).map .fz)))
  | _ => none
theorem ok_listK : OpOkN K rListD pListK := fun F H xs as ev Q e hx z k => by
  unfold pListK at z
  split at z
  · rename_i kvs
    obtain ⟨v, rfl, hv⟩ := conts1 hx
    cases z
    obtain ⟨q, a, vs, r, rfl, ha, ho, _⟩ := hv
    refine ⟨a, vs, rfl, ha, fun q hq => ?_⟩
    have ek : (vs.map fun kv => kV kv.1) = (kvs.map (·.1)).map kV := by
      rw [← ownK_keys ho, List.map_map] <;> rfl
    rw [ek]
    exact k _ _ _ (ResOk.lst0 e hq (ownL_fz (keys_rep _)))
  · cases z
/-! ### sorted(set(t)) -/
def insU (k : Int) : List Int → List Int
  | [] => [k]
  | a :: r => if k < a then k :: a :: r else if k = a then a :: r else a :: insU k r
def srtU (ns : List Int) : List Int := ns.foldr insU []
theorem insU_mem {k j : Int} : ∀ {l : List Int}, j ∈ insU k l ↔ j = k ∨ j ∈ l
  | [] => by simp [insU]
  | a :: r => by
    unfold insU
    split
    · simp
    · split
      · rename_i h; subst h; simp
      · rw [List.mem_cons, insU_mem, List.mem_cons]
        constructor
        · rintro (h | h | h)
          · exact .inr (.inl h)
          · exact .inl h
          · exact .inr (.inr h)
        · rintro (h | h | h)
          · exact .inr (.inl h)
          · exact .inl h
          · exact .inr (.inr h)
theorem insU_pw {k : Int} : ∀ {l : List Int}, l.Pairwise (· < ·) → (insU k l).Pairwise (· < ·)
  | [], _ => by simp [insU]
  | a :: r, h => by
    have h1 := List.pairwise_cons.mp h
    unfold insU
    split
    · rename_i hk
      refine List.pairwise_cons.mpr ⟨fun j hj => ?_, h⟩
      rcases List.mem_cons.mp hj with rfl | hj
      · exact hk
      · exact Int.lt_trans hk (h1.1 j hj)
    · split
      · exact h
      · rename_i h2 h3
        refine List.pairwise_cons.mpr ⟨fun j hj => ?_, insU_pw h1.2⟩
        rcases insU_mem.mp hj with rfl | hj
        · omega
        · exact h1.1 j hj
theorem srtU_mem {j : Int} : ∀ {l : List Int}, j ∈ srtU l ↔ j ∈ l
  | [] => by simp [srtU]
  | a :: r => by
    show j ∈ insU a (srtU r) ↔ _
    rw [insU_mem, srtU_mem, List.mem_cons]
theorem srtU_pw : ∀ {l : List Int}, (srtU l).Pairwise (· < ·)
  | [] => .nil
  | a :: r => insU_pw srtU_pw
theorem pw_ext : ∀ {l l' : List Int}, l.Pairwise (· < ·) → l'.Pairwise (· < ·) → (∀ j, j ∈ l ↔ j ∈ l') → l = l'
  | [], [], _, _, _ => rfl
  | [], b :: r, _, _, h => by have := (h b).mpr (by simp); cases this
  | a :: r, [], _, _, h => by have := (h a).mp (by simp); cases this
  | a :: r, b :: s, h1, h2, h => by
    have p1 := List.pairwise_cons.mp h1
    have p2 := List.pairwise_cons.mp h2
    have e : a = b := by
      have ha := (h a).mp (by simp)
      have hb := (h b).mpr (by simp)
      rcases List.mem_cons.mp ha with e | ha
      · exact e
      · rcases List.mem_cons.mp hb with e | hb
        · exact e.symm
        · have := p1.1 b hb
          have := p2.1 a ha
          omega
    subst e
    rw [pw_ext p1.2 p2.2 fun j => ?_]
    constructor
    · intro hj
      rcases List.mem_cons.mp ((h j).mp (List.mem_cons_of_mem _ hj)) with e | z
      · have := p1.1 j hj; omega
      · exact z
    · intro hj
      rcases List.mem_cons.mp ((h j).mpr (List.mem_cons_of_mem _ hj)) with e | z
      · have := p2.1 j hj; omega
      · exact z
def intsOf : List D → Option (List Int)
  | [] => some []
  | .int i :: r => (intsOf r).map (i :: ·)
  | _ :: _ => none
theorem intsOf_rep {F : Hp} : ∀ {ds : List D} {ns : List Int} {vs : List V}, intsOf ds = some ns → RepAll K F ds vs → vs = ns.map V.int
  | [], ns, vs, h, r => by cases h; exact r
  | .int i :: ds, ns, vs, h, ⟨v, s, e, h1, h2⟩ => by
    have h : (intsOf ds).map (i :: ·) = some ns := h
    rw [Option.map_eq_some_iff] at h
    obtain ⟨ms, hm, rfl⟩ := h
    have h1 : v = .int i := h1
    subst e h1
    rw [intsOf_rep hm h2]
    rfl
  | .non :: _, _, _, h, _ => by cases h
  | .bl _ :: _, _, _, h, _ => by cases h
  | .str _ :: _, _, _, h, _ => by cases h
  | .tup _ :: _, _, _, h, _ => by cases h
  | .lst _ :: _, _, _, h, _ => by cases h
  | .dk _ :: _, _, _, h, _ => by cases h
  | .dt _ :: _, _, _, h, _ => by cases h
  | .fn _ :: _, _, _, h, _ => by cases h
  | .scr _ :: _, _, _, h, _ => by cases h
def kSortSet (m : M) (es : List EV) : Out EV := match es with
  | [x] => match view m x with
    | some (.fz (.tup ds)) => match intsOf ds with
      | some ns => if ns.length < 64 then .ok (.fr (.ol ((srtU ns).map fun i => .fz (.int i)))) m else .bad
      | none => .bad
    | _ => .bad
  | _ => .bad
theorem ownL_ints {F H : Hp} : ∀ ns : List Int, OwnL K F H (ns.map fun i => SV.fz (.int i)) (ns.map V.int) []
  | [] => ⟨rfl, rfl⟩
  | i :: ns => ⟨.int i, ns.map V.int, [], [], rfl, ⟨rfl, rfl⟩, ownL_ints ns, rfl⟩
theorem k_sortSet {KX : Kf} {w : World} {mg : Str → Option Value} {E : XS} (up : Up K KX) : KOkN K mg E true (fun _ xs H Q => rSetTI KX w xs H fun y H1 => rSortedSet w [y] H1 Q) kSortSet := fun F0 G π m σ F H fp Q xs es S hx p => by
  unfold kSortSet at p
  split at p
  · rename_i x
    cases hx with
    | @cons v vs _ _ h1 h2 =>
      cases h2
      split at p
      · rename_i ds ev
        split at p
        · rename_i ns ei
          split at p
          · rename_i hl
            obtain ⟨q, ⟨a, ws, rfl, ht, hr⟩, _⟩ := S.view h1 ev
            have ew := intsOf_rep ei hr
            subst ew
            refine ⟨a, ns, rfl, (same_t S.sub ht).sq, hl, fun p1 c hp1 hc => ⟨p1, _, c, rfl, upd_same, hc, fun ms p2 pw mem _ hp2 => ?_⟩⟩
            have S1 := S.allocO (SetO w p1 (fun j => decide (j ∈ ns)) c) hp1
            have f := S1.freshG hp2
            have em : ms = srtU ns := pw_ext pw srtU_pw fun j => by rw [mem, srtU_mem]; simp
            subst em
            have hp2' : H p2 = none := same_none (same_new hp1) hp2
            refine p (.ref p2) F _ fp (S1.allocO (.lst ((srtU ns).map V.int)) hp2) ⟨Same.refl F, fun _ => ⟨rfl, rfl, (same_new hp1).trans (same_new hp2), fun _ h => .inl h⟩⟩ ⟨[p2], ⟨p2, _, [], rfl, upd_same, ownL_ints _, rfl⟩, List.nodup_cons.mpr ⟨by simp, List.nodup_nil⟩, fun b hb => ?_⟩
            obtain rfl : b = p2 := by simpa using hb
            exact ⟨f.1, f.2.1, f.2.2, fun _ => hp2'⟩
          · exact p.elim
        · exact p.elim
      · exact p.elim
  · exact p.elim
end
section
variable {K : Kf} {X : Cx} {P : Program} {w : World} {KX : Kf} {mg : Str → Option Value} {base : Heap} {n : Nat} {E : XS} {pa pb pc pu pl ph po : Bool} {ta tb tc te to : TE} {ga gb gc ge go : M → Out EV} {a b c e o i : Expr} {es : List Expr} {pos p p2 p3 apos cpos : Pos} {x : Str}
theorem di_enum (C : Cxt X P w KX K mg base n E) {elts : List Expr} {kk : Nat} {tpos : Pos} {ts : TA} {gs : M → Out (List EV)} (hm : mg "enumerate" = none) (h : DA X K mg E [a] pb ts gs) (hg : Gl X "enumerate" := by rfl) (hs : starEach [a] X.env = [(false, eval a X.env)] := by rfl) :
    DI X K mg E (.Tuple elts kk tpos) (.Call (.Name "enumerate" p) [a] [] pos) (iEnumA KX ts) (dEnum gs) := by
  obtain ⟨rfl, rfl, rfl, up, rfl, rfl, _, _, _, _, _⟩ := C
  exact ⟨pi_enumA hg hm h.pe hs, ti_enum h.ok⟩
theorem di_zip (C : Cxt X P w KX K mg base n E) {elts : List Expr} {kk : Nat} {tpos : Pos} {ts : TA} {gs : M → Out (List EV)} (hm : mg "zip" = none) (h : DA X K mg E [a, b] pb ts gs) (hg : Gl X "zip" := by rfl) (hs : starEach [a, b] X.env = (false, eval a X.env) :: starEach [b] X.env := by rfl) (hpl : (backTo pos (starEach [b] X.env)).any (·.1) = false := by rfl) :
    DI X K mg E (.Tuple elts kk tpos) (.Call (.Name "zip" p) [a, b] [] pos) (RZ.iZipA KX ts) (dZip gs) := by
  obtain ⟨rfl, rfl, rfl, up, rfl, rfl, _, _, _, _, _⟩ := C
  exact ⟨RZ.pi_zipA hg hm h.pe hs hpl, ti_zip h.ok⟩
theorem de_setd (C : Cxt X P w KX K mg base n E) (ho : DE X K mg E o po to go) (ha : DE X K mg E a pa ta ga) (hb : DE X K mg E b pb tb gb)
    (hbase : attributeBase o "setdefault" X.env (eval o X.env) = eval o X.env := by rfl)
    (hfew : ((backTo cpos (starEach [a, b] X.env)).all (fun x => !x.1) && (backToKw cpos (keywordEach [] X.env)).all (fun x => x.1.isSome)
      && decide (([a, b] : List Expr).length + ([] : List Keyword).length + (if ([] : List Keyword).isEmpty then 0 else 1) < 30)) = true := by rfl)
    (hline : (apos.endLine == cpos.line) = true := by rfl) (htr : backTo cpos (starEach [a, b] X.env) = [(false, eval a X.env), (false, eval b X.env)] := by rfl) :
    DE X K mg E (.Call (.Attribute o "setdefault" apos) [a, b] [] cpos) false (tDSetd to ta tb) (dSetd go ga gb) :=
  ⟨pe_dsetd ho.pe ha.pe hb.pe ⟨hbase, hfew, hline, htr⟩, te_setd ho.ok ha.ok hb.ok⟩
theorem de_extend (C : Cxt X P w KX K mg base n E) {t : TA} {gs : M → Out (List EV)} (ho : DE X K mg E o po to go) (ha : DA X K mg E [e] pb t gs)
    (hbase : attributeBase o "extend" X.env (eval o X.env) = eval o X.env := by rfl)
    (hfew : ((backTo cpos (starEach (e :: []) X.env)).all (fun x => !x.1) && (backToKw cpos (keywordEach [] X.env)).all (fun x => x.1.isSome)
      && decide ((e :: []).length + ([] : List Keyword).length + (if ([] : List Keyword).isEmpty then 0 else 1) < 30)) = true := by rfl)
    (hline : (apos.endLine == cpos.line) = true := by rfl) (hs : starEach (e :: []) X.env = (false, eval e X.env) :: starEach [] X.env := by rfl) (hplain : (backTo cpos (starEach [] X.env)).any (·.1) = false := by rfl) :
    DE X K mg E (.Call (.Attribute o "extend" apos) [e] [] cpos) false (tBM KX "list" rExtend to t) (dMt "list" pb go gs fExtend) := de_mt C PySem.F.plainAttrs_list PySem.F.slot_list_extend PySem.F.type_list_extend mt_extend ok_extend ho ha hbase hfew hline hs hplain
theorem q_listK (C : Cxt X P w KX K mg base n E) {t : TA} {gs : M → Out (List EV)} (hm : mg "list" = none) (ha : DA X K mg E (e :: es) pb t gs) (hg : Gl X "list" := by rfl) (he : starEach (e :: es) X.env = (false, eval e X.env) :: starEach es X.env := by rfl) (hpl : (backTo pos (starEach es X.env)).any (·.1) = false := by rfl) (hv : bootBuiltins "list" = some (.type "list") := by decide +kernel) : DE X K mg E (.Call (.Name "list" p) (e :: es) [] pos) (pb && true) (tCB rListD t) (dApp gs (kVN pListK)) :=
  de_bt C (call_list_dK C.calm) ok_listK hm hv ha hg (by decide) (by decide) he hpl
theorem q_sortSet (C : Cxt X P w KX K mg base n E) {t : TA} {gs : M → Out (List EV)} {pos2 : Pos} (hm : mg "sorted" = none) (hm2 : mg "set" = none) (ha : DA X K mg E [e] pb t gs) (hg : Gl X "sorted" := by rfl) (hg2 : Gl X "set" := by rfl)
    (he : starEach [e] X.env = (false, eval e X.env) :: starEach [] X.env := by rfl) (hpl2 : (backTo pos2 (starEach [] X.env)).any (·.1) = false := by rfl)
    (he2 : starEach [Expr.Call (.Name "set" p2) [e] [] pos2] X.env = (false, eval (.Call (.Name "set" p2) [e] [] pos2) X.env) :: starEach [] X.env := by rfl) (hpl : (backTo pos (starEach [] X.env)).any (·.1) = false := by rfl) (hv : bootBuiltins "sorted" = some (.builtin "sorted") := by decide +kernel) (hv2 : bootBuiltins "set" = some (.type "set") := by decide +kernel) :
    DE X K mg E (.Call (.Name "sorted" p) [.Call (.Name "set" p2) [e] [] pos2] [] pos) (pb && true) (tCB (rSortedSet w) (tCons (tCB (rSetTI KX w) t) tNil)) (dApp gs kSortSet) := by
  obtain ⟨rfl, rfl, rfl, up, rfl, rfl, _, calm, _, _, _⟩ := C
  refine ⟨pe_callB (cr_sortedSet calm) hg hm hv (pa_cons (pe_callTy (cr_setTI calm) hg2 hm2 hv2 ha.pe (by decide) (by decide) he hpl2) pa_nil he2) (by decide) (by decide) he2 hpl, ?_⟩
  exact (te_app ha.ok (k_sortSet up) : TEok K X.mg E _ (fun σ H Q => t σ H fun vs H1 => rSetTI X.K X.w vs H1 fun y H2 => rSortedSet X.w [y] H2 Q) _)
end
end PD
/-! # PFd: a chain as a test; two names at once, some of them held in cells -/
namespace PD
open PySem PySem.Spec PyProof.Rows L2
section
variable {K : Kf} {mg : Str → Option Value} {E : XS}
theorem ts_parG2 {KX : Kf} {ts : TA} {g : M → Out (List SV)} {i j : Nat} (h : TRok K mg E ts g) : TSok K mg E (tAsg (tTup ts) (gTup KX 2 (gCons (gName i) (gCons (gName j) gNil)))) (dPar [i, j] g) := fun F0 G π m σ F H fp Dn S p => by
  refine h F0 G π m σ F H fp _ S ?_
  unfold dPar at p
  cases e : g m with
  | bad => rw [e] at p; exact p
  | exc c d m' => rw [e] at p; exact p σ
  | ok ss m1 =>
    rw [e] at p
    intro vs F' H' fp' q S' _ o nd fr
    have p : PostS K mg E F0 G π Dn (match putSl [i, j] ss m1 with
      | .ok _ m2 => .ok .nx m2
      | _ => .bad) := p
    cases e2 : putSl [i, j] ss m1 with
    | bad => rw [e2] at p; exact p.elim
    | exc c d m' => rw [e2] at p; exact p.elim
    | ok u m2 =>
      rw [e2] at p
      obtain ⟨_, _, hl⟩ := putSl_ok S' o nd fr e2
      have hl : vs.length = 2 := hl
      match vs, hl, o with
      | [v, w], hl, o =>
        refine ⟨by show 2 ≤ sizeLine; decide, fun p0 hp0 => ?_⟩
        have S2 := S'.allocO (.tup [v, w]) hp0
        have o2 : OwnL K F' (upd H' p0 (.tup [v, w])) ss [v, w] q := o.keep (Same.refl F') _ _ _ fun a ha => upd_ne fun z => by
          have := o.there _ _ _ a ha
          rw [z] at this
          exact this hp0
        obtain ⟨fp2, S3, _⟩ := putSl_ok S2 o2 nd fr e2
        exact ⟨p0, [v, w], rfl, SqT.of upd_same, rfl, v, [w], rfl, w, [], rfl, rfl, p _ F' _ fp2 S3⟩
end
section
variable {K : Kf} {X : Cx} {P : Program} {w : World} {KX : Kf} {mg : Str → Option Value} {base : Heap} {n : Nat} {E : XS} {pa pb pc pu pl ph po : Bool} {ta tb tc te to : TE} {ga gb gc ge go : M → Out EV} {a b c e o i : Expr} {es : List Expr} {pos p p2 p3 apos cpos : Pos} {x : Str}
theorem dt_chain {op op' : CmpOp} {r r' : R2} {k k' : M → EV → EV → Out EV} (C : Cxt X P w KX K mg base n E) (ho : OpR X (compareOp op) r) (ho' : OpR X (compareOp op') r') (hk : KOk2 K mg E true r k) (hk' : KOk2 K mg E true r' k') (h1 : DE X K mg E a pa ta ga) (h2 : DE X K mg E b pb tb gb) (h3 : DE X K mg E c pc tc gc) (hm : lastMarks [op, op'] [b, c] = false := by with_unfolding_all rfl) :
    DT X K mg E (.Compare a [op, op'] [b, c] pos) (pa && (pb && pc)) (tTest (tChain r r' ta tb tc)) (dTest (dChain pb pc ga gb gc k k')) := ⟨pt_chain ho ho' h1.pe h2.pe h3.pe hm, tt_test (te_chain h1.ok h2.ok h3.ok hk hk')⟩
theorem t_chain (C : Cxt X P w KX K mg base n E) {op op' : CmpOp} {r r' : Kf → R2} {k k' : M → EV → EV → Out EV} (ho : OpR X (compareOp op) (r X.K)) (ho' : OpR X (compareOp op') (r' X.K)) (hk : KOk2 K mg E true (r X.K) k) (hk' : KOk2 K mg E true (r' X.K) k') (h1 : DE X K mg E a pa ta ga) (h2 : DE X K mg E b pb tb gb) (h3 : DE X K mg E c pc tc gc) (hm : lastMarks [op, op'] [b, c] = false := by with_unfolding_all rfl) :
    DT X K mg E (.Compare a [op, op'] [b, c] pos) (pa && (pb && pc)) (tTest (tChain (r KX) (r' KX) ta tb tc)) (dTest (dChain pb pc ga gb gc k k')) := by
  rw [← C.hK]
  exact dt_chain C ho ho' hk hk' h1 h2 h3 hm
theorem ds_parG2 (C : Cxt X P w KX K mg base n E) {i j : Nat} {y : Str} {ts : TA} {g : M → Out (List SV)} {px py pt pt2 : Pos} {kt k2 : Nat} (h : DR X K mg E [a, b] ts g) (g1 : DG X K (.Name x px) (gName i) (bName i)) (g2 : DG X K (.Name y py) (gName j) (bName j))
    (he1 : (assignEach [.Name x px, .Name y py] X.env).map (·.2) = assign (.Name x px) X.env :: (assignEach [.Name y py] X.env).map (·.2) := by rfl)
    (he2 : (assignEach [.Name y py] X.env).map (·.2) = assign (.Name y py) X.env :: (assignEach [] X.env).map (·.2) := by rfl)
    (hn : (assignEach [.Name x px, .Name y py] X.env).length = 2 := by rfl) (hst : (assignEach [.Name x px, .Name y py] X.env).findIdx? (·.1) = none := by rfl)
    (hs : swapsWithSole [.Tuple [.Name x px, .Name y py] kt pt] (.Tuple [a, b] k2 pt2) pos.line X.env = pure false := by rfl)
    (hw : swappedStores [.Tuple [.Name x px, .Name y py] kt pt] (.Tuple [a, b] k2 pt2) X.env = pure none := by rfl)
    (h1 : (assignEach [.Tuple [.Name x px, .Name y py] kt pt] X.env).map (·.2) = [assign (.Tuple [.Name x px, .Name y py] kt pt) X.env] := by rfl) :
    DS X K mg E (.Assign [.Tuple [.Name x px, .Name y py] kt pt] (.Tuple [a, b] k2 pt2) pos) (tAsg (tTup ts) (gTup KX 2 (gCons (gName i) (gCons (gName j) gNil)))) (dPar [i, j] g) := by
  obtain ⟨rfl, rfl, rfl, up, rfl, rfl, _, calm, _, _, _⟩ := C
  exact ⟨ps_asg (pe_tup h.pe) (pg_tup calm (pgs_cons g1.pe (pgs_cons g2.pe pgs_nil he2) he1) hn hst) hs hw h1, ts_parG2 h.ok⟩
end
end PD
/-! # PFe: repr of an int -/
namespace PD
open PySem PySem.Spec PyProof.Rows L2
section
variable {K : Kf} {X : Cx} {P : Program} {w : World} {KX : Kf} {mg : Str → Option Value} {base : Heap} {n : Nat} {E : XS} {pa pb : Bool} {e : Expr} {es : List Expr} {pos p : Pos}
abbrev rReprI : List V → Hp → VK → Prop := fun xs H Q => ∃ i : Int, xs = [.int i] ∧ i.natAbs.log2 < 1920 ∧ Q (.str (toString i)) H
def pReprI : List SV → Option EV
  | [.fz (.int i)] => if i.natAbs.log2 < 1920 then some (.v (.str (toString i))) else none
  | _ => none
theorem ok_reprI : OpOkN K rReprI pReprI := fun F H xs as ev Q e hx z k => by
  unfold pReprI at z
  split at z
  · rename_i i
    split at z
    · rename_i hi
      cases z
      obtain ⟨v, rfl, hv⟩ := conts1 hx
      exact ⟨i, by rw [show v = _ from cont_fz hv], hi, k _ F H (ResOk.val0 e rfl)⟩
    · cases z
  · cases z
theorem q_reprI (C : Cxt X P w KX K mg base n E) {t : TA} {gs : M → Out (List EV)} (hm : mg "repr" = none) (ha : DA X K mg E (e :: es) pb t gs) (hg : Gl X "repr" := by rfl) (he : starEach (e :: es) X.env = (false, eval e X.env) :: starEach es X.env := by rfl) (hpl : (backTo pos (starEach es X.env)).any (·.1) = false := by rfl) (hv : bootBuiltins "repr" = some (.builtin "repr") := by decide +kernel) : DE X K mg E (.Call (.Name "repr" p) (e :: es) [] pos) (pb && true) (tCB rReprI t) (dApp gs (kVN pReprI)) :=
  de_b C SkE.call_repr_int ok_reprI hm hv ha hg (by decide) (by decide) he hpl
end
end PD
namespace PD
open PySem PySem.Spec PyProof.Rows L2
variable {K : Kf} {mg : Str → Option Value} {E : XS}
/-- a slot is frozen ahead of a statement that binds its name in a block of its own -/
def dFrz (i : Nat) (g : M → Out Ctl) (m : M) : Out Ctl := match get m (.s i) with
  | none => g m
  | some _ => match dFzE m (.br (.s i) []) with
    | .ok _ m1 => g m1
    | _ => .bad
theorem ts_frz {t : TS} {g : M → Out Ctl} {i : Nat} (h : TSok K mg E t g) : TSok K mg E t (dFrz i g) := fun F0 G π m σ F H fp Dn S p => by
  unfold dFrz at p
  cases eg : get m (.s i) with
  | none => rw [eg] at p; exact h F0 G π m σ F H fp Dn S p
  | some s =>
    rw [eg] at p
    obtain ⟨v, hv, _⟩ := S.own _ _ eg
    cases e : dFzE m (.br (.s i) []) with
    | bad => rw [e] at p; exact p.elim
    | exc c d m' => rw [e] at p; exact p.elim
    | ok d m1 =>
      rw [e] at p
      obtain ⟨F', fp', S', _, _⟩ := fzE_ok (N := fun _ => True) (v := v) (ev := .br (.s i) []) S ⟨v, hv, rfl⟩ e
      exact h F0 G π m1 σ F' H fp' Dn S' p
theorem ds_frz {X : Cx} {st : Stmt} {t : TS} {g : M → Out Ctl} (i : Nat) (h : DS X K mg E st t g) : DS X K mg E st t (dFrz i g) := ⟨h.pe, ts_frz h.ok⟩
theorem frz_none {i : Nat} {g : M → Out Ctl} {m : M} (h : get m (.s i) = none) : dFrz i g m = g m := by unfold dFrz; rw [h]
theorem frz_some {i : Nat} {g : M → Out Ctl} {m m1 : M} {s : SV} {d : D} (h : get m (.s i) = some s) (h1 : dFzE m (.br (.s i) []) = .ok d m1) : dFrz i g m = g m1 := by unfold dFrz; rw [h, h1]
end PD
namespace PD
open PySem PySem.Spec PyProof.Rows L2
/-! ## a lambda that is handed to a def, which tells what it raised -/
section
variable {X : Cx} {P : Program} {w : World} {KX K : Kf} {mg : Str → Option Value} {base : Heap} {n : Nat} {E : XS} {pa pb pc pu : Bool} {pos p p2 pos2 : Pos} {x qi : Str} {C0 fI : Addr}
/-- a clause, where the globals are known -/
theorem hd_th0 (hK : X.K = KX) (hmg : X.mg = mg) (T : ThC KX mg x qi C0 fI) (G : ThG KX) {R : Addr} {r v t : Str} {i : Nat} (hm : mg "isinstance" = none) (gR : mg r = some (.ref R)) {np p0 p3 p4 p5 p6 p7 p8 p9 p10 p' : Pos} {j jj : Nat} {hs : List ExceptHandler} {l : List Hd} (rest : HdAs X hs l)
    (hi : X.N[i]? = some v := by rfl) (hl : X.env.kindOf v = some .local := by rfl) (hg : Gl X x := by rfl) (hdb : (x == ("__debug__" : Str)) = false := by decide) (hgi : Gl X "isinstance" := by rfl) (hgr : Gl X r := by rfl)
    (hv : Vis X.env.scope v := by first | exact Or.inl rfl | exact Or.inr (Or.inl rfl) | exact Or.inr (Or.inr rfl)) (hd : (v == ("__debug__" : Str)) = false := by decide) (hcd : (v == ("__classdict__" : Str)) = false := by decide) (hdr : (r == ("__debug__" : Str)) = false := by decide)
    (h1 : starEach [.Name v p6, .Name r p7] X.env = (false, eval (.Name v p6) X.env) :: starEach [.Name r p7] X.env := by rfl) (h2 : starEach [.Name r p7] X.env = (false, eval (.Name r p7) X.env) :: starEach [] X.env := by rfl) (h3 : (backTo p8 (starEach [.Name r p7] X.env)).any (·.1) = false := by rfl)
    (h4 : starEach [.Constant (.str t) j p0, .Attribute (.Name v p3) "thing" p4, .Call (.Name "isinstance" p5) [.Name v p6, .Name r p7] [] p8] X.env = (false, eval (.Constant (.str t) j p0) X.env) :: starEach [.Attribute (.Name v p3) "thing" p4, .Call (.Name "isinstance" p5) [.Name v p6, .Name r p7] [] p8] X.env := by rfl)
    (h5 : starEach [.Attribute (.Name v p3) "thing" p4, .Call (.Name "isinstance" p5) [.Name v p6, .Name r p7] [] p8] X.env = (false, eval (.Attribute (.Name v p3) "thing" p4) X.env) :: starEach [.Call (.Name "isinstance" p5) [.Name v p6, .Name r p7] [] p8] X.env := by rfl)
    (h6 : starEach [.Call (.Name "isinstance" p5) [.Name v p6, .Name r p7] [] p8] X.env = (false, eval (.Call (.Name "isinstance" p5) [.Name v p6, .Name r p7] [] p8) X.env) :: starEach [] X.env := by rfl)
    (h7 : attributeBase (.Name v p3) "thing" X.env (eval (.Name v p3) X.env) = eval (.Name v p3) X.env := by rfl) (hbi : bootBuiltins "isinstance" = some (.builtin "isinstance") := by decide +kernel) :
    HdAs X (.ExceptHandler (some (.Name x np)) (some v) [.Return (some (.Tuple [.Constant (.str t) j p0, .Attribute (.Name v p3) "thing" p4, .Call (.Name "isinstance" p5) [.Name v p6, .Name r p7] [] p8] jj p9)) p10] p' :: hs) (hdOf KX i R ⟨x, C0, t⟩ :: l) := by
  subst hK hmg
  refine .cons hi hl ⟨hg, hdb, .inl T.gC⟩ (fun a oe cls d pn hz hf => ?_) rest
  refine pss_one (ps_ret (pe_tup (pa_cons pe_str (pa_cons (pe_xf ⟨T.ga, T.gg, T.exC, T.hd⟩ T.noT hz hf (pe_var hi hv hd hcd) h7) (pa_cons ?_ pa_nil h6) h5) h4)))
  exact pe_callB (X := X.suite a ((a, oe) :: pn)) (call_isT T G hz hf) hgi hm hbi (pa_cons (pe_var hi hv hd hcd) (pa_cons (pe_glob hgr gR rfl hdr) pa_nil h2) h1) (by decide) (by decide) h1 h3
/-- what the hearing def makes of the lambda's reading -/
def heardS (KX : Kf) (told : Str) (nN : Nat) (l : List Hd) : (XK → Hp → VK → Prop) → Hp → VK → Prop := fun tl H Q =>
  tl (fun cls d H' => ∀ σ : L2.St, σ.length = nN → wMAs KX (fun _ _ _ _ => False) { nx := fun _ H' => Q .non H', rt := Q } l cls d σ H') H fun v H' => ∀ q, H' q = none → Q (.ref q) (upd H' q (.tup [.str told, v]))
theorem heard_gives {Ng : List Str} {a q told : Str} {sg : Scope} {g : Addr} {cdg : Value} {h₀ : ExceptHandler} {hds : List ExceptHandler} {l : List Hd} {j j2 : Nat} {p1 p2 p3 p4 p5 p8 : Pos} (nd : Ng.Nodup) (h0 : ∀ f : Addr, (L2.start Ng [V.ref f])[0]? = some (some (V.ref f)))
    (hh : ∀ (s : Shared) (H : Hp), HdAs (cxOf C8.CX0 X.prog X.w X.K X.mg X.base Ng x sg g cdg X.A X.stack s H C8.E0).nox (h₀ :: hds) l) :
    LamX.GivesTo X Ng x sg g cdg [.Try [.Return (some (.Tuple [.Constant (.str told) j p1, .Call (.Name a p2) [] [] p3] j2 p4)) p5] (h₀ :: hds) [] [] p8] a q (heardS X.K told Ng.length l) := by
  intro f c' s H Q tl act hc h
  refine ⟨_, pss_one (ps_try_asMany (X := (cxOf C8.CX0 X.prog X.w X.K X.mg X.base Ng x sg g cdg X.A X.stack s H C8.E0).nox) (Wo := fun _ _ _ _ => False)
      (tb := fun W D σ H => ∃ Ech : XK, (∀ (cls : Value) (d : Option Addr) (σ' : L2.St) (H' : Hp), σ'.length = Ng.length → Ech cls d H' → W cls d σ' H') ∧ σ[0]? = some (some (.ref f)) ∧ H c' = some (LamX.CodeO c' q) ∧ tl Ech H fun v H' => ∀ q, H' q = none → D.rt (.ref q) (upd H' q (.tup [.str told, v])))
      rfl rfl nd LamX.takes0 (fun W pn xe tk po => ?_) (hh s H)), ?_⟩
  · refine ⟨fun pins s' σ H' D I h' => ?_⟩
    obtain ⟨Ech, hW, h1, h2, h3⟩ := h'
    have tk2 : Takes ((cxOf C8.CX0 X.prog X.w X.K X.mg X.base Ng x sg g cdg X.A X.stack s H C8.E0).tr pn xe) (fun cls d _ H' => Ech cls d H') := fun u s'' ⟨a, B, sI, pins, σ, H, cls, d, e, I, nb, up, sky, na, os, ag, z⟩ =>
      tk u s'' ⟨a, B, sI, pins, σ, H, cls, d, e, I, nb, up, sky, na, os, ag, hW cls d σ H I.len z⟩
    have hp := act (fun cls d _ H' => Ech cls d H') pn xe Ech p2 p3 tk2 (fun _ _ _ _ h => h)
    have hq := pss_one (ps_ret (pos := p5) (pe_tup (x1 := j2) (pos := p4) (pa_cons (pe_str (x := told) (j := j) (pos := p1)) (pa_cons hp pa_nil))))
    refine hq.run pins s' σ H' D I ?_
    show σ[0]? = some (some (.ref f)) ∧ H' c' = some (LamX.CodeO c' q) ∧ tl Ech H' fun v H1 => [V.str told, v].length ≤ sizeLine ∧ ∀ p, H1 p = none → D.rt (.ref p) (upd H1 p (.tup [.str told, v]))
    refine ⟨h1, h2, ?_⟩
    have e : (fun v H1 => [V.str told, v].length ≤ sizeLine ∧ ∀ p, H1 p = none → D.rt (.ref p) (upd H1 p (.tup [.str told, v]))) = fun v H1 => ∀ p, H1 p = none → D.rt (.ref p) (upd H1 p (.tup [.str told, v])) := by
      funext v H1
      exact propext ⟨fun h => h.2, fun h => ⟨by rw [sizeLine_eq]; exact (by decide : 2 ≤ 16777216), h⟩⟩
    rw [e]
    exact h3
  · exact ⟨fun cls d H' => ∀ σ : L2.St, σ.length = Ng.length → wMAs X.K (fun _ _ _ _ => False) { nx := fun _ H' => Q .non H', rt := Q } l cls d σ H', fun cls d σ' H' hl h => h σ' hl, h0 f, hc, h⟩
end
/-! ### its denotation -/
def dHear (told : Str) (hs : List (Str × Str)) (gb : M → Out EV) (m : M) : Out EV := match gb m with
  | .ok ev m' => (dFzE m' ev).bind fun d m'' => .ok (.v (.tup [.str told, d])) m''
  | .exc c d m' => match tagOf hs c with
    | some t => .ok (.v (.tup [.str t, d, .bl true])) m'
    | none => .bad
  | .bad => .bad
section
variable {X : Cx} {P : Program} {w : World} {KX K : Kf} {mg : Str → Option Value} {base : Heap} {n : Nat} {E : XS} {pb : Bool}
theorem StF.extN {F0 G : Hp} {π : List V} {m : M} {σ : L2.St} {F H H1 : Hp} {fp : Ow → List Addr} (S : StF K F0 G π m σ F H fp) (e : LamX.ExtN H H1) (t : LamX.Tabs (tabsOf K) H1) : StF K F0 G π m σ F H1 fp := by
  refine ⟨S.len, S.plen, fun a x h => e a x (S.sub a x h) fun ps z => S.ntF a ps (z ▸ h), fun a x h => e a x (S.base a x h) fun ps z => S.ntG a ps (z ▸ h), S.mono, S.new, fun o s h => ?_, S.non, S.ali, S.nd, S.dj, S.fr, S.ntF, S.ntG, t⟩
  obtain ⟨v, h1, h2⟩ := S.own o s h
  refine ⟨v, h1, h2.keep (Same.refl F) _ _ _ fun a ha => ?_⟩
  obtain ⟨x, hx, hp⟩ := S.plain ha
  rw [hx]
  refine e a x hx fun ps z => ?_
  subst z
  rcases hp with ⟨_, e⟩ | ⟨_, e⟩ | ⟨_, e⟩ <;> cases e
theorem StF.re {F0 G : Hp} {π : List V} {m0 m : M} {σ0 σ : L2.St} {F H F' H' : Hp} {fp fp' : Ow → List Addr} (S : StF K F0 G π m0 σ0 F H fp) (S' : StF K F G π m σ F' H' fp') : StF K F0 G π m σ F' H' fp' :=
  ⟨S'.len, S'.plen, S'.sub, S'.base, S.mono.trans S'.mono, fun a h => (S'.new a h).elim (fun z => S.new a z) .inr, S'.own, S'.non, S'.ali, S'.nd, S'.dj, S'.fr, S'.ntF, S'.ntG, S'.tab⟩
theorem StF.root {F0 G : Hp} {π : List V} {m : M} {σ : L2.St} {F H : Hp} {fp : Ow → List Addr} (S : StF K F0 G π m σ F H fp) : StF K F G π m σ F H fp :=
  ⟨S.len, S.plen, S.sub, S.base, Same.refl F, fun _ h => .inl h, S.own, S.non, S.ali, S.nd, S.dj, S.fr, S.ntF, S.ntG, S.tab⟩
theorem catch2 {Wo : WX} {i : Nat} {R : Addr} {Dn : Ends} {c t : Str} {C dx : Addr} {v : V} {σ' : L2.St} {H' : Hp} (hd : H' dx = some (.xd [(("thing" : Str), v)])) (hi : i < σ'.length) (hQ : ∀ q, H' q = none → Dn.rt (.ref q) (upd H' q (.tup [.str t, v, .bl true]))) :
    ∀ cs all : List Cl, (∀ x ∈ cs, x ∈ all) → ExT KX mg R all → (∃ c0 ∈ all, c0.x = c ∧ c0.C = C) → tagOf (cs.map fun c => (c.x, c.t)) c = some t → wMAs KX Wo Dn (cs.map (hdOf KX i R)) (.ref C) (some dx) σ' H'
  | [], all, _, _, _, z => by cases z
  | e :: cs, all, sub, T, ⟨c0, m0, hx, hC⟩, z => by
    subst hx hC
    refine ⟨decide (c0.x = e.x), T.ex c0 m0 e (sub e List.mem_cons_self), fun hb a na => ?_, fun hb => ?_⟩
    · have he : c0.x = e.x := of_decide_eq_true hb
      have hC : c0.C = e.C := by
        have h1 := T.g c0 m0
        have h2 := T.g e (sub e List.mem_cons_self)
        rw [he, h2] at h1
        exact (Value.ref.inj (Option.some.inj h1)).symm
      have ht : e.t = t := by
        have : tagOf ((e :: cs).map fun c => (c.x, c.t)) c0.x = some e.t := by
          simp [tagOf, he]
        rw [this] at z
        cases z; rfl
      have gs : (σ'.set i (some (.ref a)))[i]? = some (some (.ref a)) := List.getElem?_set_self hi
      refine ⟨.ref a, gs, rfl, by rw [hC], dx, _, v, rfl, hd, by simp [List.lookup], .ref a, gs, R, dx, _, true, rfl, by rw [hC], rfl, hd, T.ki e (sub e List.mem_cons_self), (by rw [sizeLine_eq]; exact (by decide : 3 ≤ 16777216)), fun q hq => ?_⟩
      rw [ht]
      exact hQ q hq
    · have he : ¬ c0.x = e.x := of_decide_eq_false hb
      refine catch2 hd hi hQ cs all (fun x hx => sub x (List.mem_cons_of_mem _ hx)) T ⟨c0, m0, rfl, rfl⟩ ?_
      have : ¬ e.x = c0.x := fun z => he z.symm
      simpa [tagOf, this] using z
theorem te_hear {told : Str} {i nN : Nat} {R : Addr} {cs : List Cl} {t : XK → TE} {gb : M → Out EV} (T : ExT KX mg R cs) (hi : i < nN) (hb : ∀ E : XK, TEok K mg (fun _ => E) pb (t E) gb) :
    TEok K mg E false (LamX.tLam (tabsOf K) (heardS KX told nN (cs.map (hdOf KX i R))) t) (dHear told (cs.map fun c => (c.x, c.t)) gb) := fun F0 G π m σ F H fp Q S p => by
  refine ⟨S.tab, fun H1 ext T1 => ?_⟩
  have S1 := (S.extN ext T1).root
  refine hb _ F G π m σ F H1 fp _ S1 ?_
  unfold dHear at p
  cases e : gb m with
  | bad => rw [e] at p; exact p
  | ok ev m' =>
    rw [e] at p
    intro v F' H' fp' S' ch ev' q hq
    have p : PostE K mg E false F0 G π m σ F H fp Q ((dFzE m' ev).bind fun d m'' => .ok (.v (.tup [.str told, d])) m'') := p
    cases e2 : dFzE m' ev with
    | bad => rw [e2] at p; exact p.elim
    | exc c d m1 =>
      cases ev with
      | v d' => cases e2
      | fr s => cases e2
      | br o pt =>
        unfold dFzE at e2
        cases eg : get m' o with
        | none => simp [eg] at e2
        | some r =>
          cases es : sub r pt with
          | none => simp [eg, es] at e2
          | some s => simp [eg, es] at e2
    | ok d m'' =>
      rw [e2] at p
      obtain ⟨F2, fp2, S2, r, sF⟩ := fzE_ok S' ev' e2
      have p : PostE K mg E false F0 G π m σ F H fp Q (.ok (.v (.tup [.str told, d])) m'') := p
      have s3 : Same F2 (upd F2 q (.tup [.str told, v])) := same_new (same_none S2.sub hq)
      exact p (.ref q) _ _ _ (S.re (S2.allocF (.tup [.str told, v]) hq)) ⟨ch.ext.trans (sF.trans s3), fun z => by cases z⟩ ⟨q, _, rfl, upd_same, _, _, rfl, rfl, _, _, rfl, r.mono s3 _ _, rfl⟩
  | exc c d m' =>
    rw [e] at p
    have p : PostE K mg E false F0 G π m σ F H fp Q (match tagOf (cs.map fun c => (c.x, c.t)) c with
      | some t => .ok (.v (.tup [.str t, d, .bl true])) m'
      | none => .bad) := p
    cases et : tagOf (cs.map fun c => (c.x, c.t)) c with
    | none => simp only [et] at p; exact p.elim
    | some tg =>
      simp only [et] at p
      intro C dx v F' H' fp' hC S' hd hr σ' hl
      have ⟨c0, m0, hx⟩ : ∃ c0 ∈ cs, c0.x = c := by
        unfold tagOf at et
        rw [Option.map_eq_some_iff] at et
        obtain ⟨q, h1, _⟩ := et
        have h2 := List.find?_some h1
        obtain ⟨c0, m0, e0⟩ := List.mem_map.mp (List.mem_of_find?_eq_some h1)
        subst e0
        exact ⟨c0, m0, of_decide_eq_true h2⟩
      have hc0 : c0.C = C := by
        have := T.g c0 m0
        rw [hx, hC] at this
        cases this; rfl
      refine catch2 hd (by rw [hl]; exact hi) (fun q hq => ?_) cs cs (fun _ h => h) T ⟨c0, m0, hx, hc0⟩ et
      have s3 : Same F' (upd F' q (.tup [.str tg, v, .bl true])) := same_new (same_none S'.sub hq)
      exact p (.ref q) _ _ _ (S.re (S'.allocF (.tup [.str tg, v, .bl true]) hq)) ⟨S'.mono.trans s3, fun z => by cases z⟩ ⟨q, _, rfl, upd_same, _, _, rfl, rfl, _, _, rfl, hr.mono s3 _ _, _, _, rfl, rfl, rfl⟩
/-- _law_refused(lambda: body) -/
theorem de_hear (C : Cxt X P w KX K mg base n E) {k : Nat} {x a told : Str} {st : Stmt} {Ng : List Str} {i nN : Nat} {R : Addr} {cs : List Cl} {c Pc : Addr} {params : Arguments} {body : Expr} {scope : Scope} {t : XK → TE} {gb : M → Out EV} {p lpos pos : Pos}
    (Fr : ∃ (g : Addr) (fd : FuncData), Fun KX x x st g fd ∧ mg x = some (.ref g) ∧ L2.Binds KX fd [a] []) (T : ExT KX mg R cs) (hi : i < nN)
    (hG : ∀ (g : Addr) (cdv : Value), LamX.GivesTo X Ng x (defScope st) g cdv (defBody st) a (X.env.qual ++ "<lambda>") (heardS KX told nN (cs.map (hdOf KX i R))))
    (Sg : FnScope Ng [a] (defScope st)) (hNg : Ng[0]? = some a) (hva : Vis (defScope st) a)
    (TB : LamX.TabB base mg c Pc) (hcode : X.env.code = .ref c) (hT : tabsOf K = [(Pc, X.env.qual ++ "<lambda>")])
    (hb : ∀ (A : Around) (outer : List Env) (s : Shared) (H : Hp) (E : XK) (f c' : Addr), Cxt (LamX.lamCx X A outer s H E scope f c') P w KX K mg base k (fun _ => E) → DE (LamX.lamCx X A outer s H E scope f c') K mg (fun _ => E) body pb (t E) gb)
    (hk : k + 2 ≤ n := by decide) (hg : Gl X x := by rfl) (L : LamX.LamS X.env.scope scope := by exact LamX.lamS_by (by rfl)) (hdef : defaultsOf params X.env = ([], []) := by rfl)
    (hbind : ∀ (q : Str) (cl : List (Str × Addr)) (pm cv ctv : Value), bindArgs (PySem.W.kla_fn "<lambda>" q params body scope cl pm cv ctv) ⟨[], []⟩ = pure [] := by intros; rfl)
    (hdb : (x == ("__debug__" : Str)) = false := by decide) (hd : (a == ("__debug__" : Str)) = false := by decide) (hcd : (a == ("__classdict__" : Str)) = false := by decide) :
    DE X K mg E (.Call (.Name x p) [.Lambda params body scope lpos] [] pos) false (LamX.tLam (tabsOf K) (heardS KX told nN (cs.map (hdOf KX i R))) t) (dHear told (cs.map fun c => (c.x, c.t)) gb) := by
  have mk : ∀ (A : Around) (outer : List Env) (s : Shared) (H : Hp) (E : XK) (f c' : Addr), Room k (A.deeper (LamX.lamEnv X scope s.heap.objs.size f c')) → Cxt (LamX.lamCx X A outer s H E scope f c') P w KX K mg base k (fun _ => E) := fun A outer s H E f c' hr => by
    obtain ⟨rfl, rfl, rfl, up, rfl, rfl, room, calm, nd, hx, pw, tk⟩ := C
    have tk : Takes (LamX.lamCx X A outer s H E scope f c') (fun cls d _ H => E cls d H) := takes_of rfl rfl rfl rfl
    exact ⟨rfl, rfl, rfl, up, rfl, rfl, hr, rfl, nd, fun σ => passAt tk σ, passes_of rfl, tk⟩
  have room := C.room.mono hk
  refine ⟨?_, te_hear T hi fun E => (hb X.A [] X.s_0 X.H_0 E 0 0 (mk X.A [] X.s_0 X.H_0 E 0 0 ((room.mono (Nat.le_succ _)).deeper _))).ok⟩
  obtain ⟨g, fd, F, hm, B⟩ := Fr
  obtain ⟨oc, od, kV, doc, pm, an, cdv, ct, osl, rfl, lk, hcg⟩ := F.ex
  have kp := F.kp
  obtain ⟨rfl, rfl, rfl, up, rfl, rfl, _, calm, nd, hx, pw, tk⟩ := C
  exact LamX.pe_lamcall hg hm kp lk hcg B Sg hNg hva (hG g cdv) TB hcode (by rw [hT]; exact List.mem_singleton.mpr rfl) (fun p hp _ => by rw [hT] at hp; rw [List.mem_singleton.mp hp]) room L hdef hbind (fun A outer s H E f c' hr => (hb A outer s H E f c' (mk A outer s H E f c' hr)).pe) hdb hd hcd
end
end PD
namespace PD
open PySem PySem.Spec PyProof.Rows L2
/-! ## the law's own call, where the law makes lambdas: the table of its code object is tracked -/
def isTb (H : Hp) (b : Addr) : Prop := ∃ ps, H b = some (.tbl ps)
/-- what is tracked at the start -/
structure St0 (H : Hp) (a Pc : Addr) : Prop where
  only : ∀ b, H b = none ∨ (b = a ∧ ∃ o xs, H b = some (.frz o (.lst xs))) ∨ b = Pc
  tb : H Pc = some (.tbl #[])
theorem law_callT {P : Program} {w : World} {K : Kf} {mg mb : Str → Option Value} {CT : CXT} {fa a c Pc : Addr} {s1 : Shared} {vs : List Value} {ns : List Int}
    (KX : K.In s1.heap) (hns : s1.heap.Ns mainGlobals mg) (hb : s1.heap.Ns builtinsNs mb) (hbb : ∀ x : Str, x ≠ "__name__" → mb x = bootBuiltins x) (hlim : s1.heap.NoLimit) (hg : s1.gens = #[])
    (hT : s1.heap.get? Pc = some (PySem.W.tabObj #[])) (nT : K.lookup Pc = none) (hC : PySem.W.CodeHd s1.heap c Pc)
    (hbm : ∃ (bm : Addr) (ob : Obj), mg "__builtins__" = some (.ref bm) ∧ bm ≠ builtinsNs ∧ s1.heap.get? bm = some ob ∧ ob.cls = .type "module" ∧ ob.dict = some builtinsNs ∧ ob.data = .plain)
    (ha : s1.heap.get? a = some { cls := .type "list", data := .seq vs.toArray }) (hi : IntsAre vs ns) (hl : ns.length ≤ sizeLine)
    (hX : ∀ H e s', CT [] H s1 (fun _ _ _ => False) e s' → False)
    (F : ∀ base : Heap, K.In base → base.Ns mainGlobals mg → LamX.TabB base mg c Pc → ∀ H : Hp, St0 H a Pc → Env0 P w K mg base callerA [] s1 H → SqL K H a (ns.map V.int) → codeAny (model P w) callerA (.call (.ref fa) ⟨[.ref a], []⟩) (CR CT [] P w H s1 (fun v _ => v = .bl true) fun _ _ _ => False) s1) :
    codeAny (model P w) callerA (.call (.ref fa) ⟨[.ref a], []⟩) (fun r s' => r = .ok (.ret (.bool true)) ∧ OldK s1.heap s'.heap ∧ s'.os = s1.os ∧ AllBare s'.gens) s1 := by
  have rv := vals_ints hi
  have aP : Pc ≠ a := fun z => by
    subst z
    rw [hT] at ha
    cases ha
  suffices main : ∀ H : Hp, St0 H a Pc → SqL K H a (ns.map V.int) → HOk P w H s1.heap → (H a ≠ none → K.lookup a = none) →
      codeAny (model P w) callerA (.call (.ref fa) ⟨[.ref a], []⟩) (fun r s' => r = .ok (.ret (.bool true)) ∧ OldK s1.heap s'.heap ∧ s'.os = s1.os ∧ AllBare s'.gens) s1 by
    by_cases hk : K.lookup a = none
    · let ob : Obj := { cls := .type "list", data := .seq vs.toArray }
      let Hs : Hp := fun b => if b = Pc then some (.tbl #[]) else if b = a then some (.frz ob (.lst (ns.map V.int))) else none
      have at_P : Hs Pc = some (.tbl #[]) := if_pos rfl
      have at_a : Hs a = some (.frz ob (.lst (ns.map V.int))) := (if_neg aP.symm).trans (if_pos rfl)
      have at_n : ∀ b, b ≠ Pc → b ≠ a → Hs b = none := fun b h1 h2 => (if_neg h1).trans (if_neg h2)
      refine main Hs ⟨fun b => ?_, at_P⟩ (.inl (.inr ⟨ob, at_a⟩)) (fun b u z => ?_) fun _ => hk
      · by_cases h1 : b = Pc
        · exact .inr (.inr h1)
        · by_cases h2 : b = a
          · exact .inr (.inl ⟨h2, ob, _, by rw [h2]; exact at_a⟩)
          · exact .inl (at_n b h1 h2)
      · by_cases h1 : b = Pc
        · subst h1
          cases at_P.symm.trans z
          exact hT
        · by_cases h2 : b = a
          · subst h2
            cases at_a.symm.trans z
            exact ⟨ha, by rw [List.length_map]; exact hl, vs, _, rv, ha⟩
          · exact nomatch (show (none : Option HO) = some u from (at_n b h1 h2).symm.trans z)
    · obtain ⟨o, hk⟩ := Option.ne_none_iff_exists'.mp hk
      have e := KX a o hk
      rw [ha] at e
      cases e
      let Hs : Hp := fun b => if b = Pc then some (.tbl #[]) else none
      have at_P : Hs Pc = some (.tbl #[]) := if_pos rfl
      refine main Hs ⟨fun b => ?_, at_P⟩ (.inr ⟨_, vs.toArray, _, hk, rfl, rfl, rfl, by rw [List.size_toArray, hi.length]; exact hl, by simpa using rv⟩) (fun b u z => ?_) fun z => absurd (show Hs a = none from if_neg aP.symm) z
      · by_cases h1 : b = Pc
        · exact .inr (.inr h1)
        · exact .inl (if_neg h1)
      · by_cases h1 : b = Pc
        · subst h1
          cases at_P.symm.trans z
          exact hT
        · exact nomatch (show (none : Option HO) = some u from (if_neg h1).symm.trans z)
  intro H T0 hS hok hK
  have lone : ∀ b, H b ≠ none → b = a ∨ b = Pc := fun b n => (T0.only b).elim (fun z => absurd z n) fun z => z.imp (·.1) id
  have through : ∀ {b : Addr} {o : Obj}, s1.heap.get? b = some o → H b = none → (hidT s1.heap H).get? b = some o := fun e n => hidT_get e n
  -- what is neither the script nor the table is not tracked
  have free : ∀ {b : Addr} {o : Obj}, s1.heap.get? b = some o → (∀ xs n, o.data ≠ .seq xs n) → o.data ≠ .fields #[] → H b = none := fun {b o} e h1 h2 => by
    cases q : H b with
    | none => rfl
    | some u =>
      rcases lone b (by rw [q]; simp) with z | z
      · subst z
        rw [ha] at e
        cases e
        exact absurd rfl (h1 _ _)
      · subst z
        rw [hT] at e
        cases e
        exact absurd rfl h2
  have free_dict : ∀ {b : Addr} {o : Obj} {es : Array DictEntry} {ep : Nat}, s1.heap.get? b = some o → o.data = .dict es ep → H b = none := fun e d => free e (fun _ _ z => nomatch d.symm.trans z) fun z => nomatch d.symm.trans z
  have spaces : ∀ {b : Addr} {m : Str → Option Value}, s1.heap.Ns b m → (hidT s1.heap H).Ns b m := fun {b m} ⟨o, es, ep, e, d, r⟩ => ⟨o, es, ep, through e (free_dict e d), d, r⟩
  have kin : K.In (hidT s1.heap H) := fun b o e => through (KX b o e) (by
    cases q : H b with
    | none => rfl
    | some u =>
      rcases lone b (by rw [q]; simp) with z | z
      · subst z
        rw [hK (by rw [q]; simp)] at e; cases e
      · subst z
        rw [nT] at e; cases e)
  have md : Mod K mg (hidT s1.heap H) := ⟨kin, spaces hns, ⟨mb, spaces hb, hbb⟩, let ⟨mc, h1, h2⟩ := hlim; ⟨mc, spaces h1, h2⟩⟩
  have e0 : Env0 P w K mg (hidT s1.heap H) callerA [] s1 H := ⟨rfl, md, fun b o e => of_hidT e, Nat.le_of_eq (hidT_size _ _), trivial, fun b hb => absurd (show b ∈ ([] : List Addr) from hb) (by simp), hok, .of_eq hg⟩
  have gl : mainGlobals ≠ Pc := fun z => by
    obtain ⟨o, es, ep, e, d, _⟩ := hns
    rw [z, hT] at e
    cases e
    cases d
  have TB : LamX.TabB (hidT s1.heap H) mg c Pc := by
    refine ⟨?_, ?_, gl⟩
    · obtain ⟨o, us, x1, x2, x3, x4, x5, x6, x7, e1, e2, e3, e4, rest⟩ := hC
      refine ⟨o, us, x1, x2, x3, x4, x5, x6, x7, through e1 (free e1 (fun _ _ z => nomatch e3.symm.trans z) fun z => ?_), e2, e3, e4, rest⟩
      have z := e3.symm.trans z
      cases z
      cases e4
    · obtain ⟨bm, ob, b1, b2, b3, b4, b5, b6⟩ := hbm
      refine ⟨bm, ob, b1, b2, fun z => ?_, fun z => ?_, through b3 (free b3 (fun _ _ z => nomatch b6.symm.trans z) fun z => nomatch b6.symm.trans z), b4, b5, b6⟩
      · obtain ⟨o, es, ep, e, d, _⟩ := hns
        rw [z, e] at b3
        cases b3
        cases d.symm.trans b6
      · rw [z, hT] at b3
        cases b3
        cases b6
  refine codeAny_mono (F _ kin (spaces hns) TB H T0 e0 hS) fun r s' h => ?_
  match r, h with
  | .error e, h => exact (hX H e s' h).elim
  | .ok .next, h => exact False.elim h
  | .ok .brk, h => exact False.elim h
  | .ok .cont, h => exact False.elim h
  | .ok (.ret u), h =>
    obtain ⟨v, H', os, bare, un, hok', r', q⟩ := h
    have q : v = .bl true := q
    subst q
    obtain rfl : u = Value.bool true := r'
    have same : ∀ b o, b ≠ Pc → s1.heap.get? b = some o → s'.heap.get? b = some o := fun b o nP e => by
      rcases T0.only b with q | ⟨_, ob, xs, q⟩ | q
      · exact un.keep b o e q (by intro z; exact absurd (show b ∈ ([] : List Addr) from z) (by simp)) (by simp)
      · obtain ⟨e1, _⟩ := hok b _ q
        obtain ⟨e2, _⟩ := hok' b _ (un.frzs b ob _ q)
        exact (e2.trans e1.symm).trans e
      · exact absurd q nP
    obtain ⟨more, gr⟩ := un.tbls Pc #[] T0.tb
    have now := hok' Pc _ gr
    refine ⟨rfl, ⟨fun b o e => ?_, fun b o e => ?_⟩, os, bare⟩
    · by_cases hP : b = Pc
      · subst hP
        rw [hT] at e
        cases e
        refine .inr (.inl ⟨(hC.tab hT).isCodeTable, rfl, #[], more, rfl, ?_⟩)
        rw [Array.empty_append] at now ⊢
        exact now
      · exact .inl (same b o hP e)
    · by_cases hP : b = Pc
      · subst hP
        exact ⟨_, now⟩
      · exact ⟨o, same b o hP e⟩
/-- the end: from the head to the law's text, with the table of the law's code object -/
theorem walk_pdT {l : PySem.W.OpenLaw} {n k : Nat} {q : Program} {loose : List Str} {XP : (Str → Option Value) → Heap → Prop} {YP : World → Heap → Prop} {d : DefRec} {K : Params → Kf} {x fnm qual : Str} {st : Stmt} {N : List Str}
    (hn : l.most = some n) (hn2 : n ≤ sizeLine) (hdf : d.params.defaults = []) (hr : Room (k + 1) callerA) (hY : ∀ (w : World) (h : Heap), YP w h → (K w.params).In h) (hrec : (recsOf q).find? (fun e => e.name == d.name) = some d)
    (F : ∀ (w : World) (mg : Str → Option Value) (fa : Addr) (h : Heap), (K w.params).In h → h.Ns mainGlobals mg → mg d.name = some (.ref fa) →
      ∃ (fd : FuncData) (c Pc : Addr), PySem.W.tabIn (K w.params) d.name = some (c, Pc) ∧ (K w.params).lookup Pc = none ∧ Fun (K w.params) fnm qual st fa fd ∧ FnScope N [x] (defScope st) ∧ (∀ (s : Shared) (u : Value), BindsTo s fd ⟨[u], []⟩ [(x, u)]) ∧
        ∀ (base : Heap) (s : Shared) (H : Hp), (K w.params).In base → base.Ns mainGlobals mg → LamX.TabB base mg c Pc → ∀ (a : Addr) (ns : List Int), St0 H a Pc → ns.length ≤ n → SqL (K w.params) H a (ns.map V.int) →
          Cxt (cxOf (L2.CX l.prog w) l.prog w (K w.params) mg base N qual (defScope st) fa (.ref c) callerA [] s H (fun _ _ _ => False)) l.prog w (K w.params) (K w.params) mg base k (fun _ _ _ _ => False) →
          ∃ t, PSs (cxOf (L2.CX l.prog w) l.prog w (K w.params) mg base N qual (defScope st) fa (.ref c) callerA [] s H (fun _ _ _ => False)) (defBody st) t ∧ t { nx := fun _ _ => V.non = .bl true, rt := fun v _ => v = .bl true } (L2.start N [.ref a]) H) :
    PySem.W.WalkO q loose XP YP l.row.toRowW d [] (fun f vs => PySem.call f vs) := by
  refine Att.attach_call hn hdf fun w s0 s1 mg mb fa o pm cd doc a vs ns G Y ho hd hcd hmg hobj hints hlen hg => ?_
  have KX := hY w _ Y
  obtain ⟨fd, c, Pc, ht, nT, Fn, S, hb, body⟩ := F w mg fa _ KX G.T.g hmg
  obtain ⟨hC, hT⟩ := PySem.W.tab_of G.T KX hrec ht
  refine law_callT (CT := L2.CX l.prog w) KX G.T.g G.T.b G.T.builtins G.T.nolimit hg hT nT hC G.T.bmain hobj hints (Nat.le_trans hlen hn2) (fun H e s' h => ?_) fun base kin sp TB H T0 e0 hS => ?_
  · obtain ⟨_, _, _, _, _, _, _, _, _, _, _, _, z⟩ := h
    exact z
  · obtain ⟨oc, od, kV, doc', pm', an, cdv, ct, osl, rfl, lk, hcd'⟩ := Fn.ex
    have ec : cdv = .ref c := PySem.W.law_code KX G.T.g ht hmg (KX _ _ lk) rfl
    subst ec
    refine LamX.run_ofS lk hcd' S (us := [.ref a]) (vs := [.ref a]) hr e0 (hb _ _) (.cons rfl .nil) rfl fun rm => ?_
    have tk : Takes (cxOf (L2.CX l.prog w) l.prog w (K w.params) mg base N qual (defScope st) fa (.ref c) callerA [] s1 H (fun _ _ _ => False)) (fun cls d _ H => False) := takes_of rfl rfl rfl rfl
    obtain ⟨t, h1, h2⟩ := body base s1 H kin sp TB a ns T0 hlen hS ⟨rfl, rfl, rfl, up_refl _, rfl, rfl, rm, rfl, S.nd, fun σ => passAt tk σ, passes_of rfl, tk⟩
    exact ⟨t, h1, h2⟩
end PD
namespace PD
open PySem PySem.Spec PyProof.Rows L2
/-! ## a text walked -/
def dIStr (g : M → Out EV) (m : M) : Out Wk := (g m).bind fun ev m1 => match ev with
  | .v (.str z) => .ok ⟨z.cps.toList.map fun c => .str ⟨#[c]⟩, fun _ => True⟩ m1
  | _ => .bad
section
variable {K : Kf} {mg : Str → Option Value} {E : XS} {pa : Bool}
theorem ti_str {ta : TE} {ga : M → Out EV} (h : TEok K mg E pa ta ga) : TIok K mg E (iStr ta) (dIStr ga) := fun F0 G π m σ F H fp R S p => by
  refine h F0 G π m σ F H fp _ S ?_
  unfold dIStr at p
  cases e : ga m with
  | bad => rw [e] at p; exact p
  | exc c d m' => rw [e] at p; exact p
  | ok ev m1 =>
    rw [e] at p
    cases ev with
    | br o q => exact p.elim
    | fr s => exact p.elim
    | v d =>
      cases d with
      | str z =>
        intro v F1 H1 fp1 S1 c1 e1
        have e1 : v = .str z := e1
        refine ⟨z, e1, p (Its z) F1 H1 fp1 S1 c1.ext fun F0' G' _ _ => ?_⟩
        intro m2 σ2 F2 H2 fp2 S2 s2 _
        refine ⟨fun i d e => ?_, ?_⟩
        · have e : (z.cps.toList.map fun c => D.str ⟨#[c]⟩)[i]? = some d := e
          rw [List.getElem?_map, Option.map_eq_some_iff] at e
          obtain ⟨c, hc, rfl⟩ := e
          rw [Array.getElem?_toList] at hc
          refine ⟨(Array.getElem?_eq_some_iff.mp hc).1, fun x H3 hy => ?_⟩
          obtain ⟨rfl, c', hc', hx⟩ := hy
          rw [hc] at hc'
          cases hc'
          exact ⟨F2, S2, Same.refl _, Same.refl _, fun _ h => .inl h, hx⟩
        · show z.cps.size ≤ (z.cps.toList.map fun c => D.str ⟨#[c]⟩).length
          rw [List.length_map, Array.length_toList]
          exact Nat.le_refl _
      | _ => exact p.elim
end
/-! ## a tuple of things that are there: nothing but a new tuple -/
def vsOf : List EV → Option (List D)
  | [] => some []
  | .v d :: r => (vsOf r).map (d :: ·)
  | _ :: _ => none
def kTupV (m : M) (es : List EV) : Out EV := match vsOf es with
  | some ds => if ds.length ≤ bigLen then .ok (.v (.tup ds)) m else .bad
  | none => .bad
section
variable {K : Kf} {mg : Str → Option Value} {E : XS} {pa : Bool} {F0 G : Hp} {π : List V} {σ : L2.St} {F H : Hp} {fp : Ow → List Addr}
theorem vsOf_rep {N : Addr → Prop} : ∀ {es : List EV} {ds : List D} {vs : List V}, EvFs K G π σ F H fp N vs es → vsOf es = some ds → RepAll K F ds vs
  | [], ds, vs, h, e => by
    cases e
    cases h
    rfl
  | .v d :: r, ds, vs, h, e => by
    have e : (vsOf r).map (d :: ·) = some ds := e
    rw [Option.map_eq_some_iff] at e
    obtain ⟨ds', e', rfl⟩ := e
    cases h with
    | @cons v vs _ _ h1 h2 => exact ⟨v, vs, rfl, h1, vsOf_rep h2 e'⟩
  | .br _ _ :: _, _, _, _, e => by cases e
  | .fr _ :: _, _, _, _, e => by cases e
theorem k_tupV : KOkN K mg E true (fun _ xs H Q => xs.length ≤ sizeLine ∧ ∀ p, H p = none → Q (.ref p) (upd H p (.tup xs))) kTupV := fun F0 G π m σ F H fp Q xs es S hx p => by
  unfold kTupV at p
  cases e : vsOf es with
  | none => rw [e] at p; exact p.elim
  | some ds =>
    rw [e] at p
    have p : PostE K mg E true F0 G π m σ F H fp Q (if ds.length ≤ bigLen then .ok (.v (.tup ds)) m else .bad) := p
    by_cases hl : ds.length ≤ bigLen
    · rw [if_pos hl] at p
      have r := vsOf_rep hx e
      refine ⟨by rw [repAll_len r]; exact big_le hl, fun q hq => ?_⟩
      have s3 : Same F (upd F q (.tup xs)) := same_new (same_none S.sub hq)
      refine p (.ref q) _ _ fp (S.allocF (.tup xs) hq) ⟨s3, fun _ => ⟨rfl, rfl, same_new hq, fun a ha => ?_⟩⟩ ⟨q, xs, rfl, upd_same, RepAll.mono s3 _ _ r⟩
      by_cases z : a = q
      · subst z; exact .inr hq
      · rw [upd_ne z] at ha; exact .inl ha
    · rw [if_neg hl] at p; exact p.elim
end
/-! ## sorted(d), where the keys are tuples -/
def keyDD : Key → D
  | .inl i => .int i
  | .inr s => .str s
def keyDt (k : List Key) : D := .tup (k.map keyDD)
/-- the tuples of H -/
def tupF (H : Hp) : Hp := fun b => match H b with
  | some (.tup vs) => some (.tup vs)
  | _ => none
theorem tupF_some {H : Hp} {b : Addr} {x : HO} (h : tupF H b = some x) : ∃ vs, x = .tup vs ∧ H b = some (.tup vs) := by
  unfold tupF at h
  split at h
  · rename_i vs e
    cases h
    exact ⟨vs, rfl, e⟩
  · cases h
theorem tupF_at {H : Hp} {b : Addr} {vs : List V} (h : H b = some (.tup vs)) : tupF H b = some (.tup vs) := by
  unfold tupF
  rw [h]
def mergeF (F H : Hp) : Hp := fun b => match F b with
  | some x => some x
  | none => tupF H b
theorem mergeF_l {F H : Hp} : Same F (mergeF F H) := fun b x e => by unfold mergeF; rw [e]
theorem mergeF_r {F H : Hp} (s : Same F H) : Same (tupF H) (mergeF F H) := fun b x e => by
  obtain ⟨vs, rfl, h⟩ := tupF_some e
  unfold mergeF
  cases z : F b with
  | none => exact e
  | some y =>
    have := s b y z
    rw [h] at this
    cases this
    rfl
theorem mergeF_some {F H : Hp} {b : Addr} {x : HO} (h : mergeF F H b = some x) : F b = some x ∨ (F b = none ∧ ∃ vs, x = .tup vs ∧ H b = some (.tup vs)) := by
  unfold mergeF at h
  cases z : F b with
  | none => rw [z] at h; exact .inr ⟨rfl, tupF_some h⟩
  | some y => rw [z] at h; exact .inl h
theorem StF.tups {K : Kf} {F0 G : Hp} {π : List V} {m : M} {σ : L2.St} {F H : Hp} {fp : Ow → List Addr} (S : StF K F0 G π m σ F H fp) : StF K F0 G π m σ (mergeF F H) H fp := by
  refine ⟨S.len, S.plen, fun a x e => ?_, S.base, S.mono.trans mergeF_l, fun a h => ?_, fun o s e => ?_, S.non, S.ali, S.nd, S.dj, fun o a h => ⟨?_, (S.fr o a h).2⟩, fun a ps e => ?_, S.ntG, S.tab⟩
  · rcases mergeF_some e with z | ⟨_, vs, rfl, z⟩
    · exact S.sub a x z
    · exact z
  · cases e : mergeF F H a with
    | none => exact absurd e h
    | some x =>
      rcases mergeF_some e with z | ⟨_, vs, rfl, z⟩
      · exact S.new a (by rw [z]; exact Option.some_ne_none _)
      · exact .inr (NF.sub S.base (.inr ⟨vs, z⟩))
  · obtain ⟨v, h1, h2⟩ := S.own o s e
    exact ⟨v, h1, h2.keep mergeF_l _ _ _ fun _ _ => rfl⟩
  · cases e : mergeF F H a with
    | none => rfl
    | some x =>
      rcases mergeF_some e with z | ⟨_, vs, rfl, z⟩
      · rw [(S.fr o a h).1] at z; cases z
      · obtain ⟨y, hy, hp⟩ := S.plain h
        rw [z] at hy
        exact absurd (Option.some.inj hy).symm (plain_tup hp vs)
  · rcases mergeF_some e with z | ⟨_, vs, z, _⟩
    · exact S.ntF a ps z
    · cases z
section
variable {prog : Program} {w : World}
theorem src_raw {d : Addr} {es : Array DictEntry} {ep : Nat} (lo : (d == sysModules) = false) : PySem.W.KdlSrc prog w "dict" d d es.size (fun i v => ∃ hi : i < es.size, v = es[i].key) (fun h => h.DictRaw d es ep) where
  type := fun _ hm => hm.typeIs
  there := fun _ hm => let ⟨_, ho, _⟩ := hm; ⟨Heap.lt_size ho, Heap.lt_size ho⟩
  keep := fun _ _ hm hk => hm.at fun o e => hk d (.inl rfl) o e
  notList := by decide
  notTuple := by decide
  hint := fun _ _ _ _ hm hq => PySem.W.kdl_hint_dict hm.typeIs hq
  iter := fun _ _ hh hm => ⟨_, _, (fun _ _ hq => wpAny_pyIter_dict_raw lo hm hq), Walks.rawKeys hh _ d (Nat.ne_of_lt (let ⟨_, ho, _⟩ := hm; Heap.lt_size ho)) es ep, ⟨⟨_, Heap.get?_push_size _ rfl, rfl, rfl⟩, hm.at fun o e => Heap.get?_push_of_some _ e⟩⟩
end
def rSortDT (K : Kf) : List V → Hp → VK → Prop := fun xs H Q => ∃ (a : Addr) (kvs : List (List Key × V)), xs = [.ref a] ∧ Rd H a (.dT kvs) ∧ sortOkD (kvs.map fun kv => keyDt kv.1) = true ∧
  ∀ p ys, H p = none → RepAll K (tupF H) (sortD (kvs.map fun kv => keyDt kv.1)) ys → Q (.ref p) (upd H p (.lst ys))
section
variable {X : Cx} {K : Kf}
theorem rep_keys {F : Hp} : ∀ k : List Key, RepAll K F (k.map keyDD) (k.map kV)
  | [] => rfl
  | .inl i :: k => ⟨.int i, k.map kV, rfl, rfl, rep_keys k⟩
  | .inr s :: k => ⟨.str s, k.map kV, rfl, rfl, rep_keys k⟩
theorem keysT_rep {H : Hp} : ∀ {kvs : List (List Key × V)} {xs : List (List Key × Addr × Value)}, KT H kvs xs → RepAll K (tupF H) (kvs.map fun kv => keyDt kv.1) (xs.map fun x => V.ref x.2.1)
  | [], [], _ => rfl
  | p :: kvs, q :: xs, .cons hq t => ⟨.ref q.2.1, _, rfl, ⟨q.2.1, p.1.map kV, rfl, tupF_at hq.2.1, rep_keys p.1⟩, keysT_rep t⟩
theorem call_sortDT (up : Up K X.K) (hcalm : X.calm = true) (hu : X.A.units + 200 < cLine) : CallR X (.builtin "sorted") (rSortDT K) := by
  intro pins s σ H xs us Q I r q
  obtain ⟨a, kvs, rfl, hd, ok, q⟩ := q
  obtain ⟨u, rfl, rx⟩ := vals1 r
  obtain rfl : u = .ref a := rx
  obtain ⟨z, lo, xs, rel, dd⟩ := dt_rd I.hok hd
  obtain ⟨es, ep, hat, hsz, hen⟩ := dd.raw
  have hl : kvs.length = xs.length := Paired.length rel
  have h16 : es.size ≤ sizeLine := by omega
  unfold sortOkD at ok
  simp only [Bool.and_eq_true, List.all_eq_true, decide_eq_true_eq] at ok
  obtain ⟨⟨⟨ok1, ok2⟩, ok3⟩, ok4⟩ := ok
  refine Calls.call_function_entry PyProof.Rows.kind_sorted PyProof.Rows.plain_sorted PyProof.Rows.entry_sorted (PyProof.Rows.args_sorted1 _) ?_
  unfold Builtin.«sorted»
  refine wpAny_bind (m := checkCount "sorted" 1 1 _) (wpAny_pure ?_)
  refine wpAny_bind (PySem.W.kdu_collect (A := X.A.in1) (src_raw (es := es) (ep := ep) lo) (I.ok.hd hcalm) hat h16 fun h' tk acc hk hacc => ?_)
  have hal : acc.toList = xs.map fun x => Value.ref x.2.1 := by
    apply List.ext_getElem?
    intro j
    by_cases hj : j < es.size
    · obtain ⟨y, hy, hy2, _⟩ := hen j hj
      have hja : j < acc.size := by rw [hacc.1]; exact hj
      obtain ⟨_, hv⟩ := hacc.2 j acc[j] (Array.getElem?_eq_getElem hja)
      rw [Array.getElem?_toList, Array.getElem?_eq_getElem hja, hv, hy2, List.getElem?_map, hy]
      rfl
    · rw [Array.getElem?_toList, Array.getElem?_eq_none (by rw [hacc.1]; omega), List.getElem?_eq_none (by rw [List.length_map]; omega)]
  have I1 : Inv X pins σ H { s with heap := h', toks := tk } := I.kept hk
  refine wpAny_bind (wpAny_newList ?_ (by rw [hal, List.length_map]; omega))
  rw [hal]
  have hoL : (h'.push (seqObj "list" (xs.map fun x => Value.ref x.2.1).toArray 0)).get? h'.objs.size = some (seqObj "list" (xs.map fun x => Value.ref x.2.1).toArray 0) := Heap.get?_push_size _ rfl
  show wpAny _ _ _ _ _ { s with heap := h'.push (seqObj "list" (xs.map fun x => Value.ref x.2.1).toArray 0), toks := tk }
  have rep := keysT_rep (K := K) rel
  have rv : Vals (xs.map fun x => V.ref x.2.1) (xs.map fun x => Value.ref x.2.1) := by
    clear rep rel hl hen dd hal hoL hsz
    induction xs with
    | nil => exact .nil
    | cons x xs ih => exact .cons rfl ih
  have er : PySem.W.EachIs (fun (u : Value) d => ∃ v, Rep K (tupF H) d v ∧ RelV v u) (xs.map fun x => Value.ref x.2.1) (kvs.map fun kv => keyDt kv.1) := each_of rep rv
  have sT : Same (tupF H) H := fun b x e => by
    obtain ⟨vs, rfl, h⟩ := tupF_some e
    exact h
  have I2 : Inv X pins σ H { s with heap := h'.push (seqObj "list" (xs.map fun x => Value.ref x.2.1).toArray 0), toks := tk } := I1.kept fun b o e => Heap.get?_push_of_some _ e
  have hno : ∀ (d : D) (v : V) (u : Value), d ∈ kvs.map (fun kv => keyDt kv.1) → Rep K (tupF H) d v → RelV v u → ∃ as, Reads (h'.push (seqObj "list" (xs.map fun x => Value.ref x.2.1).toArray 0)) u (encD d) as ∧ h'.objs.size ∉ as := fun d v u hm r1 r2 => by
    obtain ⟨x, hx, rfl⟩ := List.mem_map.mp hm
    obtain ⟨as, hr⟩ := Dp.reads I1 (encD (keyDt x.1)) v u (dp_up up _ _ (rep_dp sT _ v _ r1 (toPy_enc (ok1 _ hm).1))) r2
    refine ⟨as, PyProof.Rows.Reads.keeps (fun b o e => Heap.get?_push_of_some _ e) hr, fun hz => ?_⟩
    obtain ⟨o, ho⟩ := PyProof.On.reads_mem_get hr _ hz
    exact Nat.lt_irrefl _ (Heap.lt_size ho)
  refine wpAny_bind (wpAny_holding (PySem.W.list_sort_data (enc := encD) hoL er ?_ ?_ ?_ (by rw [List.length_map]; omega) (fun d hd => ?_) fun out h1 h2 => ?_))
  · refine (PySem.W.each_mem er).mono fun u d hd => ?_
    obtain ⟨⟨v, r1, r2⟩, hm⟩ := hd
    exact hno d v u hm r1 r2
  · intro d hd d' hd'
    obtain ⟨x, hx, rfl⟩ := List.mem_map.mp hd
    obtain ⟨y, hy, rfl⟩ := List.mem_map.mp hd'
    exact ok2 x hx y hy
  · rcases Bool.or_eq_true _ _ ▸ ok4 with z | z
    · refine .inl fun d hd => ?_
      obtain ⟨x, hx, rfl⟩ := List.mem_map.mp hd
      have := List.all_eq_true.mp z x hx
      split at this
      · rename_i y r' e; exact ⟨y, r', e⟩
      · cases this
    · refine .inr fun d hd => ?_
      obtain ⟨x, hx, rfl⟩ := List.mem_map.mp hd
      have := List.all_eq_true.mp z x hx
      refine ⟨fun e => ?_, fun xs e => ?_⟩ <;> rw [e] at this <;> cases this
  · have := (ok1 d hd).2
    show X.A.units + 1 + 1 + (encD d).depth < cLine
    omega
  · obtain ⟨e', he'⟩ := PyProof.Rows.sortedHeap_at (vs := xs.map fun x => Value.ref x.2.1) (out := out.toArray) hoL
    obtain ⟨ys, r3, r4⟩ := each_back h2
    have hlen : ys.length ≤ sizeLine := by
      rw [repAll_len r3, List.length_mergeSort, List.length_map]
      omega
    refine wpAny_pure ⟨_, rfl, .ref h'.objs.size, upd H h'.objs.size (.lst ys), I1.laid (t' := tk) (fun b u e => ?_) (Nat.le_refl _) ⟨hlen, out, e', r4, he'⟩, rfl, q _ ys (I1.hok.fresh (Nat.le_refl _)) r3⟩
    have hb : b < h'.objs.size := Heap.lt_size e
    rw [PyProof.Rows.sortedHeap_old (Nat.ne_of_lt hb) (by rw [size_push']; exact Nat.lt_succ_of_lt hb)]
    exact Heap.get?_push_of_some _ e
end
end PD
namespace PD
open PySem PySem.Spec PyProof.Rows L2
/-- the keys of a dict whose keys are tuples -/
def keysT : SV → Option (List (List Key))
  | .ot kvs => some (kvs.map (·.1))
  | .fz (.dt kvs) => some (kvs.map (·.1))
  | _ => none
def kSortDT (m : M) (es : List EV) : Out EV := match es with
  | [x] => match (view m x).bind keysT with
    | some ks => if sortOkD (ks.map keyDt) = true then .ok (.fr (.ol ((sortD (ks.map keyDt)).map .fz))) m else .bad
    | none => .bad
  | _ => .bad
section
variable {K : Kf} {mg : Str → Option Value} {E : XS}
theorem ownT_keys {F H : Hp} : ∀ {xs : List (List Key × SV)} {ws : List (List Key × V)} {q : List Addr}, OwnT K F H xs ws q → ws.map (·.1) = xs.map (·.1)
  | [], ws, q, h => by obtain ⟨rfl, _⟩ := h; rfl
  | (k, x) :: xs, ws, q, ⟨v, r, q1, q2, e, _, h, _⟩ => by
    subst e
    show k :: r.map (·.1) = k :: xs.map (·.1)
    rw [ownT_keys h]
theorem repT_keys {F : Hp} : ∀ {xs : List (List Key × D)} {ws : List (List Key × V)}, RepT K F xs ws → ws.map (·.1) = xs.map (·.1)
  | [], ws, h => by have h : ws = [] := h; subst h; rfl
  | (k, x) :: xs, ws, ⟨v, r, e, _, h⟩ => by
    subst e
    show k :: r.map (·.1) = k :: xs.map (·.1)
    rw [repT_keys h]
theorem cont_keysT {F H : Hp} (e : Same F H) {s : SV} {v : V} (h : Cont K F H s v) {ks : List (List Key)} (hk : keysT s = some ks) : ∃ a ws, v = .ref a ∧ H a = some (.dT ws) ∧ ws.map (·.1) = ks := by
  cases s with
  | fz d =>
    cases d with
    | dt kvs =>
      cases hk
      obtain ⟨a, ws, rfl, h1, h2⟩ := cont_fz h
      exact ⟨a, ws, rfl, e _ _ h1, repT_keys h2⟩
    | _ => cases hk
  | ol _ => cases hk
  | ok _ => cases hk
  | ot kvs =>
    cases hk
    obtain ⟨q, a, ws, r, rfl, h1, h2, _⟩ := h
    exact ⟨a, ws, rfl, h1, ownT_keys h2⟩
theorem k_sortDT : KOkN K mg E false (fun _ xs H Q => rSortDT K xs H Q) kSortDT := fun F0 G π m σ F H fp Q xs es S hx p => by
  unfold kSortDT at p
  split at p
  · rename_i x
    cases hx with
    | @cons v vs _ _ h1 h2 =>
      cases h2
      cases ev : view m x with
      | none => rw [ev] at p; exact p.elim
      | some s =>
        rw [ev] at p
        have p : PostE K mg E false F0 G π m σ F H fp Q (match keysT s with
          | some ks => if sortOkD (ks.map keyDt) = true then .ok (.fr (.ol ((sortD (ks.map keyDt)).map .fz))) m else .bad
          | none => .bad) := p
        cases ek : keysT s with
        | none => rw [ek] at p; exact p.elim
        | some ks =>
          rw [ek] at p
          have p : PostE K mg E false F0 G π m σ F H fp Q (if sortOkD (ks.map keyDt) = true then .ok (.fr (.ol ((sortD (ks.map keyDt)).map .fz))) m else .bad) := p
          by_cases ok : sortOkD (ks.map keyDt) = true
          · rw [if_pos ok] at p
            obtain ⟨a, ws, rfl, hd, hk⟩ := cont_keysT S.sub (S.view h1 ev) ek
            have em : (ws.map fun kv => keyDt kv.1) = ks.map keyDt := by
              rw [← hk, List.map_map]
              rfl
            refine ⟨a, ws, rfl, .inl hd, by rw [em]; exact ok, fun q ys hq r => ?_⟩
            rw [em] at r
            have S1 := S.tups
            have r1 : RepAll K (mergeF F H) (sortD (ks.map keyDt)) ys := RepAll.mono (mergeF_r S.sub) _ _ r
            have f := S1.freshG hq
            have S2 := S1.allocO (.lst ys) hq
            refine p (.ref q) _ _ fp S2 ⟨mergeF_l, fun z => by cases z⟩ ⟨[q], ⟨q, ys, [], rfl, upd_same, ownL_fz r1, rfl⟩, List.nodup_cons.mpr ⟨by simp, List.nodup_nil⟩, fun b hb => ?_⟩
            obtain rfl : b = q := by simpa using hb
            exact ⟨f.1, f.2.1, f.2.2, fun z => by cases z⟩
          · rw [if_neg ok] at p; exact p.elim
  · exact p.elim
theorem ts_parG3 {KX : Kf} {ts : TA} {g : M → Out (List SV)} {i j l : Nat} (h : TRok K mg E ts g) : TSok K mg E (tAsg (tTup ts) (gTup KX 3 (gCons (gName i) (gCons (gName j) (gCons (gName l) gNil))))) (dPar [i, j, l] g) := fun F0 G π m σ F H fp Dn S p => by
  refine h F0 G π m σ F H fp _ S ?_
  unfold dPar at p
  cases e : g m with
  | bad => rw [e] at p; exact p
  | exc c d m' => rw [e] at p; exact p σ
  | ok ss m1 =>
    rw [e] at p
    intro vs F' H' fp' q S' _ o nd fr
    have p : PostS K mg E F0 G π Dn (match putSl [i, j, l] ss m1 with
      | .ok _ m2 => .ok .nx m2
      | _ => .bad) := p
    cases e2 : putSl [i, j, l] ss m1 with
    | bad => rw [e2] at p; exact p.elim
    | exc c d m' => rw [e2] at p; exact p.elim
    | ok u m2 =>
      rw [e2] at p
      obtain ⟨_, _, hl⟩ := putSl_ok S' o nd fr e2
      have hl : vs.length = 3 := hl
      match vs, hl, o with
      | [v, w, x], hl, o =>
        refine ⟨by show 3 ≤ sizeLine; decide, fun p0 hp0 => ?_⟩
        have S2 := S'.allocO (.tup [v, w, x]) hp0
        have o2 : OwnL K F' (upd H' p0 (.tup [v, w, x])) ss [v, w, x] q := o.keep (Same.refl F') _ _ _ fun a ha => upd_ne fun z => by
          have := o.there _ _ _ a ha
          rw [z] at this
          exact this hp0
        obtain ⟨fp2, S3, _⟩ := putSl_ok S2 o2 nd fr e2
        exact ⟨p0, [v, w, x], rfl, SqT.of upd_same, rfl, v, [w, x], rfl, w, [x], rfl, x, [], rfl, rfl, p _ F' _ fp2 S3⟩
end
section
variable {K : Kf} {X : Cx} {P : Program} {w : World} {KX : Kf} {mg : Str → Option Value} {base : Heap} {n : Nat} {E : XS} {pa pb pc pu pl ph po : Bool} {ta tb tc te to : TE} {ga gb gc ge go : M → Out EV} {a b c e o i : Expr} {es : List Expr} {pos p p2 p3 apos cpos : Pos} {x : Str}
theorem di_str (C : Cxt X P w KX K mg base n E) {tg : Expr} (h : DE X K mg E e pa ta ga) : DI X K mg E tg e (iStr ta) (dIStr ga) := ⟨pi_str h.pe, ti_str h.ok⟩
theorem de_tupP {ts : TA} {gs : M → Out (List EV)} {j} (h : DA X K mg E es pb ts gs) : DE X K mg E (.Tuple es j pos) (pb && true) (tTup ts) (dApp gs kTupV) := ⟨pe_tup h.pe, te_app h.ok (k_tupV (K := K) (mg := mg) (E := E))⟩
theorem q_sortDT (C : Cxt X P w KX K mg base n E) {t : TA} {gs : M → Out (List EV)} (hm : mg "sorted" = none) (ha : DA X K mg E [e] pb t gs) (hg : Gl X "sorted" := by rfl)
    (he : starEach [e] X.env = (false, eval e X.env) :: starEach [] X.env := by rfl) (hpl : (backTo pos (starEach [] X.env)).any (·.1) = false := by rfl) (hv : bootBuiltins "sorted" = some (.builtin "sorted") := by decide +kernel) :
    DE X K mg E (.Call (.Name "sorted" p) [e] [] pos) (pb && false) (tCB (rSortDT K) t) (dApp gs kSortDT) := by
  have hu := C.hu200
  obtain ⟨rfl, rfl, rfl, up, rfl, rfl, _, calm, _, _, _⟩ := C
  exact ⟨pe_callB (call_sortDT up calm hu) hg hm hv ha.pe (by decide) (by decide) he hpl, te_app ha.ok k_sortDT⟩
theorem ds_parG3 (C : Cxt X P w KX K mg base n E) {i j l : Nat} {y z : Str} {ts : TA} {g : M → Out (List SV)} {px py pz pt pt2 : Pos} {kt k2 : Nat} (h : DR X K mg E [a, b, c] ts g) (g1 : DG X K (.Name x px) (gName i) (bName i)) (g2 : DG X K (.Name y py) (gName j) (bName j)) (g3 : DG X K (.Name z pz) (gName l) (bName l))
    (he1 : (assignEach [.Name x px, .Name y py, .Name z pz] X.env).map (·.2) = assign (.Name x px) X.env :: (assignEach [.Name y py, .Name z pz] X.env).map (·.2) := by rfl)
    (he2 : (assignEach [.Name y py, .Name z pz] X.env).map (·.2) = assign (.Name y py) X.env :: (assignEach [.Name z pz] X.env).map (·.2) := by rfl)
    (he3 : (assignEach [.Name z pz] X.env).map (·.2) = assign (.Name z pz) X.env :: (assignEach [] X.env).map (·.2) := by rfl)
    (hn : (assignEach [.Name x px, .Name y py, .Name z pz] X.env).length = 3 := by rfl) (hst : (assignEach [.Name x px, .Name y py, .Name z pz] X.env).findIdx? (·.1) = none := by rfl)
    (hs : swapsWithSole [.Tuple [.Name x px, .Name y py, .Name z pz] kt pt] (.Tuple [a, b, c] k2 pt2) pos.line X.env = pure false := by rfl)
    (hw : swappedStores [.Tuple [.Name x px, .Name y py, .Name z pz] kt pt] (.Tuple [a, b, c] k2 pt2) X.env = pure none := by rfl)
    (h1 : (assignEach [.Tuple [.Name x px, .Name y py, .Name z pz] kt pt] X.env).map (·.2) = [assign (.Tuple [.Name x px, .Name y py, .Name z pz] kt pt) X.env] := by rfl) :
    DS X K mg E (.Assign [.Tuple [.Name x px, .Name y py, .Name z pz] kt pt] (.Tuple [a, b, c] k2 pt2) pos) (tAsg (tTup ts) (gTup KX 3 (gCons (gName i) (gCons (gName j) (gCons (gName l) gNil))))) (dPar [i, j, l] g) := by
  obtain ⟨rfl, rfl, rfl, up, rfl, rfl, _, calm, _, _, _⟩ := C
  exact ⟨ps_asg (pe_tup h.pe) (pg_tup calm (pgs_cons g1.pe (pgs_cons g2.pe (pgs_cons g3.pe pgs_nil he3) he2) he1) hn hst) hs hw h1, ts_parG3 h.ok⟩
end
end PD
namespace PD
open PySem PySem.Spec PyProof.Rows L2
/-! ## the start, where the table of the law's code object is tracked -/
def tabO (Pc : Addr) (q : Str) : Obj := { cls := .none, data := .fields #[.ref Pc, .str q default] }
/-- the fragment, with a last entry that tells the table (shadowed: f is known already) -/
def kTab (K : Kf) (f Pc : Addr) (q : Str) : Kf := K ++ [(f, tabO Pc q)]
theorem lookup_app_some {K : Kf} {f : Addr} {x o : Obj} (hf : K.lookup f = some o) : ∀ a : Addr, List.lookup a (K ++ [(f, x)]) = K.lookup a := by
  induction K generalizing o with
  | nil => cases hf
  | cons p K ih =>
    intro a
    obtain ⟨b, y⟩ := p
    rw [List.cons_append, List.lookup_cons, List.lookup_cons]
    by_cases h : a == b
    · rw [h]
    · have h' : (a == b) = false := by simpa using h
      rw [h']
      show List.lookup a (K ++ [(f, x)]) = List.lookup a K
      by_cases hb : f == b
      · -- the entry f stands here; behind it nothing is said of f
        by_cases hk : (List.lookup f K).isSome = true
        · obtain ⟨o', ho'⟩ := Option.isSome_iff_exists.mp hk
          exact ih ho' a
        · have : ∀ L : Kf, List.lookup a (L ++ [(f, x)]) = List.lookup a L := by
            have ne : (a == f) = false := by
              have e : f = b := by simpa using hb
              rw [e]; exact h'
            intro L
            induction L with
            | nil => rw [List.nil_append, List.lookup_cons, ne]
            | cons q L ihL =>
              obtain ⟨d, z⟩ := q
              rw [List.cons_append, List.lookup_cons, List.lookup_cons, ihL]
          exact this K
      · have hb' : (f == b) = false := by simpa using hb
        rw [List.lookup_cons, hb'] at hf
        exact ih hf a
theorem kTab_facts {K : Kf} {f Pc : Addr} {q : Str} {o : Obj} (h : K.lookup f = some o) : Up (kTab K f Pc q) K ∧ tabsOf (kTab K f Pc q) = [(Pc, q)] := by
  refine ⟨fun a x e => ?_, ?_⟩
  · have e : List.lookup a (K ++ [(f, tabO Pc q)]) = some x := e
    rw [lookup_app_some h] at e
    exact e
  · unfold tabsOf kTab
    rw [List.getLast?_append]
    rfl
theorem Cxt.down {X : Cx} {P : Program} {w : World} {KX K K' : Kf} {mg : Str → Option Value} {base : Heap} {n : Nat} {E : XS} (C : Cxt X P w KX K mg base n E) (u : Up K' KX) : Cxt X P w KX K' mg base n E :=
  ⟨C.hP, C.hw, C.hK, u, C.hm, C.hb, C.room, C.calm, C.nd, C.hx, C.pown, C.tk⟩
open Classical in
/-- all that is tracked but tables -/
noncomputable def cutT (H : Hp) : Hp := fun b => if isTb H b then none else H b
theorem cutT_some {H : Hp} {b : Addr} {x : HO} (h : cutT H b = some x) : H b = some x ∧ ∀ ps, x ≠ .tbl ps := by
  unfold cutT at h
  by_cases z : isTb H b
  · rw [if_pos z] at h; cases h
  · rw [if_neg z] at h
    exact ⟨h, fun ps e => z ⟨ps, e ▸ h⟩⟩
theorem cutT_at {H : Hp} {b : Addr} {x : HO} (h : H b = some x) (n : ∀ ps, x ≠ .tbl ps) : cutT H b = some x := by
  unfold cutT
  rw [if_neg, h]
  rintro ⟨ps, e⟩
  rw [h] at e
  exact n ps (Option.some.inj e)
theorem st0_stf {K : Kf} {H : Hp} {a Pc : Addr} {q : Str} (T : St0 H a Pc) (hT : tabsOf K = [(Pc, q)]) : StF K (cutT H) (cutT H) [] ⟨[], []⟩ [] (cutT H) H (fun _ => []) := by
  refine ⟨rfl, rfl, fun b x e => (cutT_some e).1, fun b x e => (cutT_some e).1, Same.refl _, fun a h => .inl h, fun o s e => (by cases o <;> simp [PD.get] at e), fun o h => rfl, fun i k e => (by simp at e), fun o => List.nodup_nil, fun o o' a h => (by cases h), fun o a h => (by cases h), fun b ps e => (cutT_some e).2 ps rfl, fun b ps e => (cutT_some e).2 ps rfl, ?_⟩
  rw [hT]
  intro p hp
  rw [List.mem_singleton.mp hp]
  exact LamX.TabS.nil T.tb
theorem sql_cut {K : Kf} {H : Hp} {a Pc f : Addr} {q : Str} {o : Obj} {xs : List V} (T : St0 H a Pc) (l : K.lookup f = some o) (h : SqL K H a xs) : SqL (kTab K f Pc q) (cutT H) a xs := by
  rcases h with h | ⟨ob, its, n, h1, h2⟩
  · refine .inl ?_
    rcases h with h | ⟨ob, h⟩
    · exact .inl (cutT_at h fun ps z => by cases z)
    · exact .inr ⟨ob, cutT_at h fun ps z => by cases z⟩
  · exact .inr ⟨ob, its, n, (lookup_app_some l a).trans h1, h2⟩
end PD
namespace K31
open PySem PySem.Spec PyProof.Rows L2 PD
def topS (i : Nat) : Stmt := PySem.Challenge.pw_surelythisrock_k31_chains_of_swaps.main.body.getD i (.Pass ⟨0, 0, 0, 0⟩)
abbrev s_is_whole : Stmt := topS 8
theorem sc_is_whole : FnScope ["thing"] ["thing"] (defScope s_is_whole) := ⟨rfl, rfl, rfl, by decide +kernel, rfl, by decide +kernel, by decide +kernel⟩
abbrev s_is_tuple_of : Stmt := topS 9
theorem sc_is_tuple_of : FnScope ["thing", "many"] ["thing", "many"] (defScope s_is_tuple_of) := ⟨rfl, rfl, rfl, by decide +kernel, rfl, by decide +kernel, by decide +kernel⟩
abbrev s_is_name : Stmt := topS 10
theorem sc_is_name : FnScope ["thing", "sign"] ["thing"] (defScope s_is_name) := ⟨rfl, rfl, rfl, by decide +kernel, rfl, by decide +kernel, by decide +kernel⟩
abbrev s_is_swap : Stmt := topS 12
theorem sc_is_swap : FnScope ["thing"] ["thing"] (defScope s_is_swap) := ⟨rfl, rfl, rfl, by decide +kernel, rfl, by decide +kernel, by decide +kernel⟩
abbrev s_are_swaps : Stmt := topS 13
theorem sc_are_swaps : FnScope ["thing", "swap", "one", "other"] ["thing"] (defScope s_are_swaps) := ⟨rfl, rfl, rfl, by decide +kernel, rfl, by decide +kernel, by decide +kernel⟩
abbrev s_need_swaps : Stmt := topS 14
theorem sc_need_swaps : FnScope ["swaps"] ["swaps"] (defScope s_need_swaps) := ⟨rfl, rfl, rfl, by decide +kernel, rfl, by decide +kernel, by decide +kernel⟩
abbrev s_need_kind : Stmt := topS 15
theorem sc_need_kind : FnScope ["kind"] ["kind"] (defScope s_need_kind) := ⟨rfl, rfl, rfl, by decide +kernel, rfl, by decide +kernel, by decide +kernel⟩
abbrev s_costs_from : Stmt := topS 16
theorem sc_costs_from : FnScope ["swaps", "start", "costs", "by", "is_changed", "give", "get", "fee"] ["swaps", "start"] (defScope s_costs_from) := ⟨rfl, rfl, rfl, by decide +kernel, rfl, by decide +kernel, by decide +kernel⟩
abbrev s_swap_cost : Stmt := topS 17
theorem sc_swap_cost : FnScope ["swaps", "give", "get"] ["swaps", "give", "get"] (defScope s_swap_cost) := ⟨rfl, rfl, rfl, by decide +kernel, rfl, by decide +kernel, by decide +kernel⟩
abbrev s__law_deck : Stmt := topS 19
theorem sc__law_deck : FnScope ["script", "mark", "blend", "cell"] ["script", "mark"] (defScope s__law_deck) := ⟨rfl, rfl, rfl, by decide +kernel, rfl, by decide +kernel, by decide +kernel⟩
abbrev s__law_draw : Stmt := topS 20
theorem sc__law_draw : FnScope ["deck", "many", "number", "cell"] ["deck", "many"] (defScope s__law_draw) := ⟨rfl, rfl, rfl, by decide +kernel, rfl, by decide +kernel, by decide +kernel⟩
abbrev s__law_pick : Stmt := topS 21
theorem sc__law_pick : FnScope ["deck", "some"] ["deck", "some"] (defScope s__law_pick) := ⟨rfl, rfl, rfl, by decide +kernel, rfl, by decide +kernel, by decide +kernel⟩
abbrev s__law_mixed : Stmt := topS 22
theorem sc__law_mixed : FnScope ["deck", "some", "left", "found"] ["deck", "some"] (defScope s__law_mixed) := ⟨rfl, rfl, rfl, by decide +kernel, rfl, by decide +kernel, by decide +kernel⟩
abbrev s__law_is_whole : Stmt := topS 23
theorem sc__law_is_whole : FnScope ["thing"] ["thing"] (defScope s__law_is_whole) := ⟨rfl, rfl, rfl, by decide +kernel, rfl, by decide +kernel, by decide +kernel⟩
abbrev s__law_same : Stmt := topS 24
theorem sc__law_same : FnScope ["told", "due", "one", "other"] ["told", "due"] (defScope s__law_same) := ⟨rfl, rfl, rfl, by decide +kernel, rfl, by decide +kernel, by decide +kernel⟩
abbrev s__law_swaps : Stmt := topS 25
theorem sc__law_swaps : FnScope ["deck", "kinds", "found", "wide", "thick", "give", "get", "key"] ["deck", "kinds"] (defScope s__law_swaps) := ⟨rfl, rfl, rfl, by decide +kernel, rfl, by decide +kernel, by decide +kernel⟩
abbrev s__law_costs : Stmt := topS 26
theorem sc__law_costs : FnScope ["swaps", "give", "found", "turn", "one", "other", "fee"] ["swaps", "give"] (defScope s__law_costs) := ⟨rfl, rfl, rfl, by decide +kernel, rfl, by decide +kernel, by decide +kernel⟩
abbrev s__law_refused : Stmt := topS 27
theorem sc__law_refused : FnScope ["call", "e"] ["call"] (defScope s__law_refused) := ⟨rfl, rfl, rfl, by decide +kernel, rfl, by decide +kernel, by decide +kernel⟩
abbrev s_law : Stmt := topS 28
theorem sc_law : FnScope ["script", "deck", "turn", "kinds", "swaps", "text", "go", "give", "get", "due", "here", "paid", "step", "some", "row", "bad", "odd", "wrong", "heard"] ["script"] (defScope s_law) := ⟨rfl, rfl, rfl, by decide +kernel, rfl, by decide +kernel, by decide +kernel⟩
structure Env (KX : Kf) (mg : Str → Option Value) : Prop where
  z_all : mg "all" = none
  z_bool : mg "bool" = none
  z_dict : mg "dict" = none
  z_int : mg "int" = none
  z_isinstance : mg "isinstance" = none
  z_len : mg "len" = none
  z_list : mg "list" = none
  z_max : mg "max" = none
  z_min : mg "min" = none
  z_range : mg "range" = none
  z_repr : mg "repr" = none
  z_sorted : mg "sorted" = none
  z_str : mg "str" = none
  z_tuple : mg "tuple" = none
  z_zip : mg "zip" = none
  c_FIGURES : ∃ t, mg "FIGURES" = some (.str "0123456789" t)
  c_MOST_SIGNS : ∃ t, mg "MOST_SIGNS" = some (.int 12 t)
  c_SIGNS : ∃ t, mg "SIGNS" = some (.str "abcdefghijklmnopqrstuvwxyzABCDEFGHIJKLMNOPQRSTUVWXYZ0123456789" t)
  f_is_whole : ∃ (a : Addr) (fd : FuncData), Fun KX "is_whole" "is_whole" s_is_whole a fd ∧ mg "is_whole" = some (.ref a) ∧ Binds KX fd ["thing"] []
  f_is_tuple_of : ∃ (a : Addr) (fd : FuncData), Fun KX "is_tuple_of" "is_tuple_of" s_is_tuple_of a fd ∧ mg "is_tuple_of" = some (.ref a) ∧ Binds KX fd ["thing", "many"] []
  f_is_name : ∃ (a : Addr) (fd : FuncData), Fun KX "is_name" "is_name" s_is_name a fd ∧ mg "is_name" = some (.ref a) ∧ Binds KX fd ["thing"] []
  f_is_swap : ∃ (a : Addr) (fd : FuncData), Fun KX "is_swap" "is_swap" s_is_swap a fd ∧ mg "is_swap" = some (.ref a) ∧ Binds KX fd ["thing"] []
  f_are_swaps : ∃ (a : Addr) (fd : FuncData), Fun KX "are_swaps" "are_swaps" s_are_swaps a fd ∧ mg "are_swaps" = some (.ref a) ∧ Binds KX fd ["thing"] []
  f_need_swaps : ∃ (a : Addr) (fd : FuncData), Fun KX "need_swaps" "need_swaps" s_need_swaps a fd ∧ mg "need_swaps" = some (.ref a) ∧ Binds KX fd ["swaps"] []
  f_need_kind : ∃ (a : Addr) (fd : FuncData), Fun KX "need_kind" "need_kind" s_need_kind a fd ∧ mg "need_kind" = some (.ref a) ∧ Binds KX fd ["kind"] []
  f_costs_from : ∃ (a : Addr) (fd : FuncData), Fun KX "costs_from" "costs_from" s_costs_from a fd ∧ mg "costs_from" = some (.ref a) ∧ Binds KX fd ["swaps", "start"] []
  f_swap_cost : ∃ (a : Addr) (fd : FuncData), Fun KX "swap_cost" "swap_cost" s_swap_cost a fd ∧ mg "swap_cost" = some (.ref a) ∧ Binds KX fd ["swaps", "give", "get"] []
  f__law_deck : ∃ (a : Addr) (fd : FuncData), Fun KX "_law_deck" "_law_deck" s__law_deck a fd ∧ mg "_law_deck" = some (.ref a) ∧ Binds KX fd ["script", "mark"] []
  f__law_draw : ∃ (a : Addr) (fd : FuncData), Fun KX "_law_draw" "_law_draw" s__law_draw a fd ∧ mg "_law_draw" = some (.ref a) ∧ Binds KX fd ["deck", "many"] []
  f__law_pick : ∃ (a : Addr) (fd : FuncData), Fun KX "_law_pick" "_law_pick" s__law_pick a fd ∧ mg "_law_pick" = some (.ref a) ∧ Binds KX fd ["deck", "some"] []
  f__law_mixed : ∃ (a : Addr) (fd : FuncData), Fun KX "_law_mixed" "_law_mixed" s__law_mixed a fd ∧ mg "_law_mixed" = some (.ref a) ∧ Binds KX fd ["deck", "some"] []
  f__law_is_whole : ∃ (a : Addr) (fd : FuncData), Fun KX "_law_is_whole" "_law_is_whole" s__law_is_whole a fd ∧ mg "_law_is_whole" = some (.ref a) ∧ Binds KX fd ["thing"] []
  f__law_same : ∃ (a : Addr) (fd : FuncData), Fun KX "_law_same" "_law_same" s__law_same a fd ∧ mg "_law_same" = some (.ref a) ∧ Binds KX fd ["told", "due"] []
  f__law_swaps : ∃ (a : Addr) (fd : FuncData), Fun KX "_law_swaps" "_law_swaps" s__law_swaps a fd ∧ mg "_law_swaps" = some (.ref a) ∧ Binds KX fd ["deck", "kinds"] []
  f__law_costs : ∃ (a : Addr) (fd : FuncData), Fun KX "_law_costs" "_law_costs" s__law_costs a fd ∧ mg "_law_costs" = some (.ref a) ∧ Binds KX fd ["swaps", "give"] []
  f__law_refused : ∃ (a : Addr) (fd : FuncData), Fun KX "_law_refused" "_law_refused" s__law_refused a fd ∧ mg "_law_refused" = some (.ref a) ∧ Binds KX fd ["call"] []
  x_BadKind : ∃ (C fI : Addr), ThC KX mg "BadKind" "BadKind.__init__" C fI
  x_BadSwaps : ∃ (C fI : Addr), ThC KX mg "BadSwaps" "BadSwaps.__init__" C fI
  x_root : ∃ R : Addr, mg "RockError" = some (.ref R) ∧ True
  tg : ThG KX
  e_ex : ∀ a ∈ (["BadKind", "BadSwaps"] : List Str), ∀ b ∈ (["BadKind", "BadSwaps"] : List Str), ∀ Ca Cb : Addr, mg a = some (.ref Ca) → mg b = some (.ref Cb) → PySem.W.exmOne KX (.ref Ca) (.ref Cb) = some (decide (a = b))
  e_ki : ∀ a ∈ (["BadKind", "BadSwaps"] : List Str), ∀ Ca R : Addr, mg a = some (.ref Ca) → mg "RockError" = some (.ref R) → PySem.W.kitOne KX (.ref Ca) (.ref R) = some true
section
variable {P : Program} {w : World} {KX K : Kf} {mg : Str → Option Value} {base : Heap}
theorem bb_bool : bootBuiltins "bool" = some (.type "bool") := by decide +kernel
theorem bb_dict : bootBuiltins "dict" = some (.type "dict") := by decide +kernel
theorem bb_int : bootBuiltins "int" = some (.type "int") := by decide +kernel
theorem bb_list : bootBuiltins "list" = some (.type "list") := by decide +kernel
theorem bb_str : bootBuiltins "str" = some (.type "str") := by decide +kernel
theorem bb_tuple : bootBuiltins "tuple" = some (.type "tuple") := by decide +kernel
noncomputable def b_is_whole (mg : Str → Option Value) : M → Out Ctl :=
 (dRet (dAndV (dUn (dVar 0) (kV1 (pIsi "int"))) (dNotV (dUn (dVar 0) (kV1 (pIsi "bool"))))))
noncomputable def den_is_whole (mg : Str → Option Value) : Den := dDef 1 (b_is_whole mg)
theorem f_is_whole (U : Up K KX) (G : Env KX mg) : FnD P w KX K mg base "is_whole" s_is_whole 1 ["thing"] (den_is_whole mg) := by
  obtain ⟨a, fd, h1, h2, h3⟩ := G.f_is_whole
  refine ⟨a, fd, h1, h2, h3, ?_⟩
  exact fn_den (N := ["thing"]) (ps := ["thing"]) (g := b_is_whole mg) (k := 0) U h1 sc_is_whole fun cdv A outer s H E C => ⟨_,
 (ds_one (ds_ret (de_and (de_isi C kit_int G.z_isinstance G.z_int bb_int (de_var 0)) (de_one (de_not (de_isi C kit_bool G.z_isinstance G.z_bool bb_bool (de_var 0)))))))⟩
noncomputable def b_is_tuple_of (mg : Str → Option Value) : M → Out Ctl :=
 (dRet (dAndV (dUn (dVar 0) (kV1 (pIsi "tuple"))) (dBin true (dApp (dCons true (dVar 0) dNil) (kVN pLen)) (dVar 1) (kV2 (bin2 pEq)))))
noncomputable def den_is_tuple_of (mg : Str → Option Value) : Den := dDef 2 (b_is_tuple_of mg)
theorem f_is_tuple_of (U : Up K KX) (G : Env KX mg) : FnD P w KX K mg base "is_tuple_of" s_is_tuple_of 1 ["thing", "many"] (den_is_tuple_of mg) := by
  obtain ⟨a, fd, h1, h2, h3⟩ := G.f_is_tuple_of
  refine ⟨a, fd, h1, h2, h3, ?_⟩
  exact fn_den (N := ["thing", "many"]) (ps := ["thing", "many"]) (g := b_is_tuple_of mg) (k := 0) U h1 sc_is_tuple_of fun cdv A outer s H E C => ⟨_,
 (ds_one (ds_ret (de_and (de_isi C kit_tuple G.z_isinstance G.z_tuple bb_tuple (de_var 0)) (de_one (q_eq C (q_len C G.z_len (da_cons (de_var 0) da_nil)) (de_var 1))))))⟩
noncomputable def b_is_name (mg : Str → Option Value) : M → Out Ctl :=
 (dSeq (dIf (dOrT (dNotT (dTest (dUn (dVar 0) (kV1 (pIsi "str"))))) (dOrT (dNotT (dTest (dChain true true (dC (.int 1)) (dApp (dCons true (dVar 0) dNil) (kVN pLen)) (dC (.int 12)) (kV2 pLe) (kV2 pLe)))) (dTest (dBin true (dBin true (dVar 0) (dC (.int 0)) kIx) (dC (.str "0123456789")) (kV2 pInA))))) (dRet (dC (.bl false)))
 dSkip)
 (dRet (dApp (dCons true (dComp (dIStr (dVar 0)) [1] (bName 1) (fun m => .ok true m) (dBin true (dVar 1) (dC (.str "abcdefghijklmnopqrstuvwxyzABCDEFGHIJKLMNOPQRSTUVWXYZ0123456789")) (kV2 pInA))) dNil) (kVN pAll))))
noncomputable def den_is_name (mg : Str → Option Value) : Den := dDef 2 (b_is_name mg)
theorem f_is_name (U : Up K KX) (G : Env KX mg) : FnD P w KX K mg base "is_name" s_is_name 1 ["thing"] (den_is_name mg) := by
  obtain ⟨a, fd, h1, h2, h3⟩ := G.f_is_name
  refine ⟨a, fd, h1, h2, h3, ?_⟩
  exact fn_den (N := ["thing", "sign"]) (ps := ["thing"]) (g := b_is_name mg) (k := 0) U h1 sc_is_name fun cdv A outer s H E C => ⟨_,
 (ds_cons (ds_if (dt_w (dw_or (dt_not (dt_val (de_isi C kit_str G.z_isinstance G.z_str bb_str (de_var 0)))) (dw_or (dt_not (t_chain C (r := rLeA) (r' := rLeA) (o_le C) (o_le C) (k_le C) (k_le C) de_int (q_len C G.z_len (da_cons (de_var 0) da_nil)) (q_gint C G.c_MOST_SIGNS))) (dw_or1 (t_in C (de_sub C (de_var 0) de_int) (q_gstr C G.c_FIGURES)))))) (ds_one (ds_ret de_bl))
 ds_skip)
 (ds_one (ds_ret (q_all C G.z_all (da_cons (de_lc C [("sign", 1)] (di_str C (de_var 0)) (blkOk_by (by first | rfl | kernel_rfl)) (fun _ _ _ _ _ C1 => (dg_name C1 1)) (ownT_name (by decide)) (fun _ _ _ _ _ C1 => dts_nil) (fun _ _ _ _ _ C1 => (q_in C1 (de_var 1) (q_gstr C1 G.c_SIGNS)))) da_nil)))))⟩
noncomputable def b_is_swap (mg : Str → Option Value) : M → Out Ctl :=
 (dSeq (dIf (dOrT (dNotT (dTest (dApp (dCons true (dVar 0) (dCons true (dC (.int 3)) dNil)) (callK 2 (den_is_tuple_of mg))))) (dOrT (dNotT (dTest (dApp (dCons true (dBin true (dVar 0) (dC (.int 0)) kIx) dNil) (callK 1 (den_is_name mg))))) (dNotT (dTest (dApp (dCons true (dBin true (dVar 0) (dC (.int 1)) kIx) dNil) (callK 1 (den_is_name mg))))))) (dRet (dC (.bl false)))
 dSkip)
 (dRet (dAndV (dBin true (dBin true (dVar 0) (dC (.int 0)) kIx) (dBin true (dVar 0) (dC (.int 1)) kIx) (kV2 (bin2 pNe))) (dAndV (dApp (dCons true (dBin true (dVar 0) (dC (.int 2)) kIx) dNil) (callK 1 (den_is_whole mg))) (dBin true (dBin true (dVar 0) (dC (.int 2)) kIx) (dC (.int 0)) (kV2 pGe))))))
noncomputable def den_is_swap (mg : Str → Option Value) : Den := dDef 1 (b_is_swap mg)
theorem f_is_swap (U : Up K KX) (G : Env KX mg) : FnD P w KX K mg base "is_swap" s_is_swap 2 ["thing"] (den_is_swap mg) := by
  obtain ⟨a, fd, h1, h2, h3⟩ := G.f_is_swap
  refine ⟨a, fd, h1, h2, h3, ?_⟩
  exact fn_den (N := ["thing"]) (ps := ["thing"]) (g := b_is_swap mg) (k := 1) U h1 sc_is_swap fun cdv A outer s H E C => ⟨_,
 (ds_cons (ds_if (dt_w (dw_or (dt_not (dt_val (de_call C (f_is_tuple_of U G) (da_cons (de_var 0) (da_cons de_int da_nil))))) (dw_or (dt_not (dt_val (de_call C (f_is_name U G) (da_cons (de_sub C (de_var 0) de_int) da_nil)))) (dw_or1 (dt_not (dt_val (de_call C (f_is_name U G) (da_cons (de_sub C (de_var 0) de_int) da_nil)))))))) (ds_one (ds_ret de_bl))
 ds_skip)
 (ds_one (ds_ret (de_and (q_ne C (de_sub C (de_var 0) de_int) (de_sub C (de_var 0) de_int)) (de_and (de_call C (f_is_whole U G) (da_cons (de_sub C (de_var 0) de_int) da_nil)) (de_one (q_ge C (de_sub C (de_var 0) de_int) de_int)))))))⟩
noncomputable def b_are_swaps (mg : Str → Option Value) : M → Out Ctl :=
 (dSeq (dIf (dOrT (dNotT (dTest (dUn (dVar 0) (kV1 (pIsi "tuple"))))) (dNotT (dTest (dApp (dCons true (dComp (dISeq (dVar 0)) [1] (bName 1) (fun m => .ok true m) (dApp (dCons true (dVar 1) dNil) (callK 1 (den_is_swap mg)))) dNil) (kVN pAll))))) (dRet (dC (.bl false)))
 dSkip)
 (dRet (dApp (dCons true (dComp (dZip (dCons true (dVar 0) (dCons true (dSl true true (dVar 0) (dPart (dC (.int 1))) dNoPart) dNil))) [2, 3] (bTup 2 (bCons (bName 2) (bCons (bName 3) bNil))) (fun m => .ok true m) (dBin true (dSl true true (dVar 2) dNoPart (dPart (dC (.int 2)))) (dSl true true (dVar 3) dNoPart (dPart (dC (.int 2)))) (kV2 pLt))) dNil) (kVN pAll))))
noncomputable def den_are_swaps (mg : Str → Option Value) : Den := dDef 4 (b_are_swaps mg)
theorem f_are_swaps (U : Up K KX) (G : Env KX mg) : FnD P w KX K mg base "are_swaps" s_are_swaps 3 ["thing"] (den_are_swaps mg) := by
  obtain ⟨a, fd, h1, h2, h3⟩ := G.f_are_swaps
  refine ⟨a, fd, h1, h2, h3, ?_⟩
  exact fn_den (N := ["thing", "swap", "one", "other"]) (ps := ["thing"]) (g := b_are_swaps mg) (k := 2) U h1 sc_are_swaps fun cdv A outer s H E C => ⟨_,
 (ds_cons (ds_if (dt_w (dw_or (dt_not (dt_val (de_isi C kit_tuple G.z_isinstance G.z_tuple bb_tuple (de_var 0)))) (dw_or1 (dt_not (dt_val (q_all C G.z_all (da_cons (de_lc C [("swap", 1)] (di_seq C (de_var 0)) (blkOk_by (by first | rfl | kernel_rfl)) (fun _ _ _ _ _ C1 => (dg_name C1 1)) (ownT_name (by decide)) (fun _ _ _ _ _ C1 => dts_nil) (fun _ _ _ _ _ C1 => (de_call C1 (f_is_swap U G) (da_cons (de_var 1) da_nil)))) da_nil))))))) (ds_one (ds_ret de_bl))
 ds_skip)
 (ds_one (ds_ret (q_all C G.z_all (da_cons (de_lc C [("one", 2), ("other", 3)] (di_zip C G.z_zip (da_cons (de_var 0) (da_cons (de_sl C (de_var 0) (do_some de_int) do_none) da_nil))) (blkOk_by (by first | rfl | kernel_rfl)) (fun _ _ _ _ _ C2 => (dg_tup C2 (dgs_cons (dg_name C2 2) (dgs_cons (dg_name C2 3) dgs_nil)))) (ownT_tup (ownTs_cons mon_name (ownT_name (by decide)) (ownTs_cons mon_name (ownT_name (by decide)) ownTs_nil))) (fun _ _ _ _ _ C2 => dts_nil) (fun _ _ _ _ _ C2 => (q_lt C2 (de_sl C2 (de_var 2) do_none (do_some de_int)) (de_sl C2 (de_var 3) do_none (do_some de_int))))) da_nil)))))⟩
noncomputable def b_need_swaps (mg : Str → Option Value) : M → Out Ctl :=
 (dIf (dNotT (dTest (dApp (dCons true (dVar 0) dNil) (callK 1 (den_are_swaps mg))))) (dRaise "BadSwaps" (dVar 0))
 dSkip)
noncomputable def den_need_swaps (mg : Str → Option Value) : Den := dDef 1 (b_need_swaps mg)
theorem f_need_swaps (U : Up K KX) (G : Env KX mg) : FnD P w KX K mg base "need_swaps" s_need_swaps 4 ["swaps"] (den_need_swaps mg) := by
  obtain ⟨a, fd, h1, h2, h3⟩ := G.f_need_swaps
  refine ⟨a, fd, h1, h2, h3, ?_⟩
  exact fn_den (N := ["swaps"]) (ps := ["swaps"]) (g := b_need_swaps mg) (k := 3) U h1 sc_need_swaps fun cdv A outer s H E C => ⟨_,
 (ds_one (ds_if (dt_not (dt_val (de_call C (f_are_swaps U G) (da_cons (de_var 0) da_nil)))) (ds_one (ds_raise C G.x_BadSwaps.choose_spec.choose_spec (de_var 0)))
 ds_skip))⟩
noncomputable def b_need_kind (mg : Str → Option Value) : M → Out Ctl :=
 (dIf (dNotT (dTest (dApp (dCons true (dVar 0) dNil) (callK 1 (den_is_name mg))))) (dRaise "BadKind" (dVar 0))
 dSkip)
noncomputable def den_need_kind (mg : Str → Option Value) : Den := dDef 1 (b_need_kind mg)
theorem f_need_kind (U : Up K KX) (G : Env KX mg) : FnD P w KX K mg base "need_kind" s_need_kind 2 ["kind"] (den_need_kind mg) := by
  obtain ⟨a, fd, h1, h2, h3⟩ := G.f_need_kind
  refine ⟨a, fd, h1, h2, h3, ?_⟩
  exact fn_den (N := ["kind"]) (ps := ["kind"]) (g := b_need_kind mg) (k := 1) U h1 sc_need_kind fun cdv A outer s H E C => ⟨_,
 (ds_one (ds_if (dt_not (dt_val (de_call C (f_is_name U G) (da_cons (de_var 0) da_nil)))) (ds_one (ds_raise C G.x_BadKind.choose_spec.choose_spec (de_var 0)))
 ds_skip))⟩
noncomputable def b_costs_from (mg : Str → Option Value) : M → Out Ctl :=
 (dSeq (dPar [2, 3] (dRaw (dDisp (dPairs (dVar 1) (dC (.int 0)) dPairs0)) (dRaw dNewK dRaw0)))
 (dSeq (dAsg (dC (.bl true)) (bName 4))
 (dSeq (dWhile (dTest (dVar 4)) (dSeq (dAsg (dC (.bl false)) (bName 4))
 (dFor (dISeq (dVar 0)) (bTup 3 (bCons (bName 5) (bCons (bName 6) (bCons (bName 7) bNil))))
 (dIf (dAndT (dTest (dBin true (dVar 5) (dVar 2) (kV2 pInA))) (dOrT (dTest (dBin true (dVar 6) (dVar 2) (kV2 pNotInA))) (dTest (dBin true (dBin true (dBin true (dVar 2) (dVar 5) kIx) (dVar 7) (kV2 pPlus)) (dBin true (dVar 2) (dVar 6) kIx) (kV2 pLt))))) (dSeq (dAsg (dApp (dCons true (dBin true (dBin true (dVar 2) (dVar 5) kIx) (dVar 7) (kV2 pPlus)) (dCons true (dVar 5) dNil)) PD.kTup) (bTup 2 (bCons (bSubA (dVar 2) (dVar 6)) (bCons (bSubA (dVar 3) (dVar 6)) bNil))))
 (dAsg (dC (.bl true)) (bName 4)))
 dSkip))))
 (dRet (dApp (dCons true (dVar 2) (dCons true (dVar 3) dNil)) PD.kTup)))))
noncomputable def den_costs_from (mg : Str → Option Value) : Den := dDef 8 (b_costs_from mg)
theorem f_costs_from (U : Up K KX) (G : Env KX mg) : FnD P w KX K mg base "costs_from" s_costs_from 1 ["swaps", "start"] (den_costs_from mg) := by
  obtain ⟨a, fd, h1, h2, h3⟩ := G.f_costs_from
  refine ⟨a, fd, h1, h2, h3, ?_⟩
  exact fn_den (N := ["swaps", "start", "costs", "by", "is_changed", "give", "get", "fee"]) (ps := ["swaps", "start"]) (g := b_costs_from mg) (k := 0) U h1 sc_costs_from fun cdv A outer s H E C => ⟨_,
 (ds_cons (ds_par2 C 2 3 (dr_cons (de_disp (dps_cons (de_var 1) de_int dps_nil)) (dr_cons de_newK dr_nil)))
 (ds_cons (ds_set C 4 de_bl)
 (ds_cons (ds_while C (dt_val (de_var 4)) (ds_cons (ds_set C 4 de_bl)
 (ds_one (ds_for C (di_seq C (de_var 0)) (dg_tup C (dgs_cons (dg_name C 5) (dgs_cons (dg_name C 6) (dgs_cons (dg_name C 7) dgs_nil))))
 (ds_one (ds_if (dt_w (dw_and (t_in C (de_var 5) (de_var 2)) (dw_and1 (dt_w (dw_or (t_nin C (de_var 6) (de_var 2)) (dw_or1 (t_lt C (q_add C (de_sub C (de_var 2) (de_var 5)) (de_var 7)) (de_sub C (de_var 2) (de_var 6))))))))) (ds_cons (ds_asg (de_tup (da_cons (q_add C (de_sub C (de_var 2) (de_var 5)) (de_var 7)) (da_cons (de_var 5) da_nil))) (dg_tup C (dgs_cons (dg_sub C (de_var 2) (de_var 6)) (dgs_cons (dg_sub C (de_var 3) (de_var 6)) dgs_nil))))
 (ds_one (ds_set C 4 de_bl)))
 ds_skip))))))
 (ds_one (ds_ret (de_tup (da_cons (de_var 2) (da_cons (de_var 3) da_nil))))))))⟩
noncomputable def b_swap_cost (mg : Str → Option Value) : M → Out Ctl :=
 (dSeq (dDrop (dApp (dCons true (dVar 0) dNil) (callK 1 (den_need_swaps mg))))
 (dSeq (dDrop (dApp (dCons true (dVar 1) dNil) (callK 1 (den_need_kind mg))))
 (dSeq (dDrop (dApp (dCons true (dVar 2) dNil) (callK 1 (den_need_kind mg))))
 (dRet (dGet2 (dBin true (dApp (dCons true (dVar 0) (dCons true (dVar 1) dNil)) (callK 2 (den_costs_from mg))) (dC (.int 0)) kIx) (dVar 2) (dUn (dC (.int 1)) (kV1 pNeg)))))))
noncomputable def den_swap_cost (mg : Str → Option Value) : Den := dDef 3 (b_swap_cost mg)
theorem f_swap_cost (U : Up K KX) (G : Env KX mg) : FnD P w KX K mg base "swap_cost" s_swap_cost 5 ["swaps", "give", "get"] (den_swap_cost mg) := by
  obtain ⟨a, fd, h1, h2, h3⟩ := G.f_swap_cost
  refine ⟨a, fd, h1, h2, h3, ?_⟩
  exact fn_den (N := ["swaps", "give", "get"]) (ps := ["swaps", "give", "get"]) (g := b_swap_cost mg) (k := 4) U h1 sc_swap_cost fun cdv A outer s H E C => ⟨_,
 (ds_cons (ds_expr (de_call C (f_need_swaps U G) (da_cons (de_var 0) da_nil)))
 (ds_cons (ds_expr (de_call C (f_need_kind U G) (da_cons (de_var 1) da_nil)))
 (ds_cons (ds_expr (de_call C (f_need_kind U G) (da_cons (de_var 2) da_nil)))
 (ds_one (ds_ret (de_get2 C (de_sub C (de_call C (f_costs_from U G) (da_cons (de_var 0) (da_cons (de_var 1) da_nil))) de_int) (de_var 2) (q_neg de_int)))))))⟩
noncomputable def b__law_deck (mg : Str → Option Value) : M → Out Ctl :=
 (dSeq (dAsg (dVar 1) (bName 2))
 (dSeq (dFor (dISeq (dSl true true (dVar 0) dNoPart (dPart (dC (.int 63))))) (bName 3)
 (dAsg (dBin true (dApp (dCons true (dBin true (dBin true (dBin true (dVar 2) (dC (.int 48271)) (kV2 pMul)) (dBin true (dApp (dCons true (dVar 3) dNil) (kVN pInt)) (dC (.int 2147483629)) (kV2 pMod)) (kV2 pPlus)) (dC (.int 137)) (kV2 pPlus)) dNil) (kVN pInt)) (dC (.int 2147483587)) (kV2 pMod)) (bName 2)))
 (dRet (dDisp (dPairs (dC (.str "left")) (dUn (dComp (dISeq (dSl true true (dVar 0) dNoPart (dPart (dC (.int 63))))) [3] (bName 3) (fun m => .ok true m) (dApp (dCons true (dVar 3) dNil) (kVN pInt))) (kV1 pRev)) (dPairs (dC (.str "mixed")) (dVar 2) (dPairs (dC (.str "draws")) (dC (.int 0)) dPairs0)))))))
noncomputable def den__law_deck (mg : Str → Option Value) : Den := dDef 4 (b__law_deck mg)
theorem f__law_deck (U : Up K KX) (G : Env KX mg) : FnD P w KX K mg base "_law_deck" s__law_deck 1 ["script", "mark"] (den__law_deck mg) := by
  obtain ⟨a, fd, h1, h2, h3⟩ := G.f__law_deck
  refine ⟨a, fd, h1, h2, h3, ?_⟩
  exact fn_den (N := ["script", "mark", "blend", "cell"]) (ps := ["script", "mark"]) (g := b__law_deck mg) (k := 0) U h1 sc__law_deck fun cdv A outer s H E C => ⟨_,
 (ds_cons (ds_set C 2 (de_var 1))
 (ds_cons (ds_for C (di_seq C (de_sl C (de_var 0) do_none (do_some de_int))) (dg_name C 3)
 (ds_one (ds_set C 2 (q_mod C (q_int C G.z_int (da_cons (q_add C (q_add C (q_mul C (de_var 2) de_int) (q_mod C (q_int C G.z_int (da_cons (de_var 3) da_nil)) de_int)) de_int) da_nil)) de_int))))
 (ds_one (ds_ret (de_disp (dps_cons de_str (de_rev C (de_lc C [("cell", 3)] (di_seq C (de_sl C (de_var 0) do_none (do_some de_int))) (blkOk_by (by first | rfl | kernel_rfl)) (fun _ _ _ _ _ C1 => (dg_name C1 3)) (ownT_name (by decide)) (fun _ _ _ _ _ C1 => dts_nil) (fun _ _ _ _ _ C1 => (q_int C1 G.z_int (da_cons (de_var 3) da_nil))))) (dps_cons de_str (de_var 2) (dps_cons de_str de_int dps_nil))))))))⟩
noncomputable def b__law_draw (mg : Str → Option Value) : M → Out Ctl :=
 (dSeq (dAsg (dBin true (dBin true (dVar 0) (dC (.str "draws")) kIx) (dC (.int 1)) (kV2 pPlus)) (bSubA (dVar 0) (dC (.str "draws"))))
 (dSeq (dAsg (dBin true (dBin true (dVar 0) (dC (.str "mixed")) kIx) (dBin true (dC (.int 69621)) (dBin true (dVar 0) (dC (.str "draws")) kIx) (kV2 pMul)) (kV2 pPlus)) (bName 2))
 (dSeq (dIf (dTest (dBin true (dBin true (dVar 0) (dC (.str "left")) kIx) (dApp dNil kLst0) (kV2 (bin2 pNe)))) (dSeq (dAsg (dMt "list" true (dBin true (dVar 0) (dC (.str "left")) kIx) dNil fPop) (bName 3))
 (dSeq (dIf (dTest (dBin true (dVar 3) (dBin true (dC (.int 10)) (dC (.int 18)) (kV2 pPow)) (kV2 pGe))) (dSeq (dDrop (dMt1 "list" true (dBin true (dVar 0) (dC (.str "left")) kIx) (dBin true (dVar 3) (dApp (dCons true (dC (.int 2)) (dCons true (dVar 1) dNil)) (kVN pMax2)) (kV2 pDiv)) fAppend))
 (dRet (dBin true (dApp (dCons true (dVar 3) dNil) (kVN pInt)) (dVar 1) (kV2 pMod))))
 dSkip)
 (dAsg (dBin true (dVar 2) (dBin true (dApp (dCons true (dVar 3) dNil) (kVN pInt)) (dC (.int 2147483629)) (kV2 pMod)) (kV2 pPlus)) (bName 2))))
 dSkip)
 (dSeq (dAsg (dBin true (dApp (dCons true (dBin true (dBin true (dVar 2) (dC (.int 40692)) (kV2 pMul)) (dC (.int 21493)) (kV2 pPlus)) dNil) (kVN pInt)) (dC (.int 2147483563)) (kV2 pMod)) (bName 2))
 (dSeq (dAsg (dBin true (dApp (dCons true (dBin true (dBin true (dBin true (dVar 2) (dVar 2) (kV2 pMul)) (dBin true (dC (.int 52774)) (dBin true (dVar 0) (dC (.str "draws")) kIx) (kV2 pMul)) (kV2 pPlus)) (dC (.int 5)) (kV2 pPlus)) dNil) (kVN pInt)) (dC (.int 2147483399)) (kV2 pMod)) (bName 2))
 (dRet (dBin true (dApp (dCons true (dBin true (dBin true (dApp (dCons true (dBin true (dVar 2) (dC (.int 40014)) (kV2 pMul)) dNil) (kVN pInt)) (dC (.int 2147483563)) (kV2 pMod)) (dC (.int 64)) (kV2 pDiv)) dNil) (kVN pInt)) (dVar 1) (kV2 pMod))))))))
noncomputable def den__law_draw (mg : Str → Option Value) : Den := dDef 4 (b__law_draw mg)
theorem f__law_draw (U : Up K KX) (G : Env KX mg) : FnD P w KX K mg base "_law_draw" s__law_draw 1 ["deck", "many"] (den__law_draw mg) := by
  obtain ⟨a, fd, h1, h2, h3⟩ := G.f__law_draw
  refine ⟨a, fd, h1, h2, h3, ?_⟩
  exact fn_den (N := ["deck", "many", "number", "cell"]) (ps := ["deck", "many"]) (g := b__law_draw mg) (k := 0) U h1 sc__law_draw fun cdv A outer s H E C => ⟨_,
 (ds_cons (ds_asg (q_add C (de_sub C (de_var 0) de_str) de_int) (dg_sub C (de_var 0) de_str))
 (ds_cons (ds_set C 2 (q_add C (de_sub C (de_var 0) de_str) (q_mul C de_int (de_sub C (de_var 0) de_str))))
 (ds_cons (ds_if (t_ne C (de_sub C (de_var 0) de_str) de_lst0) (ds_cons (ds_set C 3 (de_pop C (de_sub C (de_var 0) de_str)))
 (ds_cons (ds_if (t_ge C (de_var 3) (q_pow C de_int de_int)) (ds_cons (ds_expr (de_append C (de_sub C (de_var 0) de_str) (q_div C (de_var 3) (q_max2 C G.z_max (da_cons de_int (da_cons (de_var 1) da_nil))))))
 (ds_one (ds_ret (q_mod C (q_int C G.z_int (da_cons (de_var 3) da_nil)) (de_var 1)))))
 ds_skip)
 (ds_one (ds_set C 2 (q_add C (de_var 2) (q_mod C (q_int C G.z_int (da_cons (de_var 3) da_nil)) de_int))))))
 ds_skip)
 (ds_cons (ds_set C 2 (q_mod C (q_int C G.z_int (da_cons (q_add C (q_mul C (de_var 2) de_int) de_int) da_nil)) de_int))
 (ds_cons (ds_set C 2 (q_mod C (q_int C G.z_int (da_cons (q_add C (q_add C (q_mul C (de_var 2) (de_var 2)) (q_mul C de_int (de_sub C (de_var 0) de_str))) de_int) da_nil)) de_int))
 (ds_one (ds_ret (q_mod C (q_int C G.z_int (da_cons (q_div C (q_mod C (q_int C G.z_int (da_cons (q_mul C (de_var 2) de_int) da_nil)) de_int) de_int) da_nil)) (de_var 1)))))))))⟩
noncomputable def b__law_pick (mg : Str → Option Value) : M → Out Ctl :=
 (dRet (dBin false (dVar 1) (dApp (dCons true (dVar 0) (dCons true (dApp (dCons true (dVar 1) dNil) (kVN pLen)) dNil)) (callK 2 (den__law_draw mg))) kIx))
noncomputable def den__law_pick (mg : Str → Option Value) : Den := dDef 2 (b__law_pick mg)
theorem f__law_pick (U : Up K KX) (G : Env KX mg) : FnD P w KX K mg base "_law_pick" s__law_pick 2 ["deck", "some"] (den__law_pick mg) := by
  obtain ⟨a, fd, h1, h2, h3⟩ := G.f__law_pick
  refine ⟨a, fd, h1, h2, h3, ?_⟩
  exact fn_den (N := ["deck", "some"]) (ps := ["deck", "some"]) (g := b__law_pick mg) (k := 1) U h1 sc__law_pick fun cdv A outer s H E C => ⟨_,
 (ds_one (ds_ret (de_sub C (de_var 1) (de_call C (f__law_draw U G) (da_cons (de_var 0) (da_cons (q_len C G.z_len (da_cons (de_var 1) da_nil)) da_nil))))))⟩
noncomputable def b__law_mixed (mg : Str → Option Value) : M → Out Ctl :=
 (dSeq (dPar [2, 3] (dRaw (dApp (dCons true (dVar 1) dNil) (kVN pList)) (dRaw (dApp dNil kLst0) dRaw0)))
 (dSeq (dWhile (dTest (dBin true (dVar 2) (dApp dNil kLst0) (kV2 (bin2 pNe)))) (dDrop (dMt1 "list" false (dVar 3) (dMt1 "list" false (dVar 2) (dApp (dCons true (dVar 0) (dCons true (dApp (dCons true (dVar 2) dNil) (kVN pLen)) dNil)) (callK 2 (den__law_draw mg))) fPopAt) fAppend)))
 (dRet (dVar 3))))
noncomputable def den__law_mixed (mg : Str → Option Value) : Den := dDef 4 (b__law_mixed mg)
theorem f__law_mixed (U : Up K KX) (G : Env KX mg) : FnD P w KX K mg base "_law_mixed" s__law_mixed 2 ["deck", "some"] (den__law_mixed mg) := by
  obtain ⟨a, fd, h1, h2, h3⟩ := G.f__law_mixed
  refine ⟨a, fd, h1, h2, h3, ?_⟩
  exact fn_den (N := ["deck", "some", "left", "found"]) (ps := ["deck", "some"]) (g := b__law_mixed mg) (k := 1) U h1 sc__law_mixed fun cdv A outer s H E C => ⟨_,
 (ds_cons (ds_par2 C 2 3 (dr_cons (q_list C G.z_list (da_cons (de_var 1) da_nil)) (dr_cons de_lst0 dr_nil)))
 (ds_cons (ds_while C (t_ne C (de_var 2) de_lst0) (ds_one (ds_expr (de_append C (de_var 3) (de_popAt C (de_var 2) (de_call C (f__law_draw U G) (da_cons (de_var 0) (da_cons (q_len C G.z_len (da_cons (de_var 2) da_nil)) da_nil))))))))
 (ds_one (ds_ret (de_var 3)))))⟩
noncomputable def b__law_is_whole (mg : Str → Option Value) : M → Out Ctl :=
 (dRet (dAndV (dUn (dVar 0) (kV1 (pIsi "int"))) (dNotV (dUn (dVar 0) (kV1 (pIsi "bool"))))))
noncomputable def den__law_is_whole (mg : Str → Option Value) : Den := dDef 1 (b__law_is_whole mg)
theorem f__law_is_whole (U : Up K KX) (G : Env KX mg) : FnD P w KX K mg base "_law_is_whole" s__law_is_whole 1 ["thing"] (den__law_is_whole mg) := by
  obtain ⟨a, fd, h1, h2, h3⟩ := G.f__law_is_whole
  refine ⟨a, fd, h1, h2, h3, ?_⟩
  exact fn_den (N := ["thing"]) (ps := ["thing"]) (g := b__law_is_whole mg) (k := 0) U h1 sc__law_is_whole fun cdv A outer s H E C => ⟨_,
 (ds_one (ds_ret (de_and (de_isi C kit_int G.z_isinstance G.z_int bb_int (de_var 0)) (de_one (de_not (de_isi C kit_bool G.z_isinstance G.z_bool bb_bool (de_var 0)))))))⟩
noncomputable def b__law_same (mg : Str → Option Value) (rc : Den) : M → Out Ctl :=
 (dSeq (dIf (dOrT (dTest (dUn (dVar 1) (kV1 (pIsi "tuple")))) (dTest (dUn (dVar 1) (kV1 (pIsi "list"))))) (dSeq (dIf (dOrT (dTest (dBin true (dUn (dVar 0) (kV1 (pIsi "tuple"))) (dUn (dVar 1) (kV1 (pIsi "tuple"))) (kV2 (bin2 pNe)))) (dOrT (dTest (dBin true (dUn (dVar 0) (kV1 (pIsi "list"))) (dUn (dVar 1) (kV1 (pIsi "list"))) (kV2 (bin2 pNe)))) (dTest (dBin true (dApp (dCons true (dVar 0) dNil) (kVN pLen)) (dApp (dCons true (dVar 1) dNil) (kVN pLen)) (kV2 (bin2 pNe)))))) (dRet (dC (.bl false)))
 dSkip)
 (dRet (dBin true (dComp (dZip (dCons true (dVar 0) (dCons true (dVar 1) dNil))) [2, 3] (bTup 2 (bCons (bName 2) (bCons (bName 3) bNil))) (dNotT (dTest (dApp (dCons true (dVar 2) (dCons true (dVar 3) dNil)) (callK 2 rc)))) (dC (.int 1))) (dApp dNil kLst0) (kV2 (bin2 pEq)))))
 dSkip)
 (dSeq (dIf (dOrT (dTest (dUn (dVar 1) (kV1 (pIsi "bool")))) (dTest (dUn (dVar 0) (kV1 (pIsi "bool"))))) (dRet (dAndV (dUn (dVar 1) (kV1 (pIsi "bool"))) (dAndV (dUn (dVar 0) (kV1 (pIsi "bool"))) (dBin true (dVar 0) (dVar 1) (kV2 (bin2 pEq))))))
 dSkip)
 (dSeq (dIf (dTest (dUn (dVar 1) (kV1 (pIsi "str")))) (dRet (dAndV (dUn (dVar 0) (kV1 (pIsi "str"))) (dBin true (dVar 0) (dVar 1) (kV2 (bin2 pEq)))))
 dSkip)
 (dSeq (dIf (dOrT (dTest (dBin true (dVar 1) (dC .non) (kV2 (pIsN false)))) (dTest (dUn (dVar 1) (kV1 (pIsi "dict"))))) (dRet (dIfE (dTest (dBin true (dVar 1) (dC .non) (kV2 (pIsN false)))) (dBin true (dVar 0) (dC .non) (kV2 (pIsN false))) (dAndV (dUn (dVar 0) (kV1 (pIsi "dict"))) (dBin true (dVar 0) (dVar 1) (kV2 (bin2 pEq))))))
 dSkip)
 (dRet (dAndV (dApp (dCons true (dVar 0) dNil) (callK 1 (den__law_is_whole mg))) (dBin true (dVar 0) (dVar 1) (kV2 (bin2 pEq)))))))))
noncomputable def den__law_same (mg : Str → Option Value) : Nat → Den
  | 0 => dBad
  | k + 1 => dDef 4 (b__law_same mg (den__law_same mg k))
theorem f__law_same (U : Up K KX) (G : Env KX mg) : ∀ k : Nat, FnD P w KX K mg base "_law_same" s__law_same (2 + k) ["told", "due"] (den__law_same mg k)
  | 0 => fnD_bad G.f__law_same
  | k + 1 => by
    have R := f__law_same U G k
    obtain ⟨a, fd, h1, h2, h3⟩ := G.f__law_same
    refine ⟨a, fd, h1, h2, h3, ?_⟩
    exact fn_den (N := ["told", "due", "one", "other"]) (ps := ["told", "due"]) (g := b__law_same mg (den__law_same mg k)) (k := 2 + k) U h1 sc__law_same fun cdv A outer s H E C => ⟨_,
 (ds_cons (ds_if (dt_w (dw_or (dt_val (de_isi C kit_tuple G.z_isinstance G.z_tuple bb_tuple (de_var 1))) (dw_or1 (dt_val (de_isi C kit_list G.z_isinstance G.z_list bb_list (de_var 1)))))) (ds_cons (ds_if (dt_w (dw_or (t_ne C (de_isi C kit_tuple G.z_isinstance G.z_tuple bb_tuple (de_var 0)) (de_isi C kit_tuple G.z_isinstance G.z_tuple bb_tuple (de_var 1))) (dw_or (t_ne C (de_isi C kit_list G.z_isinstance G.z_list bb_list (de_var 0)) (de_isi C kit_list G.z_isinstance G.z_list bb_list (de_var 1))) (dw_or1 (t_ne C (q_len C G.z_len (da_cons (de_var 0) da_nil)) (q_len C G.z_len (da_cons (de_var 1) da_nil))))))) (ds_one (ds_ret de_bl))
 ds_skip)
 (ds_one (ds_ret (q_eq C (de_lc C [("one", 2), ("other", 3)] (di_zip C G.z_zip (da_cons (de_var 0) (da_cons (de_var 1) da_nil))) (blkOk_by (by first | rfl | kernel_rfl)) (fun _ _ _ _ _ C1 => (dg_tup C1 (dgs_cons (dg_name C1 2) (dgs_cons (dg_name C1 3) dgs_nil)))) (ownT_tup (ownTs_cons mon_name (ownT_name (by decide)) (ownTs_cons mon_name (ownT_name (by decide)) ownTs_nil))) (fun _ _ _ _ _ C1 => (dts_one (dt_not (dt_val (de_call C1 R (da_cons (de_var 2) (da_cons (de_var 3) da_nil)) (hk := by omega)))))) (fun _ _ _ _ _ C1 => de_int)) de_lst0))))
 ds_skip)
 (ds_cons (ds_if (dt_w (dw_or (dt_val (de_isi C kit_bool G.z_isinstance G.z_bool bb_bool (de_var 1))) (dw_or1 (dt_val (de_isi C kit_bool G.z_isinstance G.z_bool bb_bool (de_var 0)))))) (ds_one (ds_ret (de_and (de_isi C kit_bool G.z_isinstance G.z_bool bb_bool (de_var 1)) (de_and (de_isi C kit_bool G.z_isinstance G.z_bool bb_bool (de_var 0)) (de_one (q_eq C (de_var 0) (de_var 1)))))))
 ds_skip)
 (ds_cons (ds_if (dt_val (de_isi C kit_str G.z_isinstance G.z_str bb_str (de_var 1))) (ds_one (ds_ret (de_and (de_isi C kit_str G.z_isinstance G.z_str bb_str (de_var 0)) (de_one (q_eq C (de_var 0) (de_var 1))))))
 ds_skip)
 (ds_cons (ds_if (dt_w (dw_or (t_is (de_var 1) de_non) (dw_or1 (dt_val (de_isi C kit_dict G.z_isinstance G.z_dict bb_dict (de_var 1)))))) (ds_one (ds_ret (de_if (t_is (de_var 1) de_non) (q_is (de_var 0) de_non) (de_and (de_isi C kit_dict G.z_isinstance G.z_dict bb_dict (de_var 0)) (de_one (q_eq C (de_var 0) (de_var 1)))))))
 ds_skip)
 (ds_one (ds_ret (de_and (de_call C (f__law_is_whole U G) (da_cons (de_var 0) da_nil) (hk := by omega)) (de_one (q_eq C (de_var 0) (de_var 1))))))))))⟩
noncomputable def b__law_swaps (mg : Str → Option Value) : M → Out Ctl :=
 (dSeq (dPar [2, 3, 4] (dRaw dNewT (dRaw (dApp (dCons false (dVar 0) (dCons true (dApp (dCons true (dC (.int 2)) (dCons true (dC (.int 9)) (dCons true (dC (.int 9)) (dCons true (dC (.int 1000)) dNil)))) kLst) dNil)) (callK 2 (den__law_pick mg))) (dRaw (dBin false (dC (.int 1)) (dApp (dCons true (dVar 0) (dCons true (dC (.int 3)) dNil)) (callK 2 (den__law_draw mg))) (kV2 pPlus)) dRaw0))))
 (dSeq (dFor (dISeq (dVar 1)) (bName 5)
 (dFor (dISeq (dVar 1)) (bName 6)
 (dIf (dAndT (dTest (dBin true (dVar 5) (dVar 6) (kV2 (bin2 pNe)))) (dAndT (dTest (dBin true (dApp (dCons true (dVar 0) (dCons true (dC (.int 5)) dNil)) (callK 2 (den__law_draw mg))) (dVar 4) (kV2 pLt))) (dTest (dBin true (dApp (dCons true (dVar 2) dNil) (kVN pLen)) (dC (.int 20)) (kV2 pLt))))) (dAsg (dApp (dCons true (dVar 0) (dCons true (dBin true (dVar 3) (dC (.int 1)) (kV2 pPlus)) dNil)) (callK 2 (den__law_draw mg))) (bSubA (dVar 2) (dApp (dCons true (dVar 5) (dCons true (dVar 6) dNil)) kTupV)))
 dSkip)))
 (dRet (dApp (dCons true (dComp (dISeq (dApp (dCons true (dVar 2) dNil) kSortDT)) [7] (bName 7) (fun m => .ok true m) (dBin false (dVar 7) (dApp (dCons true (dBin true (dVar 2) (dVar 7) kIx) dNil) PD.kTup) (kV2 pPlus))) dNil) (kVN pTuple)))))
noncomputable def den__law_swaps (mg : Str → Option Value) : Den := dDef 8 (b__law_swaps mg)
theorem f__law_swaps (U : Up K KX) (G : Env KX mg) : FnD P w KX K mg base "_law_swaps" s__law_swaps 3 ["deck", "kinds"] (den__law_swaps mg) := by
  obtain ⟨a, fd, h1, h2, h3⟩ := G.f__law_swaps
  refine ⟨a, fd, h1, h2, h3, ?_⟩
  exact fn_den (N := ["deck", "kinds", "found", "wide", "thick", "give", "get", "key"]) (ps := ["deck", "kinds"]) (g := b__law_swaps mg) (k := 2) U h1 sc__law_swaps fun cdv A outer s H E C => ⟨_,
 (ds_cons (ds_parG3 C (dr_cons de_newT (dr_cons (de_call C (f__law_pick U G) (da_cons (de_var 0) (da_cons (de_lst (da_cons de_int (da_cons de_int (da_cons de_int (da_cons de_int da_nil))))) da_nil))) (dr_cons (q_add C de_int (de_call C (f__law_draw U G) (da_cons (de_var 0) (da_cons de_int da_nil)))) dr_nil))) (dg_name C 2) (dg_name C 3) (dg_name C 4))
 (ds_cons (ds_for C (di_seq C (de_var 1)) (dg_name C 5)
 (ds_one (ds_for C (di_seq C (de_var 1)) (dg_name C 6)
 (ds_one (ds_if (dt_w (dw_and (t_ne C (de_var 5) (de_var 6)) (dw_and (t_lt C (de_call C (f__law_draw U G) (da_cons (de_var 0) (da_cons de_int da_nil))) (de_var 4)) (dw_and1 (t_lt C (q_len C G.z_len (da_cons (de_var 2) da_nil)) de_int))))) (ds_one (ds_asg (de_call C (f__law_draw U G) (da_cons (de_var 0) (da_cons (q_add C (de_var 3) de_int) da_nil))) (dg_sub C (de_var 2) (de_tupP (da_cons (de_var 5) (da_cons (de_var 6) da_nil))))))
 ds_skip)))))
 (ds_one (ds_ret (q_tuple C G.z_tuple (da_cons (de_lc C [("key", 7)] (di_seq C (q_sortDT C G.z_sorted (da_cons (de_var 2) da_nil))) (blkOk_by (by first | rfl | kernel_rfl)) (fun _ _ _ _ _ C1 => (dg_name C1 7)) (ownT_name (by decide)) (fun _ _ _ _ _ C1 => dts_nil) (fun _ _ _ _ _ C1 => (q_add C1 (de_var 7) (de_tup (da_cons (de_sub C1 (de_var 2) (de_var 7)) da_nil))))) da_nil))))))⟩
noncomputable def b__law_costs (mg : Str → Option Value) : M → Out Ctl :=
 (dSeq (dAsg (dDisp (dPairs (dVar 1) (dC (.int 0)) dPairs0)) (bName 2))
 (dSeq (dFor (dIter (dCons true (dBin true (dApp (dCons true (dVar 0) dNil) (kVN pLen)) (dC (.int 1)) (kV2 pPlus)) dNil) kRange1) (bName 3)
 (dFor (dISeq (dVar 0)) (bTup 3 (bCons (bName 4) (bCons (bName 5) (bCons (bName 6) bNil))))
 (dIf (dTest (dBin true (dVar 4) (dVar 2) (kV2 pInA))) (dAsg (dApp (dCons true (dGet2 (dVar 2) (dVar 5) (dBin true (dBin true (dVar 2) (dVar 4) kIx) (dVar 6) (kV2 pPlus))) (dCons true (dBin true (dBin true (dVar 2) (dVar 4) kIx) (dVar 6) (kV2 pPlus)) dNil)) (kVN pMin2)) (bSubA (dVar 2) (dVar 5)))
 dSkip)))
 (dRet (dVar 2))))
noncomputable def den__law_costs (mg : Str → Option Value) : Den := dDef 7 (b__law_costs mg)
theorem f__law_costs (U : Up K KX) (G : Env KX mg) : FnD P w KX K mg base "_law_costs" s__law_costs 1 ["swaps", "give"] (den__law_costs mg) := by
  obtain ⟨a, fd, h1, h2, h3⟩ := G.f__law_costs
  refine ⟨a, fd, h1, h2, h3, ?_⟩
  exact fn_den (N := ["swaps", "give", "found", "turn", "one", "other", "fee"]) (ps := ["swaps", "give"]) (g := b__law_costs mg) (k := 0) U h1 sc__law_costs fun cdv A outer s H E C => ⟨_,
 (ds_cons (ds_set C 2 (de_disp (dps_cons (de_var 1) de_int dps_nil)))
 (ds_cons (ds_for C (di_range1 C G.z_range (da_cons (q_add C (q_len C G.z_len (da_cons (de_var 0) da_nil)) de_int) da_nil)) (dg_name C 3)
 (ds_one (ds_for C (di_seq C (de_var 0)) (dg_tup C (dgs_cons (dg_name C 4) (dgs_cons (dg_name C 5) (dgs_cons (dg_name C 6) dgs_nil))))
 (ds_one (ds_if (t_in C (de_var 4) (de_var 2)) (ds_one (ds_asg (q_min2 C G.z_min (da_cons (de_get2 C (de_var 2) (de_var 5) (q_add C (de_sub C (de_var 2) (de_var 4)) (de_var 6))) (da_cons (q_add C (de_sub C (de_var 2) (de_var 4)) (de_var 6)) da_nil))) (dg_sub C (de_var 2) (de_var 5))))
 ds_skip)))))
 (ds_one (ds_ret (de_var 2)))))⟩
noncomputable def cs__law_refused (G : Env KX mg) : List Cl := [⟨"BadSwaps", G.x_BadSwaps.choose, "swaps"⟩, ⟨"BadKind", G.x_BadKind.choose, "kind"⟩]
theorem ext__law_refused (G : Env KX mg) : ExT KX mg G.x_root.choose (cs__law_refused G) := by
  have mem : ∀ c ∈ cs__law_refused G, c.x ∈ (["BadKind", "BadSwaps"] : List Str) ∧ mg c.x = some (.ref c.C) := by
    intro c hc
    unfold cs__law_refused at hc
    simp only [List.mem_cons, List.not_mem_nil, or_false] at hc
    rcases hc with rfl | rfl
    · exact ⟨by simp, G.x_BadSwaps.choose_spec.choose_spec.gC⟩
    · exact ⟨by simp, G.x_BadKind.choose_spec.choose_spec.gC⟩
  exact ⟨fun c hc => (mem c hc).2, fun c hc e he => G.e_ex _ (mem c hc).1 _ (mem e he).1 _ _ (mem c hc).2 (mem e he).2, fun c hc => G.e_ki _ (mem c hc).1 _ _ (mem c hc).2 G.x_root.choose_spec.1⟩
theorem gv__law_refused (G : Env KX mg) {X : Cx} (hK : X.K = KX) (hmg : X.mg = mg) (g : Addr) (cdv : Value) (qn : Str) : LamX.GivesTo X ["call", "e"] "_law_refused" (defScope s__law_refused) g cdv (defBody s__law_refused) "call" qn (heardS KX "told" 2 ((cs__law_refused G).map (hdOf KX 1 G.x_root.choose))) := by
  subst hK hmg
  exact heard_gives (by decide) (fun f => rfl) (fun s H => (hd_th0 (X := (cxOf C8.CX0 X.prog X.w X.K X.mg X.base ["call", "e"] "_law_refused" (defScope s__law_refused) g cdv X.A X.stack s H C8.E0).nox) rfl rfl G.x_BadSwaps.choose_spec.choose_spec G.tg G.z_isinstance G.x_root.choose_spec.1 (hd_th0 (X := (cxOf C8.CX0 X.prog X.w X.K X.mg X.base ["call", "e"] "_law_refused" (defScope s__law_refused) g cdv X.A X.stack s H C8.E0).nox) rfl rfl G.x_BadKind.choose_spec.choose_spec G.tg G.z_isinstance G.x_root.choose_spec.1 .nil)))
noncomputable def b_law (mg : Str → Option Value) : M → Out Ctl :=
 (dSeq (dAsg (dApp (dCons true (dVar 0) (dCons true (dC (.int 21493031)) dNil)) (callK 2 (den__law_deck mg))) (bName 1))
 (dSeq (dFor (dIter (dCons true (dC (.int 5)) dNil) kRange1) (bName 2)
 (dSeq (dAsg (dSl true false (dApp (dCons false (dVar 1) (dCons true (dApp (dCons true (dC (.str "quartz")) (dCons true (dC (.str "mica")) (dCons true (dC (.str "Opal")) (dCons true (dC (.str "b2")) (dCons true (dC (.str "talc")) (dCons true (dC (.str "garnet")) dNil)))))) kLst) dNil)) (callK 2 (den__law_mixed mg))) dNoPart (dPart (dBin false (dC (.int 2)) (dApp (dCons true (dVar 1) (dCons true (dC (.int 5)) dNil)) (callK 2 (den__law_draw mg))) (kV2 pPlus)))) (bName 3))
 (dSeq (dAsg (dApp (dCons true (dVar 1) (dCons true (dVar 3) dNil)) (callK 2 (den__law_swaps mg))) (bName 4))
 (dSeq (dAsg (dApp (dCons true (dVar 4) dNil) (kVN pRepr)) (bName 5))
 (dSeq (dFor (dIter (dCons true (dC (.int 6)) dNil) kRange1) (bName 6)
 (dSeq (dPar [7, 8] (dRaw (dApp (dCons false (dVar 1) (dCons true (dBin false (dVar 3) (dApp (dCons true (dC (.str "none")) dNil) kLst) (kV2 pPlus)) dNil)) (callK 2 (den__law_pick mg))) (dRaw (dApp (dCons false (dVar 1) (dCons true (dBin false (dVar 3) (dApp (dCons true (dC (.str "none")) dNil) kLst) (kV2 pPlus)) dNil)) (callK 2 (den__law_pick mg))) dRaw0)))
 (dSeq (dAsg (dGet2 (dApp (dCons true (dVar 4) (dCons true (dVar 7) dNil)) (callK 2 (den__law_costs mg))) (dVar 8) (dUn (dC (.int 1)) (kV1 pNeg))) (bName 9))
 (dSeq (dIf (dNotT (dTest (dApp (dCons false (dApp (dCons false (dApp (dCons true (dVar 4) (dCons true (dVar 7) (dCons true (dVar 8) dNil))) (callK 3 (den_swap_cost mg))) (dCons true (dApp (dCons true (dVar 8) (dCons true (dVar 7) (dCons true (dVar 4) dNil))) (callP 3 (den_swap_cost mg) [2, 1, 0])) dNil)) kLst) (dCons true (dApp (dCons true (dVar 9) (dCons true (dVar 9) dNil)) kLst) dNil)) (callK 2 (den__law_same mg 5))))) (dRet (dC (.bl false)))
 dSkip)
 (dSeq (dPar [10, 11] (dRaw (dVar 7) (dRaw (dC (.int 0)) dRaw0)))
 (dFor (dIter (dCons true (dC (.int 6)) dNil) kRange1) (bName 12)
 (dSeq (dFrz 14 (dAsg (dComp (dISeq (dVar 4)) [14] (bName 14) (dTest (dBin true (dBin true (dVar 14) (dC (.int 0)) kIx) (dVar 10) (kV2 (bin2 pEq)))) (dVar 14)) (bName 13)))
 (dIf (dTest (dBin true (dVar 13) (dApp dNil kLst0) (kV2 (bin2 pNe)))) (dSeq (dAsg (dApp (dCons true (dVar 1) (dCons true (dVar 13) dNil)) (callK 2 (den__law_pick mg))) (bName 14))
 (dSeq (dPar [10, 11] (dRaw (dBin true (dVar 14) (dC (.int 1)) kIx) (dRaw (dBin true (dVar 11) (dBin true (dVar 14) (dC (.int 2)) kIx) (kV2 pPlus)) dRaw0)))
 (dIf (dAndT (dTest (dBin true (dApp (dCons true (dVar 1) (dCons true (dC (.int 3)) dNil)) (callK 2 (den__law_draw mg))) (dC (.int 0)) (kV2 (bin2 pEq)))) (dNotT (dTest (dChain false true (dC (.int 0)) (dApp (dCons true (dVar 4) (dCons true (dVar 7) (dCons true (dVar 10) dNil))) (callK 3 (den_swap_cost mg))) (dVar 11) (kV2 pLe) (kV2 pLe))))) (dRet (dC (.bl false)))
 dSkip)))
 dSkip))))))))
 (dSeq (dAsg (dApp (dCons false (dVar 1) (dCons true (dApp (dCons false (dC .non) (dCons false (dApp (dCons true (dVar 4) dNil) (kVN pList)) (dCons false (dApp (dCons true (dApp (dCons true (dC (.str "mica")) (dCons true (dC (.str "talc")) (dCons true (dUn (dC (.int 1)) (kV1 pNeg)) dNil))) PD.kTup) dNil) PD.kTup) (dCons false (dApp (dCons true (dApp (dCons true (dC (.str "mica")) (dCons true (dC (.str "talc")) (dCons true (dC (.bl true)) dNil))) PD.kTup) dNil) PD.kTup) (dCons false (dApp (dCons true (dApp (dCons true (dC (.str "mica")) (dCons true (dC (.str "talc")) dNil)) PD.kTup) dNil) PD.kTup) (dCons false (dApp (dCons true (dApp (dCons true (dC (.str "mi ca")) (dCons true (dC (.str "talc")) (dCons true (dC (.int 1)) dNil))) PD.kTup) dNil) PD.kTup) (dCons false (dApp (dCons true (dApp (dCons true (dC (.str "")) (dCons true (dC (.str "talc")) (dCons true (dC (.int 1)) dNil))) PD.kTup) dNil) PD.kTup) (dCons false (dApp (dCons true (dApp (dCons true (dC (.str "mica")) (dCons true (dC (.str "talc")) (dCons true (dC (.int 1)) dNil))) kLst) dNil) PD.kTup) (dCons false (dApp (dCons false (dApp (dCons true (dC (.str "talc")) (dCons true (dC (.str "b2")) (dCons true (dC (.int 1)) dNil))) PD.kTup) (dCons true (dApp (dCons true (dC (.str "mica")) (dCons true (dC (.str "b2")) (dCons true (dC (.int 1)) dNil))) PD.kTup) dNil)) PD.kTup) (dCons false (dIfE (dTest (dBin false (dVar 4) (dApp dNil PD.kTup) (kV2 (bin2 pNe)))) (dBin true (dVar 4) (dSl true true (dVar 4) (dPart (dUn (dC (.int 1)) (kV1 pNeg))) dNoPart) (kV2 pPlus)) (dApp (dCons true (dC (.int 1)) dNil) PD.kTup)) (dCons false (dApp (dCons true (dC (.str "mica")) (dCons true (dC (.str "talc")) (dCons true (dC (.int 1)) dNil))) PD.kTup) (dCons false (dApp (dCons true (dApp (dCons true (dC (.str "mica")) (dCons true (dC (.int 7)) (dCons true (dC (.int 1)) dNil))) PD.kTup) dNil) PD.kTup) (dCons true (dApp (dCons true (dApp (dCons true (dC (.str "mica")) (dCons true (dC (.str "talc")) (dCons true (dC (.str "1")) dNil))) PD.kTup) dNil) PD.kTup) dNil))))))))))))) kLst) dNil)) (callK 2 (den__law_pick mg))) (bName 15))
 (dSeq (dPar [16, 17] (dRaw (dApp (dCons false (dVar 1) (dCons true (dApp (dCons false (dC .non) (dCons false (dC (.str "")) (dCons false (dC (.str "2b")) (dCons false (dC (.str "two words")) (dCons false (dC (.str "longerthantwelve")) (dCons false (dC (.int 3)) (dCons true (dApp (dCons true (dC (.str "mica")) dNil) PD.kTup) (dCons true (dC (.str "mi-ca")) dNil)))))))) kLst) dNil)) (callK 2 (den__law_pick mg))) (dRaw (dApp (dCons false (dVar 1) (dCons true (dApp (dCons true (dC .non) (dCons true (dC (.str "")) (dCons true (dC (.str "9")) (dCons true (dC (.bl true)) (dCons true (dC (.str "a.b")) dNil))))) kLst) dNil)) (callK 2 (den__law_pick mg))) dRaw0)))
 (dSeq (dAsg (dApp (dCons true (dHear "told" [("BadSwaps", "swaps"), ("BadKind", "kind")] (dApp (dCons true (dVar 15) (dCons true (dVar 16) (dCons true (dVar 17) dNil))) (callK 3 (den_swap_cost mg)))) dNil) kLst) (bName 18))
 (dSeq (dDrop (dMt1 "list" false (dVar 18) (dHear "told" [("BadSwaps", "swaps"), ("BadKind", "kind")] (dApp (dCons true (dVar 17) (dCons true (dVar 16) (dCons true (dVar 4) dNil))) (callP 3 (den_swap_cost mg) [2, 1, 0]))) fAppend))
 (dSeq (dDrop (dMt1 "list" false (dVar 18) (dHear "told" [("BadSwaps", "swaps"), ("BadKind", "kind")] (dApp (dCons true (dVar 4) (dCons true (dBin true (dVar 3) (dC (.int 0)) kIx) (dCons true (dVar 17) dNil))) (callK 3 (den_swap_cost mg)))) fAppend))
 (dIf (dOrT (dNotT (dTest (dApp (dCons false (dVar 18) (dCons true (dApp (dCons false (dApp (dCons true (dC (.str "swaps")) (dCons true (dVar 15) (dCons true (dC (.bl true)) dNil))) PD.kTup) (dCons false (dApp (dCons true (dC (.str "kind")) (dCons true (dVar 16) (dCons true (dC (.bl true)) dNil))) PD.kTup) (dCons true (dApp (dCons true (dC (.str "kind")) (dCons true (dVar 17) (dCons true (dC (.bl true)) dNil))) PD.kTup) dNil))) kLst) dNil)) (callK 2 (den__law_same mg 5))))) (dTest (dBin true (dApp (dCons true (dVar 4) dNil) (kVN pRepr)) (dVar 5) (kV2 (bin2 pNe))))) (dRet (dC (.bl false)))
 dSkip)))))))))))
 (dRet (dC (.bl true)))))
theorem d_law (U : Up K KX) (G : Env KX mg) {f : Addr} {qual : Str} {cdv : Value} {A : Around} {outer : List PySem.Env} {s : Shared} {H : Hp} {E : XK} (C : Cxt (cxOf (L2.CX P w) P w KX mg base ["script", "deck", "turn", "kinds", "swaps", "text", "go", "give", "get", "due", "here", "paid", "step", "some", "row", "bad", "odd", "wrong", "heard"] qual (defScope s_law) f cdv A outer s H E) P w KX K mg base 7 (fun _ => E))
    (gd : (cxOf (L2.CX P w) P w KX mg base ["script", "deck", "turn", "kinds", "swaps", "text", "go", "give", "get", "due", "here", "paid", "step", "some", "row", "bad", "odd", "wrong", "heard"] qual (defScope s_law) f cdv A outer s H E).A.guards = some []) {c Pc : Addr} (TB : LamX.TabB base mg c Pc) (hcd : cdv = .ref c) (hT : tabsOf K = [(Pc, (cxOf (L2.CX P w) P w KX mg base ["script", "deck", "turn", "kinds", "swaps", "text", "go", "give", "get", "due", "here", "paid", "step", "some", "row", "bad", "odd", "wrong", "heard"] qual (defScope s_law) f cdv A outer s H E).env.qual ++ "<lambda>")]) :
    ∃ t, DSs (cxOf (L2.CX P w) P w KX mg base ["script", "deck", "turn", "kinds", "swaps", "text", "go", "give", "get", "due", "here", "paid", "step", "some", "row", "bad", "odd", "wrong", "heard"] qual (defScope s_law) f cdv A outer s H E) K mg (fun _ => E) (defBody s_law) t (b_law mg) := ⟨_,
 (ds_cons (ds_set C 1 (de_call C (f__law_deck U G) (da_cons (de_var 0) (da_cons de_int da_nil))))
 (ds_cons (ds_for C (di_range1 C G.z_range (da_cons de_int da_nil)) (dg_name C 2)
 (ds_cons (ds_set C 3 (de_sl C (de_call C (f__law_mixed U G) (da_cons (de_var 1) (da_cons (de_lst (da_cons de_str (da_cons de_str (da_cons de_str (da_cons de_str (da_cons de_str (da_cons de_str da_nil))))))) da_nil))) do_none (do_some (q_add C de_int (de_call C (f__law_draw U G) (da_cons (de_var 1) (da_cons de_int da_nil)))))))
 (ds_cons (ds_set C 4 (de_call C (f__law_swaps U G) (da_cons (de_var 1) (da_cons (de_var 3) da_nil))))
 (ds_cons (ds_set C 5 (q_repr C gd G.z_repr (da_cons (de_var 4) da_nil)))
 (ds_cons (ds_for C (di_range1 C G.z_range (da_cons de_int da_nil)) (dg_name C 6)
 (ds_cons (ds_par2 C 7 8 (dr_cons (de_call C (f__law_pick U G) (da_cons (de_var 1) (da_cons (q_add C (de_var 3) (de_lst (da_cons de_str da_nil))) da_nil))) (dr_cons (de_call C (f__law_pick U G) (da_cons (de_var 1) (da_cons (q_add C (de_var 3) (de_lst (da_cons de_str da_nil))) da_nil))) dr_nil)))
 (ds_cons (ds_set C 9 (de_get2 C (de_call C (f__law_costs U G) (da_cons (de_var 4) (da_cons (de_var 7) da_nil))) (de_var 8) (q_neg de_int)))
 (ds_cons (ds_if (dt_not (dt_val (de_call C (f__law_same U G 5) (da_cons (de_lst (da_cons (de_call C (f_swap_cost U G) (da_cons (de_var 4) (da_cons (de_var 7) (da_cons (de_var 8) da_nil)))) (da_cons (de_callW C (f_swap_cost U G) [2, 1, 0] ["get", "give", "swaps"] (fun _ _ _ _ _ _ ws hl => match ws, hl with | [_, _, _], _ => rfl) (dk_cons (de_var 8) (dk_cons (de_var 7) (dk_cons (de_var 4) dk_nil)))) da_nil))) (da_cons (de_lst (da_cons (de_var 9) (da_cons (de_var 9) da_nil))) da_nil))))) (ds_one (ds_ret de_bl))
 ds_skip)
 (ds_cons (ds_parG2 C (dr_cons (de_var 7) (dr_cons de_int dr_nil)) (dg_name C 10) (dg_name C 11))
 (ds_one (ds_for C (di_range1 C G.z_range (da_cons de_int da_nil)) (dg_name C 12)
 (ds_cons (ds_frz 14 (ds_setLc C 13 [("row", 14)] (di_seq C (de_var 4)) (blkOk_by (by first | rfl | kernel_rfl)) (fun _ _ _ _ _ C1 => (dg_name C1 14)) (ownT_name (by decide)) (fun _ _ _ _ _ C1 => (dts_one (t_eq C1 (de_sub C1 (de_var 14) de_int) (de_var 10)))) (fun _ _ _ _ _ C1 => (de_var 14))))
 (ds_one (ds_if (t_ne C (de_var 13) de_lst0) (ds_cons (ds_set C 14 (de_call C (f__law_pick U G) (da_cons (de_var 1) (da_cons (de_var 13) da_nil))))
 (ds_cons (ds_parG2 C (dr_cons (de_sub C (de_var 14) de_int) (dr_cons (q_add C (de_var 11) (de_sub C (de_var 14) de_int)) dr_nil)) (dg_name C 10) (dg_name C 11))
 (ds_one (ds_if (dt_w (dw_and (t_eq C (de_call C (f__law_draw U G) (da_cons (de_var 1) (da_cons de_int da_nil))) de_int) (dw_and1 (dt_not (t_chain C (r := rLeA) (r' := rLeA) (o_le C) (o_le C) (k_le C) (k_le C) de_int (de_call C (f_swap_cost U G) (da_cons (de_var 4) (da_cons (de_var 7) (da_cons (de_var 10) da_nil)))) (de_var 11)))))) (ds_one (ds_ret de_bl))
 ds_skip))))
 ds_skip))))))))))
 (ds_cons (ds_set C 15 (de_call C (f__law_pick U G) (da_cons (de_var 1) (da_cons (de_lst (da_cons de_non (da_cons (q_list C G.z_list (da_cons (de_var 4) da_nil)) (da_cons (de_tup (da_cons (de_tup (da_cons de_str (da_cons de_str (da_cons (q_neg de_int) da_nil)))) da_nil)) (da_cons (de_tup (da_cons (de_tup (da_cons de_str (da_cons de_str (da_cons de_bl da_nil)))) da_nil)) (da_cons (de_tup (da_cons (de_tup (da_cons de_str (da_cons de_str da_nil))) da_nil)) (da_cons (de_tup (da_cons (de_tup (da_cons de_str (da_cons de_str (da_cons de_int da_nil)))) da_nil)) (da_cons (de_tup (da_cons (de_tup (da_cons de_str (da_cons de_str (da_cons de_int da_nil)))) da_nil)) (da_cons (de_tup (da_cons (de_lst (da_cons de_str (da_cons de_str (da_cons de_int da_nil)))) da_nil)) (da_cons (de_tup (da_cons (de_tup (da_cons de_str (da_cons de_str (da_cons de_int da_nil)))) (da_cons (de_tup (da_cons de_str (da_cons de_str (da_cons de_int da_nil)))) da_nil))) (da_cons (de_if (t_ne C (de_var 4) (de_tup da_nil)) (q_add C (de_var 4) (de_sl C (de_var 4) (do_some (q_neg de_int)) do_none)) (de_tup (da_cons de_int da_nil))) (da_cons (de_tup (da_cons de_str (da_cons de_str (da_cons de_int da_nil)))) (da_cons (de_tup (da_cons (de_tup (da_cons de_str (da_cons de_int (da_cons de_int da_nil)))) da_nil)) (da_cons (de_tup (da_cons (de_tup (da_cons de_str (da_cons de_str (da_cons de_str da_nil)))) da_nil)) da_nil)))))))))))))) da_nil))))
 (ds_cons (ds_parG2 C (dr_cons (de_call C (f__law_pick U G) (da_cons (de_var 1) (da_cons (de_lst (da_cons de_non (da_cons de_str (da_cons de_str (da_cons de_str (da_cons de_str (da_cons de_int (da_cons (de_tup (da_cons de_str da_nil)) (da_cons de_str da_nil))))))))) da_nil))) (dr_cons (de_call C (f__law_pick U G) (da_cons (de_var 1) (da_cons (de_lst (da_cons de_non (da_cons de_str (da_cons de_str (da_cons de_bl (da_cons de_str da_nil)))))) da_nil))) dr_nil)) (dg_name C 16) (dg_name C 17))
 (ds_cons (ds_set C 18 (de_lst (da_cons (de_hear (k := 5) C G.f__law_refused (ext__law_refused G) (i := 1) (nN := 2) (by decide) (fun g cdv => gv__law_refused G rfl rfl g cdv _) sc__law_refused rfl (Or.inl rfl) TB hcd hT (fun _ _ _ _ _ _ _ C2 => (de_call C2 (f_swap_cost U G) (da_cons (de_var 15) (da_cons (de_var 16) (da_cons (de_var 17) da_nil)))))) da_nil)))
 (ds_cons (ds_expr (de_append C (de_var 18) (de_hear (k := 5) C G.f__law_refused (ext__law_refused G) (i := 1) (nN := 2) (by decide) (fun g cdv => gv__law_refused G rfl rfl g cdv _) sc__law_refused rfl (Or.inl rfl) TB hcd hT (fun _ _ _ _ _ _ _ C3 => (de_callW C3 (f_swap_cost U G) [2, 1, 0] ["get", "give", "swaps"] (fun _ _ _ _ _ _ ws hl => match ws, hl with | [_, _, _], _ => rfl) (dk_cons (de_var 17) (dk_cons (de_var 16) (dk_cons (de_var 4) dk_nil))))))))
 (ds_cons (ds_expr (de_append C (de_var 18) (de_hear (k := 5) C G.f__law_refused (ext__law_refused G) (i := 1) (nN := 2) (by decide) (fun g cdv => gv__law_refused G rfl rfl g cdv _) sc__law_refused rfl (Or.inl rfl) TB hcd hT (fun _ _ _ _ _ _ _ C4 => (de_call C4 (f_swap_cost U G) (da_cons (de_var 4) (da_cons (de_sub C4 (de_var 3) de_int) (da_cons (de_var 17) da_nil))))))))
 (ds_one (ds_if (dt_w (dw_or (dt_not (dt_val (de_call C (f__law_same U G 5) (da_cons (de_var 18) (da_cons (de_lst (da_cons (de_tup (da_cons de_str (da_cons (de_var 15) (da_cons de_bl da_nil)))) (da_cons (de_tup (da_cons de_str (da_cons (de_var 16) (da_cons de_bl da_nil)))) (da_cons (de_tup (da_cons de_str (da_cons (de_var 17) (da_cons de_bl da_nil)))) da_nil)))) da_nil))))) (dw_or1 (t_ne C (q_repr C gd G.z_repr (da_cons (de_var 4) da_nil)) (de_var 5))))) (ds_one (ds_ret de_bl))
 ds_skip))))))))))))
 (ds_one (ds_ret de_bl))))⟩
end
end K31
namespace K31
open PySem PySem.Spec PyProof.Rows L2 PD
theorem env_mk {K : Kf} {h : Heap} {mg : Str → Option Value} (X : K.In h) (G : h.Ns mainGlobals mg)
    (z_all : PySem.W.nsIn K mainGlobals "all" = some none)
    (z_bool : PySem.W.nsIn K mainGlobals "bool" = some none)
    (z_dict : PySem.W.nsIn K mainGlobals "dict" = some none)
    (z_int : PySem.W.nsIn K mainGlobals "int" = some none)
    (z_isinstance : PySem.W.nsIn K mainGlobals "isinstance" = some none)
    (z_len : PySem.W.nsIn K mainGlobals "len" = some none)
    (z_list : PySem.W.nsIn K mainGlobals "list" = some none)
    (z_max : PySem.W.nsIn K mainGlobals "max" = some none)
    (z_min : PySem.W.nsIn K mainGlobals "min" = some none)
    (z_range : PySem.W.nsIn K mainGlobals "range" = some none)
    (z_repr : PySem.W.nsIn K mainGlobals "repr" = some none)
    (z_sorted : PySem.W.nsIn K mainGlobals "sorted" = some none)
    (z_str : PySem.W.nsIn K mainGlobals "str" = some none)
    (z_tuple : PySem.W.nsIn K mainGlobals "tuple" = some none)
    (z_zip : PySem.W.nsIn K mainGlobals "zip" = some none)
    {t_FIGURES : Tok}
    (c_FIGURES : PySem.W.nsIn K mainGlobals "FIGURES" = some (some (.str "0123456789" t_FIGURES)))
    {t_MOST_SIGNS : Tok}
    (c_MOST_SIGNS : PySem.W.nsIn K mainGlobals "MOST_SIGNS" = some (some (.int 12 t_MOST_SIGNS)))
    {t_SIGNS : Tok}
    (c_SIGNS : PySem.W.nsIn K mainGlobals "SIGNS" = some (some (.str "abcdefghijklmnopqrstuvwxyzABCDEFGHIJKLMNOPQRSTUVWXYZ0123456789" t_SIGNS)))
    {a_is_whole : Addr} {od_is_whole an_is_whole : Option Addr} {sl_is_whole : Array (Option Value)} {oc_is_whole kV_is_whole dc_is_whole pm_is_whole cd_is_whole ct_is_whole : Value}
    (ga_is_whole : PySem.W.nsIn K mainGlobals "is_whole" = some (some (.ref a_is_whole)))
    (l_is_whole : K.lookup a_is_whole = some ⟨oc_is_whole, od_is_whole, .func (PySem.W.fnOf "is_whole" "is_whole" (defArgs s_is_whole) (defBody s_is_whole) (defScope s_is_whole) .none kV_is_whole dc_is_whole pm_is_whole an_is_whole cd_is_whole ct_is_whole), sl_is_whole⟩)
    (co_is_whole : PySem.W.codeIn K cd_is_whole "is_whole" = true)
    (k_is_whole : PySem.W.keepIn K (.ref a_is_whole) = true)
    {a_is_tuple_of : Addr} {od_is_tuple_of an_is_tuple_of : Option Addr} {sl_is_tuple_of : Array (Option Value)} {oc_is_tuple_of kV_is_tuple_of dc_is_tuple_of pm_is_tuple_of cd_is_tuple_of ct_is_tuple_of : Value}
    (ga_is_tuple_of : PySem.W.nsIn K mainGlobals "is_tuple_of" = some (some (.ref a_is_tuple_of)))
    (l_is_tuple_of : K.lookup a_is_tuple_of = some ⟨oc_is_tuple_of, od_is_tuple_of, .func (PySem.W.fnOf "is_tuple_of" "is_tuple_of" (defArgs s_is_tuple_of) (defBody s_is_tuple_of) (defScope s_is_tuple_of) .none kV_is_tuple_of dc_is_tuple_of pm_is_tuple_of an_is_tuple_of cd_is_tuple_of ct_is_tuple_of), sl_is_tuple_of⟩)
    (co_is_tuple_of : PySem.W.codeIn K cd_is_tuple_of "is_tuple_of" = true)
    (k_is_tuple_of : PySem.W.keepIn K (.ref a_is_tuple_of) = true)
    {a_is_name : Addr} {od_is_name an_is_name : Option Addr} {sl_is_name : Array (Option Value)} {oc_is_name kV_is_name dc_is_name pm_is_name cd_is_name ct_is_name : Value}
    (ga_is_name : PySem.W.nsIn K mainGlobals "is_name" = some (some (.ref a_is_name)))
    (l_is_name : K.lookup a_is_name = some ⟨oc_is_name, od_is_name, .func (PySem.W.fnOf "is_name" "is_name" (defArgs s_is_name) (defBody s_is_name) (defScope s_is_name) .none kV_is_name dc_is_name pm_is_name an_is_name cd_is_name ct_is_name), sl_is_name⟩)
    (co_is_name : PySem.W.codeIn K cd_is_name "is_name" = true)
    (k_is_name : PySem.W.keepIn K (.ref a_is_name) = true)
    {a_is_swap : Addr} {od_is_swap an_is_swap : Option Addr} {sl_is_swap : Array (Option Value)} {oc_is_swap kV_is_swap dc_is_swap pm_is_swap cd_is_swap ct_is_swap : Value}
    (ga_is_swap : PySem.W.nsIn K mainGlobals "is_swap" = some (some (.ref a_is_swap)))
    (l_is_swap : K.lookup a_is_swap = some ⟨oc_is_swap, od_is_swap, .func (PySem.W.fnOf "is_swap" "is_swap" (defArgs s_is_swap) (defBody s_is_swap) (defScope s_is_swap) .none kV_is_swap dc_is_swap pm_is_swap an_is_swap cd_is_swap ct_is_swap), sl_is_swap⟩)
    (co_is_swap : PySem.W.codeIn K cd_is_swap "is_swap" = true)
    (k_is_swap : PySem.W.keepIn K (.ref a_is_swap) = true)
    {a_are_swaps : Addr} {od_are_swaps an_are_swaps : Option Addr} {sl_are_swaps : Array (Option Value)} {oc_are_swaps kV_are_swaps dc_are_swaps pm_are_swaps cd_are_swaps ct_are_swaps : Value}
    (ga_are_swaps : PySem.W.nsIn K mainGlobals "are_swaps" = some (some (.ref a_are_swaps)))
    (l_are_swaps : K.lookup a_are_swaps = some ⟨oc_are_swaps, od_are_swaps, .func (PySem.W.fnOf "are_swaps" "are_swaps" (defArgs s_are_swaps) (defBody s_are_swaps) (defScope s_are_swaps) .none kV_are_swaps dc_are_swaps pm_are_swaps an_are_swaps cd_are_swaps ct_are_swaps), sl_are_swaps⟩)
    (co_are_swaps : PySem.W.codeIn K cd_are_swaps "are_swaps" = true)
    (k_are_swaps : PySem.W.keepIn K (.ref a_are_swaps) = true)
    {a_need_swaps : Addr} {od_need_swaps an_need_swaps : Option Addr} {sl_need_swaps : Array (Option Value)} {oc_need_swaps kV_need_swaps dc_need_swaps pm_need_swaps cd_need_swaps ct_need_swaps : Value}
    (ga_need_swaps : PySem.W.nsIn K mainGlobals "need_swaps" = some (some (.ref a_need_swaps)))
    (l_need_swaps : K.lookup a_need_swaps = some ⟨oc_need_swaps, od_need_swaps, .func (PySem.W.fnOf "need_swaps" "need_swaps" (defArgs s_need_swaps) (defBody s_need_swaps) (defScope s_need_swaps) .none kV_need_swaps dc_need_swaps pm_need_swaps an_need_swaps cd_need_swaps ct_need_swaps), sl_need_swaps⟩)
    (co_need_swaps : PySem.W.codeIn K cd_need_swaps "need_swaps" = true)
    (k_need_swaps : PySem.W.keepIn K (.ref a_need_swaps) = true)
    {a_need_kind : Addr} {od_need_kind an_need_kind : Option Addr} {sl_need_kind : Array (Option Value)} {oc_need_kind kV_need_kind dc_need_kind pm_need_kind cd_need_kind ct_need_kind : Value}
    (ga_need_kind : PySem.W.nsIn K mainGlobals "need_kind" = some (some (.ref a_need_kind)))
    (l_need_kind : K.lookup a_need_kind = some ⟨oc_need_kind, od_need_kind, .func (PySem.W.fnOf "need_kind" "need_kind" (defArgs s_need_kind) (defBody s_need_kind) (defScope s_need_kind) .none kV_need_kind dc_need_kind pm_need_kind an_need_kind cd_need_kind ct_need_kind), sl_need_kind⟩)
    (co_need_kind : PySem.W.codeIn K cd_need_kind "need_kind" = true)
    (k_need_kind : PySem.W.keepIn K (.ref a_need_kind) = true)
    {a_costs_from : Addr} {od_costs_from an_costs_from : Option Addr} {sl_costs_from : Array (Option Value)} {oc_costs_from kV_costs_from dc_costs_from pm_costs_from cd_costs_from ct_costs_from : Value}
    (ga_costs_from : PySem.W.nsIn K mainGlobals "costs_from" = some (some (.ref a_costs_from)))
    (l_costs_from : K.lookup a_costs_from = some ⟨oc_costs_from, od_costs_from, .func (PySem.W.fnOf "costs_from" "costs_from" (defArgs s_costs_from) (defBody s_costs_from) (defScope s_costs_from) .none kV_costs_from dc_costs_from pm_costs_from an_costs_from cd_costs_from ct_costs_from), sl_costs_from⟩)
    (co_costs_from : PySem.W.codeIn K cd_costs_from "costs_from" = true)
    (k_costs_from : PySem.W.keepIn K (.ref a_costs_from) = true)
    {a_swap_cost : Addr} {od_swap_cost an_swap_cost : Option Addr} {sl_swap_cost : Array (Option Value)} {oc_swap_cost kV_swap_cost dc_swap_cost pm_swap_cost cd_swap_cost ct_swap_cost : Value}
    (ga_swap_cost : PySem.W.nsIn K mainGlobals "swap_cost" = some (some (.ref a_swap_cost)))
    (l_swap_cost : K.lookup a_swap_cost = some ⟨oc_swap_cost, od_swap_cost, .func (PySem.W.fnOf "swap_cost" "swap_cost" (defArgs s_swap_cost) (defBody s_swap_cost) (defScope s_swap_cost) .none kV_swap_cost dc_swap_cost pm_swap_cost an_swap_cost cd_swap_cost ct_swap_cost), sl_swap_cost⟩)
    (co_swap_cost : PySem.W.codeIn K cd_swap_cost "swap_cost" = true)
    (k_swap_cost : PySem.W.keepIn K (.ref a_swap_cost) = true)
    {a__law_deck : Addr} {od__law_deck an__law_deck : Option Addr} {sl__law_deck : Array (Option Value)} {oc__law_deck kV__law_deck dc__law_deck pm__law_deck cd__law_deck ct__law_deck : Value}
    (ga__law_deck : PySem.W.nsIn K mainGlobals "_law_deck" = some (some (.ref a__law_deck)))
    (l__law_deck : K.lookup a__law_deck = some ⟨oc__law_deck, od__law_deck, .func (PySem.W.fnOf "_law_deck" "_law_deck" (defArgs s__law_deck) (defBody s__law_deck) (defScope s__law_deck) .none kV__law_deck dc__law_deck pm__law_deck an__law_deck cd__law_deck ct__law_deck), sl__law_deck⟩)
    (co__law_deck : PySem.W.codeIn K cd__law_deck "_law_deck" = true)
    (k__law_deck : PySem.W.keepIn K (.ref a__law_deck) = true)
    {a__law_draw : Addr} {od__law_draw an__law_draw : Option Addr} {sl__law_draw : Array (Option Value)} {oc__law_draw kV__law_draw dc__law_draw pm__law_draw cd__law_draw ct__law_draw : Value}
    (ga__law_draw : PySem.W.nsIn K mainGlobals "_law_draw" = some (some (.ref a__law_draw)))
    (l__law_draw : K.lookup a__law_draw = some ⟨oc__law_draw, od__law_draw, .func (PySem.W.fnOf "_law_draw" "_law_draw" (defArgs s__law_draw) (defBody s__law_draw) (defScope s__law_draw) .none kV__law_draw dc__law_draw pm__law_draw an__law_draw cd__law_draw ct__law_draw), sl__law_draw⟩)
    (co__law_draw : PySem.W.codeIn K cd__law_draw "_law_draw" = true)
    (k__law_draw : PySem.W.keepIn K (.ref a__law_draw) = true)
    {a__law_pick : Addr} {od__law_pick an__law_pick : Option Addr} {sl__law_pick : Array (Option Value)} {oc__law_pick kV__law_pick dc__law_pick pm__law_pick cd__law_pick ct__law_pick : Value}
    (ga__law_pick : PySem.W.nsIn K mainGlobals "_law_pick" = some (some (.ref a__law_pick)))
    (l__law_pick : K.lookup a__law_pick = some ⟨oc__law_pick, od__law_pick, .func (PySem.W.fnOf "_law_pick" "_law_pick" (defArgs s__law_pick) (defBody s__law_pick) (defScope s__law_pick) .none kV__law_pick dc__law_pick pm__law_pick an__law_pick cd__law_pick ct__law_pick), sl__law_pick⟩)
    (co__law_pick : PySem.W.codeIn K cd__law_pick "_law_pick" = true)
    (k__law_pick : PySem.W.keepIn K (.ref a__law_pick) = true)
    {a__law_mixed : Addr} {od__law_mixed an__law_mixed : Option Addr} {sl__law_mixed : Array (Option Value)} {oc__law_mixed kV__law_mixed dc__law_mixed pm__law_mixed cd__law_mixed ct__law_mixed : Value}
    (ga__law_mixed : PySem.W.nsIn K mainGlobals "_law_mixed" = some (some (.ref a__law_mixed)))
    (l__law_mixed : K.lookup a__law_mixed = some ⟨oc__law_mixed, od__law_mixed, .func (PySem.W.fnOf "_law_mixed" "_law_mixed" (defArgs s__law_mixed) (defBody s__law_mixed) (defScope s__law_mixed) .none kV__law_mixed dc__law_mixed pm__law_mixed an__law_mixed cd__law_mixed ct__law_mixed), sl__law_mixed⟩)
    (co__law_mixed : PySem.W.codeIn K cd__law_mixed "_law_mixed" = true)
    (k__law_mixed : PySem.W.keepIn K (.ref a__law_mixed) = true)
    {a__law_is_whole : Addr} {od__law_is_whole an__law_is_whole : Option Addr} {sl__law_is_whole : Array (Option Value)} {oc__law_is_whole kV__law_is_whole dc__law_is_whole pm__law_is_whole cd__law_is_whole ct__law_is_whole : Value}
    (ga__law_is_whole : PySem.W.nsIn K mainGlobals "_law_is_whole" = some (some (.ref a__law_is_whole)))
    (l__law_is_whole : K.lookup a__law_is_whole = some ⟨oc__law_is_whole, od__law_is_whole, .func (PySem.W.fnOf "_law_is_whole" "_law_is_whole" (defArgs s__law_is_whole) (defBody s__law_is_whole) (defScope s__law_is_whole) .none kV__law_is_whole dc__law_is_whole pm__law_is_whole an__law_is_whole cd__law_is_whole ct__law_is_whole), sl__law_is_whole⟩)
    (co__law_is_whole : PySem.W.codeIn K cd__law_is_whole "_law_is_whole" = true)
    (k__law_is_whole : PySem.W.keepIn K (.ref a__law_is_whole) = true)
    {a__law_same : Addr} {od__law_same an__law_same : Option Addr} {sl__law_same : Array (Option Value)} {oc__law_same kV__law_same dc__law_same pm__law_same cd__law_same ct__law_same : Value}
    (ga__law_same : PySem.W.nsIn K mainGlobals "_law_same" = some (some (.ref a__law_same)))
    (l__law_same : K.lookup a__law_same = some ⟨oc__law_same, od__law_same, .func (PySem.W.fnOf "_law_same" "_law_same" (defArgs s__law_same) (defBody s__law_same) (defScope s__law_same) .none kV__law_same dc__law_same pm__law_same an__law_same cd__law_same ct__law_same), sl__law_same⟩)
    (co__law_same : PySem.W.codeIn K cd__law_same "_law_same" = true)
    (k__law_same : PySem.W.keepIn K (.ref a__law_same) = true)
    {a__law_swaps : Addr} {od__law_swaps an__law_swaps : Option Addr} {sl__law_swaps : Array (Option Value)} {oc__law_swaps kV__law_swaps dc__law_swaps pm__law_swaps cd__law_swaps ct__law_swaps : Value}
    (ga__law_swaps : PySem.W.nsIn K mainGlobals "_law_swaps" = some (some (.ref a__law_swaps)))
    (l__law_swaps : K.lookup a__law_swaps = some ⟨oc__law_swaps, od__law_swaps, .func (PySem.W.fnOf "_law_swaps" "_law_swaps" (defArgs s__law_swaps) (defBody s__law_swaps) (defScope s__law_swaps) .none kV__law_swaps dc__law_swaps pm__law_swaps an__law_swaps cd__law_swaps ct__law_swaps), sl__law_swaps⟩)
    (co__law_swaps : PySem.W.codeIn K cd__law_swaps "_law_swaps" = true)
    (k__law_swaps : PySem.W.keepIn K (.ref a__law_swaps) = true)
    {a__law_costs : Addr} {od__law_costs an__law_costs : Option Addr} {sl__law_costs : Array (Option Value)} {oc__law_costs kV__law_costs dc__law_costs pm__law_costs cd__law_costs ct__law_costs : Value}
    (ga__law_costs : PySem.W.nsIn K mainGlobals "_law_costs" = some (some (.ref a__law_costs)))
    (l__law_costs : K.lookup a__law_costs = some ⟨oc__law_costs, od__law_costs, .func (PySem.W.fnOf "_law_costs" "_law_costs" (defArgs s__law_costs) (defBody s__law_costs) (defScope s__law_costs) .none kV__law_costs dc__law_costs pm__law_costs an__law_costs cd__law_costs ct__law_costs), sl__law_costs⟩)
    (co__law_costs : PySem.W.codeIn K cd__law_costs "_law_costs" = true)
    (k__law_costs : PySem.W.keepIn K (.ref a__law_costs) = true)
    {a__law_refused : Addr} {od__law_refused an__law_refused : Option Addr} {sl__law_refused : Array (Option Value)} {oc__law_refused kV__law_refused dc__law_refused pm__law_refused cd__law_refused ct__law_refused : Value}
    (ga__law_refused : PySem.W.nsIn K mainGlobals "_law_refused" = some (some (.ref a__law_refused)))
    (l__law_refused : K.lookup a__law_refused = some ⟨oc__law_refused, od__law_refused, .func (PySem.W.fnOf "_law_refused" "_law_refused" (defArgs s__law_refused) (defBody s__law_refused) (defScope s__law_refused) .none kV__law_refused dc__law_refused pm__law_refused an__law_refused cd__law_refused ct__law_refused), sl__law_refused⟩)
    (co__law_refused : PySem.W.codeIn K cd__law_refused "_law_refused" = true)
    (k__law_refused : PySem.W.keepIn K (.ref a__law_refused) = true)
    {C_BadKind I_BadKind : Addr} {od_BadKind an_BadKind : Option Addr} {sl_BadKind : Array (Option Value)} {oc_BadKind dc_BadKind pm_BadKind cd_BadKind ct_BadKind : Value} {p1_BadKind p2_BadKind q1_BadKind q2_BadKind q3_BadKind q4_BadKind : Pos}
    (x_g_BadKind : PySem.W.nsIn K mainGlobals "BadKind" = some (some (.ref C_BadKind)))
    (x_ini_BadKind : PySem.W.excInitIn K C_BadKind exTail "Exception.__new__" = true)
    (x_ovr_BadKind : PySem.W.excOver K C_BadKind exTail = true)
    (x_iC_BadKind : PySem.W.findIn K (.ref C_BadKind) "__init__" = some (some (.ref I_BadKind)))
    (x_sa_BadKind : PySem.W.findIn K (.ref C_BadKind) "__setattr__" = some (some (.builtin "object.__setattr__")))
    (x_tkr_BadKind : PySem.W.takerIn K C_BadKind "thing" = some none)
    (x_noT_BadKind : PySem.W.findIn K (.ref C_BadKind) "thing" = some none)
    (x_hd_BadKind : PySem.W.hasDictIn K C_BadKind = true)
    (x_kC_BadKind : PySem.W.keepIn K (.ref C_BadKind) = true)
    (x_exC_BadKind : PySem.W.subIn K (.ref C_BadKind) (.type "BaseException") = some true)
    (x_tyC_BadKind : PySem.W.typeIn K (.ref C_BadKind) = some (.type "type"))
    (x_tI_BadKind : PySem.W.typeIn K (.ref I_BadKind) = some (.type "function"))
    (x_ga_BadKind : PySem.W.findIn K (.ref C_BadKind) "__getattribute__" = some (some (.builtin "BaseException.__getattribute__")))
    (x_gg_BadKind : PySem.W.findIn K (.ref C_BadKind) "__getattr__" = some none)
    (x_cl_BadKind : PySem.W.findIn K (.ref C_BadKind) "__class__" = some (some (.builtin "object.__class__")))
    (x_mr_BadKind : PySem.W.mroIn K C_BadKind (.type "object") = some true)
    (x_fn_BadKind : K.lookup I_BadKind = some ⟨oc_BadKind, od_BadKind, .func (PySem.W.fnOf "__init__" "BadKind.__init__" (thA p1_BadKind p2_BadKind) (thB q1_BadKind q2_BadKind q3_BadKind q4_BadKind) thS .none .none dc_BadKind pm_BadKind an_BadKind cd_BadKind ct_BadKind), sl_BadKind⟩)
    (x_co_BadKind : PySem.W.codeIn K cd_BadKind "BadKind.__init__" = true)
    {C_BadSwaps I_BadSwaps : Addr} {od_BadSwaps an_BadSwaps : Option Addr} {sl_BadSwaps : Array (Option Value)} {oc_BadSwaps dc_BadSwaps pm_BadSwaps cd_BadSwaps ct_BadSwaps : Value} {p1_BadSwaps p2_BadSwaps q1_BadSwaps q2_BadSwaps q3_BadSwaps q4_BadSwaps : Pos}
    (x_g_BadSwaps : PySem.W.nsIn K mainGlobals "BadSwaps" = some (some (.ref C_BadSwaps)))
    (x_ini_BadSwaps : PySem.W.excInitIn K C_BadSwaps exTail "Exception.__new__" = true)
    (x_ovr_BadSwaps : PySem.W.excOver K C_BadSwaps exTail = true)
    (x_iC_BadSwaps : PySem.W.findIn K (.ref C_BadSwaps) "__init__" = some (some (.ref I_BadSwaps)))
    (x_sa_BadSwaps : PySem.W.findIn K (.ref C_BadSwaps) "__setattr__" = some (some (.builtin "object.__setattr__")))
    (x_tkr_BadSwaps : PySem.W.takerIn K C_BadSwaps "thing" = some none)
    (x_noT_BadSwaps : PySem.W.findIn K (.ref C_BadSwaps) "thing" = some none)
    (x_hd_BadSwaps : PySem.W.hasDictIn K C_BadSwaps = true)
    (x_kC_BadSwaps : PySem.W.keepIn K (.ref C_BadSwaps) = true)
    (x_exC_BadSwaps : PySem.W.subIn K (.ref C_BadSwaps) (.type "BaseException") = some true)
    (x_tyC_BadSwaps : PySem.W.typeIn K (.ref C_BadSwaps) = some (.type "type"))
    (x_tI_BadSwaps : PySem.W.typeIn K (.ref I_BadSwaps) = some (.type "function"))
    (x_ga_BadSwaps : PySem.W.findIn K (.ref C_BadSwaps) "__getattribute__" = some (some (.builtin "BaseException.__getattribute__")))
    (x_gg_BadSwaps : PySem.W.findIn K (.ref C_BadSwaps) "__getattr__" = some none)
    (x_cl_BadSwaps : PySem.W.findIn K (.ref C_BadSwaps) "__class__" = some (some (.builtin "object.__class__")))
    (x_mr_BadSwaps : PySem.W.mroIn K C_BadSwaps (.type "object") = some true)
    (x_fn_BadSwaps : K.lookup I_BadSwaps = some ⟨oc_BadSwaps, od_BadSwaps, .func (PySem.W.fnOf "__init__" "BadSwaps.__init__" (thA p1_BadSwaps p2_BadSwaps) (thB q1_BadSwaps q2_BadSwaps q3_BadSwaps q4_BadSwaps) thS .none .none dc_BadSwaps pm_BadSwaps an_BadSwaps cd_BadSwaps ct_BadSwaps), sl_BadSwaps⟩)
    (x_co_BadSwaps : PySem.W.codeIn K cd_BadSwaps "BadSwaps.__init__" = true)
    {R : Addr}
    (x_R : PySem.W.nsIn K mainGlobals "RockError" = some (some (.ref R)))
    (tg1 : PySem.W.specialIn K (.builtin "object.__class__") "__get__" = some (some (.builtin "getset_descriptor.__get__")))
    (tg2 : PySem.W.takesIn K (.builtin "object.__class__") = some true)
    (ee_BadKind_BadKind : PySem.W.subIn K (.ref C_BadKind) (.ref C_BadKind) = some true)
    (ee_BadKind_BadSwaps : PySem.W.subIn K (.ref C_BadKind) (.ref C_BadSwaps) = some false)
    (ki_BadKind : PySem.W.subIn K (.ref C_BadKind) (.ref R) = some true)
    (ee_BadSwaps_BadKind : PySem.W.subIn K (.ref C_BadSwaps) (.ref C_BadKind) = some false)
    (ee_BadSwaps_BadSwaps : PySem.W.subIn K (.ref C_BadSwaps) (.ref C_BadSwaps) = some true)
    (ki_BadSwaps : PySem.W.subIn K (.ref C_BadSwaps) (.ref R) = some true)
    (Rhd : PySem.W.hasDictIn K R = true)
    (Rty : PySem.W.typeIn K (.ref R) = some (.type "type"))
 : Env K mg where
  z_all := PySem.W.mg_none_of X G z_all
  z_bool := PySem.W.mg_none_of X G z_bool
  z_dict := PySem.W.mg_none_of X G z_dict
  z_int := PySem.W.mg_none_of X G z_int
  z_isinstance := PySem.W.mg_none_of X G z_isinstance
  z_len := PySem.W.mg_none_of X G z_len
  z_list := PySem.W.mg_none_of X G z_list
  z_max := PySem.W.mg_none_of X G z_max
  z_min := PySem.W.mg_none_of X G z_min
  z_range := PySem.W.mg_none_of X G z_range
  z_repr := PySem.W.mg_none_of X G z_repr
  z_sorted := PySem.W.mg_none_of X G z_sorted
  z_str := PySem.W.mg_none_of X G z_str
  z_tuple := PySem.W.mg_none_of X G z_tuple
  z_zip := PySem.W.mg_none_of X G z_zip
  c_FIGURES := ⟨t_FIGURES, PySem.W.mg_of X G c_FIGURES⟩
  c_MOST_SIGNS := ⟨t_MOST_SIGNS, PySem.W.mg_of X G c_MOST_SIGNS⟩
  c_SIGNS := ⟨t_SIGNS, PySem.W.mg_of X G c_SIGNS⟩
  f_is_whole := ⟨a_is_whole, _, fun_mk (st := s_is_whole) l_is_whole co_is_whole k_is_whole, PySem.W.mg_of X G ga_is_whole, (fun_mk (st := s_is_whole) l_is_whole co_is_whole k_is_whole).binds (ps := ["thing"]) fun _ _ _ _ _ _ us hl => match us, hl with | [_], _ => rfl⟩
  f_is_tuple_of := ⟨a_is_tuple_of, _, fun_mk (st := s_is_tuple_of) l_is_tuple_of co_is_tuple_of k_is_tuple_of, PySem.W.mg_of X G ga_is_tuple_of, (fun_mk (st := s_is_tuple_of) l_is_tuple_of co_is_tuple_of k_is_tuple_of).binds (ps := ["thing", "many"]) fun _ _ _ _ _ _ us hl => match us, hl with | [_, _], _ => rfl⟩
  f_is_name := ⟨a_is_name, _, fun_mk (st := s_is_name) l_is_name co_is_name k_is_name, PySem.W.mg_of X G ga_is_name, (fun_mk (st := s_is_name) l_is_name co_is_name k_is_name).binds (ps := ["thing"]) fun _ _ _ _ _ _ us hl => match us, hl with | [_], _ => rfl⟩
  f_is_swap := ⟨a_is_swap, _, fun_mk (st := s_is_swap) l_is_swap co_is_swap k_is_swap, PySem.W.mg_of X G ga_is_swap, (fun_mk (st := s_is_swap) l_is_swap co_is_swap k_is_swap).binds (ps := ["thing"]) fun _ _ _ _ _ _ us hl => match us, hl with | [_], _ => rfl⟩
  f_are_swaps := ⟨a_are_swaps, _, fun_mk (st := s_are_swaps) l_are_swaps co_are_swaps k_are_swaps, PySem.W.mg_of X G ga_are_swaps, (fun_mk (st := s_are_swaps) l_are_swaps co_are_swaps k_are_swaps).binds (ps := ["thing"]) fun _ _ _ _ _ _ us hl => match us, hl with | [_], _ => rfl⟩
  f_need_swaps := ⟨a_need_swaps, _, fun_mk (st := s_need_swaps) l_need_swaps co_need_swaps k_need_swaps, PySem.W.mg_of X G ga_need_swaps, (fun_mk (st := s_need_swaps) l_need_swaps co_need_swaps k_need_swaps).binds (ps := ["swaps"]) fun _ _ _ _ _ _ us hl => match us, hl with | [_], _ => rfl⟩
  f_need_kind := ⟨a_need_kind, _, fun_mk (st := s_need_kind) l_need_kind co_need_kind k_need_kind, PySem.W.mg_of X G ga_need_kind, (fun_mk (st := s_need_kind) l_need_kind co_need_kind k_need_kind).binds (ps := ["kind"]) fun _ _ _ _ _ _ us hl => match us, hl with | [_], _ => rfl⟩
  f_costs_from := ⟨a_costs_from, _, fun_mk (st := s_costs_from) l_costs_from co_costs_from k_costs_from, PySem.W.mg_of X G ga_costs_from, (fun_mk (st := s_costs_from) l_costs_from co_costs_from k_costs_from).binds (ps := ["swaps", "start"]) fun _ _ _ _ _ _ us hl => match us, hl with | [_, _], _ => rfl⟩
  f_swap_cost := ⟨a_swap_cost, _, fun_mk (st := s_swap_cost) l_swap_cost co_swap_cost k_swap_cost, PySem.W.mg_of X G ga_swap_cost, (fun_mk (st := s_swap_cost) l_swap_cost co_swap_cost k_swap_cost).binds (ps := ["swaps", "give", "get"]) fun _ _ _ _ _ _ us hl => match us, hl with | [_, _, _], _ => rfl⟩
  f__law_deck := ⟨a__law_deck, _, fun_mk (st := s__law_deck) l__law_deck co__law_deck k__law_deck, PySem.W.mg_of X G ga__law_deck, (fun_mk (st := s__law_deck) l__law_deck co__law_deck k__law_deck).binds (ps := ["script", "mark"]) fun _ _ _ _ _ _ us hl => match us, hl with | [_, _], _ => rfl⟩
  f__law_draw := ⟨a__law_draw, _, fun_mk (st := s__law_draw) l__law_draw co__law_draw k__law_draw, PySem.W.mg_of X G ga__law_draw, (fun_mk (st := s__law_draw) l__law_draw co__law_draw k__law_draw).binds (ps := ["deck", "many"]) fun _ _ _ _ _ _ us hl => match us, hl with | [_, _], _ => rfl⟩
  f__law_pick := ⟨a__law_pick, _, fun_mk (st := s__law_pick) l__law_pick co__law_pick k__law_pick, PySem.W.mg_of X G ga__law_pick, (fun_mk (st := s__law_pick) l__law_pick co__law_pick k__law_pick).binds (ps := ["deck", "some"]) fun _ _ _ _ _ _ us hl => match us, hl with | [_, _], _ => rfl⟩
  f__law_mixed := ⟨a__law_mixed, _, fun_mk (st := s__law_mixed) l__law_mixed co__law_mixed k__law_mixed, PySem.W.mg_of X G ga__law_mixed, (fun_mk (st := s__law_mixed) l__law_mixed co__law_mixed k__law_mixed).binds (ps := ["deck", "some"]) fun _ _ _ _ _ _ us hl => match us, hl with | [_, _], _ => rfl⟩
  f__law_is_whole := ⟨a__law_is_whole, _, fun_mk (st := s__law_is_whole) l__law_is_whole co__law_is_whole k__law_is_whole, PySem.W.mg_of X G ga__law_is_whole, (fun_mk (st := s__law_is_whole) l__law_is_whole co__law_is_whole k__law_is_whole).binds (ps := ["thing"]) fun _ _ _ _ _ _ us hl => match us, hl with | [_], _ => rfl⟩
  f__law_same := ⟨a__law_same, _, fun_mk (st := s__law_same) l__law_same co__law_same k__law_same, PySem.W.mg_of X G ga__law_same, (fun_mk (st := s__law_same) l__law_same co__law_same k__law_same).binds (ps := ["told", "due"]) fun _ _ _ _ _ _ us hl => match us, hl with | [_, _], _ => rfl⟩
  f__law_swaps := ⟨a__law_swaps, _, fun_mk (st := s__law_swaps) l__law_swaps co__law_swaps k__law_swaps, PySem.W.mg_of X G ga__law_swaps, (fun_mk (st := s__law_swaps) l__law_swaps co__law_swaps k__law_swaps).binds (ps := ["deck", "kinds"]) fun _ _ _ _ _ _ us hl => match us, hl with | [_, _], _ => rfl⟩
  f__law_costs := ⟨a__law_costs, _, fun_mk (st := s__law_costs) l__law_costs co__law_costs k__law_costs, PySem.W.mg_of X G ga__law_costs, (fun_mk (st := s__law_costs) l__law_costs co__law_costs k__law_costs).binds (ps := ["swaps", "give"]) fun _ _ _ _ _ _ us hl => match us, hl with | [_, _], _ => rfl⟩
  f__law_refused := ⟨a__law_refused, _, fun_mk (st := s__law_refused) l__law_refused co__law_refused k__law_refused, PySem.W.mg_of X G ga__law_refused, (fun_mk (st := s__law_refused) l__law_refused co__law_refused k__law_refused).binds (ps := ["call"]) fun _ _ _ _ _ _ us hl => match us, hl with | [_], _ => rfl⟩
  x_BadKind := ⟨C_BadKind, I_BadKind, PySem.W.mg_of X G x_g_BadKind, x_ini_BadKind, x_ovr_BadKind, x_iC_BadKind, x_sa_BadKind, x_tkr_BadKind, x_noT_BadKind, x_hd_BadKind, x_kC_BadKind, x_exC_BadKind, x_tyC_BadKind, x_tI_BadKind, x_ga_BadKind, x_gg_BadKind, x_cl_BadKind, x_mr_BadKind, _, _, _, _, _, _, _, _, _, _, _, _, _, _, x_fn_BadKind, x_co_BadKind⟩
  x_BadSwaps := ⟨C_BadSwaps, I_BadSwaps, PySem.W.mg_of X G x_g_BadSwaps, x_ini_BadSwaps, x_ovr_BadSwaps, x_iC_BadSwaps, x_sa_BadSwaps, x_tkr_BadSwaps, x_noT_BadSwaps, x_hd_BadSwaps, x_kC_BadSwaps, x_exC_BadSwaps, x_tyC_BadSwaps, x_tI_BadSwaps, x_ga_BadSwaps, x_gg_BadSwaps, x_cl_BadSwaps, x_mr_BadSwaps, _, _, _, _, _, _, _, _, _, _, _, _, _, _, x_fn_BadSwaps, x_co_BadSwaps⟩
  x_root := ⟨R, PySem.W.mg_of X G x_R, trivial⟩
  tg := ⟨tg1, tg2⟩
  e_ex := by
    intro a ha b hb Ca Cb h1 h2
    simp only [List.mem_cons, List.not_mem_nil, or_false] at ha hb
    rcases ha with rfl | rfl <;> rcases hb with rfl | rfl
    · rw [PySem.W.mg_of X G x_g_BadKind] at h1; rw [PySem.W.mg_of X G x_g_BadKind] at h2; cases Option.some.inj h1; cases Option.some.inj h2; exact PySem.W.exm_ref x_exC_BadKind x_hd_BadKind x_tyC_BadKind ee_BadKind_BadKind
    · rw [PySem.W.mg_of X G x_g_BadKind] at h1; rw [PySem.W.mg_of X G x_g_BadSwaps] at h2; cases Option.some.inj h1; cases Option.some.inj h2; exact PySem.W.exm_ref x_exC_BadSwaps x_hd_BadSwaps x_tyC_BadSwaps ee_BadKind_BadSwaps
    · rw [PySem.W.mg_of X G x_g_BadSwaps] at h1; rw [PySem.W.mg_of X G x_g_BadKind] at h2; cases Option.some.inj h1; cases Option.some.inj h2; exact PySem.W.exm_ref x_exC_BadKind x_hd_BadKind x_tyC_BadKind ee_BadSwaps_BadKind
    · rw [PySem.W.mg_of X G x_g_BadSwaps] at h1; rw [PySem.W.mg_of X G x_g_BadSwaps] at h2; cases Option.some.inj h1; cases Option.some.inj h2; exact PySem.W.exm_ref x_exC_BadSwaps x_hd_BadSwaps x_tyC_BadSwaps ee_BadSwaps_BadSwaps
  e_ki := by
    intro a ha Ca R0 h1 h2
    simp only [List.mem_cons, List.not_mem_nil, or_false] at ha
    rw [PySem.W.mg_of X G x_R] at h2; cases Option.some.inj h2
    rcases ha with rfl | rfl
    · rw [PySem.W.mg_of X G x_g_BadKind] at h1; cases Option.some.inj h1; exact PD.kit_ref Rhd Rty ki_BadKind
    · rw [PySem.W.mg_of X G x_g_BadSwaps] at h1; cases Option.some.inj h1; exact PD.kit_ref Rhd Rty ki_BadSwaps
end K31
namespace K31
open PySem PySem.Spec PyProof.Rows L2 PD
abbrev lawN : List Str := ["script", "deck", "turn", "kinds", "swaps", "text", "go", "give", "get", "due", "here", "paid", "step", "some", "row", "bad", "odd", "wrong", "heard"]
theorem law_mk {P : Program} {w : World} {K : Kf} {h : Heap} {mg : Str → Option Value} {fa : Addr} (X : K.In h) (G : h.Ns mainGlobals mg) (hmg : mg "law" = some (.ref fa))
    {a_l : Addr} {od an : Option Addr} {sl : Array (Option Value)} {oc kV dc pm ct : Value} {c Pc : Addr} {o1 : Value} {d1 : Option Addr} {vs1 : Array Value} {sl1 : Array (Option Value)}
    (plain : ∀ mg, Env K mg → ∀ ns : List Int, ns.length ≤ 63 → ∃ m', b_law mg (PD.enter lawN.length [.fz (.scr ns)] []) = .ok (.rt (.fz (.bl true))) m')
    (ga : PySem.W.nsIn K mainGlobals "law" = some (some (.ref a_l))) (l : K.lookup a_l = some ⟨oc, od, .func (PySem.W.fnOf "law" "law" (defArgs s_law) (defBody s_law) (defScope s_law) .none kV dc pm an (.ref c) ct), sl⟩) (co : PySem.W.codeIn K (.ref c) "law" = true) (k : PySem.W.keepIn K (.ref a_l) = true)
    (lc : K.lookup c = some ⟨o1, d1, .fields vs1, sl1⟩) (hv : vs1[11]? = some (.ref Pc)) (nT : K.lookup Pc = none) (E : Env K mg) :
    ∃ (fd : FuncData) (c Pc : Addr), PySem.W.tabIn K "law" = some (c, Pc) ∧ K.lookup Pc = none ∧ Fun K "law" "law" s_law fa fd ∧ FnScope lawN ["script"] (defScope s_law) ∧ (∀ (s : Shared) (u : Value), BindsTo s fd ⟨[u], []⟩ [("script", u)]) ∧
      ∀ (base : Heap) (s : Shared) (H : Hp), K.In base → base.Ns mainGlobals mg → LamX.TabB base mg c Pc → ∀ (a : Addr) (ns : List Int), St0 H a Pc → ns.length ≤ 63 → SqL K H a (ns.map V.int) →
        Cxt (cxOf (L2.CX P w) P w K mg base lawN "law" (defScope s_law) fa (.ref c) callerA [] s H (fun _ _ _ => False)) P w K K mg base 7 (fun _ _ _ _ => False) →
        ∃ t, PSs (cxOf (L2.CX P w) P w K mg base lawN "law" (defScope s_law) fa (.ref c) callerA [] s H (fun _ _ _ => False)) (defBody s_law) t ∧ t { nx := fun _ _ => V.non = .bl true, rt := fun v _ => v = .bl true } (L2.start lawN [.ref a]) H := by
  have ht : PySem.W.tabIn K "law" = some (c, Pc) := by
    unfold PySem.W.tabIn
    simp only [ga, l, PySem.W.fnOf, lc, hv]
  have e := hmg.symm.trans (PySem.W.mg_of X G ga)
  cases e
  refine ⟨_, c, Pc, ht, nT, fun_mk (st := s_law) l co k, sc_law, fun s v => .of_eq rfl, fun base s H _ _ TB a ns T0 hl hS C => ?_⟩
  obtain ⟨up, hT⟩ := kTab_facts (f := fa) (Pc := Pc) (q := (cxOf (L2.CX P w) P w K mg base lawN "law" (defScope s_law) fa (.ref c) callerA [] s H (fun _ _ _ => False)).env.qual ++ "<lambda>") l
  obtain ⟨t, D⟩ := d_law up E (C.down up) rfl TB rfl hT
  refine ⟨t, D.pe, ?_⟩
  have S1 := (st0_stf T0 hT).enter (N := lawN) (as := [.fz (.scr ns)]) (vs := [.ref a]) ⟨.ref a, [], rfl, ⟨a, rfl, sql_cut T0 l hS⟩, rfl⟩ (by show 1 ≤ 19; decide)
  refine D.ok _ _ [] _ _ _ H _ _ S1 ?_
  obtain ⟨m', e⟩ := plain mg E ns hl
  rw [e]
  intro v σ' F' H' fp' S' ev
  obtain ⟨q, o, _⟩ := ev
  exact o.1
end K31
namespace PD
open PySem PySem.Spec PyProof.Rows L2
/-! # evaluation of denotations -/
/-- a def's run: its result, what its pinned arguments hold behind it -/
structure Rn (r : Out SV) (s : SV) (ps : List SV) : Prop where
  ex : ∃ sl, r = .ok s ⟨sl, ps⟩
structure RnX (r : Out SV) (c : Str) (d : D) (ps : List SV) : Prop where
  ex : ∃ sl, r = .exc c d ⟨sl, ps⟩
theorem Rn.eq {r : Out SV} {s : SV} {ps : List SV} (h : Rn r s ps) : ∃ sl, r = .ok s ⟨sl, ps⟩ := h.ex
theorem RnX.eq {r : Out SV} {c : Str} {d : D} {ps : List SV} (h : RnX r c d ps) : ∃ sl, r = .exc c d ⟨sl, ps⟩ := h.ex
theorem Rn_ok (s' s : SV) (m : M) (ps : List SV) : Rn (.ok s' m) s ps ↔ (s' = s ∧ m.pp = ps) := by
  constructor
  · rintro ⟨sl, h⟩
    cases h
    exact ⟨rfl, rfl⟩
  · rintro ⟨rfl, rfl⟩
    exact ⟨m.sl, rfl⟩
theorem RnX_exc (c' c : Str) (d' d : D) (m : M) (ps : List SV) : RnX (.exc c' d' m) c d ps ↔ (c' = c ∧ d' = d ∧ m.pp = ps) := by
  constructor
  · rintro ⟨sl, h⟩
    cases h
    exact ⟨rfl, rfl, rfl⟩
  · rintro ⟨rfl, rfl, rfl⟩
    exact ⟨m.sl, rfl⟩
theorem rn_eq {r : Out SV} {s : SV} {m : M} (h : r = .ok s m) : Rn r s m.pp := ⟨m.sl, h⟩
theorem rnX_eq {r : Out SV} {c : Str} {d : D} {m : M} (h : r = .exc c d m) : RnX r c d m.pp := ⟨m.sl, h⟩
/-! ### calls -/
theorem mkArgs_v {m : M} : ∀ (ds : List D) (os : List Ow), mkArgs m (ds.map EV.v) os = some (ds.map Ar.fz, os)
  | [], os => rfl
  | d :: ds, os => by simp [mkArgs, mkArgs_v ds os]
theorem call_v {np : Nat} {f : Den} {m : M} {ds : List D} {s : SV} (hl : ds.length = np) (h : Rn (f (ds.map Ar.fz) []) s []) : callK np f m (ds.map EV.v) = .ok (resE s) m := by
  obtain ⟨sl, e⟩ := h.eq
  unfold callK
  simp [hl, mkArgs_v, pinsOf, e, setAll]
theorem callX_v {np : Nat} {f : Den} {m : M} {ds : List D} {c : Str} {d : D} (hl : ds.length = np) (h : RnX (f (ds.map Ar.fz) []) c d []) : callK np f m (ds.map EV.v) = .exc c d m := by
  obtain ⟨sl, e⟩ := h.eq
  unfold callK
  simp [hl, mkArgs_v, pinsOf, e, setAll]
/-- the first argument pinned, the others frozen -/
theorem call_p {np : Nat} {f : Den} {m : M} {o : Ow} {s0 s1 s : SV} {ds : List D} (hl : ds.length + 1 = np) (hg : get m o = some s0) (h : Rn (f (.pin 0 :: ds.map Ar.fz) [s0]) s [s1]) : callK np f m (.br o [] :: ds.map EV.v) = .ok (resE s) (setO m o s1) := by
  obtain ⟨sl, e⟩ := h.eq
  unfold callK
  simp [hl, mkArgs, mkArgs_v, pinsOf, hg, e, setAll]
/-- the first two pinned -/
theorem call_pp {np : Nat} {f : Den} {m : M} {o o' : Ow} {s0 s1 t0 t1 s : SV} {ds : List D} (hl : ds.length + 2 = np) (hne : o ≠ o') (hg : get m o = some s0) (hg' : get m o' = some t0) (h : Rn (f (.pin 0 :: .pin 1 :: ds.map Ar.fz) [s0, t0]) s [s1, t1]) :
    callK np f m (.br o [] :: .br o' [] :: ds.map EV.v) = .ok (resE s) (setO (setO m o s1) o' t1) := by
  obtain ⟨sl, e⟩ := h.eq
  unfold callK
  simp [hl, mkArgs, mkArgs_v, pinsOf, hg, hg', e, setAll, hne.symm]
/-! ### walks -/
abbrev always : M → Prop := fun _ => True
theorem forI_rel {β : Type} {tg : EV → M → Out Unit} {gb : M → Out Ctl} (Rp : β → M → Prop) (step : D → β → β) : ∀ (items : List D) (b : β) (m : M), Rp b m →
    (∀ d ∈ items, ∀ b m, Rp b m → ∃ m1 m2, tg (.v d) m = .ok () m1 ∧ (gb m1 = .ok .nx m2 ∨ gb m1 = .ok .ct m2) ∧ Rp (step d b) m2) →
    ∃ m', forI always tg gb items m = .ok .nx m' ∧ Rp (items.foldl (fun b d => step d b) b) m'
  | [], b, m, h, _ => ⟨m, by simp [forI, always], h⟩
  | d :: r, b, m, h, k => by
    obtain ⟨m1, m2, h1, h2, h3⟩ := k d List.mem_cons_self b m h
    obtain ⟨m', e, h4⟩ := forI_rel Rp step r (step d b) m2 h3 fun d hd => k d (List.mem_cons_of_mem _ hd)
    refine ⟨m', ?_, h4⟩
    unfold forI
    rcases h2 with h2 | h2 <;> simp [always, h1, h2, e]
/-- with the position -/
theorem forI_at {tg : EV → M → Out Unit} {gb : M → Out Ctl} (Rp : Nat → M → Prop) : ∀ (items : List D) (i : Nat) (m : M), Rp i m →
    (∀ (j : Nat) (d : D) (m : M), items[j]? = some d → Rp (i + j) m → ∃ m1 m2, tg (.v d) m = .ok () m1 ∧ (gb m1 = .ok .nx m2 ∨ gb m1 = .ok .ct m2) ∧ Rp (i + j + 1) m2) →
    ∃ m', forI always tg gb items m = .ok .nx m' ∧ Rp (i + items.length) m'
  | [], i, m, h, _ => ⟨m, by simp [forI, always], h⟩
  | d :: r, i, m, h, k => by
    obtain ⟨m1, m2, h1, h2, h3⟩ := k 0 d m rfl h
    obtain ⟨m', e, h4⟩ := forI_at Rp r (i + 1) m2 h3 fun j d m hd hm => by
      have := k (j + 1) d m (by simpa using hd) (by rw [show i + (j + 1) = i + 1 + j by omega]; exact hm)
      rw [show i + (j + 1) + 1 = i + 1 + j + 1 by omega] at this
      exact this
    refine ⟨m', ?_, by rw [List.length_cons, show i + (r.length + 1) = i + 1 + r.length by omega]; exact h4⟩
    unfold forI
    rcases h2 with h2 | h2 <;> simp [always, h1, h2, e]
/-- a comprehension whose turns leave the machine as it was -/
theorem compI_pure {vs : List Nat} {b : EV → M → Out Unit} {gt : M → Out Bool} {ge : M → Out EV} (p : D → Bool) (f : D → SV) : ∀ (items : List D) (acc : List SV) (m : M), acc.length + items.length ≤ bigLen → always m →
    (∀ d ∈ items, ∃ m1 m2, b (.v d) m = .ok () m1 ∧ gt m1 = .ok (p d) m2 ∧ (p d = false → wipeM m2 vs = m) ∧ (p d = true → ∃ ev m3 m4, ge m2 = .ok ev m3 ∧ elem m3 ev = .ok (f d) m4 ∧ wipeM m4 vs = m)) →
    compI always vs b gt ge items acc m = .ok (acc ++ (items.filter p).map f) m
  | [], acc, m, _, _, _ => by simp [compI, always]
  | d :: r, acc, m, hl, _, k => by
    obtain ⟨m1, m2, h1, h2, h3, h4⟩ := k d List.mem_cons_self
    unfold compI
    rw [List.length_cons] at hl
    cases hp : p d with
    | false =>
      rw [hp] at h2
      simp only [always, if_true, h1, h2, h3 hp]
      rw [compI_pure p f r acc m (by omega) trivial fun d hd => k d (List.mem_cons_of_mem _ hd)]
      simp [List.filter_cons, hp]
    | true =>
      rw [hp] at h2
      obtain ⟨ev, m3, m4, h5, h6, h7⟩ := h4 hp
      have hb : acc.length < bigLen := by omega
      simp only [always, if_true, h1, h2, h5, h6, hb, h7]
      rw [compI_pure p f r (acc ++ [f d]) m (by rw [List.length_append]; simp; omega) trivial fun d hd => k d (List.mem_cons_of_mem _ hd)]
      simp [List.filter_cons, hp]
/-- [e for x in l if c], each turn leaves the machine as it was (the own slots apart) -/
theorem comp_if {gi : M → Out Wk} {vs : List Nat} {b : EV → M → Out Unit} {gt : M → Out Bool} {ge : M → Out EV} {m m0 : M} {ds : List D} (p : D → Bool) (f : D → SV) (hi : gi m0 = .ok ⟨ds, always⟩ m) (hl : ds.length ≤ bigLen) (al : vs.all (fun v => plainSl (m.sl[v]?.join)) = true) (hr : restM (wipeM m vs) m vs = m)
    (k : ∀ d ∈ ds, ∃ m1 m2, b (.v d) (wipeM m vs) = .ok () m1 ∧ gt m1 = .ok (p d) m2 ∧ (p d = false → wipeM m2 vs = wipeM m vs) ∧ (p d = true → ∃ ev m3 m4, ge m2 = .ok ev m3 ∧ elem m3 ev = .ok (f d) m4 ∧ wipeM m4 vs = wipeM m vs)) :
    dComp gi vs b gt ge m0 = .ok (.fr (.ol ((ds.filter p).map f))) m := by
  have c := compI_pure (vs := vs) (b := b) (gt := gt) (ge := ge) p f ds [] (wipeM m vs) (by simpa using hl) trivial k
  unfold dComp
  rw [hi]
  show (if vs.all (fun v => plainSl (m.sl[v]?.join)) = true then _ else _) = _
  rw [if_pos al]
  show (match compI always vs b gt ge ds [] (wipeM m vs) with
    | .ok xs m2 => Out.ok (EV.fr (.ol xs)) (restM m2 m vs)
    | _ => .bad) = _
  rw [c, List.nil_append]
  show Out.ok (EV.fr (.ol ((ds.filter p).map f))) (restM (wipeM m vs) m vs) = _
  rw [hr]
theorem comp_all {gi : M → Out Wk} {vs : List Nat} {b : EV → M → Out Unit} {ge : M → Out EV} {m m0 : M} {ds : List D} (f : D → SV) (hi : gi m0 = .ok ⟨ds, always⟩ m) (hl : ds.length ≤ bigLen) (al : vs.all (fun v => plainSl (m.sl[v]?.join)) = true) (hr : restM (wipeM m vs) m vs = m)
    (k : ∀ d ∈ ds, ∃ m1 ev m3 m4, b (.v d) (wipeM m vs) = .ok () m1 ∧ ge m1 = .ok ev m3 ∧ elem m3 ev = .ok (f d) m4 ∧ wipeM m4 vs = wipeM m vs) :
    dComp gi vs b (fun m => .ok true m) ge m0 = .ok (.fr (.ol (ds.map f))) m := by
  have := comp_if (gi := gi) (b := b) (gt := fun m => .ok true m) (ge := ge) (fun _ => true) f hi hl al hr fun d hd => by
    obtain ⟨m1, ev, m3, m4, h1, h2, h3, h4⟩ := k d hd
    exact ⟨m1, m1, h1, rfl, ⟨fun h => (by cases h), fun _ => ⟨ev, m3, m4, h2, h3, h4⟩⟩⟩
  rw [this, List.filter_eq_self.mpr (fun _ _ => rfl)]
end PD
namespace PD
open PySem PySem.Spec PyProof.Rows L2
/-! # matrices of whole numbers -/
def rowS (r : List Int) : SV := .ol (r.map fun x => .fz (.int x))
def matS (G : List (List Int)) : SV := .ol (G.map rowS)
def rowD (r : List Int) : D := .lst (r.map .int)
def matD (G : List (List Int)) : D := .lst (G.map rowD)
theorem ixN_at {n j : Nat} (h : j < n) : ixN n (j : Int) = some j := by
  unfold ixN
  rw [if_pos (by omega), if_pos (by omega)]
  simp
theorem frzL_rows (r : List Int) : frzL (r.map fun x => SV.fz (.int x)) = r.map .int := by
  induction r with
  | nil => rfl
  | cons x r ih => simp [frzL, frz, ih]
theorem frz_mat (G : List (List Int)) : frz (matS G) = matD G := by
  unfold matS matD
  rw [frz]
  congr 1
  induction G with
  | nil => rfl
  | cons r G ih => simp [frzL, ih, rowS, rowD, frz, frzL_rows]
theorem opd_of {g : M → Out EV} {m m1 : M} {x : EV} (h : g m = .ok x m1) (n : nofr x = true := by rfl) : opd g m = .ok x m1 := by
  cases x with
  | fr s => cases n
  | v d => simp [opd, h, Out.bind, frE]
  | br o p => simp [opd, h, Out.bind, frE]
theorem bin_of {pb : Bool} {ga gb : M → Out EV} {k : M → EV → EV → Out EV} {m m1 m2 : M} {x y : EV} (h1 : opd ga m = .ok x m1) (h2 : opd gb m1 = .ok y m2) (h3 : stable pb x = true := by rfl) : dBin pb ga gb k m = k m2 x y := by
  simp [dBin, h1, h2, h3, Out.bind]
/-- m[i][j], owned -/
theorem ev_mat {a b c : Nat} {o : Ow} {m : M} {G : List (List Int)} {i j : Nat} {r : List Int} {x : Int} (ha : dVar a m = .ok (.br o []) m) (hg : get m o = some (matS G)) (hb : dVar b m = .ok (.v (.int i)) m) (hc : dVar c m = .ok (.v (.int j)) m) (h1 : G[i]? = some r) (h2 : r[j]? = some x) :
    dBin true (dBin true (dVar a) (dVar b) kIx) (dVar c) kIx m = .ok (.v (.int x)) m := by
  have li : i < G.length := (List.getElem?_eq_some_iff.mp h1).1
  have lj : j < r.length := (List.getElem?_eq_some_iff.mp h2).1
  have e1 : dBin true (dVar a) (dVar b) kIx m = .ok (.br o [.i i]) m := by
    rw [bin_of (opd_of ha) (opd_of hb)]
    simp [kIx, PD.view, hg, PD.sub, matS, stepIx, ixN_at li, h1, rowS]
  rw [bin_of (opd_of e1) (opd_of hc)]
  simp [kIx, PD.view, hg, PD.sub, matS, h1, rowS, stepIx, ixN_at lj, h2]
/-- m[i][j], frozen -/
theorem ev_matD {a b c : Nat} {m : M} {G : List (List Int)} {i j : Nat} {r : List Int} {x : Int} (ha : dVar a m = .ok (.v (matD G)) m) (hb : dVar b m = .ok (.v (.int i)) m) (hc : dVar c m = .ok (.v (.int j)) m) (h1 : G[i]? = some r) (h2 : r[j]? = some x) :
    dBin true (dBin true (dVar a) (dVar b) kIx) (dVar c) kIx m = .ok (.v (.int x)) m := by
  have li : i < G.length := (List.getElem?_eq_some_iff.mp h1).1
  have lj : j < r.length := (List.getElem?_eq_some_iff.mp h2).1
  have e1 : dBin true (dVar a) (dVar b) kIx m = .ok (.v (rowD r)) m := by
    rw [bin_of (opd_of ha) (opd_of hb)]
    simp [kIx, PD.view, matD, stepIx, ixN_at li, h1]
  rw [bin_of (opd_of e1) (opd_of hc)]
  simp [kIx, PD.view, rowD, stepIx, ixN_at lj, h2]
def setM (G : List (List Int)) (i j : Nat) (v : Int) : List (List Int) := match G[i]? with
  | some r => G.set i (r.set j v)
  | none => G
theorem map_set' {α β : Type} (f : α → β) (l : List α) (i : Nat) (x : α) : (l.map f).set i (f x) = (l.set i x).map f := by
  rw [List.map_set]
/-- m[i][j] = v, owned -/
theorem st_mat {a b c : Nat} {o : Ow} {m : M} {G : List (List Int)} {i j : Nat} {r : List Int} {v : Int} {ga : M → Out EV} (hv : ga m = .ok (.v (.int v)) m) (ha : dVar a m = .ok (.br o []) m) (hg : get m o = some (matS G)) (hb : dVar b m = .ok (.v (.int i)) m) (hc : dVar c m = .ok (.v (.int j)) m) (h1 : G[i]? = some r) (h2 : j < r.length) :
    dAsg ga (bSubA (dBin true (dVar a) (dVar b) kIx) (dVar c)) m = .ok .nx (setO m o (matS (setM G i j v))) := by
  have li : i < G.length := (List.getElem?_eq_some_iff.mp h1).1
  have e1 : dBin true (dVar a) (dVar b) kIx m = .ok (.br o [.i i]) m := by
    rw [bin_of (opd_of ha) (opd_of hb)]
    simp [kIx, PD.view, hg, PD.sub, matS, stepIx, ixN_at li, h1, rowS]
  have e3 : (SV.ol ((r.map fun x => SV.fz (.int x)).set j (.fz (.int v)))) = rowS (r.set j v) := by
    rw [rowS]
    congr 1
    exact map_set' (fun x => SV.fz (.int x)) r j v
  have e4 : put (matS G) [.i i] (rowS (r.set j v)) = matS (setM G i j v) := by
    have hx : (G.map rowS)[i]? = some (rowS r) := by rw [List.getElem?_map, h1]; rfl
    have hs : setM G i j v = G.set i (r.set j v) := by unfold setM; rw [h1]
    rw [hs]
    unfold matS
    simp only [put, hx]
    rw [map_set']
  have e5 : fSet (rowS r) [.fz (.int j), .fz (.int v)] = some (rowS (r.set j v), .non) := by
    rw [← e3]
    show ((ixN (r.map fun x => SV.fz (.int x)).length (j : Int)).map fun k => (SV.ol ((r.map fun x => SV.fz (.int x)).set k (.fz (.int v))), D.non)) = _
    rw [List.length_map, ixN_at h2]
    rfl
  have e6 : PD.sub (matS G) [.i i] = some (rowS r) := by simp [PD.sub, matS, h1]
  have o1 := opd_of e1
  have o2 := opd_of hc
  simp [dAsg, hv, Out.bind, bSubA, ownE, o1, o2, PD.view, kMut, hg, e6, e5, e4]
end PD
namespace PD
open PySem PySem.Spec PyProof.Rows L2
/-! # walks over what a list of parts makes -/
theorem compI_map {α : Type} {vs : List Nat} {b : EV → M → Out Unit} {gt : M → Out Bool} {ge : M → Out EV} (h : α → D) (p : α → Bool) (f : α → SV) : ∀ (l : List α) (acc : List SV) (m : M), acc.length + l.length ≤ bigLen →
    (∀ x ∈ l, ∃ m1 m2, b (.v (h x)) m = .ok () m1 ∧ gt m1 = .ok (p x) m2 ∧ (p x = false → wipeM m2 vs = m) ∧ (p x = true → ∃ ev m3 m4, ge m2 = .ok ev m3 ∧ elem m3 ev = .ok (f x) m4 ∧ wipeM m4 vs = m)) →
    compI always vs b gt ge (l.map h) acc m = .ok (acc ++ (l.filter p).map f) m
  | [], acc, m, _, _ => by simp [compI, always]
  | x :: r, acc, m, hl, k => by
    obtain ⟨m1, m2, h1, h2, h3, h4⟩ := k x List.mem_cons_self
    rw [List.map_cons]
    unfold compI
    rw [List.length_cons] at hl
    cases hp : p x with
    | false =>
      rw [hp] at h2
      simp only [always, if_true, h1, h2, h3 hp]
      rw [compI_map h p f r acc m (by omega) fun d hd => k d (List.mem_cons_of_mem _ hd)]
      simp [List.filter_cons, hp]
    | true =>
      rw [hp] at h2
      obtain ⟨ev, m3, m4, h5, h6, h7⟩ := h4 hp
      have hb : acc.length < bigLen := by omega
      simp only [always, if_true, h1, h2, h5, h6, hb, h7]
      rw [compI_map h p f r (acc ++ [f x]) m (by rw [List.length_append]; simp; omega) fun d hd => k d (List.mem_cons_of_mem _ hd)]
      simp [List.filter_cons, hp]
theorem comp_ifm {α : Type} (h : α → D) (p : α → Bool) (f : α → SV) {gi : M → Out Wk} {vs : List Nat} {b : EV → M → Out Unit} {gt : M → Out Bool} {ge : M → Out EV} {m m0 : M} {l : List α} (hi : gi m0 = .ok ⟨l.map h, always⟩ m) (hl : l.length ≤ bigLen) (al : vs.all (fun v => plainSl (m.sl[v]?.join)) = true) (hr : restM (wipeM m vs) m vs = m)
    (k : ∀ x ∈ l, ∃ m1 m2, b (.v (h x)) (wipeM m vs) = .ok () m1 ∧ gt m1 = .ok (p x) m2 ∧ (p x = false → wipeM m2 vs = wipeM m vs) ∧ (p x = true → ∃ ev m3 m4, ge m2 = .ok ev m3 ∧ elem m3 ev = .ok (f x) m4 ∧ wipeM m4 vs = wipeM m vs)) :
    dComp gi vs b gt ge m0 = .ok (.fr (.ol ((l.filter p).map f))) m := by
  have c := compI_map (vs := vs) (b := b) (gt := gt) (ge := ge) h p f l [] (wipeM m vs) (by simpa using hl) k
  unfold dComp
  rw [hi]
  show (if vs.all (fun v => plainSl (m.sl[v]?.join)) = true then _ else _) = _
  rw [if_pos al]
  show (match compI always vs b gt ge (l.map h) [] (wipeM m vs) with
    | .ok xs m2 => Out.ok (EV.fr (.ol xs)) (restM m2 m vs)
    | _ => .bad) = _
  rw [c, List.nil_append]
  show Out.ok (EV.fr (.ol ((l.filter p).map f))) (restM (wipeM m vs) m vs) = _
  rw [hr]
theorem comp_allm {α : Type} (h : α → D) (f : α → SV) {gi : M → Out Wk} {vs : List Nat} {b : EV → M → Out Unit} {ge : M → Out EV} {m m0 : M} {l : List α} (hi : gi m0 = .ok ⟨l.map h, always⟩ m) (hl : l.length ≤ bigLen) (al : vs.all (fun v => plainSl (m.sl[v]?.join)) = true) (hr : restM (wipeM m vs) m vs = m)
    (k : ∀ x ∈ l, ∃ m1 ev m3 m4, b (.v (h x)) (wipeM m vs) = .ok () m1 ∧ ge m1 = .ok ev m3 ∧ elem m3 ev = .ok (f x) m4 ∧ wipeM m4 vs = wipeM m vs) :
    dComp gi vs b (fun m => .ok true m) ge m0 = .ok (.fr (.ol (l.map f))) m := by
  have := comp_ifm (gt := fun m => .ok true m) (ge := ge) (b := b) h (fun _ => true) f hi hl al hr fun x hx => by
    obtain ⟨m1, ev, m3, m4, h1, h2, h3, h4⟩ := k x hx
    exact ⟨m1, m1, h1, rfl, ⟨fun h => (by cases h), fun _ => ⟨ev, m3, m4, h2, h3, h4⟩⟩⟩
  rw [this, List.filter_eq_self.mpr (fun _ _ => rfl)]
/-- the turns of a for keep a relation -/
theorem for_map {α β : Type} (h : α → D) (Rp : β → M → Prop) (step : β → α → β) {gi : M → Out Wk} {tg : EV → M → Out Unit} {gb : M → Out Ctl} {m0 m : M} {l : List α} {b : β} (hi : gi m0 = .ok ⟨l.map h, always⟩ m) (hb : Rp b m)
    (k : ∀ x ∈ l, ∀ b m, Rp b m → ∃ m1 m2, tg (.v (h x)) m = .ok () m1 ∧ (gb m1 = .ok .nx m2 ∨ gb m1 = .ok .ct m2) ∧ Rp (step b x) m2) :
    ∃ m', dFor gi tg gb m0 = .ok .nx m' ∧ Rp (l.foldl step b) m' := by
  have key : ∀ (l : List α) (b : β) (m : M), Rp b m → (∀ x ∈ l, ∀ b m, Rp b m → ∃ m1 m2, tg (.v (h x)) m = .ok () m1 ∧ (gb m1 = .ok .nx m2 ∨ gb m1 = .ok .ct m2) ∧ Rp (step b x) m2) → ∃ m', forI always tg gb (l.map h) m = .ok .nx m' ∧ Rp (l.foldl step b) m' := by
    intro l
    induction l with
    | nil => exact fun b m h _ => ⟨m, by simp [forI, always], h⟩
    | cons x r ih =>
      intro b m hb k
      obtain ⟨m1, m2, h1, h2, h3⟩ := k x List.mem_cons_self b m hb
      obtain ⟨m', e, h4⟩ := ih (step b x) m2 h3 fun d hd => k d (List.mem_cons_of_mem _ hd)
      refine ⟨m', ?_, h4⟩
      rw [List.map_cons]
      unfold forI
      rcases h2 with h2 | h2 <;> simp [always, h1, h2, e]
  obtain ⟨m', e, h'⟩ := key l b m hb k
  refine ⟨m', ?_, h'⟩
  unfold dFor
  rw [hi]
  exact e
/-- the same over range(n), with the position -/
theorem for_rng {gi : M → Out Wk} {tg : EV → M → Out Unit} {gb : M → Out Ctl} {m0 m : M} {n : Nat} (Rp : Nat → M → Prop) (hi : gi m0 = .ok ⟨(List.range n).map fun i => .int (i : Nat), always⟩ m) (h0 : Rp 0 m)
    (k : ∀ i, i < n → ∀ m, Rp i m → ∃ m1 m2, tg (.v (.int i)) m = .ok () m1 ∧ (gb m1 = .ok .nx m2 ∨ gb m1 = .ok .ct m2) ∧ Rp (i + 1) m2) :
    ∃ m', dFor gi tg gb m0 = .ok .nx m' ∧ Rp n m' := by
  obtain ⟨m', e, h⟩ := forI_at (tg := tg) (gb := gb) Rp ((List.range n).map fun i => D.int (i : Nat)) 0 m h0 fun j d m hd hm => by
    rw [List.getElem?_map] at hd
    have hj : j < n := by
      by_cases h : j < n
      · exact h
      · rw [List.getElem?_eq_none (by simp; omega)] at hd; cases hd
    rw [List.getElem?_range hj] at hd
    cases hd
    rw [Nat.zero_add] at hm ⊢
    exact k j hj m hm
  refine ⟨m', ?_, by simpa using h⟩
  unfold dFor
  rw [hi]
  exact e
/-! # evaluation, step by step -/
section
variable {m m1 : M}
@[simp] theorem bind_ok {α β : Type} (a : α) (m : M) (f : α → M → Out β) : (Out.ok a m).bind f = f a m := rfl
@[simp] theorem bind_exc {α β : Type} (c : Str) (d : D) (m : M) (f : α → M → Out β) : (Out.exc c d m : Out α).bind f = .exc c d m := rfl
@[simp] theorem bind_bad {α β : Type} (f : α → M → Out β) : (Out.bad : Out α).bind f = .bad := rfl
@[simp] theorem s_seq (g1 g2 : M → Out Ctl) (m : M) : dSeq g1 g2 m = (g1 m).bind fun c m1 => match c with
  | .nx => g2 m1
  | c => .ok c m1 := rfl
@[simp] theorem s_skip (m : M) : dSkip m = .ok .nx m := rfl
@[simp] theorem s_if (gt : M → Out Bool) (g1 g2 : M → Out Ctl) (m : M) : dIf gt g1 g2 m = (gt m).bind fun b m1 => if b = true then g1 m1 else g2 m1 := rfl
@[simp] theorem s_ife (gt : M → Out Bool) (ga gb : M → Out EV) (m : M) : dIfE gt ga gb m = (gt m).bind fun b m1 => if b = true then ga m1 else gb m1 := rfl
@[simp] theorem s_and (ga gb : M → Out Bool) (m : M) : dAndT ga gb m = (ga m).bind fun b m1 => if b = true then gb m1 else .ok false m1 := rfl
@[simp] theorem s_or (ga gb : M → Out Bool) (m : M) : dOrT ga gb m = (ga m).bind fun b m1 => if b = true then .ok true m1 else gb m1 := rfl
@[simp] theorem s_not (ga : M → Out Bool) (m : M) : dNotT ga m = (ga m).bind fun b m1 => .ok (!b) m1 := rfl
@[simp] theorem s_test (g : M → Out EV) (m : M) : dTest g m = (g m).bind fun ev m' => match ev with
  | .v (.bl b) => .ok b m'
  | _ => .bad := rfl
@[simp] theorem s_andv (ga gb : M → Out EV) (m : M) : dAndV ga gb m = (ga m).bind fun ev m1 => match ev with
  | .v (.bl true) => gb m1
  | .v (.bl false) => .ok (.v (.bl false)) m1
  | _ => .bad := rfl
@[simp] theorem s_drop (g : M → Out EV) (m : M) : dDrop g m = (g m).bind fun _ m1 => .ok .nx m1 := rfl
@[simp] theorem s_asg (g : M → Out EV) (b : EV → M → Out Unit) (m : M) : dAsg g b m = (g m).bind fun ev m1 => match b ev m1 with
  | .ok _ m2 => .ok .nx m2
  | _ => .bad := rfl
@[simp] theorem s_app (gs : M → Out (List EV)) (k : M → List EV → Out EV) (m : M) : dApp gs k m = (gs m).bind fun xs m1 => k m1 xs := rfl
@[simp] theorem s_nil (m : M) : dNil m = .ok [] m := rfl
@[simp] theorem s_cons (pb : Bool) (ga : M → Out EV) (gs : M → Out (List EV)) (m : M) : dCons pb ga gs m = (opd ga m).bind fun x m1 => (gs m1).bind fun xs m2 => if stable pb x = true then .ok (x :: xs) m2 else .bad := rfl
@[simp] theorem s_opd (g : M → Out EV) (m : M) : opd g m = (g m).bind fun ev m' => .ok (frE ev) m' := rfl
@[simp] theorem s_frv (d : D) : frE (.v d) = .v d := rfl
@[simp] theorem s_frf (s : SV) : frE (.fr s) = .v (frz s) := rfl
@[simp] theorem s_frb (o : Ow) (p : List Pth) : frE (.br o p) = .br o p := rfl
@[simp] theorem s_stv (pb : Bool) (d : D) : stable pb (.v d) = true := rfl
@[simp] theorem s_stb (pb : Bool) (o : Ow) : stable pb (.br o []) = true := rfl
@[simp] theorem s_stc (o : Ow) (p : List Pth) : stable true (.br o p) = true := by cases p <;> rfl
@[simp] theorem s_c (d : D) (m : M) : dC d m = .ok (.v d) m := rfl
@[simp] theorem s_bin (pb : Bool) (ga gb : M → Out EV) (k : M → EV → EV → Out EV) (m : M) : dBin pb ga gb k m = (opd ga m).bind fun x m1 => (opd gb m1).bind fun y m2 => if stable pb x = true then k m2 x y else .bad := rfl
@[simp] theorem s_un (ga : M → Out EV) (k : M → EV → Out EV) (m : M) : dUn ga k m = (opd ga m).bind fun x m1 => k m1 x := rfl
@[simp] theorem s_kv2 (op : SV → SV → Option EV) (m : M) (d e : D) : kV2 op m (.v d) (.v e) = match op (.fz d) (.fz e) with
  | some ev => .ok ev m
  | none => .bad := rfl
@[simp] theorem s_kv1 (op : SV → Option EV) (m : M) (d : D) : kV1 op m (.v d) = match op (.fz d) with
  | some ev => .ok ev m
  | none => .bad := rfl
@[simp] theorem s_retv (g : M → Out EV) (m m1 : M) (d : D) (h : g m = .ok (.v d) m1) : dRet g m = .ok (.rt (.fz d)) m1 := by unfold dRet; rw [h]; rfl
end
end PD
namespace PD
open PySem PySem.Spec PyProof.Rows L2
/-! # dicts: which keys they have -/
section
variable {κ β : Type} [DecidableEq κ]
theorem look_some (kvs : List (κ × β)) (k : κ) : (look kvs k).isSome = true ↔ k ∈ kvs.map (·.1) := by
  induction kvs with
  | nil => simp [look]
  | cons p r ih =>
    unfold look at ih ⊢
    rw [List.find?_cons]
    by_cases h : p.1 = k
    · simp [h]
    · have h' : ¬ k = p.1 := fun e => h e.symm
      simp only [h, decide_false]
      rw [ih]
      simp [h']
theorem mem_putG (kvs : List (κ × β)) (k k' : κ) (x : β) : k' ∈ (putG kvs k x).map (·.1) ↔ k' ∈ kvs.map (·.1) ∨ k' = k := by
  unfold putG
  split
  · rename_i h
    have e : (kvs.map fun kv => if kv.1 = k then (kv.1, x) else kv).map (·.1) = kvs.map (·.1) := by
      rw [List.map_map]
      refine List.map_congr_left fun kv _ => ?_
      show (if kv.1 = k then (kv.1, x) else kv).1 = kv.1
      split <;> rfl
    rw [e]
    refine ⟨.inl, fun h' => ?_⟩
    rcases h' with h' | rfl
    · exact h'
    · obtain ⟨kv, hk, e⟩ := List.any_eq_true.mp h
      rw [← of_decide_eq_true e]
      exact List.mem_map_of_mem hk
  · simp
theorem len_putG (kvs : List (κ × β)) (k : κ) (x : β) : (putG kvs k x).length ≤ kvs.length + 1 := by
  unfold putG
  split <;> simp
theorem mem_mergeG (more : List (κ × β)) (k' : κ) : ∀ kvs : List (κ × β), k' ∈ (mergeG kvs more).map (·.1) ↔ k' ∈ kvs.map (·.1) ∨ k' ∈ more.map (·.1) := by
  unfold mergeG
  induction more with
  | nil => simp
  | cons p r ih =>
    intro kvs
    rw [List.foldl_cons, ih, mem_putG]
    simp [or_assoc]
theorem len_mergeG (more : List (κ × β)) : ∀ kvs : List (κ × β), (mergeG kvs more).length ≤ kvs.length + more.length := by
  unfold mergeG
  induction more with
  | nil => simp
  | cons p r ih =>
    intro kvs
    rw [List.foldl_cons, List.length_cons]
    have := ih (putG kvs p.1 p.2)
    have := len_putG kvs p.1 p.2
    omega
theorem mem_foldG {α : Type} (kf : α → κ) (vf : α → β) (k' : κ) : ∀ (l : List α) (acc : List (κ × β)), k' ∈ (l.foldl (fun acc x => putG acc (kf x) (vf x)) acc).map (·.1) ↔ k' ∈ acc.map (·.1) ∨ k' ∈ l.map kf
  | [], acc => by simp
  | x :: l, acc => by
    rw [List.foldl_cons, mem_foldG kf vf k' l, mem_putG]
    simp [or_assoc]
theorem len_foldG {α : Type} (kf : α → κ) (vf : α → β) : ∀ (l : List α) (acc : List (κ × β)), (l.foldl (fun acc x => putG acc (kf x) (vf x)) acc).length ≤ acc.length + l.length
  | [], acc => by simp
  | x :: l, acc => by
    rw [List.foldl_cons, List.length_cons]
    have := len_foldG kf vf l (putG acc (kf x) (vf x))
    have := len_putG acc (kf x) (vf x)
    omega
end
/-- k not in d, d a dict -/
theorem nin_dict (m : M) (o : Ow) (i : Int) (kvs : List (Key × SV)) (h : get m o = some (.ok kvs)) : kV2 pNotInA m (.v (.int i)) (.br o []) = .ok (.v (.bl (!(look kvs (.inl i : Key)).isSome))) m := by
  have v : PD.view m (.br o []) = some (.ok kvs) := by simp [PD.view, h, PD.sub]
  have e : pNotInA (.fz (.int i)) (.ok kvs) = some (.v (.bl (!(look kvs (.inl i : Key)).isSome))) := rfl
  unfold kV2
  rw [v]
  show (match pNotInA (.fz (.int i)) (.ok kvs) with
    | some ev => Out.ok ev m
    | none => .bad) = _
  rw [e]
theorem compK_map {α : Type} {vs : List Nat} {b : EV → M → Out Unit} {gk gv : M → Out EV} (h : α → D) (kf : α → Key) (vf : α → D) : ∀ (l : List α) (acc : List (Key × D)) (m : M), acc.length + l.length ≤ bigLen →
    (∀ x ∈ l, ∃ m1 ek m3 ev m4 m5, b (.v (h x)) m = .ok () m1 ∧ gk m1 = .ok ek m3 ∧ keyEV ek = some (kf x) ∧ gv m3 = .ok ev m4 ∧ dFzE m4 ev = .ok (vf x) m5 ∧ wipeM m5 vs = m) →
    compK always vs b (fun m => .ok true m) gk gv (l.map h) acc m = .ok (l.foldl (fun acc x => putG acc (kf x) (vf x)) acc) m
  | [], acc, m, _, _ => by simp [compK, always]
  | x :: r, acc, m, hl, k => by
    obtain ⟨m1, ek, m3, ev, m4, m5, h1, h2, h3, h4, h5, h6⟩ := k x List.mem_cons_self
    rw [List.map_cons]
    unfold compK
    rw [List.length_cons] at hl
    have hb : acc.length < bigLen := by omega
    simp only [always, if_true, h1, h2, h3, h4, h5, hb, h6]
    rw [compK_map h kf vf r (putG acc (kf x) (vf x)) m (by have := len_putG acc (kf x) (vf x); omega) fun d hd => k d (List.mem_cons_of_mem _ hd)]
    rfl
theorem compK_of {α : Type} (h : α → D) (kf : α → Key) (vf : α → D) {gi : M → Out Wk} {vs : List Nat} {b : EV → M → Out Unit} {gk gv : M → Out EV} {m m0 : M} {l : List α} (hi : gi m0 = .ok ⟨l.map h, always⟩ m) (hl : l.length ≤ bigLen) (al : vs.all (fun v => plainSl (m.sl[v]?.join)) = true) (hr : restM (wipeM m vs) m vs = m)
    (k : ∀ x ∈ l, ∃ m1 ek m3 ev m4 m5, b (.v (h x)) (wipeM m vs) = .ok () m1 ∧ gk m1 = .ok ek m3 ∧ keyEV ek = some (kf x) ∧ gv m3 = .ok ev m4 ∧ dFzE m4 ev = .ok (vf x) m5 ∧ wipeM m5 vs = wipeM m vs) :
    dCompK gi vs b (fun m => .ok true m) gk gv m0 = .ok (.fr (.ok ((l.foldl (fun acc x => putG acc (kf x) (vf x)) ([] : List (Key × D))).map fun kv => (kv.1, SV.fz kv.2)))) m := by
  have c := compK_map (vs := vs) (b := b) (gk := gk) (gv := gv) h kf vf l [] (wipeM m vs) (by simpa using hl) k
  unfold dCompK
  rw [hi]
  show (if vs.all (fun v => plainSl (m.sl[v]?.join)) = true then _ else _) = _
  rw [if_pos al]
  show (match compK always vs b (fun m => .ok true m) gk gv (l.map h) [] (wipeM m vs) with
    | .ok xs m2 => Out.ok (EV.fr (.ok (xs.map fun (kv : Key × D) => (kv.1, SV.fz kv.2)))) (restM m2 m vs)
    | _ => .bad) = _
  rw [c]
  show Out.ok _ (restM (wipeM m vs) m vs) = _
  rw [hr]
/-! # what a list or a dict of one's own takes up -/
theorem append_of {a : Nat} {pb : Bool} {ga : M → Out EV} {m : M} {xs : List SV} {d : D} (hv : dVar a m = .ok (.br (.s a) []) m) (hg : get m (.s a) = some (.ol xs)) (h : ga m = .ok (.v d) m) (hl : xs.length < bigLen) :
    dDrop (dMt1 "list" pb (dVar a) ga fAppend) m = .ok .nx (setO m (.s a) (.ol (xs ++ [.fz d]))) := by
  have it : isTy m (.br (.s a) []) "list" = true := by simp [isTy, PD.view, hg, PD.sub, tyS]
  unfold dDrop dMt1
  rw [hv]
  simp only [Out.bind, it, nofr, stable, Bool.and_self, if_true, h, ownE, kMut, hg, PD.sub, fAppend, hl, PD.put]
theorem appendF_of {a : Nat} {pb : Bool} {ga : M → Out EV} {m : M} {xs : List SV} {s : SV} (hv : dVar a m = .ok (.br (.s a) []) m) (hg : get m (.s a) = some (.ol xs)) (h : ga m = .ok (.fr s) m) (hl : xs.length < bigLen) :
    dDrop (dMt1 "list" pb (dVar a) ga fAppend) m = .ok .nx (setO m (.s a) (.ol (xs ++ [s]))) := by
  have it : isTy m (.br (.s a) []) "list" = true := by simp [isTy, PD.view, hg, PD.sub, tyS]
  unfold dDrop dMt1
  rw [hv]
  simp only [Out.bind, it, nofr, stable, Bool.and_self, if_true, h, ownE, kMut, hg, PD.sub, fAppend, hl, PD.put]
theorem update_of {a : Nat} {pb : Bool} {ga : M → Out EV} {m m1 : M} {kvs more : List (Key × SV)} (hv : dVar a m = .ok (.br (.s a) []) m) (hm : get m (.s a) = some (.ok kvs)) (hg : get m1 (.s a) = some (.ok kvs)) (h : ga m = .ok (.fr (.ok more)) m1) (hl : kvs.length + more.length ≤ bigLen) :
    dDrop (dMt "dict" pb (dVar a) (dCons true ga dNil) fUpd) m = .ok .nx (setO m1 (.s a) (.ok (mergeG kvs ((frzK more).map fun kv => (kv.1, .fz kv.2))))) := by
  have it : isTy m (.br (.s a) []) "dict" = true := by simp [isTy, PD.view, hm, PD.sub, tyS]
  have lf : ∀ l : List (Key × SV), (frzK l).length = l.length := fun l => by
    induction l with
    | nil => rfl
    | cons p r ih => simp [frzK, ih]
  have hl' : kvs.length + (frzK more).length ≤ bigLen := by rw [lf]; exact hl
  unfold dDrop dMt
  rw [hv]
  simp only [Out.bind, it, nofr, stable, Bool.and_self, if_true, dCons, opd, h, frE, dNil, evD, dFzE, frz, List.map_cons, List.map_nil, kMut, hg, PD.sub, fUpd, hl', PD.put]
theorem keys_frzK : ∀ l : List (Key × SV), (frzK l).map (·.1) = l.map (·.1)
  | [] => rfl
  | (k, x) :: r => by simp [frzK, keys_frzK r]
theorem len_frzK : ∀ l : List (Key × SV), (frzK l).length = l.length
  | [] => rfl
  | (k, x) :: r => by simp [frzK, len_frzK r]
/-! # calls of one argument that is new -/
theorem appF_of {pb : Bool} {ga : M → Out EV} {k : M → List EV → Out EV} {m m1 : M} {s : SV} (h : ga m = .ok (.fr s) m1) : dApp (dCons pb ga dNil) k m = k m1 [.v (frz s)] := by
  simp only [dApp, dCons, opd, h, Out.bind, frE, dNil, stable, if_true]
theorem bools_map {α : Type} (f : α → Bool) : ∀ l : List α, boolsD (l.map fun x => D.bl (f x)) = some (l.map f)
  | [] => rfl
  | x :: l => by rw [List.map_cons, boolsD, bools_map f l]; rfl
theorem any_of {α : Type} (f : α → Bool) (l : List α) (m : M) : kVN pAny m [.v (.lst (l.map fun x => .bl (f x)))] = .ok (.v (.bl (l.any f))) m := by
  have e : pAny [.fz (.lst (l.map fun x => .bl (f x)))] = some (.v (.bl ((l.map f).any id))) := by
    show ((lstD (.fz (.lst (l.map fun x => .bl (f x))))).bind boolsD).map _ = _
    show ((boolsD (l.map fun x => D.bl (f x)))).map _ = _
    rw [bools_map]
    rfl
  show (match pAny [.fz (.lst (l.map fun x => .bl (f x)))] with
    | some ev => Out.ok ev m
    | none => .bad) = _
  rw [e, List.any_map]
  rfl
theorem frzL_fm {α : Type} (f : α → D) : ∀ ds : List α, frzL (ds.map fun d => SV.fz (f d)) = ds.map f
  | [] => rfl
  | d :: ds => by rw [List.map_cons, frzL, frz, frzL_fm f ds]; rfl
theorem frz_fm {α : Type} (f : α → D) (ds : List α) : frz (.ol (ds.map fun d => SV.fz (f d))) = .lst (ds.map f) := by
  rw [frz, frzL_fm]
/-! # calls, by their arguments -/
theorem opdF_of {ga : M → Out EV} {m m1 : M} {s : SV} (h : ga m = .ok (.fr s) m1) : opd ga m = .ok (.v (frz s)) m1 := by unfold opd; rw [h]; rfl
theorem opdX_of {ga : M → Out EV} {m m1 : M} {c : Str} {d : D} (h : ga m = .exc c d m1) : opd ga m = .exc c d m1 := by unfold opd; rw [h]; rfl
theorem cons_of {pb : Bool} {ga : M → Out EV} {gs : M → Out (List EV)} {m m1 m2 : M} {x : EV} {xs : List EV} (h1 : opd ga m = .ok x m1) (h2 : gs m1 = .ok xs m2) (s1 : stable pb x = true := by rfl) : dCons pb ga gs m = .ok (x :: xs) m2 := by
  unfold dCons; rw [h1]; simp only [Out.bind]; rw [h2]; simp only [s1, if_true]
theorem consX1 {pb : Bool} {ga : M → Out EV} {gs : M → Out (List EV)} {m m1 : M} {c : Str} {d : D} (h1 : opd ga m = .exc c d m1) : dCons pb ga gs m = .exc c d m1 := by
  unfold dCons; rw [h1]; rfl
theorem consX2 {pb : Bool} {ga : M → Out EV} {gs : M → Out (List EV)} {m m1 m2 : M} {x : EV} {c : Str} {d : D} (h1 : opd ga m = .ok x m1) (h2 : gs m1 = .exc c d m2) : dCons pb ga gs m = .exc c d m2 := by
  unfold dCons; rw [h1]; simp only [Out.bind]; rw [h2]
theorem app_of {gs : M → Out (List EV)} {k : M → List EV → Out EV} {m m1 : M} {xs : List EV} (h : gs m = .ok xs m1) : dApp gs k m = k m1 xs := by unfold dApp; rw [h]; rfl
theorem appX_of {gs : M → Out (List EV)} {k : M → List EV → Out EV} {m m1 : M} {c : Str} {d : D} (h : gs m = .exc c d m1) : dApp gs k m = .exc c d m1 := by unfold dApp; rw [h]; rfl
theorem nil_of (m : M) : dNil m = .ok [] m := rfl
theorem iseq_of {g : M → Out EV} {m m1 m2 : M} {ev : EV} {d : D} {ds : List D} (h : g m = .ok ev m1) (h1 : dFzE m1 ev = .ok d m2) (h2 : seqOf (.v d) = some ds) : dISeq g m = .ok ⟨ds, fun _ => True⟩ m2 := by
  unfold dISeq dFz; rw [h]; simp only [Out.bind]; rw [h1]; simp only [h2]
theorem iseqX_of {g : M → Out EV} {m m1 : M} {c : Str} {d : D} (h : g m = .exc c d m1) : dISeq g m = .exc c d m1 := by
  unfold dISeq dFz; rw [h]; rfl
theorem compX_of {gi : M → Out Wk} {vs : List Nat} {b : EV → M → Out Unit} {gt : M → Out Bool} {ge : M → Out EV} {m m1 : M} {c : Str} {d : D} (h : gi m = .exc c d m1) : dComp gi vs b gt ge m = .exc c d m1 := by
  unfold dComp; rw [h]; rfl
theorem lr_of {g : M → Out EV} {m m1 : M} {n : Nat} (h : g m = .ok (.v (.int n)) m1) (hn : n ≤ bigLen) : dLR g m = .ok (.fr (.ol ((rgD n).map .fz))) m1 := by
  unfold dLR; rw [h]; simp only [Out.bind]; rw [if_pos ⟨by omega, by omega⟩]
theorem frz_fz (ds : List D) : frz (.ol (ds.map SV.fz)) = .lst ds := by
  have := frz_fm (fun d : D => d) ds
  rw [List.map_id'] at this
  exact this
end PD
namespace PD
open PySem PySem.Spec PyProof.Rows L2
/-! # values, one operation after another -/
section
variable {m m1 m2 : M}
theorem bin3 {pb : Bool} {ga gb : M → Out EV} {k : M → EV → EV → Out EV} {x y : D} {z : EV} (h1 : ga m = .ok (.v x) m1) (h2 : gb m1 = .ok (.v y) m2) (h3 : k m2 (.v x) (.v y) = .ok z m2) : dBin pb ga gb k m = .ok z m2 := by
  unfold dBin
  rw [opd_of h1]
  simp only [Out.bind]
  rw [opd_of h2]
  simp only [stable, if_true]
  exact h3
/-- a part of a thing with a name of its own -/
theorem binP {ga gb : M → Out EV} {k : M → EV → EV → Out EV} {o : Ow} {p : List Pth} {y : D} {z : EV} (h1 : ga m = .ok (.br o p) m1) (h2 : gb m1 = .ok (.v y) m2) (h3 : k m2 (.br o p) (.v y) = .ok z m2) : dBin true ga gb k m = .ok z m2 := by
  unfold dBin
  rw [opd_of h1]
  simp only [Out.bind]
  rw [opd_of h2]
  simp only [s_stc, if_true]
  exact h3
theorem un3 {ga : M → Out EV} {k : M → EV → Out EV} {x : D} {z : EV} (h1 : ga m = .ok (.v x) m1) (h3 : k m1 (.v x) = .ok z m1) : dUn ga k m = .ok z m1 := by
  unfold dUn
  rw [opd_of h1]
  exact h3
theorem plusI (i j : Int) : kV2 pPlus m (.v (.int i)) (.v (.int j)) = .ok (.v (.int (i + j))) m := rfl
theorem subI (i j : Int) : kV2 pSub m (.v (.int i)) (.v (.int j)) = .ok (.v (.int (i - j))) m := rfl
theorem mulI {i j : Int} (h : CMul i j) : kV2 pMul m (.v (.int i)) (.v (.int j)) = .ok (.v (.int (i * j))) m := by
  have e : pMul (.fz (.int i)) (.fz (.int j)) = some (.v (.int (i * j))) := by
    show orOp (int2 CMul fun i j => D.int (i * j)) pRep (.fz (.int i)) (.fz (.int j)) = _
    unfold orOp
    rw [show int2 CMul (fun i j => D.int (i * j)) (.fz (.int i)) (.fz (.int j)) = some (.v (.int (i * j))) from if_pos h]
  rw [s_kv2, e]
theorem modI {i j : Int} (h : 0 < j) : kV2 pMod m (.v (.int i)) (.v (.int j)) = .ok (.v (.int (i % j))) m := by
  have e : pMod (.fz (.int i)) (.fz (.int j)) = some (.v (.int (i % j))) := if_pos h
  rw [s_kv2, e]
theorem divI {i j : Int} (h : CDiv i j) : kV2 pDiv m (.v (.int i)) (.v (.int j)) = .ok (.v (.int (i / j))) m := by
  have e : pDiv (.fz (.int i)) (.fz (.int j)) = some (.v (.int (i / j))) := if_pos h
  rw [s_kv2, e]
theorem powI {i j : Int} (h : CPow i j) : kV2 pPow m (.v (.int i)) (.v (.int j)) = .ok (.v (.int (i ^ j.toNat))) m := by
  have e : pPow (.fz (.int i)) (.fz (.int j)) = some (.v (.int (i ^ j.toNat))) := if_pos h
  rw [s_kv2, e]
theorem geI (i j : Int) : kV2 pGe m (.v (.int i)) (.v (.int j)) = .ok (.v (.bl (decide (j ≤ i)))) m := rfl
theorem ltI (i j : Int) : kV2 pLt m (.v (.int i)) (.v (.int j)) = .ok (.v (.bl (decide (i < j)))) m := rfl
theorem gtI (i j : Int) : kV2 pGt m (.v (.int i)) (.v (.int j)) = .ok (.v (.bl (decide (j < i)))) m := rfl
theorem negI (i : Int) : kV1 pNeg m (.v (.int i)) = .ok (.v (.int (-i))) m := rfl
theorem cmulR {i j : Int} (h : -(2 ^ 64) < j ∧ j < 2 ^ 64) : CMul i j := .inr h
theorem cmulL {i j : Int} (h : -(2 ^ 64) < i ∧ i < 2 ^ 64) : CMul i j := .inl h
end
theorem look_cons {κ β : Type} [DecidableEq κ] (k k' : κ) (x : β) (r : List (κ × β)) : look ((k, x) :: r) k' = if k = k' then some x else look r k' := by
  unfold look
  rw [List.find?_cons]
  by_cases h : k = k'
  · simp [h]
  · simp [h]
/-! # the law's deck -/
def intsS (cells : List Int) : SV := .ol (cells.map fun i => .fz (.int i))
def deckS (cells : List Int) (mixed turn : Int) : SV := .ok [(.inr "cells", intsS cells), (.inr "mixed", .fz (.int mixed)), (.inr "turn", .fz (.int turn))]
theorem k_cm : ((.inr "cells" : Key) = .inr "mixed") = False := eq_false (by decide)
theorem k_ct : ((.inr "cells" : Key) = .inr "turn") = False := eq_false (by decide)
theorem k_mt : ((.inr "mixed" : Key) = .inr "turn") = False := eq_false (by decide)
theorem s_cm : (("cells" : Str) = "mixed") = False := eq_false (by decide)
theorem s_ct : (("cells" : Str) = "turn") = False := eq_false (by decide)
theorem s_mt : (("mixed" : Str) = "turn") = False := eq_false (by decide)
theorem dk_cells (m : M) (o : Ow) {c : List Int} {x t : Int} (h : get m o = some (deckS c x t)) : kIx m (.br o []) (.v (.str "cells")) = .ok (.br o [.k (.inr "cells")]) m := by
  have e : stepIx (deckS c x t) (.fz (.str "cells")) = some (intsS c, .k (.inr "cells")) := by
    unfold deckS stepIx
    simp [dlook, keyOf, keyD, dctK, look_cons]
  have v : PD.view m (.br o []) = some (deckS c x t) := by simp [PD.view, h, PD.sub]
  unfold kIx
  rw [v]
  simp only [PD.view, e]
  rfl
theorem dk_mixed (m : M) (o : Ow) {c : List Int} {x t : Int} (h : get m o = some (deckS c x t)) : kIx m (.br o []) (.v (.str "mixed")) = .ok (.v (.int x)) m := by
  have e : stepIx (deckS c x t) (.fz (.str "mixed")) = some (.fz (.int x), .k (.inr "mixed")) := by
    unfold deckS stepIx
    simp [dlook, keyOf, keyD, dctK, look_cons, s_cm]
  have v : PD.view m (.br o []) = some (deckS c x t) := by simp [PD.view, h, PD.sub]
  unfold kIx
  rw [v]
  simp only [PD.view, e]
theorem dk_turn (m : M) (o : Ow) {c : List Int} {x t : Int} (h : get m o = some (deckS c x t)) : kIx m (.br o []) (.v (.str "turn")) = .ok (.v (.int t)) m := by
  have e : stepIx (deckS c x t) (.fz (.str "turn")) = some (.fz (.int t), .k (.inr "turn")) := by
    unfold deckS stepIx
    simp [dlook, keyOf, keyD, dctK, look_cons, s_ct, s_mt]
  have v : PD.view m (.br o []) = some (deckS c x t) := by simp [PD.view, h, PD.sub]
  unfold kIx
  rw [v]
  simp only [PD.view, e]
theorem dk_sub (c : List Int) (x t : Int) : PD.sub (deckS c x t) [.k (.inr "cells")] = some (intsS c) := by
  unfold deckS
  simp [PD.sub, look_cons]
theorem dk_put (c c' : List Int) (x t : Int) : PD.put (deckS c x t) [.k (.inr "cells")] (intsS c') = deckS c' x t := by
  unfold deckS
  simp [PD.put, look_cons, repl, s_cm, s_ct]
/-! # slices, several targets, displays -/
theorem cut_take {α : Type} (l : List α) (k : Nat) : PD.cutD l none (some (k : Int)) = l.take k := by
  unfold PD.cutD
  rw [HT.sIx_none, HT.sIx_nat, List.drop_zero, Nat.sub_zero]
  by_cases h : k ≤ l.length
  · rw [Nat.min_eq_left h]
  · rw [Nat.min_eq_right (by omega), List.take_of_length_le (Nat.le_refl _), List.take_of_length_le (by omega)]
theorem sl_of {pl ph : Bool} {ga : M → Out EV} {m m1 : M} {x ev : EV} {s : SV} {k : Int} (h : opd ga m = .ok x m1) (hv : PD.view m1 x = some s) (hp : pSl s none (some k) = some ev) (st : stable (pl && ph) x = true := by rfl) : dSl pl ph ga dNoPart (dPart (dC (.int k))) m = .ok ev m1 := by
  unfold dSl
  rw [h]
  simp only [Out.bind, dNoPart, dPart, dC, st, if_true, hv, hp]
theorem raw_of {gv : M → Out EV} {gr : M → Out (List SV)} {m m1 m2 m3 : M} {ev : EV} {s : SV} {ss : List SV} (h : gv m = .ok ev m1) (h1 : ownE m1 ev = .ok s m2) (h2 : gr m2 = .ok ss m3) : dRaw gv gr m = .ok (s :: ss) m3 := by
  unfold dRaw; rw [h]; simp only [Out.bind]; rw [h1]; simp only [h2]
theorem par_of {is : List Nat} {g : M → Out (List SV)} {m m1 m2 : M} {ss : List SV} (h : g m = .ok ss m1) (h2 : putSl is ss m1 = .ok () m2) : dPar is g m = .ok .nx m2 := by
  unfold dPar; rw [h]; simp only [Out.bind]; rw [h2]
theorem pair_of {gk gv : M → Out EV} {gr : M → Out (List (Key × SV))} {m m1 m2 m3 m4 : M} {ek ev : EV} {k : Key} {s : SV} {kvs : List (Key × SV)} (h : gk m = .ok ek m1) (hk : keyEV ek = some k) (h1 : gv m1 = .ok ev m2) (h2 : ownE m2 ev = .ok s m3) (h3 : gr m3 = .ok kvs m4) : dPairs gk gv gr m = .ok ((k, s) :: kvs) m4 := by
  unfold dPairs; rw [h]; simp only [Out.bind, hk]; rw [h1]; simp only []; rw [h2]; simp only [h3]
theorem disp_of {g : M → Out (List (Key × SV))} {m m1 : M} {kvs : List (Key × SV)} (h : g m = .ok kvs m1) (hl : kvs.length ≤ 15) (nd : (kvs.map (·.1)).Nodup) : dDisp g m = .ok (.fr (.ok kvs)) m1 := by
  unfold dDisp; rw [h]; simp only [Out.bind]; rw [if_pos ⟨hl, nd⟩]
theorem retF_of {g : M → Out EV} {m m1 : M} {s : SV} (h : g m = .ok (.fr s) m1) : dRet g m = .ok (.rt s) m1 := by unfold dRet; rw [h]; rfl
theorem appendM_of {a : Nat} {pb : Bool} {ga : M → Out EV} {m m1 : M} {xs : List SV} {d : D} (hv : dVar a m = .ok (.br (.s a) []) m) (hg : get m (.s a) = some (.ol xs)) (hg' : get m1 (.s a) = some (.ol xs)) (h : ga m = .ok (.v d) m1) (hl : xs.length < bigLen) :
    dDrop (dMt1 "list" pb (dVar a) ga fAppend) m = .ok .nx (setO m1 (.s a) (.ol (xs ++ [.fz d]))) := by
  have it : isTy m (.br (.s a) []) "list" = true := by simp [isTy, PD.view, hg, PD.sub, tyS]
  unfold dDrop dMt1
  rw [hv]
  simp only [Out.bind, it, nofr, stable, Bool.and_self, if_true, h, ownE, kMut, hg', PD.sub, fAppend, hl, PD.put]
end PD
namespace KQ
/-! # least walks -/
variable {α : Type} [DecidableEq α]
abbrev G (α : Type) := α → Option Int
abbrev Rw (α : Type) := α × α × Int
def setG (g : G α) (b : α) (c : Int) : G α := fun x => if x = b then some c else g x
/-- one row, taken -/
def stp (g : G α) (r : Rw α) : G α := match g r.1 with
  | none => g
  | some ca => setG g r.2.1 (match g r.2.1 with
    | none => ca + r.2.2
    | some cb => if ca + r.2.2 < cb then ca + r.2.2 else cb)
def rnd (rs : List (Rw α)) (g : G α) : G α := rs.foldl stp g
def g0 (s : α) : G α := fun x => if x = s then some 0 else none
def rds (rs : List (Rw α)) : Nat → G α → G α
  | 0, g => g
  | k + 1, g => rds rs k (rnd rs g)
theorem rds_succ (rs : List (Rw α)) : ∀ (k : Nat) (g : G α), rds rs (k + 1) g = rnd rs (rds rs k g)
  | 0, _ => rfl
  | k + 1, g => rds_succ rs k (rnd rs g)
/-- a walk: rows, one after another -/
inductive Wk (rs : List (Rw α)) : α → α → List (Rw α) → Prop
  | nil (s : α) : Wk rs s s []
  | cons {a b c : α} {f : Int} {l : List (Rw α)} : (a, b, f) ∈ rs → Wk rs b c l → Wk rs a c ((a, b, f) :: l)
def fee (l : List (Rw α)) : Int := (l.map fun r => r.2.2).sum
theorem fee_cons (r : Rw α) (l : List (Rw α)) : fee (r :: l) = r.2.2 + fee l := by unfold fee; simp
theorem fee_app (l l' : List (Rw α)) : fee (l ++ l') = fee l + fee l' := by unfold fee; simp
theorem Wk.app {rs : List (Rw α)} {a b c : α} {l l' : List (Rw α)} (h : Wk rs a b l) (h' : Wk rs b c l') : Wk rs a c (l ++ l') := by
  induction h with
  | nil => exact h'
  | cons m _ ih => exact .cons m (ih h')
theorem Wk.snoc {rs : List (Rw α)} {a b c : α} {f : Int} {l : List (Rw α)} (h : Wk rs a b l) (m : (b, c, f) ∈ rs) : Wk rs a c (l ++ [(b, c, f)]) := h.app (.cons m (.nil _))
theorem Wk.split {rs : List (Rw α)} {a c : α} : ∀ {l l' : List (Rw α)}, Wk rs a c (l ++ l') → ∃ b, Wk rs a b l ∧ Wk rs b c l'
  | [], l', h => ⟨a, .nil a, h⟩
  | r :: l, l', h => by
    cases h with
    | cons m h =>
      obtain ⟨b, h1, h2⟩ := Wk.split h
      exact ⟨b, .cons m h1, h2⟩
theorem Wk.mem {rs : List (Rw α)} {a c : α} {l : List (Rw α)} (h : Wk rs a c l) : ∀ r ∈ l, r ∈ rs := by
  induction h with
  | nil => intro r hr; cases hr
  | cons m _ ih =>
    intro r hr
    rcases List.mem_cons.mp hr with rfl | hr
    · exact m
    · exact ih r hr
theorem Wk.head {rs : List (Rw α)} {a c : α} {r : Rw α} {l : List (Rw α)} (h : Wk rs a c (r :: l)) : a = r.1 := by cases h; rfl
def Pos (rs : List (Rw α)) : Prop := ∀ r ∈ rs, 0 ≤ r.2.2
theorem fee_pos {rs : List (Rw α)} (P : Pos rs) : ∀ {l : List (Rw α)}, (∀ r ∈ l, r ∈ rs) → 0 ≤ fee l
  | [], _ => by simp [fee]
  | r :: l, h => by
    rw [fee_cons]
    have := fee_pos P (l := l) fun x hx => h x (List.mem_cons_of_mem _ hx)
    have := P r (h r List.mem_cons_self)
    omega
/-- a list longer than one that holds all of it has something twice -/
theorem twice {β : Type} [DecidableEq β] : ∀ (l rs : List β), (∀ x ∈ l, x ∈ rs) → rs.length < l.length → ∃ x A B C, l = A ++ x :: B ++ x :: C
  | [], rs, _, h => by simp at h
  | x :: l, rs, h, hl => by
    by_cases m : x ∈ l
    · obtain ⟨B, C, e⟩ := List.append_of_mem m
      exact ⟨x, [], B, C, by rw [e]; rfl⟩
    · have hx : x ∈ rs := h x List.mem_cons_self
      have := List.length_erase_of_mem hx
      have hp : 0 < rs.length := List.length_pos_of_mem hx
      obtain ⟨y, A, B, C, e⟩ := twice l (rs.erase x) (fun y hy => (List.mem_erase_of_ne (fun e => m (by rw [← e]; exact hy))).mpr (h y (List.mem_cons_of_mem _ hy))) (by rw [List.length_cons] at hl; omega)
      exact ⟨y, x :: A, B, C, by rw [e]; rfl⟩
/-- no more rows than there are -/
theorem shorten {rs : List (Rw α)} (P : Pos rs) {a c : α} : ∀ (n : Nat) (l : List (Rw α)), l.length ≤ n → Wk rs a c l → ∃ l', l'.length ≤ rs.length ∧ fee l' ≤ fee l ∧ Wk rs a c l'
  | 0, l, hn, h => ⟨l, by omega, by omega, h⟩
  | n + 1, l, hn, h => by
    by_cases hl : l.length ≤ rs.length
    · exact ⟨l, hl, by omega, h⟩
    · obtain ⟨x, A, B, C, e⟩ := twice l rs h.mem (by omega)
      subst e
      obtain ⟨b, h1, h2⟩ := h.split
      obtain ⟨b', h3, h4⟩ := h1.split
      have e1 := h2.head
      have e2 := h4.head
      have hk : (A ++ x :: C).length ≤ n := by simp at hn ⊢; omega
      have hw : Wk rs a c (A ++ x :: C) := h3.app (by rw [e2, ← e1]; exact h2)
      obtain ⟨l', q1, q2, q3⟩ := shorten P n _ hk hw
      refine ⟨l', q1, ?_, q3⟩
      have hb := fee_pos P (l := x :: B) h4.mem
      simp only [fee_app, fee_cons] at *
      omega
theorem stp_some {g : G α} {r : Rw α} {x : α} {c : Int} (h : stp g r x = some c) : g x = some c ∨ ∃ ca, g r.1 = some ca ∧ x = r.2.1 ∧ c = ca + r.2.2 := by
  unfold stp at h
  cases e : g r.1 with
  | none => rw [e] at h; exact .inl h
  | some ca =>
    rw [e] at h
    simp only [setG] at h
    by_cases hx : x = r.2.1
    · rw [if_pos hx] at h
      cases e2 : g r.2.1 with
      | none => rw [e2] at h; simp only [Option.some.injEq] at h; exact .inr ⟨ca, rfl, hx, h.symm⟩
      | some cb =>
        rw [e2] at h
        simp only [Option.some.injEq] at h
        split at h
        · exact .inr ⟨ca, rfl, hx, h.symm⟩
        · exact .inl (by rw [hx, e2, h])
    · rw [if_neg hx] at h; exact .inl h
/-- what is reached at no more than c -/
def Le (g : G α) (x : α) (c : Int) : Prop := ∃ c', g x = some c' ∧ c' ≤ c
theorem stp_le {g : G α} {r : Rw α} {x : α} {c : Int} (h : Le g x c) : Le (stp g r) x c := by
  obtain ⟨c', h1, h2⟩ := h
  unfold stp
  cases e : g r.1 with
  | none => exact ⟨c', h1, h2⟩
  | some ca =>
    simp only [Le, setG]
    by_cases hx : x = r.2.1
    · rw [if_pos hx]
      rw [hx] at h1
      rw [h1]
      refine ⟨_, rfl, ?_⟩
      dsimp only
      split <;> omega
    · rw [if_neg hx]; exact ⟨c', h1, h2⟩
theorem stp_new {g : G α} {r : Rw α} {ca : Int} (h : Le g r.1 ca) : Le (stp g r) r.2.1 (ca + r.2.2) := by
  obtain ⟨c', h1, h2⟩ := h
  unfold stp
  rw [h1]
  simp only [Le, setG, if_true]
  refine ⟨_, rfl, ?_⟩
  cases e : g r.2.1 with
  | none => dsimp only; omega
  | some cb => dsimp only; split <;> omega
theorem fold_le {x : α} {c : Int} : ∀ (rs : List (Rw α)) {g : G α}, Le g x c → Le (rs.foldl stp g) x c
  | [], _, h => h
  | r :: rs, _, h => fold_le rs (stp_le h)
theorem fold_new {r : Rw α} {ca : Int} : ∀ (rs : List (Rw α)) {g : G α}, r ∈ rs → Le g r.1 ca → Le (rs.foldl stp g) r.2.1 (ca + r.2.2)
  | q :: rs, g, m, h => by
    rcases List.mem_cons.mp m with rfl | m
    · exact fold_le rs (stp_new h)
    · exact fold_new rs m (stp_le h)
/-- what is reached, a walk reaches -/
def Snd (rs : List (Rw α)) (s : α) (g : G α) : Prop := ∀ x c, g x = some c → ∃ l, Wk rs s x l ∧ fee l = c
theorem snd0 (rs : List (Rw α)) (s : α) : Snd rs s (g0 s) := fun x c h => by
  unfold g0 at h
  split at h
  · rename_i e; cases h; exact ⟨[], e ▸ .nil _, rfl⟩
  · cases h
theorem snd_stp {rs : List (Rw α)} {s : α} {g : G α} (h : Snd rs s g) {r : Rw α} (m : r ∈ rs) : Snd rs s (stp g r) := fun x c e => by
  rcases stp_some e with e | ⟨ca, e1, e2, e3⟩
  · exact h x c e
  · obtain ⟨l, w, f⟩ := h _ _ e1
    refine ⟨l ++ [r], ?_, ?_⟩
    · rw [e2]; exact w.snoc m
    · rw [fee_app, f, e3]; simp [fee]
theorem snd_fold {rs : List (Rw α)} {s : α} : ∀ (l : List (Rw α)) {g : G α}, (∀ r ∈ l, r ∈ rs) → Snd rs s g → Snd rs s (l.foldl stp g)
  | [], _, _, h => h
  | r :: l, _, hm, h => snd_fold l (fun x hx => hm x (List.mem_cons_of_mem _ hx)) (snd_stp h (hm r List.mem_cons_self))
theorem snd_rds {rs : List (Rw α)} {s : α} : ∀ (k : Nat) {g : G α}, Snd rs s g → Snd rs s (rds rs k g)
  | 0, _, h => h
  | k + 1, _, h => snd_rds k (snd_fold rs (fun _ h => h) h)
theorem rds_le {rs : List (Rw α)} {x : α} {c : Int} : ∀ (k : Nat) {g : G α}, Le g x c → Le (rds rs k g) x c
  | 0, _, h => h
  | k + 1, _, h => rds_le k (fold_le rs h)
/-- a walk of at most k rows is seen behind k rounds -/
theorem rds_wk {rs : List (Rw α)} {x y : α} {l : List (Rw α)} (w : Wk rs x y l) : ∀ (k : Nat) {g : G α} {c : Int}, l.length ≤ k → Le g x c → Le (rds rs k g) y (c + fee l) := by
  induction w with
  | nil s => intro k g c _ h; rw [show fee ([] : List (Rw α)) = 0 from rfl, Int.add_zero]; exact rds_le k h
  | @cons a b c f l m _ ih =>
    intro k g c0 hk h
    cases k with
    | zero => simp at hk
    | succ k =>
      have := ih k (g := rnd rs g) (c := c0 + f) (by simpa using hk) (fold_new (r := (a, b, f)) rs m h)
      rw [fee_cons]
      show Le (rds rs k (rnd rs g)) c (c0 + (f + fee l))
      rw [← Int.add_assoc]
      exact this
theorem le0 (s : α) : Le (g0 s) s 0 := ⟨0, by simp [g0], Int.le_refl _⟩
theorem all_wk {rs : List (Rw α)} (P : Pos rs) {s y : α} {l : List (Rw α)} (w : Wk rs s y l) {k : Nat} (hk : rs.length ≤ k) : Le (rds rs k (g0 s)) y (fee l) := by
  obtain ⟨l', h1, h2, h3⟩ := shorten P l.length l (Nat.le_refl _) w
  obtain ⟨c, e, h⟩ := rds_wk h3 k (Nat.le_trans h1 hk) (le0 s)
  exact ⟨c, e, by omega⟩
/-- a row that changes nothing -/
def Qt (g : G α) (r : Rw α) : Prop := ∀ ca, g r.1 = some ca → Le g r.2.1 (ca + r.2.2)
theorem qt_stp {g : G α} {r : Rw α} (h : Qt g r) : stp g r = g := by
  unfold stp
  cases e : g r.1 with
  | none => rfl
  | some ca =>
    obtain ⟨cb, e2, hb⟩ := h ca e
    funext x
    simp only [setG]
    by_cases hx : x = r.2.1
    · rw [if_pos hx, hx, e2]
      dsimp only
      rw [if_neg (by omega)]
    · rw [if_neg hx]
theorem qt_fold {g : G α} : ∀ (l : List (Rw α)), (∀ r ∈ l, Qt g r) → l.foldl stp g = g
  | [], _ => rfl
  | r :: l, h => by
    rw [List.foldl_cons, qt_stp (h r List.mem_cons_self)]
    exact qt_fold l fun x hx => h x (List.mem_cons_of_mem _ hx)
theorem qt_rds {rs : List (Rw α)} {g : G α} (h : ∀ r ∈ rs, Qt g r) : ∀ k, rds rs k g = g
  | 0 => rfl
  | k + 1 => by show rds rs k (rnd rs g) = g; rw [show rnd rs g = g from qt_fold rs h]; exact qt_rds h k
/-- behind as many rounds as there are rows nothing changes -/
theorem all_qt {rs : List (Rw α)} (P : Pos rs) (s : α) {k : Nat} (hk : rs.length ≤ k) : ∀ r ∈ rs, Qt (rds rs k (g0 s)) r := fun r hr ca e => by
  obtain ⟨l, w, f⟩ := snd_rds k (snd0 rs s) _ _ e
  have := all_wk P (w.snoc (c := r.2.1) (f := r.2.2) hr) hk
  rw [fee_app, f] at this
  have e2 : fee [(r.1, r.2.1, r.2.2)] = r.2.2 := by simp [fee]
  rw [e2] at this
  exact this
theorem rds_add (rs : List (Rw α)) : ∀ (j k : Nat) (g : G α), rds rs (j + k) g = rds rs k (rds rs j g)
  | 0, k, g => by rw [Nat.zero_add]; rfl
  | j + 1, k, g => by rw [show j + 1 + k = (j + k) + 1 by omega]; exact rds_add rs j k (rnd rs g)
/-- the least sum of a walk -/
def least (rs : List (Rw α)) (s : α) : G α := rds rs (rs.length + 1) (g0 s)
theorem least_qt {rs : List (Rw α)} {s : α} {k : Nat} (hk : k ≤ rs.length + 1) (h : ∀ r ∈ rs, Qt (rds rs k (g0 s)) r) : least rs s = rds rs k (g0 s) := by
  unfold least
  rw [show rs.length + 1 = k + (rs.length + 1 - k) by omega, rds_add, qt_rds h]
theorem least_le {rs : List (Rw α)} (P : Pos rs) {s y : α} {l : List (Rw α)} (w : Wk rs s y l) : Le (least rs s) y (fee l) := all_wk P w (by omega)
theorem least_pos {rs : List (Rw α)} (P : Pos rs) {s y : α} {c : Int} (h : least rs s y = some c) : 0 ≤ c := by
  obtain ⟨l, w, f⟩ := snd_rds _ (snd0 rs s) _ _ h
  rw [← f]
  exact fee_pos P w.mem
end KQ
namespace K31
open PySem PySem.Spec PyProof.Rows L2 PD
variable {mg : Str → Option Value}
theorem eqv_int (i j : Int) : PyData.eqv (.int i) (.int j) = decide (i = j) := by
  by_cases h : i = j <;> simp [PyData.eqv, h]
theorem eqv_nil (ps : List PyData) : PyData.eqv (.list ps) (.list []) = ps.isEmpty := by
  cases ps with
  | nil => simp [PyData.eqv, PyData.eqvAll]
  | cons p ps => simp [PyData.eqv, PyData.eqvAll]
theorem call1 {f : Den} {m : M} {d : D} {s : SV} (h : Rn (f [.fz d] []) s []) : callK 1 f m [.v d] = .ok (resE s) m := call_v (ds := [d]) rfl h
theorem call2 {f : Den} {m : M} {d e : D} {s : SV} (h : Rn (f [.fz d, .fz e] []) s []) : callK 2 f m [.v d, .v e] = .ok (resE s) m := call_v (ds := [d, e]) rfl h
theorem call3 {f : Den} {m : M} {d e g : D} {s : SV} (h : Rn (f [.fz d, .fz e, .fz g] []) s []) : callK 3 f m [.v d, .v e, .v g] = .ok (resE s) m := call_v (ds := [d, e, g]) rfl h
theorem callX1 {f : Den} {m : M} {d : D} {c : Str} {x : D} (h : RnX (f [.fz d] []) c x []) : callK 1 f m [.v d] = .exc c x m := callX_v (ds := [d]) rfl h
theorem callX2 {f : Den} {m : M} {d e : D} {c : Str} {x : D} (h : RnX (f [.fz d, .fz e] []) c x []) : callK 2 f m [.v d, .v e] = .exc c x m := callX_v (ds := [d, e]) rfl h
theorem callX3 {f : Den} {m : M} {d e g : D} {c : Str} {x : D} (h : RnX (f [.fz d, .fz e, .fz g] []) c x []) : callK 3 f m [.v d, .v e, .v g] = .exc c x m := callX_v (ds := [d, e, g]) rfl h
theorem allFz_map : ∀ ds : List D, allFz (ds.map SV.fz) = some ds
  | [] => rfl
  | d :: ds => by simp [allFz, allFz_map ds]
theorem frzL_map {α : Type} (f : α → D) : ∀ ds : List α, frzL (ds.map fun d => SV.fz (f d)) = ds.map f
  | [] => rfl
  | d :: ds => by simp [frzL, frz, frzL_map f ds]
theorem st_nofr {x : EV} : stable true x = true := by cases x <;> first | rfl | exact s_stc _ _
theorem app1_of {pb : Bool} {ga : M → Out EV} {k : M → List EV → Out EV} {m m1 : M} {d : D} (h1 : ga m = .ok (.v d) m1) : dApp (dCons pb ga dNil) k m = k m1 [.v d] := app_of (cons_of (opd_of h1) (nil_of m1))
theorem app1b_of {ga : M → Out EV} {k : M → List EV → Out EV} {m m1 : M} {o : Ow} {p : List Pth} (h1 : ga m = .ok (.br o p) m1) : dApp (dCons true ga dNil) k m = k m1 [.br o p] := app_of (cons_of (pb := true) (opd_of h1) (nil_of m1) st_nofr)
theorem app2_of {pa pb : Bool} {ga gb : M → Out EV} {k : M → List EV → Out EV} {m m1 m2 : M} {x y : D} (h1 : ga m = .ok (.v x) m1) (h2 : gb m1 = .ok (.v y) m2) : dApp (dCons pa ga (dCons pb gb dNil)) k m = k m2 [.v x, .v y] := app_of (cons_of (opd_of h1) (cons_of (opd_of h2) (nil_of m2)))
theorem app3_of {pa pb pc : Bool} {ga gb gc : M → Out EV} {k : M → List EV → Out EV} {m m1 m2 m3 : M} {x y z : D} (h1 : ga m = .ok (.v x) m1) (h2 : gb m1 = .ok (.v y) m2) (h3 : gc m2 = .ok (.v z) m3) : dApp (dCons pa ga (dCons pb gb (dCons pc gc dNil))) k m = k m3 [.v x, .v y, .v z] := app_of (cons_of (opd_of h1) (cons_of (opd_of h2) (cons_of (opd_of h3) (nil_of m3))))
theorem seq_nx {g1 g2 : M → Out Ctl} {m m1 : M} (h : g1 m = .ok .nx m1) : dSeq g1 g2 m = g2 m1 := by unfold dSeq; rw [h]; rfl
theorem seq_rt {g1 g2 : M → Out Ctl} {m m1 : M} {s : SV} (h : g1 m = .ok (.rt s) m1) : dSeq g1 g2 m = .ok (.rt s) m1 := by unfold dSeq; rw [h]; rfl
theorem seq_exc {g1 g2 : M → Out Ctl} {m m1 : M} {c : Str} {d : D} (h : g1 m = .exc c d m1) : dSeq g1 g2 m = .exc c d m1 := by unfold dSeq; rw [h]; rfl
theorem def_rt {n : Nat} {b : M → Out Ctl} {as : List Ar} {pins : List SV} {s : SV} {m : M} (h : b (enter n as pins) = .ok (.rt s) m) : Rn (dDef n b as pins) s m.pp := rn_eq (by unfold dDef; rw [h])
theorem def_nx {n : Nat} {b : M → Out Ctl} {as : List Ar} {pins : List SV} {m : M} (h : b (enter n as pins) = .ok .nx m) : Rn (dDef n b as pins) (.fz .non) m.pp := rn_eq (by unfold dDef; rw [h])
theorem def_exc {n : Nat} {b : M → Out Ctl} {as : List Ar} {pins : List SV} {c : Str} {d : D} {m : M} (h : b (enter n as pins) = .exc c d m) : RnX (dDef n b as pins) c d m.pp := rnX_eq (by unfold dDef; rw [h])
theorem eqI (m : M) (i j : Int) : kV2 (bin2 pEq) m (.v (.int i)) (.v (.int j)) = .ok (.v (.bl (decide (i = j)))) m := by
  simp [kV2, PD.view, bin2, toPyS, toPy, pEq, dMin, PyData.depth, eqv_int]
theorem neI (m : M) (i j : Int) : kV2 (bin2 pNe) m (.v (.int i)) (.v (.int j)) = .ok (.v (.bl (!decide (i = j)))) m := by
  simp [kV2, PD.view, bin2, toPyS, toPy, pNe, dMin, PyData.depth, eqv_int]
theorem test_of {g : M → Out EV} {m m1 : M} {b : Bool} (h : g m = .ok (.v (.bl b)) m1) : dTest g m = .ok b m1 := by
  unfold dTest; rw [h]; rfl
theorem and_of {ga gb : M → Out Bool} {m m1 m2 : M} {a b : Bool} (h1 : ga m = .ok a m1) (h2 : a = true → gb m1 = .ok b m2) (h3 : a = false → m1 = m2) : dAndT ga gb m = .ok (a && b) m2 := by
  unfold dAndT
  rw [h1]
  cases a with
  | true => simp [h2 rfl]
  | false => simp [h3 rfl]
theorem if_of {gt : M → Out Bool} {g1 g2 : M → Out Ctl} {m m1 : M} {b : Bool} (h : gt m = .ok b m1) : dIf gt g1 g2 m = if b = true then g1 m1 else g2 m1 := by
  unfold dIf; rw [h]; rfl
theorem drop_of {g : M → Out EV} {m m1 : M} {e : EV} (h : g m = .ok e m1) : dDrop g m = .ok .nx m1 := by unfold dDrop; rw [h]; rfl
theorem dropX_of {g : M → Out EV} {m m1 : M} {c : Str} {d : D} (h : g m = .exc c d m1) : dDrop g m = .exc c d m1 := by unfold dDrop; rw [h]; rfl
theorem retV_of {g : M → Out EV} {m m1 : M} {d : D} (h : g m = .ok (.v d) m1) : dRet g m = .ok (.rt (.fz d)) m1 := by unfold dRet; rw [h]; rfl
theorem retX_of {g : M → Out EV} {m m1 : M} {c : Str} {d : D} (h : g m = .exc c d m1) : dRet g m = .exc c d m1 := by unfold dRet; rw [h]; rfl
theorem asgV_of {g : M → Out EV} {m m1 : M} {d : D} {i : Nat} (h : g m = .ok (.v d) m1) : dAsg g (bName i) m = .ok .nx { m1 with sl := m1.sl.set i (some (.sv (.fz d))) } := by unfold dAsg; rw [h]; rfl
theorem asgF_of {g : M → Out EV} {m m1 : M} {s : SV} {i : Nat} (h : g m = .ok (.fr s) m1) (hi : i < m1.sl.length) : dAsg g (bName i) m = .ok .nx { m1 with sl := m1.sl.set i (some (.sv s)) } := by
  unfold dAsg; rw [h]
  simp only [Out.bind, bName, if_pos hi]
theorem asgX_of {g : M → Out EV} {m m1 : M} {c : Str} {d : D} {b : EV → M → Out Unit} (h : g m = .exc c d m1) : dAsg g b m = .exc c d m1 := by unfold dAsg; rw [h]; rfl
theorem or_of {ga gb : M → Out Bool} {m m1 m2 : M} {a b : Bool} (h1 : ga m = .ok a m1) (h2 : a = false → gb m1 = .ok b m2) (h3 : a = true → m1 = m2) : dOrT ga gb m = .ok (a || b) m2 := by
  unfold dOrT
  rw [h1]
  cases a with
  | true => simp [h3 rfl]
  | false => simp [h2 rfl]
theorem not_of {g : M → Out Bool} {m m1 : M} {b : Bool} (h : g m = .ok b m1) : dNotT g m = .ok (!b) m1 := by unfold dNotT; rw [h]; rfl
theorem ifeV_of {gt : M → Out Bool} {ga gb : M → Out EV} {m m1 : M} {b : Bool} (h : gt m = .ok b m1) : dIfE gt ga gb m = if b = true then ga m1 else gb m1 := by unfold dIfE; rw [h]; rfl
theorem asgT2 {g : M → Out EV} {m m1 : M} {a b : D} {i j : Nat} (h : g m = .ok (.v (.tup [a, b])) m1) : dAsg g (bTup 2 (bCons (bName i) (bCons (bName j) bNil))) m = .ok .nx { m1 with sl := (m1.sl.set i (some (.sv (.fz a)))).set j (some (.sv (.fz b))) } := by
  unfold dAsg
  rw [h]
  rfl
theorem asgT3 {g : M → Out EV} {m m1 : M} {a b c : D} {i j l : Nat} (h : g m = .ok (.v (.tup [a, b, c])) m1) : dAsg g (bTup 3 (bCons (bName i) (bCons (bName j) (bCons (bName l) bNil)))) m = .ok .nx { m1 with sl := ((m1.sl.set i (some (.sv (.fz a)))).set j (some (.sv (.fz b)))).set l (some (.sv (.fz c))) } := by
  unfold dAsg
  rw [h]
  rfl
theorem un_of {ga : M → Out EV} {k : M → EV → Out EV} {m m1 : M} {x : EV} (h : ga m = .ok x m1) (n : nofr x = true := by rfl) : dUn ga k m = k m1 x := by
  unfold dUn
  rw [opd_of h n]
  rfl
theorem isi_of (m : M) {T : String} {d : D} {n : String} (h : tyOfS (.fz d) = some n) : kV1 (pIsi T) m (.v d) = .ok (.v (.bl (isB T n))) m := by
  unfold kV1
  simp only [PD.view, pIsi, h, Option.map]
theorem leI (m : M) (i j : Int) : kV2 pLe m (.v (.int i)) (.v (.int j)) = .ok (.v (.bl (decide (i ≤ j)))) m := rfl
theorem plus_tup {m : M} {xs ys : List D} (h : xs.length + ys.length ≤ bigLen) : kV2 pPlus m (.v (.tup xs)) (.v (.tup ys)) = .ok (.v (.tup (xs ++ ys))) m := by
  have e : pPlus (.fz (.tup xs)) (.fz (.tup ys)) = some (.v (.tup (xs ++ ys))) := by
    have e1 : pAddI (.fz (.tup xs)) (.fz (.tup ys)) = none := rfl
    have e2 : pCatS (.fz (.tup xs)) (.fz (.tup ys)) = none := rfl
    have e3 : pCatT (.fz (.tup xs)) (.fz (.tup ys)) = some (.v (.tup (xs ++ ys))) := if_pos h
    unfold pPlus orOp
    simp only [e1, e2, e3]
  unfold kV2
  simp only [PD.view, e]
theorem part_of {g : M → Out EV} {m : M} {i : Int} (h : g m = .ok (.v (.int i)) m) : dPart g m = .ok (some i) m := by
  unfold dPart
  rw [h]
  rfl
theorem cut_drop {α : Type} (l : List α) (k : Nat) (h : k ≤ l.length) : PD.cutD l (some (k : Int)) none = l.drop k := by
  unfold PD.cutD
  rw [show HT.sIx l.length 0 (some (k : Int)) = min k l.length from HT.sIx_nat l.length _ k, HT.sIx_none]
  rw [Nat.min_eq_left h]
  exact List.take_of_length_le (by rw [List.length_drop]; omega)
theorem sl_to {pl ph : Bool} {ga g : M → Out EV} {m : M} {ds : List D} {k : Nat} (h : ga m = .ok (.v (.tup ds)) m) (hg : g m = .ok (.v (.int k)) m) (hk : k ≤ ds.length) : dSl pl ph ga dNoPart (dPart g) m = .ok (.v (.tup (ds.take k))) m := by
  unfold dSl
  rw [opd_of h]
  simp only [Out.bind, dNoPart, part_of hg]
  rw [if_pos (by cases pl <;> cases ph <;> rfl)]
  show (match pSl (.fz (.tup ds)) none (some (k : Int)) with
    | some ev => Out.ok ev m
    | none => .bad) = _
  show Out.ok (EV.v (.tup (PD.cutD ds none (some (k : Int))))) m = _
  rw [cut_take ds k]
theorem sl_from {pl ph : Bool} {ga g : M → Out EV} {m : M} {ds : List D} {k : Nat} (h : ga m = .ok (.v (.tup ds)) m) (hg : g m = .ok (.v (.int k)) m) (hk : k ≤ ds.length) : dSl pl ph ga (dPart g) dNoPart m = .ok (.v (.tup (ds.drop k))) m := by
  unfold dSl
  rw [opd_of h]
  simp only [Out.bind, dNoPart, part_of hg]
  rw [if_pos (by cases pl <;> cases ph <;> rfl)]
  show Out.ok (EV.v (.tup (PD.cutD ds (some (k : Int)) none))) m = _
  rw [cut_drop ds k hk]
theorem while_nx {gt : M → Out Bool} {gb : M → Out Ctl} {m m1 m2 : M} (h : gt m = .ok true m1) (h2 : gb m1 = .ok .nx m2) : dWhile gt gb m = dWhile gt gb m2 := by
  unfold dWhile
  rw [loopW_eq]
  have e : stepW gt gb m = .ok .nx m2 := by
    unfold stepW
    rw [h]
    show (if true = true then gb m1 else .ok .bk m1) = _
    rw [if_pos rfl, h2]
  rw [e]
theorem while_end {gt : M → Out Bool} {gb : M → Out Ctl} {m m1 : M} (h : gt m = .ok false m1) : dWhile gt gb m = .ok .nx m1 := by
  unfold dWhile
  rw [loopW_eq]
  have e : stepW gt gb m = .ok .bk m1 := by
    unfold stepW
    rw [h]
    rfl
  rw [e]
theorem eq_nil {s : SV} {ps : List PyData} (h : toPyS s = some (.list ps)) : bin2 pEq s (.fz (.lst [])) = some (.v (.bl ps.isEmpty)) := by
  have e : toPyS (.fz (.lst [])) = some (.list []) := rfl
  unfold bin2
  rw [h, e]
  show pEq (.list ps) (.list []) = _
  unfold pEq
  rw [if_pos (by unfold dMin; simp [PyData.depth, PyData.depthAll]), eqv_nil]
theorem pyL_ints : ∀ l : List Int, toPyL (l.map .int) = some (l.map .int)
  | [] => rfl
  | x :: l => by rw [List.map_cons, toPyL, pyL_ints l]; rfl
theorem pyS_ints : ∀ l : List Int, toPyS (intsS l) = some (.list (l.map .int)) := fun l => by
  have e : ∀ l : List Int, toPySL (l.map fun i => SV.fz (.int i)) = some (l.map .int) := fun l => by
    induction l with
    | nil => rfl
    | cons x l ih => rw [List.map_cons, toPySL, ih]; rfl
  unfold intsS
  rw [toPyS, e]
  rfl
theorem ne_nil {s : SV} {ps : List PyData} (h : toPyS s = some (.list ps)) : bin2 pNe s (.fz (.lst [])) = some (.v (.bl (!ps.isEmpty))) := by
  have e : toPyS (.fz (.lst [])) = some (.list []) := rfl
  unfold bin2
  rw [h, e]
  show pNe (.list ps) (.list []) = _
  unfold pNe
  rw [if_pos (by unfold dMin; simp [PyData.depth, PyData.depthAll]), eqv_nil]
theorem erase_map {α β : Type} (f : α → β) : ∀ (l : List α) (i : Nat), (l.map f).eraseIdx i = (l.eraseIdx i).map f
  | [], _ => rfl
  | x :: l, 0 => rfl
  | x :: l, i + 1 => by rw [List.map_cons, List.eraseIdx_cons_succ, erase_map f l i]; rfl
theorem fPop_ol {xs : List SV} {d : D} (h : xs[xs.length - 1]? = some (.fz d)) : fPop (.ol xs) [] = some (.ol (xs.eraseIdx (xs.length - 1)), d) := by
  unfold fPop
  simp only [h]
theorem int_of (m : M) (i : Int) : kVN pInt m [.v (.int i)] = .ok (.v (.int i)) m := rfl
theorem emod_rng (i : Int) {j : Int} (h : 0 < j) : 0 ≤ i % j ∧ i % j < j := ⟨Int.emod_nonneg _ (by omega), Int.emod_lt_of_pos _ h⟩
theorem for_pre {α : Type} (h : α → D) (Rp : List α → M → Prop) {gi : M → Out Wk} {tg : EV → M → Out Unit} {gb : M → Out Ctl} {m0 m : M} {l : List α} (hi : gi m0 = .ok ⟨l.map h, always⟩ m) (hb : Rp [] m)
    (k : ∀ pre x suf, l = pre ++ x :: suf → ∀ m, Rp pre m → ∃ m1 m2, tg (.v (h x)) m = .ok () m1 ∧ (gb m1 = .ok .nx m2 ∨ gb m1 = .ok .ct m2) ∧ Rp (pre ++ [x]) m2) :
    ∃ m', dFor gi tg gb m0 = .ok .nx m' ∧ Rp l m' := by
  have key : ∀ (suf pre : List α) (m : M), l = pre ++ suf → Rp pre m → ∃ m', forI always tg gb (suf.map h) m = .ok .nx m' ∧ Rp l m' := by
    intro suf
    induction suf with
    | nil => intro pre m e hp; rw [List.append_nil] at e; subst e; exact ⟨m, by simp [forI, always], hp⟩
    | cons x r ih =>
      intro pre m e hp
      obtain ⟨m1, m2, h1, h2, h3⟩ := k pre x r e m hp
      obtain ⟨m', e', h4⟩ := ih (pre ++ [x]) m2 (by rw [e]; simp) h3
      refine ⟨m', ?_, h4⟩
      rw [List.map_cons]
      unfold forI
      rcases h2 with h2 | h2 <;> simp [always, h1, h2, e']
  obtain ⟨m', e, h'⟩ := key l [] m rfl hb
  refine ⟨m', ?_, h'⟩
  unfold dFor
  rw [hi]
  exact e
theorem lst_of {m m1 : M} {es : List EV} {ds : List D} (h : es.length ≤ bigLen) (e : evD m es = .ok ds m1) : kLst m es = .ok (.fr (.ol (ds.map .fz))) m1 := by
  have k : kLst m es = (evD m es).bind fun ds m1 => .ok (.fr (.ol (ds.map .fz))) m1 := if_pos h
  rw [k, e]
  rfl
theorem ix_lst {m : M} {items : List D} {r : Int} {d : D} (h0 : 0 ≤ r) (h1 : items[r.toNat]? = some d) : kIx m (.v (.lst items)) (.v (.int r)) = .ok (.v d) m := by
  have hl : r.toNat < items.length := (List.getElem?_eq_some_iff.mp h1).1
  have e : ixN items.length r = some r.toNat := by
    have := ixN_at hl
    rw [Int.toNat_of_nonneg h0] at this
    exact this
  have s : stepIx (.fz (.lst items)) (.fz (.int r)) = some (.fz d, .i r.toNat) := by
    show (ixN items.length r).bind _ = _
    rw [e]
    show (items[r.toNat]?).map _ = _
    rw [h1]
    rfl
  unfold kIx
  simp only [PD.view, s]
theorem py_ones {α : Type} : ∀ l : List α, toPyL (l.map fun _ => D.int 1) = some (l.map fun _ => PyData.int 1)
  | [] => rfl
  | x :: l => by
    rw [List.map_cons, List.map_cons]
    unfold toPyL
    rw [py_ones l]
    rfl
theorem py_onesD {α : Type} (l : List α) : toPyS (.fz (.lst (l.map fun _ => D.int 1))) = some (.list (l.map fun _ => PyData.int 1)) := by
  show toPy (.lst (l.map fun _ => D.int 1)) = _
  unfold toPy
  rw [py_ones]
  rfl
theorem emp_map {α β : Type} (f : α → β) (l : List α) : (l.map f).isEmpty = l.isEmpty := by cases l <;> rfl
theorem filt_empty {α : Type} (p : α → Bool) (l : List α) : (l.filter p).isEmpty = l.all fun x => !p x := by
  induction l with
  | nil => rfl
  | cons x l ih =>
    rw [List.filter_cons, List.all_cons, ← ih]
    cases p x <;> rfl
theorem ones_eq {α : Type} {p : α → Bool} {l : List α} {gc : M → Out EV} {m0 m : M} (k : gc m0 = .ok (.fr (.ol ((l.filter p).map fun _ => .fz (.int 1)))) m) :
    dBin true gc (dApp dNil kLst0) (kV2 (bin2 pEq)) m0 = .ok (.v (.bl (l.all fun x => !p x))) m := by
  have h1 := opdF_of k
  rw [frz_fm (fun _ => D.int 1)] at h1
  have h2 : opd (dApp dNil kLst0) m = .ok (.v (.lst [])) m := rfl
  rw [bin_of (pb := true) h1 h2]
  have e := eq_nil (py_onesD (l.filter p))
  rw [emp_map, filt_empty] at e
  unfold kV2
  simp only [PD.view, e]
theorem ones_ne {α : Type} {p : α → Bool} {l : List α} {gc : M → Out EV} {m0 m : M} (k : gc m0 = .ok (.fr (.ol ((l.filter p).map fun _ => .fz (.int 1)))) m) :
    dBin true gc (dApp dNil kLst0) (kV2 (bin2 pNe)) m0 = .ok (.v (.bl (!(l.all fun x => !p x)))) m := by
  have h1 := opdF_of k
  rw [frz_fm (fun _ => D.int 1)] at h1
  have h2 : opd (dApp dNil kLst0) m = .ok (.v (.lst [])) m := rfl
  rw [bin_of (pb := true) h1 h2]
  have e := ne_nil (py_onesD (l.filter p))
  rw [emp_map, filt_empty] at e
  unfold kV2
  simp only [PD.view, e]
structure SmP (d b : Nat) (p : PyData) : Prop where
  sh : p.showable = true
  hd : p.hasDict = false
  dp : p.depth ≤ d
  lv : p.leavesShort 13 = true
  bk : p.bulk ≤ b
theorem SmP.up {d b d' b' : Nat} {p : PyData} (h : SmP d b p) (h1 : d ≤ d') (h2 : b ≤ b') : SmP d' b' p := ⟨h.sh, h.hd, Nat.le_trans h.dp h1, h.lv, Nat.le_trans h.bk h2⟩
theorem sm_none : SmP 0 0 .none := ⟨by simp [PyData.showable], by simp [PyData.hasDict], by simp [PyData.depth], by simp [PyData.leavesShort], by simp [PyData.bulk]⟩
theorem sm_bool (b : Bool) : SmP 0 0 (.bool b) := ⟨by simp [PyData.showable], by simp [PyData.hasDict], by simp [PyData.depth], by simp [PyData.leavesShort], by simp [PyData.bulk]⟩
theorem sm_int {i : Int} (h1 : -1000000 ≤ i) (h2 : i ≤ 1000000) : SmP 0 0 (.int i) := by
  refine ⟨?_, by simp [PyData.hasDict], by simp [PyData.depth], ?_, by simp [PyData.bulk]⟩
  · have : i.natAbs.log2 < 1920 := by
      by_cases h : i.natAbs = 0
      · rw [h]; decide
      · rw [Nat.log2_lt h]
        calc i.natAbs < 2 ^ 20 := by omega
          _ ≤ 2 ^ 1920 := Nat.pow_le_pow_right (by decide) (by decide)
    simpa [PyData.showable] using this
  · have := PyData.shown_int_le2 (i := i) (by omega) (by omega)
    simpa [PyData.leavesShort] using this
theorem sm_str {x : Str} {b : Nat} (h : x.cps.toList.all (fun c => decide (c < 16 ^ 8)) = true) (hb : x.cps.size ≤ b) : SmP 0 b (.str x) := ⟨by simp [PyData.showable], by simp [PyData.hasDict], by simp [PyData.depth], by simpa [PyData.leavesShort] using h, by simpa [PyData.bulk] using hb⟩
theorem sm_all {d b : Nat} : ∀ ps : List PyData, (∀ p ∈ ps, SmP d b p) → PyData.showableAll ps = true ∧ PyData.hasDictAll ps = false ∧ PyData.depthAll ps ≤ d ∧ PyData.leavesShortAll 13 ps = true ∧ PyData.bulkAll ps ≤ ps.length * (b + 1)
  | [], _ => ⟨by simp [PyData.showableAll], by simp [PyData.hasDictAll], by simp [PyData.depthAll], by simp [PyData.leavesShortAll], by simp [PyData.bulkAll]⟩
  | p :: ps, h => by
    have hp := h p List.mem_cons_self
    obtain ⟨a1, a2, a3, a4, a5⟩ := sm_all ps fun q hq => h q (List.mem_cons_of_mem _ hq)
    refine ⟨by simp [PyData.showableAll, hp.sh, a1], by simp [PyData.hasDictAll, hp.hd, a2], ?_, by simp [PyData.leavesShortAll, hp.lv, a4], ?_⟩
    · have := hp.dp
      simp only [PyData.depthAll]
      omega
    · have := hp.bk
      simp only [PyData.bulkAll, List.length_cons, Nat.add_mul]
      omega
theorem sm_tup {d b n : Nat} {ps : List PyData} (h : ∀ p ∈ ps, SmP d b p) (hn : ps.length ≤ n) : SmP (d + 1) (n * (b + 1)) (.tuple ps) := by
  obtain ⟨a1, a2, a3, a4, a5⟩ := sm_all ps h
  refine ⟨by simpa [PyData.showable] using a1, by simpa [PyData.hasDict] using a2, by simp only [PyData.depth]; omega, by simpa [PyData.leavesShort] using a4, ?_⟩
  simp only [PyData.bulk]
  exact Nat.le_trans a5 (Nat.mul_le_mul_right _ hn)
theorem sm_lst {d b n : Nat} {ps : List PyData} (h : ∀ p ∈ ps, SmP d b p) (hn : ps.length ≤ n) : SmP (d + 1) (n * (b + 1)) (.list ps) := by
  obtain ⟨a1, a2, a3, a4, a5⟩ := sm_all ps h
  refine ⟨by simpa [PyData.showable] using a1, by simpa [PyData.hasDict] using a2, by simp only [PyData.depth]; omega, by simpa [PyData.leavesShort] using a4, ?_⟩
  simp only [PyData.bulk]
  exact Nat.le_trans a5 (Nat.mul_le_mul_right _ hn)
def Sm (d b : Nat) (x : D) : Prop := ∃ p, toPy x = some p ∧ SmP d b p
theorem Sm.up {d b d' b' : Nat} {x : D} (h : Sm d b x) (h1 : d ≤ d') (h2 : b ≤ b') : Sm d' b' x := let ⟨p, e, s⟩ := h; ⟨p, e, s.up h1 h2⟩
theorem sm_py {d b : Nat} : ∀ ds : List D, (∀ x ∈ ds, Sm d b x) → ∃ ps, toPyL ds = some ps ∧ ps.length = ds.length ∧ ∀ p ∈ ps, SmP d b p
  | [], _ => ⟨[], rfl, rfl, fun p h => by cases h⟩
  | x :: ds, h => by
    obtain ⟨p, e, s⟩ := h x List.mem_cons_self
    obtain ⟨ps, e', l, s'⟩ := sm_py ds fun q hq => h q (List.mem_cons_of_mem _ hq)
    refine ⟨p :: ps, by rw [toPyL, e, e'], by simp [l], fun q hq => ?_⟩
    rcases List.mem_cons.mp hq with rfl | hq
    · exact s
    · exact s' q hq
theorem Sm.tup {d b n : Nat} {ds : List D} (h : ∀ x ∈ ds, Sm d b x) (hn : ds.length ≤ n) : Sm (d + 1) (n * (b + 1)) (.tup ds) := by
  obtain ⟨ps, e, l, s⟩ := sm_py ds h
  exact ⟨.tuple ps, by rw [toPy, e]; rfl, sm_tup s (by omega)⟩
theorem Sm.lst {d b n : Nat} {ds : List D} (h : ∀ x ∈ ds, Sm d b x) (hn : ds.length ≤ n) : Sm (d + 1) (n * (b + 1)) (.lst ds) := by
  obtain ⟨ps, e, l, s⟩ := sm_py ds h
  exact ⟨.list ps, by rw [toPy, e]; rfl, sm_lst s (by omega)⟩
theorem Sm.int {i : Int} (h1 : -1000000 ≤ i) (h2 : i ≤ 1000000) : Sm 0 0 (.int i) := ⟨_, rfl, sm_int h1 h2⟩
theorem Sm.nat {i : Nat} (h : i ≤ 1000) : Sm 0 0 (.int i) := Sm.int (by omega) (by omega)
theorem Sm.bl (b : Bool) : Sm 0 0 (.bl b) := ⟨_, rfl, sm_bool b⟩
theorem Sm.non : Sm 0 0 .non := ⟨_, rfl, sm_none⟩
theorem Sm.str {x : Str} (h : x.cps.toList.all (fun c => decide (c < 16 ^ 8)) = true) (hb : x.cps.size ≤ 10) : Sm 0 10 (.str x) := ⟨_, rfl, sm_str h hb⟩
def shD (x : D) : Str := (PD.encD x).shown
theorem repr_v {d b : Nat} {x : D} (h : Sm d b x) (hd : d ≤ 100) (hb : b ≤ 60000) (hr : refS (.fz x) = true) (m : M) : kVN pRepr m [.v x] = .ok (.v (.str (shD x))) m := by
  obtain ⟨p, e, s⟩ := h
  have hs : shD x = p.shown := by unfold shD PD.encD; rw [e]; rfl
  have l := PyData.shown_le_bulk 13 (by decide) p s.lv
  have hl : p.showable = true ∧ p.hasDict = false ∧ p.depth ≤ 100 ∧ p.shown.length ≤ bigLen := by
    refine ⟨s.sh, s.hd, Nat.le_trans s.dp hd, ?_⟩
    have := s.bk
    have : bigLen = 1000000 := rfl
    omega
  have t : toPyS (.fz x) = some p := e
  have r : pRepr [.fz x] = some (.v (.str p.shown)) := by
    unfold pRepr
    simp only []
    rw [if_pos hr, t]
    exact if_pos hl
  rw [hs]
  show (match pRepr [.fz x] with
    | some ev => Out.ok ev m
    | none => .bad) = _
  rw [r]
theorem neS (m : M) (a : Str) : kV2 (bin2 pNe) m (.v (.str a)) (.v (.str a)) = .ok (.v (.bl false)) m := by
  have e : bin2 pNe (.fz (.str a)) (.fz (.str a)) = some (.v (.bl false)) := by
    show pNe (.str a) (.str a) = _
    unfold pNe
    rw [if_pos (by unfold dMin; simp [PyData.depth])]
    simp [PyData.eqv]
  rw [s_kv2, e]
theorem eqS (m : M) (a b : Str) : kV2 (bin2 pEq) m (.v (.str a)) (.v (.str b)) = .ok (.v (.bl (a == b))) m := by
  have e : bin2 pEq (.fz (.str a)) (.fz (.str b)) = some (.v (.bl (a == b))) := by
    show pEq (.str a) (.str b) = _
    unfold pEq
    rw [if_pos (by unfold dMin; simp [PyData.depth])]
    simp [PyData.eqv]
  rw [s_kv2, e]
def Hs (m : M) (i : Nat) (s : SV) : Prop := m.sl[i]? = some (some (.sv s))
def setS (m : M) (j : Nat) (x : Option Sl) : M := { m with sl := m.sl.set j x }
theorem hs_get {m : M} {i : Nat} {s : SV} (h : Hs m i s) : get m (.s i) = some s := by
  unfold Hs at h
  unfold PD.get
  simp only [h]
theorem hs_var {m : M} {i : Nat} {d : D} (h : Hs m i (.fz d)) : dVar i m = .ok (.v d) m := by
  unfold Hs at h
  unfold dVar
  rw [h]
def isO : SV → Bool
  | .fz _ => false
  | _ => true
theorem hs_own {m : M} {i : Nat} {s : SV} (h : Hs m i s) (o : isO s = true) : dVar i m = .ok (.br (.s i) []) m := by
  unfold Hs at h
  unfold dVar
  rw [h]
  cases s with
  | fz d => cases o
  | _ => rfl
theorem hs_ne {m : M} {i j : Nat} {s : SV} {x : Option Sl} (h : Hs m i s) (e : j ≠ i) : Hs (setS m j x) i s := by
  unfold Hs setS
  show (m.sl.set j x)[i]? = _
  rw [List.getElem?_set_ne e]
  exact h
theorem hs_eq {m : M} {j : Nat} {s : SV} (h : j < m.sl.length) : Hs (setS m j (some (.sv s))) j s := by
  unfold Hs setS
  show (m.sl.set j _)[j]? = _
  rw [List.getElem?_set_self h]
theorem setO_s (m : M) (j : Nat) (s : SV) : setO m (.s j) s = setS m j (some (.sv s)) := rfl
theorem asgV_s {g : M → Out EV} {m m1 : M} {d : D} {i : Nat} (h : g m = .ok (.v d) m1) : dAsg g (bName i) m = .ok .nx (setS m1 i (some (.sv (.fz d)))) := asgV_of h
theorem c_of (pb : Bool) {d : D} {gs : M → Out (List EV)} {xs : List EV} {m : M} (h : gs m = .ok xs m) : dCons pb (dC d) gs m = .ok (.v d :: xs) m := cons_of (opd_of (g := dC d) (x := .v d) rfl) h
theorem t1_of {g : M → Out EV} {m : M} {d : D} (h : g m = .ok (.v d) m) : dApp (dCons true g dNil) PD.kTup m = .ok (.v (.tup [d])) m := (app_of (k := PD.kTup) (cons_of (pb := true) (opd_of h) (nil_of m))).trans rfl
theorem t2_of {g1 g2 : M → Out EV} {m : M} {a b : D} (h1 : g1 m = .ok (.v a) m) (h2 : g2 m = .ok (.v b) m) : dApp (dCons true g1 (dCons true g2 dNil)) PD.kTup m = .ok (.v (.tup [a, b])) m := (app_of (k := PD.kTup) (cons_of (pb := true) (opd_of h1) (cons_of (pb := true) (opd_of h2) (nil_of m)))).trans rfl
theorem t3_of {g1 g2 g3 : M → Out EV} {m : M} {a b c : D} (h1 : g1 m = .ok (.v a) m) (h2 : g2 m = .ok (.v b) m) (h3 : g3 m = .ok (.v c) m) : dApp (dCons true g1 (dCons true g2 (dCons true g3 dNil))) PD.kTup m = .ok (.v (.tup [a, b, c])) m := (app_of (k := PD.kTup) (cons_of (pb := true) (opd_of h1) (cons_of (pb := true) (opd_of h2) (cons_of (pb := true) (opd_of h3) (nil_of m))))).trans rfl
theorem perm3 (a b c : EV) : perm [2, 1, 0] [c, b, a] = [a, b, c] := rfl
theorem callP3 {f : Den} {x y z : D} {v : D} (r : Rn (f [.fz x, .fz y, .fz z] []) (.fz v) []) : callP 3 f [2, 1, 0] m [.v z, .v y, .v x] = .ok (.v v) m := by
  show (if 3 = 3 then callK 3 f m (perm [2, 1, 0] [.v z, .v y, .v x]) else .bad) = _
  rw [if_pos rfl, perm3]
  exact call3 r
end K31
namespace K31
open PySem PySem.Spec PyProof.Rows L2 PD
variable {mg : Str → Option Value}
/-! ### names -/
def nmL : List Str := ["Opal", "b2", "garnet", "mica", "none", "quartz", "talc"]
abbrev N7 := Fin 7
def nm (i : N7) : Str := nmL.getD i.val ""
def code (a b : N7) : Nat := 7 * a.val + b.val
theorem lt_nm : ∀ a b c d : N7, PySem.W.dataLt (.tuple [.str (nm a), .str (nm b)]) (.tuple [.str (nm c), .str (nm d)]) = decide (code a b < code c d) := by decide +kernel
theorem le_nm : ∀ a b c d : N7, PySem.W.dataLe false encD (.tup [.str (nm a), .str (nm b)]) (.tup [.str (nm c), .str (nm d)]) = decide (code a b ≤ code c d) := by decide +kernel
theorem nm_inj : ∀ a b : N7, nm a = nm b → a = b := by decide +kernel
theorem nm_eq (a b : N7) : (nm a = nm b) = (a = b) := propext ⟨nm_inj a b, fun h => h ▸ rfl⟩
def occ (j i : Str) : Bool := !(Builtin.Str.occurrences j i 0 j.length 1).isEmpty
abbrev figs : Str := "0123456789"
abbrev signs : Str := "abcdefghijklmnopqrstuvwxyzABCDEFGHIJKLMNOPQRSTUVWXYZ0123456789"
def sign1 (c : Nat) : Str := ⟨#[c]⟩
def lenB (z : Str) : Bool := decide ((1 : Int) ≤ (z.length : Nat)) && decide (((z.length : Nat) : Int) ≤ 12)
def figB (z : Str) : Bool := match z.cps.toList with
  | c :: _ => occ figs (sign1 c)
  | [] => false
def allB (z : Str) : Bool := z.cps.toList.all fun c => occ signs (sign1 c)
def nameB (z : Str) : Bool := (lenB z && !figB z) && allB z
theorem inS (m : M) (i j : Str) : kV2 pInA m (.v (.str i)) (.v (.str j)) = .ok (.v (.bl (occ j i))) m := rfl
theorem name_nm : ∀ i : N7, nameB (nm i) = true ∧ (nm i).length ≤ 12 := by decide +kernel
theorem chainV_of {pb pc : Bool} {ga gb gc : M → Out EV} {m : M} {x y z : Int} (h1 : ga m = .ok (.v (.int x)) m) (h2 : gb m = .ok (.v (.int y)) m) (h3 : gc m = .ok (.v (.int z)) m) : dChain pb pc ga gb gc (kV2 pLe) (kV2 pLe) m = .ok (.v (.bl (decide (x ≤ y) && decide (y ≤ z)))) m := by
  unfold dChain
  rw [opd_of h1, bind_ok, opd_of h2, bind_ok]
  rw [if_pos (show stable pb (EV.v (.int x)) = true from rfl), leI, bind_ok]
  by_cases h : x ≤ y
  · rw [decide_eq_true h]
    show (opd gc m).bind _ = _
    rw [opd_of h3, bind_ok, if_pos (show stable pc (EV.v (.int y)) = true from rfl), leI]
    simp
  · rw [decide_eq_false h]
    rfl
theorem len_str {ga : M → Out EV} {m : M} {z : Str} (h : ga m = .ok (.v (.str z)) m) (hz : z.length ≤ bigLen) : dApp (dCons true ga dNil) (kVN pLen) m = .ok (.v (.int (z.length : Nat))) m := by
  rw [app1_of h]
  show (match (match (if z.length ≤ bigLen then some z.length else none : Option Nat).map fun (n : Nat) => EV.v (.int (n : Int)) with
    | some ev => Out.ok ev m
    | none => .bad) with | x => x) = _
  rw [if_pos hz]
  rfl
theorem str_len (z : Str) : z.length = z.cps.toList.length := rfl
theorem ix_str0 {m : M} {z : Str} {c : Nat} {r : List Nat} (hz : z.length ≤ bigLen) (h : z.cps.toList = c :: r) : kIx m (.v (.str z)) (.v (.int 0)) = .ok (.v (.str (sign1 c))) m := by
  have s : stepIx (.fz (.str z)) (.fz (.int 0)) = some (.fz (.str (sign1 c)), .i 0) := by
    show (if z.length ≤ bigLen then (atI z.cps.toList 0).map fun c => (SV.fz (.str ⟨#[c]⟩), Pth.i 0) else none) = _
    rw [if_pos hz, h]
    have a : atI (c :: r) 0 = some c := by
      unfold atI
      rw [List.length_cons, show ixN (r.length + 1) 0 = some 0 from ixN_at (j := 0) (by omega)]
      rfl
    rw [a]
    rfl
  unfold kIx
  simp only [PD.view, s]
def naM (d : D) (a : Option Sl) : M := ⟨[some (.sv (.fz d)), a], []⟩
theorem nm_all (z : Str) (hz : z.length ≤ bigLen) : dApp (dCons true (dComp (dIStr (dVar 0)) [1] (bName 1) (fun m => .ok true m) (dBin true (dVar 1) (dC (.str "abcdefghijklmnopqrstuvwxyzABCDEFGHIJKLMNOPQRSTUVWXYZ0123456789")) (kV2 pInA))) dNil) (kVN pAll) (naM (.str z) none) = .ok (.v (.bl (allB z))) (naM (.str z) none) := by
  have c := comp_allm (gi := dIStr (dVar 0)) (vs := [1]) (b := bName 1) (ge := dBin true (dVar 1) (dC (.str "abcdefghijklmnopqrstuvwxyzABCDEFGHIJKLMNOPQRSTUVWXYZ0123456789")) (kV2 pInA)) (m0 := naM (.str z) none) (m := naM (.str z) none) (l := z.cps.toList) (fun c => D.str (sign1 c)) (fun c => .fz (.bl (occ signs (sign1 c)))) rfl hz rfl rfl fun c hc =>
    ⟨naM (.str z) (some (.sv (.fz (.str (sign1 c))))), .v (.bl (occ signs (sign1 c))), naM (.str z) (some (.sv (.fz (.str (sign1 c))))), _, rfl, bin3 (pb := true) (ga := dVar 1) (gb := dC (.str signs)) (x := .str (sign1 c)) rfl rfl (inS _ _ _), rfl, rfl⟩
  rw [appF_of c, frz_fm (fun c => D.bl (occ signs (sign1 c)))]
  have e : pAll [.fz (.lst (z.cps.toList.map fun x => .bl (occ signs (sign1 x))))] = some (.v (.bl (allB z))) := by
    show ((boolsD (z.cps.toList.map fun x => D.bl (occ signs (sign1 x)))).map fun bs => EV.v (.bl (bs.all id))) = _
    rw [bools_map]
    show some (EV.v (.bl ((z.cps.toList.map fun x => occ signs (sign1 x)).all id))) = _
    rw [List.all_map]
    rfl
  show (match pAll [.fz (.lst (z.cps.toList.map fun x => .bl (occ signs (sign1 x))))] with
    | some ev => Out.ok ev (naM (.str z) none)
    | none => .bad) = _
  rw [e]
theorem e_name (z : Str) (hz : z.length ≤ bigLen) : Rn (den_is_name mg [.fz (.str z)] []) (.fz (.bl (nameB z))) [] := by
  let m0 := naM (.str z) none
  have v0 : dVar 0 m0 = .ok (.v (.str z)) m0 := rfl
  have t1 : dNotT (dTest (dUn (dVar 0) (kV1 (pIsi "str")))) m0 = .ok false m0 := not_of (b := true) (test_of ((un_of v0).trans (isi_of m0 (T := "str") (d := .str z) (n := "str") rfl)))
  have t2 : dNotT (dTest (dChain true true (dC (.int 1)) (dApp (dCons true (dVar 0) dNil) (kVN pLen)) (dC (.int 12)) (kV2 pLe) (kV2 pLe))) m0 = .ok (!lenB z) m0 := not_of (test_of (chainV_of (ga := dC (.int 1)) (gc := dC (.int 12)) rfl (len_str v0 hz) rfl))
  have tt : dOrT (dNotT (dTest (dUn (dVar 0) (kV1 (pIsi "str"))))) (dOrT (dNotT (dTest (dChain true true (dC (.int 1)) (dApp (dCons true (dVar 0) dNil) (kVN pLen)) (dC (.int 12)) (kV2 pLe) (kV2 pLe)))) (dTest (dBin true (dBin true (dVar 0) (dC (.int 0)) kIx) (dC (.str "0123456789")) (kV2 pInA)))) m0 = .ok (false || (!lenB z || figB z)) m0 := by
    refine or_of t1 (fun _ => or_of t2 (fun h => ?_) fun _ => rfl) fun h => by cases h
    have hl : lenB z = true := by simpa using h
    unfold lenB at hl
    simp only [Bool.and_eq_true, decide_eq_true_eq] at hl
    cases e : z.cps.toList with
    | nil => rw [str_len, e] at hl; simp at hl
    | cons c r =>
      have f : figB z = occ figs (sign1 c) := by unfold figB; rw [e]
      rw [f]
      exact test_of (bin3 (pb := true) (gb := dC (.str figs)) (bin3 (pb := true) (gb := dC (.int 0)) v0 rfl (ix_str0 hz e)) rfl (inS _ _ _))
  have key : b_is_name mg m0 = .ok (.rt (.fz (.bl (nameB z)))) m0 := by
    unfold b_is_name
    cases h : (lenB z && !figB z) with
    | false =>
      have h2 : (false || (!lenB z || figB z)) = true := by cases a : lenB z <;> cases b : figB z <;> simp_all
      rw [h2] at tt
      have : nameB z = false := by unfold nameB; rw [h]; rfl
      rw [this]
      refine seq_rt ?_
      rw [if_of tt, if_pos rfl]
      rfl
    | true =>
      have h2 : (false || (!lenB z || figB z)) = false := by cases a : lenB z <;> cases b : figB z <;> simp_all
      rw [h2] at tt
      have : nameB z = allB z := by unfold nameB; rw [h]; rfl
      rw [this, seq_nx (g1 := dIf _ _ _) (m1 := m0) (by rw [if_of tt]; rfl)]
      exact retV_of (nm_all z hz)
  exact def_rt (n := 2) (b := b_is_name mg) (as := [.fz (.str z)]) (pins := []) (m := m0) key
theorem e_noname {d : D} {n : String} (h : tyOfS (.fz d) = some n) (hn : isB "str" n = false) : Rn (den_is_name mg [.fz d] []) (.fz (.bl false)) [] := by
  let m0 := naM d none
  have v0 : dVar 0 m0 = .ok (.v d) m0 := rfl
  have t1 : dNotT (dTest (dUn (dVar 0) (kV1 (pIsi "str")))) m0 = .ok (!isB "str" n) m0 := not_of (test_of ((un_of v0).trans (isi_of m0 h)))
  rw [hn] at t1
  have tt : dOrT (dNotT (dTest (dUn (dVar 0) (kV1 (pIsi "str"))))) (dOrT (dNotT (dTest (dChain true true (dC (.int 1)) (dApp (dCons true (dVar 0) dNil) (kVN pLen)) (dC (.int 12)) (kV2 pLe) (kV2 pLe)))) (dTest (dBin true (dBin true (dVar 0) (dC (.int 0)) kIx) (dC (.str "0123456789")) (kV2 pInA)))) m0 = .ok (true || true) m0 := or_of t1 (fun h => by cases h) fun _ => rfl
  have key : b_is_name mg m0 = .ok (.rt (.fz (.bl false))) m0 := by
    unfold b_is_name
    refine seq_rt ?_
    rw [if_of tt]
    rfl
  exact def_rt (n := 2) (b := b_is_name mg) (as := [.fz d]) (pins := []) (m := m0) key
/-- names, of any built-in type -/
def nameD : D → Bool
  | .str z => nameB z
  | _ => false
def tyK (d : D) : Bool := (tyOfS (.fz d)).isSome && (match d with | .str z => decide (z.length ≤ bigLen) | _ => true)
theorem e_nameD {d : D} (h : tyK d = true) : Rn (den_is_name mg [.fz d] []) (.fz (.bl (nameD d))) [] := by
  cases d with
  | str z => exact e_name z (by simpa [tyK, tyOfS] using h)
  | fn _ => cases h
  | scr _ => cases h
  | non => exact e_noname (n := "NoneType") rfl rfl
  | bl _ => exact e_noname (n := "bool") rfl rfl
  | int _ => exact e_noname (n := "int") rfl rfl
  | tup _ => exact e_noname (n := "tuple") rfl rfl
  | lst _ => exact e_noname (n := "list") rfl rfl
  | dk _ => exact e_noname (n := "dict") rfl rfl
  | dt _ => exact e_noname (n := "dict") rfl rfl
theorem e_need_kind {d : D} (h : tyK d = true) (hn : nameD d = true) : Rn (den_need_kind mg [.fz d] []) (.fz .non) [] := by
  let m0 : M := ⟨[some (.sv (.fz d))], []⟩
  have t : dNotT (dTest (dApp (dCons true (dVar 0) dNil) (callK 1 (den_is_name mg)))) m0 = .ok (!nameD d) m0 := not_of (test_of ((app1_of (ga := dVar 0) (m := m0) (d := d) rfl).trans (call1 (e_nameD h))))
  rw [hn] at t
  have key : b_need_kind mg m0 = .ok .nx m0 := by
    unfold b_need_kind
    rw [if_of t]
    rfl
  exact def_nx (n := 1) (b := b_need_kind mg) (as := [.fz d]) (pins := []) (m := m0) key
theorem x_need_kind {d : D} (h : tyK d = true) (hn : nameD d = false) : RnX (den_need_kind mg [.fz d] []) "BadKind" d [] := by
  let m0 : M := ⟨[some (.sv (.fz d))], []⟩
  have t : dNotT (dTest (dApp (dCons true (dVar 0) dNil) (callK 1 (den_is_name mg)))) m0 = .ok (!nameD d) m0 := not_of (test_of ((app1_of (ga := dVar 0) (m := m0) (d := d) rfl).trans (call1 (e_nameD h))))
  rw [hn] at t
  have key : b_need_kind mg m0 = .exc "BadKind" d m0 := by
    unfold b_need_kind
    rw [if_of t]
    rfl
  exact def_exc (n := 1) (b := b_need_kind mg) (as := [.fz d]) (pins := []) (m := m0) key
end K31
namespace K31
open PySem PySem.Spec PyProof.Rows L2 PD
variable {mg : Str → Option Value}
/-! ### swaps -/
theorem e_is_tuple_of (ds : List D) (k : Int) : Rn (den_is_tuple_of mg [.fz (.tup ds), .fz (.int k)] []) (.fz (.bl (decide ((ds.length : Int) = k)))) [] := by
  let m0 : M := ⟨[some (.sv (.fz (.tup ds))), some (.sv (.fz (.int k)))], []⟩
  have key : b_is_tuple_of mg m0 = .ok (.rt (.fz (.bl (decide ((ds.length : Int) = k))))) m0 := by
    unfold b_is_tuple_of
    refine retV_of ?_
    unfold dAndV
    rw [(un_of (ga := dVar 0) (m := m0) (x := .v (.tup ds)) rfl).trans (isi_of m0 (T := "tuple") (d := .tup ds) (n := "tuple") rfl)]
    show dBin true (dApp (dCons true (dVar 0) dNil) (kVN pLen)) (dVar 1) (kV2 (bin2 pEq)) m0 = _
    exact bin3 (pb := true) (gb := dVar 1) ((app1_of (ga := dVar 0) (m := m0) (d := .tup ds) rfl).trans rfl) rfl (eqI _ _ _)
  exact def_rt (n := 2) (b := b_is_tuple_of mg) (as := [.fz (.tup ds), .fz (.int k)]) (pins := []) (m := m0) key
theorem e_not_tuple {d : D} {n : String} (h : tyOfS (.fz d) = some n) (hn : isB "tuple" n = false) (k : Int) : Rn (den_is_tuple_of mg [.fz d, .fz (.int k)] []) (.fz (.bl false)) [] := by
  let m0 : M := ⟨[some (.sv (.fz d)), some (.sv (.fz (.int k)))], []⟩
  have key : b_is_tuple_of mg m0 = .ok (.rt (.fz (.bl false))) m0 := by
    unfold b_is_tuple_of
    refine retV_of ?_
    unfold dAndV
    rw [(un_of (ga := dVar 0) (m := m0) (x := .v d) rfl).trans (isi_of m0 (T := "tuple") h), hn]
    rfl
  exact def_rt (n := 2) (b := b_is_tuple_of mg) (as := [.fz d, .fz (.int k)]) (pins := []) (m := m0) key
theorem andV_of {ga gb : M → Out EV} {m m1 : M} {b : Bool} (h : ga m = .ok (.v (.bl b)) m1) : dAndV ga gb m = if b = true then gb m1 else .ok (.v (.bl false)) m1 := by
  unfold dAndV; rw [h]; cases b <;> rfl
theorem notV_of {ga : M → Out EV} {m m1 : M} {b : Bool} (h : ga m = .ok (.v (.bl b)) m1) : dNotV ga m = .ok (.v (.bl (!b))) m1 := by
  unfold dNotV; rw [h]; rfl
theorem e_is_whole {d : D} {n : String} (h : tyOfS (.fz d) = some n) : Rn (den_is_whole mg [.fz d] []) (.fz (.bl (isB "int" n && !isB "bool" n))) [] := by
  let m0 : M := ⟨[some (.sv (.fz d))], []⟩
  have key : b_is_whole mg m0 = .ok (.rt (.fz (.bl (isB "int" n && !isB "bool" n)))) m0 := by
    unfold b_is_whole
    refine retV_of ?_
    rw [andV_of ((un_of (ga := dVar 0) (m := m0) (x := .v d) rfl).trans (isi_of m0 (T := "int") h)), notV_of ((un_of (ga := dVar 0) (m := m0) (x := .v d) rfl).trans (isi_of m0 (T := "bool") h))]
    cases isB "int" n <;> rfl
  exact def_rt (n := 1) (b := b_is_whole mg) (as := [.fz d]) (pins := []) (m := m0) key
def swB : D → Bool
  | .tup [.str a, .str b, .int f] => nameB a && (nameB b && (!(a == b) && decide (0 ≤ f)))
  | _ => false
def swK : D → Bool
  | .tup ds => ds.all tyK
  | d => tyK d
theorem neSt (m : M) (a b : Str) : kV2 (bin2 pNe) m (.v (.str a)) (.v (.str b)) = .ok (.v (.bl (!(a == b)))) m := by
  have e : bin2 pNe (.fz (.str a)) (.fz (.str b)) = some (.v (.bl (!(a == b)))) := by
    show pNe (.str a) (.str b) = _
    unfold pNe
    rw [if_pos (by unfold dMin; simp [PyData.depth])]
    simp [PyData.eqv]
  rw [s_kv2, e]
theorem nameD_str {d : D} (h : nameD d = true) : ∃ z, d = .str z ∧ nameB z = true := by
  cases d <;> first | exact ⟨_, rfl, h⟩ | cases h
theorem swB_no {a b c : D} (h : nameD a = false ∨ nameD b = false) : swB (.tup [a, b, c]) = false := by
  unfold swB
  split
  · rename_i za zb f e
    simp only [D.tup.injEq, List.cons.injEq] at e
    obtain ⟨rfl, rfl, _⟩ := e
    rcases h with h | h
    · have h : nameB za = false := h
      rw [h]; rfl
    · have h : nameB zb = false := h
      rw [h]; simp
  · rfl
theorem swB_ty {a b c : D} (h : ∀ f, c ≠ .int f) : swB (.tup [a, b, c]) = false := by
  unfold swB
  split
  · rename_i za zb f e
    simp only [D.tup.injEq, List.cons.injEq] at e
    exact absurd e.2.2.1 (h f)
  · rfl
theorem ixt {m : M} {a b c : D} (j : Nat) (hj : j < 3) {d : D} (h : [a, b, c][j]? = some d) : kIx m (.v (.tup [a, b, c])) (.v (.int (j : Nat))) = .ok (.v d) m := by
  have s : stepIx (.fz (.tup [a, b, c])) (.fz (.int (j : Nat))) = some (.fz d, .i j) := by
    show (ixN 3 (j : Int)).bind _ = _
    rw [ixN_at hj]
    show ([a, b, c][j]?).map _ = _
    rw [h]
    rfl
  unfold kIx
  simp only [PD.view, s]
theorem e_swap3 {a b c : D} (ha : tyK a = true) (hb : tyK b = true) (hc : tyK c = true) : Rn (den_is_swap mg [.fz (.tup [a, b, c])] []) (.fz (.bl (swB (.tup [a, b, c])))) [] := by
  let m0 : M := ⟨[some (.sv (.fz (.tup [a, b, c])))], []⟩
  have v0 : dVar 0 m0 = .ok (.v (.tup [a, b, c])) m0 := rfl
  have x0 : dBin true (dVar 0) (dC (.int 0)) kIx m0 = .ok (.v a) m0 := bin3 (pb := true) (gb := dC (.int 0)) v0 rfl (ixt 0 (by decide) rfl)
  have x1 : dBin true (dVar 0) (dC (.int 1)) kIx m0 = .ok (.v b) m0 := bin3 (pb := true) (gb := dC (.int 1)) v0 rfl (ixt 1 (by decide) rfl)
  have x2 : dBin true (dVar 0) (dC (.int 2)) kIx m0 = .ok (.v c) m0 := bin3 (pb := true) (gb := dC (.int 2)) v0 rfl (ixt 2 (by decide) rfl)
  have t0 : dNotT (dTest (dApp (dCons true (dVar 0) (dCons true (dC (.int 3)) dNil)) (callK 2 (den_is_tuple_of mg)))) m0 = .ok false m0 := not_of (b := true) (test_of ((app2_of (gb := dC (.int 3)) v0 rfl).trans (call2 (e_is_tuple_of [a, b, c] 3))))
  have t1 : dNotT (dTest (dApp (dCons true (dBin true (dVar 0) (dC (.int 0)) kIx) dNil) (callK 1 (den_is_name mg)))) m0 = .ok (!nameD a) m0 := not_of (test_of ((app1_of x0).trans (call1 (e_nameD ha))))
  have t2 : dNotT (dTest (dApp (dCons true (dBin true (dVar 0) (dC (.int 1)) kIx) dNil) (callK 1 (den_is_name mg)))) m0 = .ok (!nameD b) m0 := not_of (test_of ((app1_of x1).trans (call1 (e_nameD hb))))
  have tt := or_of t0 (fun _ => or_of t1 (fun _ => t2) fun _ => rfl) fun h => by cases h
  have key : b_is_swap mg m0 = .ok (.rt (.fz (.bl (swB (.tup [a, b, c]))))) m0 := by
    unfold b_is_swap
    by_cases h : nameD a = true ∧ nameD b = true
    · rw [h.1, h.2] at tt
      rw [seq_nx (g1 := dIf _ _ _) (m1 := m0) (by rw [if_of tt]; rfl)]
      refine retV_of ?_
      obtain ⟨za, rfl, na⟩ := nameD_str h.1
      obtain ⟨zb, rfl, nb⟩ := nameD_str h.2
      rw [andV_of (bin3 (pb := true) x0 x1 (neSt _ _ _))]
      have w : ∀ n : String, tyOfS (.fz c) = some n → (isB "int" n && !isB "bool" n) = false → (∀ f, c ≠ .int f) → (if (!za == zb) = true then dAndV (dApp (dCons true (dBin true (dVar 0) (dC (D.int 2)) kIx) dNil) (callK 1 (den_is_whole mg))) (dBin true (dBin true (dVar 0) (dC (D.int 2)) kIx) (dC (D.int 0)) (kV2 pGe)) m0 else Out.ok (EV.v (D.bl false)) m0) = Out.ok (EV.v (D.bl (swB (D.tup [D.str za, D.str zb, c])))) m0 := fun n h1 h2 h3 => by
        rw [swB_ty h3]
        have e := (app1_of (pb := true) x2).trans (call1 (e_is_whole (mg := mg) h1))
        rw [h2] at e
        rw [andV_of e]
        cases (!za == zb) <;> rfl
      cases c with
      | int f =>
        have e := (app1_of (pb := true) x2).trans (call1 (e_is_whole (mg := mg) (d := .int f) (n := "int") rfl))
        rw [andV_of e]
        rw [show (isB "int" "int" && !isB "bool" "int") = true from rfl, if_pos rfl]
        rw [bin3 (pb := true) (gb := dC (.int 0)) x2 rfl (geI f 0)]
        show _ = Out.ok (EV.v (.bl (nameB za && (nameB zb && (!(za == zb) && decide (0 ≤ f)))))) m0
        rw [na, nb]
        cases (!za == zb) <;> rfl
      | fn _ => cases hc
      | scr _ => cases hc
      | non => exact w "NoneType" rfl rfl (fun _ e => by cases e)
      | bl _ => exact w "bool" rfl rfl (fun _ e => by cases e)
      | str _ => exact w "str" rfl rfl (fun _ e => by cases e)
      | tup _ => exact w "tuple" rfl rfl (fun _ e => by cases e)
      | lst _ => exact w "list" rfl rfl (fun _ e => by cases e)
      | dk _ => exact w "dict" rfl rfl (fun _ e => by cases e)
      | dt _ => exact w "dict" rfl rfl (fun _ e => by cases e)
    · have h' : nameD a = false ∨ nameD b = false := by
        cases ea : nameD a
        · exact .inl rfl
        · cases eb : nameD b
          · exact .inr rfl
          · exact absurd ⟨ea, eb⟩ h
      rw [swB_no h']
      have : (false || (!nameD a || !nameD b)) = true := by rcases h' with h' | h' <;> rw [h'] <;> simp
      rw [this] at tt
      refine seq_rt ?_
      rw [if_of tt, if_pos rfl]
      rfl
  exact def_rt (n := 1) (b := b_is_swap mg) (as := [.fz (.tup [a, b, c])]) (pins := []) (m := m0) key
theorem e_swap {d : D} (h : swK d = true) : Rn (den_is_swap mg [.fz d] []) (.fz (.bl (swB d))) [] := by
  have fin : Rn (den_is_tuple_of mg [.fz d, .fz (.int 3)] []) (.fz (.bl false)) [] → swB d = false → Rn (den_is_swap mg [.fz d] []) (.fz (.bl (swB d))) [] := fun t hs => by
    rw [hs]
    let m0 : M := ⟨[some (.sv (.fz d))], []⟩
    have t0 : dNotT (dTest (dApp (dCons true (dVar 0) (dCons true (dC (.int 3)) dNil)) (callK 2 (den_is_tuple_of mg)))) m0 = .ok true m0 := not_of (b := false) (test_of ((app2_of (ga := dVar 0) (x := d) (gb := dC (.int 3)) rfl rfl).trans (call2 t)))
    have tt := or_of (gb := dOrT (dNotT (dTest (dApp (dCons true (dBin true (dVar 0) (dC (.int 0)) kIx) dNil) (callK 1 (den_is_name mg))))) (dNotT (dTest (dApp (dCons true (dBin true (dVar 0) (dC (.int 1)) kIx) dNil) (callK 1 (den_is_name mg)))))) (b := true) t0 (fun h => by cases h) fun _ => rfl
    have key : b_is_swap mg m0 = .ok (.rt (.fz (.bl false))) m0 := by
      unfold b_is_swap
      refine seq_rt ?_
      rw [if_of tt]
      rfl
    exact def_rt (n := 1) (b := b_is_swap mg) (as := [.fz d]) (pins := []) (m := m0) key
  cases d with
  | fn _ => cases h
  | scr _ => cases h
  | int i => exact fin (e_not_tuple (n := "int") rfl rfl 3) rfl
  | non => exact fin (e_not_tuple (n := "NoneType") rfl rfl 3) rfl
  | bl _ => exact fin (e_not_tuple (n := "bool") rfl rfl 3) rfl
  | str _ => exact fin (e_not_tuple (n := "str") rfl rfl 3) rfl
  | lst _ => exact fin (e_not_tuple (n := "list") rfl rfl 3) rfl
  | dk _ => exact fin (e_not_tuple (n := "dict") rfl rfl 3) rfl
  | dt _ => exact fin (e_not_tuple (n := "dict") rfl rfl 3) rfl
  | tup ds =>
    have len : ds.length ≠ 3 → Rn (den_is_swap mg [.fz (.tup ds)] []) (.fz (.bl (swB (.tup ds)))) [] := fun hl => by
      refine fin ?_ ?_
      · have := e_is_tuple_of (mg := mg) ds 3
        rw [decide_eq_false (by omega)] at this
        exact this
      · unfold swB
        split
        · rename_i e; cases e; exact absurd rfl hl
        · rfl
    match ds, h, len with
    | [a, b, c], h, _ =>
      simp only [swK, List.all_cons, List.all_nil, Bool.and_true, Bool.and_eq_true] at h
      exact e_swap3 h.1 h.2.1 h.2.2
    | [], _, len => exact len (by decide)
    | [_], _, len => exact len (by simp)
    | [_, _], _, len => exact len (by simp)
    | _ :: _ :: _ :: _ :: _, _, len => exact len (by simp)
end K31
namespace K31
open PySem PySem.Spec PyProof.Rows L2 PD
variable {mg : Str → Option Value}
abbrev Row := KQ.Rw N7
def rowT (r : Row) : D := .tup [.str (nm r.1), .str (nm r.2.1), .int r.2.2]
abbrev rowsD (rows : List Row) : D := .tup (rows.map rowT)
def OkR (r : Row) : Prop := r.1 ≠ r.2.1 ∧ 0 ≤ r.2.2
theorem swB_row {r : Row} (h : OkR r) : swB (rowT r) = true := by
  have n1 := (name_nm r.1).1
  have n2 := (name_nm r.2.1).1
  show (nameB (nm r.1) && (nameB (nm r.2.1) && (!(nm r.1 == nm r.2.1) && decide (0 ≤ r.2.2)))) = true
  rw [n1, n2]
  have : (nm r.1 == nm r.2.1) = false := beq_eq_false_iff_ne.mpr fun e => h.1 (nm_inj _ _ e)
  rw [this, decide_eq_true h.2]
  rfl
theorem tyK_nm (i : N7) : tyK (.str (nm i)) = true := by
  have := (name_nm i).2
  have hb : bigLen = 1000000 := rfl
  show (true && decide ((nm i).length ≤ bigLen)) = true
  rw [decide_eq_true (by omega)]
  rfl
theorem swK_row (r : Row) : swK (rowT r) = true := by
  show [D.str (nm r.1), .str (nm r.2.1), .int r.2.2].all tyK = true
  simp only [List.all_cons, List.all_nil, tyK_nm]
  rfl
def ordB (rows : List Row) : Bool := (rows.zip rows.tail).all fun p => decide (code p.1.1 p.1.2.1 < code p.2.1 p.2.2.1)
theorem cut_from {α : Type} (l : List α) (k : Nat) : PD.cutD l (some (k : Int)) none = l.drop k := by
  unfold PD.cutD
  rw [HT.sIx_nat, HT.sIx_none]
  by_cases h : k ≤ l.length
  · rw [Nat.min_eq_left h, List.take_of_length_le (by rw [List.length_drop]; omega)]
  · rw [Nat.min_eq_right (by omega), List.drop_of_length_le (Nat.le_refl _), List.drop_of_length_le (by omega), List.take_nil]
theorem slFrom {pl ph : Bool} {ga : M → Out EV} {m : M} {ds : List D} {k : Nat} (h : ga m = .ok (.v (.tup ds)) m) : dSl pl ph ga (dPart (dC (.int k))) dNoPart m = .ok (.v (.tup (ds.drop k))) m := by
  unfold dSl
  rw [opd_of h, bind_ok]
  rw [part_of (g := dC (.int k)) (m := m) (i := k) rfl]
  show (if stable (pl && ph) (EV.v (.tup ds)) = true then Out.ok (EV.v (.tup (PD.cutD ds (some (k : Int)) none))) m else .bad) = _
  rw [if_pos (show stable (pl && ph) (EV.v (.tup ds)) = true from rfl), cut_from]
theorem slTo {pl ph : Bool} {ga : M → Out EV} {m : M} {ds : List D} {k : Nat} (h : ga m = .ok (.v (.tup ds)) m) : dSl pl ph ga dNoPart (dPart (dC (.int k))) m = .ok (.v (.tup (ds.take k))) m := by
  unfold dSl
  rw [opd_of h, bind_ok]
  show ((dPart (dC (.int k)) m).bind fun h m3 => if stable (pl && ph) (EV.v (.tup ds)) = true then Out.ok (EV.v (.tup (PD.cutD ds none h))) m3 else .bad) = _
  rw [part_of (g := dC (.int k)) (m := m) (i := k) rfl]
  show (if stable (pl && ph) (EV.v (.tup ds)) = true then Out.ok (EV.v (.tup (PD.cutD ds none (some (k : Int))))) m else .bad) = _
  rw [if_pos (show stable (pl && ph) (EV.v (.tup ds)) = true from rfl), cut_take]
theorem lt2 (m : M) (a b c d : N7) : kV2 pLt m (.v (.tup [.str (nm a), .str (nm b)])) (.v (.tup [.str (nm c), .str (nm d)])) = .ok (.v (.bl (decide (code a b < code c d)))) m := by
  have e : bin2 (pOrd PySem.W.dataLt) (.fz (.tup [.str (nm a), .str (nm b)])) (.fz (.tup [.str (nm c), .str (nm d)])) = some (.v (.bl (decide (code a b < code c d)))) := by
    show pOrd PySem.W.dataLt (.tuple [.str (nm a), .str (nm b)]) (.tuple [.str (nm c), .str (nm d)]) = _
    unfold pOrd
    rw [if_pos ⟨rfl, rfl, by unfold dMin; simp [PyData.depth, PyData.depthAll]⟩, lt_nm]
  have e2 : pLt (.fz (.tup [.str (nm a), .str (nm b)])) (.fz (.tup [.str (nm c), .str (nm d)])) = some (.v (.bl (decide (code a b < code c d)))) := by
    show orOp _ _ _ _ = _
    unfold orOp
    show bin2 (pOrd PySem.W.dataLt) _ _ = _
    exact e
  rw [s_kv2, e2]
def arM (d : D) (a b c : Option Sl) : M := ⟨[some (.sv (.fz d)), a, b, c], []⟩
theorem pAll_map {α : Type} (f : α → Bool) (l : List α) (m : M) : kVN pAll m [.v (.lst (l.map fun x => .bl (f x)))] = .ok (.v (.bl (l.all f))) m := by
  have e : pAll [.fz (.lst (l.map fun x => .bl (f x)))] = some (.v (.bl (l.all f))) := by
    show ((boolsD (l.map fun x => D.bl (f x))).map fun bs => EV.v (.bl (bs.all id))) = _
    rw [bools_map]
    show some (EV.v (.bl ((l.map f).all id))) = _
    rw [List.all_map]
    rfl
  show (match pAll [.fz (.lst (l.map fun x => .bl (f x)))] with
    | some ev => Out.ok ev m
    | none => .bad) = _
  rw [e]
theorem ar_each {ds : List D} (h : ds.all swK = true) (hl : ds.length ≤ bigLen) : dApp (dCons true (dComp (dISeq (dVar 0)) [1] (bName 1) (fun m => .ok true m) (dApp (dCons true (dVar 1) dNil) (callK 1 (den_is_swap mg)))) dNil) (kVN pAll) (arM (.tup ds) none none none) = .ok (.v (.bl (ds.all swB))) (arM (.tup ds) none none none) := by
  have c := comp_allm (gi := dISeq (dVar 0)) (vs := [1]) (b := bName 1) (ge := dApp (dCons true (dVar 1) dNil) (callK 1 (den_is_swap mg))) (m0 := arM (.tup ds) none none none) (m := arM (.tup ds) none none none) (l := ds) (fun d => d) (fun d => .fz (.bl (swB d))) (by
      rw [List.map_id']
      exact iseq_of (g := dVar 0) (ev := .v (.tup ds)) (d := .tup ds) rfl rfl rfl) hl rfl rfl fun d hd =>
    ⟨arM (.tup ds) (some (.sv (.fz d))) none none, .v (.bl (swB d)), arM (.tup ds) (some (.sv (.fz d))) none none, _, rfl, (app1_of (ga := dVar 1) (d := d) rfl).trans (call1 (e_swap (List.all_eq_true.mp h d hd))), rfl, rfl⟩
  rw [appF_of c, frz_fm (fun d => D.bl (swB d))]
  exact pAll_map swB ds _
theorem zipD_rows : ∀ xs ys : List Row, zipD (xs.map rowT) (ys.map rowT) = (xs.zip ys).map fun p => .tup [rowT p.1, rowT p.2]
  | [], ys => by cases ys <;> rfl
  | x :: xs, [] => rfl
  | x :: xs, y :: ys => by
    have := zipD_rows xs ys
    unfold zipD at this ⊢
    simp only [List.map_cons, List.zip_cons_cons, this]
theorem ar_ord (rows : List Row) (hl : rows.length ≤ bigLen) : dApp (dCons true (dComp (dZip (dCons true (dVar 0) (dCons true (dSl true true (dVar 0) (dPart (dC (.int 1))) dNoPart) dNil))) [2, 3] (bTup 2 (bCons (bName 2) (bCons (bName 3) bNil))) (fun m => .ok true m) (dBin true (dSl true true (dVar 2) dNoPart (dPart (dC (.int 2)))) (dSl true true (dVar 3) dNoPart (dPart (dC (.int 2)))) (kV2 pLt))) dNil) (kVN pAll) (arM (rowsD rows) none none none) = .ok (.v (.bl (ordB rows))) (arM (rowsD rows) none none none) := by
  have z : dZip (dCons true (dVar 0) (dCons true (dSl true true (dVar 0) (dPart (dC (.int 1))) dNoPart) dNil)) (arM (rowsD rows) none none none) = .ok ⟨(rows.zip rows.tail).map fun p => .tup [rowT p.1, rowT p.2], always⟩ (arM (rowsD rows) none none none) := by
    have e := cons_of (pb := true) (opd_of (g := dVar 0) (m := arM (rowsD rows) none none none) (x := .v (rowsD rows)) rfl) (cons_of (pb := true) (opd_of (slFrom (pl := true) (ph := true) (ga := dVar 0) (m := arM (rowsD rows) none none none) (ds := rows.map rowT) (k := 1) rfl)) (nil_of _))
    unfold dZip
    show (Out.bind _ _) = _
    rw [show dCons true (dVar 0) (dCons true (dSl true true (dVar 0) (dPart (dC (.int 1))) dNoPart) dNil) (arM (rowsD rows) none none none) = _ from e]
    show Out.ok (Wk.mk (zipD (rows.map rowT) ((rows.map rowT).drop 1)) _) _ = _
    rw [← List.map_drop, zipD_rows, List.drop_one]
  have c := comp_allm (gi := dZip (dCons true (dVar 0) (dCons true (dSl true true (dVar 0) (dPart (dC (.int 1))) dNoPart) dNil))) (vs := [2, 3]) (b := bTup 2 (bCons (bName 2) (bCons (bName 3) bNil))) (ge := dBin true (dSl true true (dVar 2) dNoPart (dPart (dC (.int 2)))) (dSl true true (dVar 3) dNoPart (dPart (dC (.int 2)))) (kV2 pLt)) (fun p : Row × Row => D.tup [rowT p.1, rowT p.2]) (fun p => .fz (.bl (decide (code p.1.1 p.1.2.1 < code p.2.1 p.2.2.1)))) z (by rw [List.length_zip]; omega) rfl rfl fun p hp =>
    ⟨arM (rowsD rows) none (some (.sv (.fz (rowT p.1)))) (some (.sv (.fz (rowT p.2)))), .v (.bl (decide (code p.1.1 p.1.2.1 < code p.2.1 p.2.2.1))), arM (rowsD rows) none (some (.sv (.fz (rowT p.1)))) (some (.sv (.fz (rowT p.2)))), _, rfl, bin3 (pb := true) (slTo (ga := dVar 2) (ds := [.str (nm p.1.1), .str (nm p.1.2.1), .int p.1.2.2]) (k := 2) rfl) (slTo (ga := dVar 3) (ds := [.str (nm p.2.1), .str (nm p.2.2.1), .int p.2.2.2]) (k := 2) rfl) (lt2 _ _ _ _ _), rfl, rfl⟩
  rw [appF_of c, frz_fm (fun p : Row × Row => D.bl (decide (code p.1.1 p.1.2.1 < code p.2.1 p.2.2.1)))]
  exact pAll_map _ _ _
theorem ar_ty {m0 : M} {d : D} {n : String} (h : dVar 0 m0 = .ok (.v d) m0) (ht : tyOfS (.fz d) = some n) : dNotT (dTest (dUn (dVar 0) (kV1 (pIsi "tuple")))) m0 = .ok (!isB "tuple" n) m0 := not_of (test_of ((un_of h).trans (isi_of m0 ht)))
theorem e_are {ds : List D} (h : ds.all swK = true) (hl : ds.length ≤ bigLen) (hb : ds.all swB = false) : Rn (den_are_swaps mg [.fz (.tup ds)] []) (.fz (.bl false)) [] := by
  let m0 := arM (.tup ds) none none none
  have t1 := ar_ty (m0 := m0) (d := .tup ds) (n := "tuple") rfl rfl
  have t2 := not_of (test_of (ar_each (mg := mg) h hl))
  rw [hb] at t2
  have tt := or_of t1 (fun _ => t2) fun h => by cases h
  have key : b_are_swaps mg m0 = .ok (.rt (.fz (.bl false))) m0 := by
    unfold b_are_swaps
    refine seq_rt ?_
    rw [if_of tt]
    rfl
  exact def_rt (n := 4) (b := b_are_swaps mg) (as := [.fz (.tup ds)]) (pins := []) (m := m0) key
theorem e_are_no {d : D} {n : String} (ht : tyOfS (.fz d) = some n) (hn : isB "tuple" n = false) : Rn (den_are_swaps mg [.fz d] []) (.fz (.bl false)) [] := by
  let m0 := arM d none none none
  have t1 := ar_ty (m0 := m0) (d := d) (n := n) rfl ht
  rw [hn] at t1
  have tt := or_of (gb := dNotT (dTest (dApp (dCons true (dComp (dISeq (dVar 0)) [1] (bName 1) (fun m => .ok true m) (dApp (dCons true (dVar 1) dNil) (callK 1 (den_is_swap mg)))) dNil) (kVN pAll)))) (b := true) t1 (fun h => by cases h) fun _ => rfl
  have key : b_are_swaps mg m0 = .ok (.rt (.fz (.bl false))) m0 := by
    unfold b_are_swaps
    refine seq_rt ?_
    rw [if_of tt]
    rfl
  exact def_rt (n := 4) (b := b_are_swaps mg) (as := [.fz d]) (pins := []) (m := m0) key
theorem all_row {rows : List Row} (h : ∀ r ∈ rows, OkR r) : (rows.map rowT).all swK = true ∧ (rows.map rowT).all swB = true := by
  rw [List.all_eq_true, List.all_eq_true]
  refine ⟨fun d hd => ?_, fun d hd => ?_⟩ <;> obtain ⟨r, hr, rfl⟩ := List.mem_map.mp hd
  · exact swK_row r
  · exact swB_row (h r hr)
theorem e_are_rows {rows : List Row} (h : ∀ r ∈ rows, OkR r) (hl : rows.length ≤ bigLen) : Rn (den_are_swaps mg [.fz (rowsD rows)] []) (.fz (.bl (ordB rows))) [] := by
  let m0 := arM (rowsD rows) none none none
  have t1 := ar_ty (m0 := m0) (d := rowsD rows) (n := "tuple") rfl rfl
  obtain ⟨a1, a2⟩ := all_row h
  have t2 := not_of (test_of (ar_each (mg := mg) a1 (by rw [List.length_map]; exact hl)))
  rw [a2] at t2
  have tt := or_of t1 (fun _ => t2) fun h => by cases h
  have key : b_are_swaps mg m0 = .ok (.rt (.fz (.bl (ordB rows)))) m0 := by
    unfold b_are_swaps
    rw [seq_nx (g1 := dIf _ _ _) (m1 := m0) (by rw [if_of tt]; rfl)]
    exact retV_of (ar_ord rows hl)
  exact def_rt (n := 4) (b := b_are_swaps mg) (as := [.fz (rowsD rows)]) (pins := []) (m := m0) key
theorem e_need_swaps {d : D} (h : Rn (den_are_swaps mg [.fz d] []) (.fz (.bl true)) []) : Rn (den_need_swaps mg [.fz d] []) (.fz .non) [] := by
  let m0 : M := ⟨[some (.sv (.fz d))], []⟩
  have t : dNotT (dTest (dApp (dCons true (dVar 0) dNil) (callK 1 (den_are_swaps mg)))) m0 = .ok false m0 := not_of (b := true) (test_of ((app1_of (ga := dVar 0) (m := m0) (d := d) rfl).trans (call1 h)))
  have key : b_need_swaps mg m0 = .ok .nx m0 := by
    unfold b_need_swaps
    rw [if_of t]
    rfl
  exact def_nx (n := 1) (b := b_need_swaps mg) (as := [.fz d]) (pins := []) (m := m0) key
theorem x_need_swaps {d : D} (h : Rn (den_are_swaps mg [.fz d] []) (.fz (.bl false)) []) : RnX (den_need_swaps mg [.fz d] []) "BadSwaps" d [] := by
  let m0 : M := ⟨[some (.sv (.fz d))], []⟩
  have t : dNotT (dTest (dApp (dCons true (dVar 0) dNil) (callK 1 (den_are_swaps mg)))) m0 = .ok true m0 := not_of (b := false) (test_of ((app1_of (ga := dVar 0) (m := m0) (d := d) rfl).trans (call1 h)))
  have key : b_need_swaps mg m0 = .exc "BadSwaps" d m0 := by
    unfold b_need_swaps
    rw [if_of t]
    rfl
  exact def_exc (n := 1) (b := b_need_swaps mg) (as := [.fz d]) (pins := []) (m := m0) key
/-! ### what swap_cost refuses -/
def scM (a b c : D) : M := ⟨[some (.sv (.fz a)), some (.sv (.fz b)), some (.sv (.fz c))], []⟩
theorem x_cost_swaps {a b c : D} (h : Rn (den_are_swaps mg [.fz a] []) (.fz (.bl false)) []) : RnX (den_swap_cost mg [.fz a, .fz b, .fz c] []) "BadSwaps" a [] := by
  have key : b_swap_cost mg (scM a b c) = .exc "BadSwaps" a (scM a b c) := by
    unfold b_swap_cost
    exact seq_exc (dropX_of ((app1_of (ga := dVar 0) (m := scM a b c) (d := a) rfl).trans (callX1 (x_need_swaps h))))
  exact def_exc (n := 3) (b := b_swap_cost mg) (as := [.fz a, .fz b, .fz c]) (pins := []) (m := scM a b c) key
theorem x_cost_give {a b c : D} (h : Rn (den_are_swaps mg [.fz a] []) (.fz (.bl true)) []) (hb : tyK b = true) (nb : nameD b = false) : RnX (den_swap_cost mg [.fz a, .fz b, .fz c] []) "BadKind" b [] := by
  have key : b_swap_cost mg (scM a b c) = .exc "BadKind" b (scM a b c) := by
    unfold b_swap_cost
    rw [seq_nx (drop_of ((app1_of (ga := dVar 0) (m := scM a b c) (d := a) rfl).trans (call1 (e_need_swaps h))))]
    exact seq_exc (dropX_of ((app1_of (ga := dVar 1) (m := scM a b c) (d := b) rfl).trans (callX1 (x_need_kind hb nb))))
  exact def_exc (n := 3) (b := b_swap_cost mg) (as := [.fz a, .fz b, .fz c]) (pins := []) (m := scM a b c) key
theorem x_cost_get {a b c : D} (h : Rn (den_are_swaps mg [.fz a] []) (.fz (.bl true)) []) (hb : tyK b = true) (nb : nameD b = true) (hc : tyK c = true) (nc : nameD c = false) : RnX (den_swap_cost mg [.fz a, .fz b, .fz c] []) "BadKind" c [] := by
  have key : b_swap_cost mg (scM a b c) = .exc "BadKind" c (scM a b c) := by
    unfold b_swap_cost
    rw [seq_nx (drop_of ((app1_of (ga := dVar 0) (m := scM a b c) (d := a) rfl).trans (call1 (e_need_swaps h))))]
    rw [seq_nx (drop_of ((app1_of (ga := dVar 1) (m := scM a b c) (d := b) rfl).trans (call1 (e_need_kind hb nb))))]
    exact seq_exc (dropX_of ((app1_of (ga := dVar 2) (m := scM a b c) (d := c) rfl).trans (callX1 (x_need_kind hc nc))))
  exact def_exc (n := 3) (b := b_swap_cost mg) (as := [.fz a, .fz b, .fz c]) (pins := []) (m := scM a b c) key
end K31
namespace K31
open PySem PySem.Spec PyProof.Rows L2 PD
variable {mg : Str → Option Value}
/-! ### the deck -/
def dkS (cells : List Int) (mixed turn : Int) : SV := .ok [(.inr "left", intsS cells), (.inr "mixed", .fz (.int mixed)), (.inr "draws", .fz (.int turn))]
theorem z_cm : (("left" : Str) = "mixed") = False := eq_false (by decide)
theorem z_ct : (("left" : Str) = "draws") = False := eq_false (by decide)
theorem z_mt : (("mixed" : Str) = "draws") = False := eq_false (by decide)
theorem zk_cells (m : M) (o : Ow) {c : List Int} {x t : Int} (h : get m o = some (dkS c x t)) : kIx m (.br o []) (.v (.str "left")) = .ok (.br o [.k (.inr "left")]) m := by
  have e : stepIx (dkS c x t) (.fz (.str "left")) = some (intsS c, .k (.inr "left")) := by
    unfold dkS stepIx
    simp [dlook, PD.keyOf, keyD, dctK, look_cons]
  have v : PD.view m (.br o []) = some (dkS c x t) := by simp [PD.view, h, PD.sub]
  unfold kIx
  rw [v]
  simp only [PD.view, e]
  rfl
theorem zk_mixed (m : M) (o : Ow) {c : List Int} {x t : Int} (h : get m o = some (dkS c x t)) : kIx m (.br o []) (.v (.str "mixed")) = .ok (.v (.int x)) m := by
  have e : stepIx (dkS c x t) (.fz (.str "mixed")) = some (.fz (.int x), .k (.inr "mixed")) := by
    unfold dkS stepIx
    simp [dlook, PD.keyOf, keyD, dctK, look_cons, z_cm]
  have v : PD.view m (.br o []) = some (dkS c x t) := by simp [PD.view, h, PD.sub]
  unfold kIx
  rw [v]
  simp only [PD.view, e]
theorem zk_turn (m : M) (o : Ow) {c : List Int} {x t : Int} (h : get m o = some (dkS c x t)) : kIx m (.br o []) (.v (.str "draws")) = .ok (.v (.int t)) m := by
  have e : stepIx (dkS c x t) (.fz (.str "draws")) = some (.fz (.int t), .k (.inr "draws")) := by
    unfold dkS stepIx
    simp [dlook, PD.keyOf, keyD, dctK, look_cons, z_ct, z_mt]
  have v : PD.view m (.br o []) = some (dkS c x t) := by simp [PD.view, h, PD.sub]
  unfold kIx
  rw [v]
  simp only [PD.view, e]
theorem zk_sub (c : List Int) (x t : Int) : PD.sub (dkS c x t) [.k (.inr "left")] = some (intsS c) := by
  unfold dkS
  simp [PD.sub, look_cons]
theorem zk_put (c c' : List Int) (x t : Int) : PD.put (dkS c x t) [.k (.inr "left")] (intsS c') = dkS c' x t := by
  unfold dkS
  simp [PD.put, look_cons, repl, z_cm, z_ct]
def Dk (k : Nat) (s : SV) : Prop := ∃ c x t, s = dkS c x t ∧ c.length ≤ 63 ∧ 0 ≤ t ∧ t ≤ k
theorem Dk.up {k j : Nat} {s : SV} (h : Dk k s) (e : k ≤ j) : Dk j s := by
  obtain ⟨c, x, t, a, b, c', d⟩ := h
  exact ⟨c, x, t, a, b, c', by omega⟩
def dm (b : Int) (v x : Option Sl) (c : List Int) (i t : Int) : M := ⟨[some (.pa 0), some (.sv (.fz (.int b))), v, x], [dkS c i t]⟩
theorem zk_setT (c : List Int) (x t t' : Int) : fSet (dkS c x t) [.fz (.str "draws"), .fz (.int t')] = some (dkS c x t', .non) := by
  unfold dkS fSet
  simp [PD.keyOf, keyD, isFz, bigLen, putG, z_ct, z_mt]
theorem vcells (b : Int) (v x : Option Sl) (c : List Int) (i t : Int) : dBin true (dVar 0) (dC (.str "left")) kIx (dm b v x c i t) = .ok (.br (.p 0) [.k (.inr "left")]) (dm b v x c i t) :=
  binP (o := .p 0) (p := []) (ga := dVar 0) (gb := dC (.str "left")) rfl rfl (zk_cells _ _ rfl)
theorem vmixed (b : Int) (v x : Option Sl) (c : List Int) (i t : Int) : dBin true (dVar 0) (dC (.str "mixed")) kIx (dm b v x c i t) = .ok (.v (.int i)) (dm b v x c i t) :=
  binP (o := .p 0) (p := []) (ga := dVar 0) (gb := dC (.str "mixed")) rfl rfl (zk_mixed _ _ rfl)
theorem vturn (b : Int) (v x : Option Sl) (c : List Int) (i t : Int) : dBin true (dVar 0) (dC (.str "draws")) kIx (dm b v x c i t) = .ok (.v (.int t)) (dm b v x c i t) :=
  binP (o := .p 0) (p := []) (ga := dVar 0) (gb := dC (.str "draws")) rfl rfl (zk_turn _ _ rfl)
theorem dr_turn (b : Int) (v x : Option Sl) (c : List Int) (i t : Int) : dAsg (dBin true (dBin true (dVar 0) (dC (.str "draws")) kIx) (dC (.int 1)) (kV2 pPlus)) (bSubA (dVar 0) (dC (.str "draws"))) (dm b v x c i t) = .ok .nx (dm b v x c i (t + 1)) := by
  have e := bin3 (pb := true) (k := kV2 pPlus) (gb := dC (.int 1)) (vturn b v x c i t) rfl (plusI t 1)
  unfold dAsg
  rw [e]
  have o1 : opd (dVar 0) (dm b v x c i t) = .ok (.br (.p 0) []) (dm b v x c i t) := rfl
  have o2 : opd (dC (.str "draws")) (dm b v x c i t) = .ok (.v (.str "draws")) (dm b v x c i t) := rfl
  have g : get (dm b v x c i t) (.p 0) = some (dkS c i t) := rfl
  simp only [Out.bind, bSubA, ownE, o1, o2, PD.view, kMut, g, PD.sub, zk_setT, PD.put]
  rfl
theorem dr_pop (b : Int) (v x : Option Sl) (c : List Int) (i t : Int) (h : c ≠ []) : ∃ d, dMt "list" true (dBin true (dVar 0) (dC (.str "left")) kIx) dNil fPop (dm b v x c i t) = .ok (.v (.int d)) (dm b v x (c.eraseIdx (c.length - 1)) i t) := by
  have hl : c.length - 1 < c.length := by
    have := List.length_pos_iff.mpr h
    omega
  refine ⟨c[c.length - 1], ?_⟩
  have g : get (dm b v x c i t) (.p 0) = some (dkS c i t) := rfl
  have it : isTy (dm b v x c i t) (.br (.p 0) [.k (.inr "left")]) "list" = true := by
    simp only [isTy, PD.view, g, zk_sub]
    rfl
  have fp : fPop (intsS c) [] = some (intsS (c.eraseIdx (c.length - 1)), .int c[c.length - 1]) := by
    have q := fPop_ol (xs := c.map fun i => .fz (.int i)) (d := .int c[c.length - 1]) (by rw [List.length_map, List.getElem?_map, List.getElem?_eq_getElem hl]; rfl)
    rw [List.length_map, erase_map] at q
    exact q
  unfold dMt
  rw [vcells]
  simp only [Out.bind, it, nofr, s_stc, Bool.and_self, if_true, dNil, evD, List.map_nil, kMut, g, zk_sub, fp, zk_put]
  rfl
theorem dr_push (b : Int) (v x : Option Sl) (c : List Int) (i t w : Int) {ga : M → Out EV} (h : ga (dm b v x c i t) = .ok (.v (.int w)) (dm b v x c i t)) (hc : c.length ≤ 63) :
    dDrop (dMt1 "list" true (dBin true (dVar 0) (dC (.str "left")) kIx) ga fAppend) (dm b v x c i t) = .ok .nx (dm b v x (c ++ [w]) i t) := by
  have g : get (dm b v x c i t) (.p 0) = some (dkS c i t) := rfl
  have it : isTy (dm b v x c i t) (.br (.p 0) [.k (.inr "left")]) "list" = true := by
    simp only [isTy, PD.view, g, zk_sub]
    rfl
  have fp : fAppend (intsS c) [.fz (.int w)] = some (intsS (c ++ [w]), .non) := by
    unfold intsS fAppend
    have : (c.map fun i => SV.fz (.int i)).length < bigLen := by rw [List.length_map]; have : bigLen = 1000000 := rfl; omega
    simp only [this, if_true]
    simp
  unfold dDrop dMt1
  rw [vcells]
  simp only [Out.bind, it, nofr, s_stc, Bool.and_self, if_true, h, ownE, kMut, g, zk_sub, fp, zk_put]
  rfl
def mx2 (a b : Int) : Int := if a < b then b else a
/-- the end of a draw -/
theorem dr_end (b : Int) (hb : 0 < b) (v : Int) (x : Option Sl) (c : List Int) (i t : Int) (ht : 0 ≤ t ∧ t < 2 ^ 60) : ∃ r v', 0 ≤ r ∧ r < b ∧
    (dSeq (dAsg (dBin true (dApp (dCons true (dBin true (dBin true (dVar 2) (dC (.int 40692)) (kV2 pMul)) (dC (.int 21493)) (kV2 pPlus)) dNil) (kVN pInt)) (dC (.int 2147483563)) (kV2 pMod)) (bName 2))
 (dSeq (dAsg (dBin true (dApp (dCons true (dBin true (dBin true (dBin true (dVar 2) (dVar 2) (kV2 pMul)) (dBin true (dC (.int 52774)) (dBin true (dVar 0) (dC (.str "draws")) kIx) (kV2 pMul)) (kV2 pPlus)) (dC (.int 5)) (kV2 pPlus)) dNil) (kVN pInt)) (dC (.int 2147483399)) (kV2 pMod)) (bName 2))
 (dRet (dBin true (dApp (dCons true (dBin true (dBin true (dApp (dCons true (dBin true (dVar 2) (dC (.int 40014)) (kV2 pMul)) dNil) (kVN pInt)) (dC (.int 2147483563)) (kV2 pMod)) (dC (.int 64)) (kV2 pDiv)) dNil) (kVN pInt)) (dVar 1) (kV2 pMod))))) (dm b (some (.sv (.fz (.int v)))) x c i t) = .ok (.rt (.fz (.int r))) (dm b v' x c i t) := by
  have a1 := bin3 (pb := true) (k := kV2 pMul) (ga := dVar 2) (gb := dC (.int 40692)) (m := dm b (some (.sv (.fz (.int v)))) x c i t) (x := .int v) rfl rfl (mulI (cmulR (by decide)))
  have a2 := bin3 (pb := true) (k := kV2 pPlus) (gb := dC (.int 21493)) a1 rfl (plusI _ _)
  have a3 := (app1_of (pb := true) (k := kVN pInt) a2).trans (int_of _ _)
  have a7 := bin3 (pb := true) (k := kV2 pMod) (gb := dC (.int 2147483563)) a3 rfl (modI (by decide))
  have r7 := emod_rng (v * 40692 + 21493) (j := 2147483563) (by decide)
  generalize (v * 40692 + 21493) % 2147483563 = y at a7 r7
  have b1 := bin3 (pb := true) (k := kV2 pMul) (ga := dVar 2) (gb := dVar 2) (m := dm b (some (.sv (.fz (.int y)))) x c i t) (x := .int y) rfl rfl (mulI (cmulL (by omega)))
  have b2 := bin3 (pb := true) (k := kV2 pMul) (ga := dC (.int 52774)) (x := .int 52774) (m := dm b (some (.sv (.fz (.int y)))) x c i t) rfl (vturn b (some (.sv (.fz (.int y)))) x c i t) (mulI (cmulL (by decide)))
  have b3 := bin3 (pb := true) (k := kV2 pPlus) b1 b2 (plusI _ _)
  have b4 := bin3 (pb := true) (k := kV2 pPlus) (gb := dC (.int 5)) b3 rfl (plusI _ _)
  have b4' := (app1_of (pb := true) (k := kVN pInt) b4).trans (int_of _ _)
  have b5 := bin3 (pb := true) (k := kV2 pMod) (gb := dC (.int 2147483399)) b4' rfl (modI (by decide))
  generalize (y * y + 52774 * t + 5) % 2147483399 = z at b5
  have c1 := bin3 (pb := true) (k := kV2 pMul) (ga := dVar 2) (gb := dC (.int 40014)) (m := dm b (some (.sv (.fz (.int z)))) x c i t) (x := .int z) rfl rfl (mulI (cmulR (by decide)))
  have c1' := (app1_of (pb := true) (k := kVN pInt) c1).trans (int_of _ _)
  have c2 := bin3 (pb := true) (k := kV2 pMod) (gb := dC (.int 2147483563)) c1' rfl (modI (by decide))
  have c3 := bin3 (pb := true) (k := kV2 pDiv) (gb := dC (.int 64)) c2 rfl (divI ⟨by decide, by decide⟩)
  have c3' := (app1_of (pb := true) (k := kVN pInt) c3).trans (int_of _ _)
  have c4 := bin3 (pb := true) (k := kV2 pMod) (gb := dVar 1) (y := .int b) c3' rfl (modI hb)
  have rr := emod_rng (z * 40014 % 2147483563 / 64) hb
  refine ⟨_, some (.sv (.fz (.int z))), rr.1, rr.2, ?_⟩
  rw [seq_nx (asgV_of a7)]
  rw [show ({ (dm b (some (.sv (.fz (.int v)))) x c i t) with sl := (dm b (some (.sv (.fz (.int v)))) x c i t).sl.set 2 (some (.sv (.fz (.int y)))) } : M) = dm b (some (.sv (.fz (.int y)))) x c i t from rfl]
  rw [seq_nx (asgV_of b5)]
  rw [show ({ (dm b (some (.sv (.fz (.int y)))) x c i t) with sl := (dm b (some (.sv (.fz (.int y)))) x c i t).sl.set 2 (some (.sv (.fz (.int z)))) } : M) = dm b (some (.sv (.fz (.int z)))) x c i t from rfl]
  exact retV_of c4
theorem e_draw (c : List Int) (i t b : Int) (hc : c.length ≤ 63) (ht : 0 ≤ t ∧ t < 2 ^ 59) (hb : 0 < b ∧ b < 2 ^ 29) : ∃ c' r, c'.length ≤ 63 ∧ 0 ≤ r ∧ r < b ∧ Rn (den__law_draw mg [.pin 0, .fz (.int b)] [dkS c i t]) (.fz (.int r)) [dkS c' i (t + 1)] := by
  have key : ∃ c' r v x, c'.length ≤ 63 ∧ 0 ≤ r ∧ r < b ∧ b__law_draw mg (dm b none none c i t) = .ok (.rt (.fz (.int r))) (dm b v x c' i (t + 1)) := by
    unfold b__law_draw
    rw [seq_nx (dr_turn b none none c i t)]
    have s1 := bin3 (pb := true) (k := kV2 pMul) (ga := dC (.int 69621)) (x := .int 69621) (m := dm b none none c i (t + 1)) rfl (vturn b none none c i (t + 1)) (mulI (cmulL (by decide)))
    have s2 := bin3 (pb := true) (k := kV2 pPlus) (vmixed b none none c i (t + 1)) s1 (plusI _ _)
    rw [seq_nx (asgV_of s2)]
    generalize i + 69621 * (t + 1) = n0
    rw [show ({ (dm b none none c i (t + 1)) with sl := (dm b none none c i (t + 1)).sl.set 2 (some (.sv (.fz (.int n0)))) } : M) = dm b (some (.sv (.fz (.int n0)))) none c i (t + 1) from rfl]
    have tst : dTest (dBin true (dBin true (dVar 0) (dC (.str "left")) kIx) (dApp dNil kLst0) (kV2 (bin2 pNe))) (dm b (some (.sv (.fz (.int n0)))) none c i (t + 1)) = .ok (!(c.map PyData.int).isEmpty) (dm b (some (.sv (.fz (.int n0)))) none c i (t + 1)) := test_of (by
      have o1 := opd_of (vcells b (some (.sv (.fz (.int n0)))) none c i (t + 1))
      have o2 : opd (dApp dNil kLst0) (dm b (some (.sv (.fz (.int n0)))) none c i (t + 1)) = .ok (.v (.lst [])) (dm b (some (.sv (.fz (.int n0)))) none c i (t + 1)) := rfl
      have g : PD.view (dm b (some (.sv (.fz (.int n0)))) none c i (t + 1)) (.br (.p 0) [.k (.inr "left")]) = some (intsS c) := zk_sub c i (t + 1)
      unfold dBin
      rw [show (opd (fun m => (opd (dVar 0) m).bind fun x m1 => (opd (dC (.str "left")) m1).bind fun y m2 => if stable true x = true then kIx m2 x y else .bad)) = opd (dBin true (dVar 0) (dC (.str "left")) kIx) from rfl, o1]
      simp only [Out.bind]
      rw [o2]
      simp only [s_stc, if_true]
      unfold kV2
      rw [g]
      simp only [PD.view, ne_nil (pyS_ints c)])
    rw [dm] at *
    by_cases h : c = []
    · subst h
      have tst' : dTest (dBin true (dBin true (dVar 0) (dC (.str "left")) kIx) (dApp dNil kLst0) (kV2 (bin2 pNe))) (dm b (some (.sv (.fz (.int n0)))) none [] i (t + 1)) = .ok false (dm b (some (.sv (.fz (.int n0)))) none [] i (t + 1)) := tst
      obtain ⟨r, v', h1, h2, e⟩ := dr_end b hb.1 n0 none [] i (t + 1) (by omega)
      refine ⟨[], r, v', none, by simp, h1, h2, ?_⟩
      show dSeq _ _ (dm b (some (.sv (.fz (.int n0)))) none [] i (t + 1)) = _
      rw [seq_nx (m1 := dm b (some (.sv (.fz (.int n0)))) none [] i (t + 1)) (by rw [if_of tst']; rfl)]
      exact e
    · have tst' : dTest (dBin true (dBin true (dVar 0) (dC (.str "left")) kIx) (dApp dNil kLst0) (kV2 (bin2 pNe))) (dm b (some (.sv (.fz (.int n0)))) none c i (t + 1)) = .ok true (dm b (some (.sv (.fz (.int n0)))) none c i (t + 1)) := by
        have z : (!(c.map PyData.int).isEmpty) = true := by cases c with
          | nil => exact (h rfl).elim
          | cons _ _ => rfl
        rw [z] at tst
        exact tst
      obtain ⟨d, hp⟩ := dr_pop b (some (.sv (.fz (.int n0)))) none c i (t + 1) h
      have hl : (c.eraseIdx (c.length - 1)).length ≤ 62 := by
        have := List.length_pos_iff.mpr h
        rw [List.length_eraseIdx_of_lt (by omega)]
        omega
      generalize c.eraseIdx (c.length - 1) = c1 at hp hl
      let mm : M := dm b (some (.sv (.fz (.int n0)))) (some (.sv (.fz (.int d)))) c1 i (t + 1)
      have g1 := bin3 (pb := true) (k := kV2 pPow) (ga := dC (.int 10)) (gb := dC (.int 18)) (m := mm) (x := .int 10) (y := .int 18) rfl rfl (powI (by decide))
      have g2 := test_of (bin3 (pb := true) (k := kV2 pGe) (ga := dVar 3) (m := mm) (x := .int d) rfl g1 (geI _ _))
      by_cases hv : (10 : Int) ^ (18 : Int).toNat ≤ d
      · rw [decide_eq_true hv] at g2
        have p1 : dApp (dCons true (dC (.int 2)) (dCons true (dVar 1) dNil)) (kVN pMax2) mm = .ok (.v (.int (mx2 2 b))) mm := (app2_of (ga := dC (.int 2)) (gb := dVar 1) (x := .int 2) (y := .int b) rfl rfl).trans rfl
        have mb : CDiv d (mx2 2 b) := by
          unfold mx2
          split
          · exact ⟨by omega, by omega⟩
          · exact ⟨by decide, by decide⟩
        have p2 := bin3 (pb := true) (k := kV2 pDiv) (ga := dVar 3) (m := mm) (x := .int d) rfl p1 (divI mb)
        have p3 := dr_push b (some (.sv (.fz (.int n0)))) (some (.sv (.fz (.int d)))) c1 i (t + 1) _ p2 (by omega)
        have p5 : dApp (dCons true (dVar 3) dNil) (kVN pInt) (dm b (some (.sv (.fz (.int n0)))) (some (.sv (.fz (.int d)))) (c1 ++ [d / mx2 2 b]) i (t + 1)) = .ok (.v (.int d)) _ := (app1_of (ga := dVar 3) (d := .int d) rfl).trans (int_of _ _)
        have p4 := bin3 (pb := true) (k := kV2 pMod) (gb := dVar 1) (y := .int b) p5 rfl (modI hb.1)
        have rr := emod_rng d hb.1
        refine ⟨c1 ++ [d / mx2 2 b], d % b, some (.sv (.fz (.int n0))), some (.sv (.fz (.int d))), by rw [List.length_append]; simp; omega, rr.1, rr.2, ?_⟩
        show dSeq _ _ (dm b (some (.sv (.fz (.int n0)))) none c i (t + 1)) = _
        refine seq_rt ?_
        rw [if_of tst', if_pos rfl, seq_nx (asgV_of hp)]
        show dSeq _ _ mm = _
        refine seq_rt ?_
        rw [if_of g2, if_pos rfl, seq_nx p3]
        exact retV_of p4
      · rw [decide_eq_false hv] at g2
        have p0 : dApp (dCons true (dVar 3) dNil) (kVN pInt) mm = .ok (.v (.int d)) mm := (app1_of (ga := dVar 3) (d := .int d) rfl).trans (int_of _ _)
        have p00 := bin3 (pb := true) (k := kV2 pMod) (gb := dC (.int 2147483629)) p0 rfl (modI (by decide))
        have p1 := bin3 (pb := true) (k := kV2 pPlus) (ga := dVar 2) (m := mm) (x := .int n0) rfl p00 (plusI _ _)
        obtain ⟨r, v', h1, h2, e⟩ := dr_end b hb.1 (n0 + d % 2147483629) (some (.sv (.fz (.int d)))) c1 i (t + 1) (by omega)
        refine ⟨c1, r, v', some (.sv (.fz (.int d))), by omega, h1, h2, ?_⟩
        show dSeq _ _ (dm b (some (.sv (.fz (.int n0)))) none c i (t + 1)) = _
        rw [seq_nx (m1 := dm b (some (.sv (.fz (.int (n0 + d % 2147483629))))) (some (.sv (.fz (.int d)))) c1 i (t + 1)) (by
          rw [if_of tst', if_pos rfl, seq_nx (asgV_of hp)]
          show dSeq _ _ mm = _
          rw [seq_nx (m1 := mm) (by rw [if_of g2]; rfl)]
          rw [asgV_of p1]
          rfl)]
        exact e
  obtain ⟨c', r, v, x, h1, h2, h3, e⟩ := key
  exact ⟨c', r, h1, h2, h3, def_rt (n := 4) (b := b__law_draw mg) (as := [.pin 0, .fz (.int b)]) (pins := [dkS c i t]) (m := dm b v x c' i (t + 1)) e⟩
theorem Dk.draw {k : Nat} {s : SV} (h : Dk k s) (hk : k < 2 ^ 58) {b : Int} (hb : 0 < b ∧ b < 2 ^ 29) : ∃ s' r, Dk (k + 1) s' ∧ 0 ≤ r ∧ r < b ∧ Rn (den__law_draw mg [.pin 0, .fz (.int b)] [s]) (.fz (.int r)) [s'] := by
  obtain ⟨c, i, t, rfl, hc, h0, h1⟩ := h
  obtain ⟨c', r, a1, a2, a3, e⟩ := e_draw (mg := mg) c i t b hc (by omega) hb
  exact ⟨_, r, ⟨c', i, t + 1, rfl, a1, by omega, by omega⟩, a2, a3, e⟩
theorem draw_call {p q : Bool} {a : Nat} {o : Ow} {gb : M → Out EV} {m : M} {k : Nat} {s : SV} {b : Int} (hv : dVar a m = .ok (.br o []) m) (hg : get m o = some s) (h : Dk k s) (hk : k < 2 ^ 58) (hb : 0 < b ∧ b < 2 ^ 29) (hgb : gb m = .ok (.v (.int b)) m) :
    ∃ s' r, Dk (k + 1) s' ∧ 0 ≤ r ∧ r < b ∧ dApp (dCons p (dVar a) (dCons q gb dNil)) (callK 2 (den__law_draw mg)) m = .ok (.v (.int r)) (setO m o s') := by
  obtain ⟨s', r, h1, h2, h3, e⟩ := h.draw (mg := mg) hk hb
  refine ⟨s', r, h1, h2, h3, ?_⟩
  have c := app_of (k := callK 2 (den__law_draw mg)) (cons_of (pb := p) (opd_of hv) (cons_of (pb := q) (opd_of hgb) (nil_of m)))
  rw [c]
  exact call_p (ds := [.int b]) rfl hg e
def pm (s : SV) (items : List D) : M := ⟨[some (.pa 0), some (.sv (.fz (.lst items)))], [s]⟩
theorem e_pick {k : Nat} {s : SV} (h : Dk k s) (hk : k < 2 ^ 58) {items : List D} (hi : items ≠ []) (hl : items.length < 2 ^ 29) : ∃ s' d, d ∈ items ∧ Dk (k + 1) s' ∧ Rn (den__law_pick mg [.pin 0, .fz (.lst items)] [s]) (.fz d) [s'] := by
  have hp := List.length_pos_iff.mpr hi
  have len : dApp (dCons true (dVar 1) dNil) (kVN pLen) (pm s items) = .ok (.v (.int items.length)) (pm s items) := (app1_of (ga := dVar 1) (d := .lst items) rfl).trans rfl
  obtain ⟨s', r, h1, h2, h3, e⟩ := draw_call (mg := mg) (p := true) (q := true) (a := 0) (o := .p 0) (m := pm s items) (s := s) (b := items.length) rfl rfl h hk (by omega) len
  have hr : r.toNat < items.length := by omega
  refine ⟨s', items[r.toNat], List.getElem_mem hr, h1, ?_⟩
  have key : b__law_pick mg (pm s items) = .ok (.rt (.fz items[r.toNat])) (pm s' items) := by
    unfold b__law_pick
    exact retV_of (bin3 (pb := false) (ga := dVar 1) (m := pm s items) (x := .lst items) rfl e (ix_lst h2 (List.getElem?_eq_getElem hr)))
  exact def_rt (n := 2) (b := b__law_pick mg) (as := [.pin 0, .fz (.lst items)]) (pins := [s]) (m := pm s' items) key
theorem pick_call {p q : Bool} {a : Nat} {o : Ow} {gl : M → Out EV} {m : M} {k : Nat} {s : SV} {items : List D} (hv : dVar a m = .ok (.br o []) m) (hg : get m o = some s) (h : Dk k s) (hk : k < 2 ^ 58) (hi : items ≠ []) (hl : items.length < 2 ^ 29) (hgb : opd gl m = .ok (.v (.lst items)) m) :
    ∃ s' d, d ∈ items ∧ Dk (k + 1) s' ∧ dApp (dCons p (dVar a) (dCons q gl dNil)) (callK 2 (den__law_pick mg)) m = .ok (.v d) (setO m o s') := by
  obtain ⟨s', d, h1, h2, e⟩ := e_pick (mg := mg) h hk hi hl
  refine ⟨s', d, h1, h2, ?_⟩
  have c := app_of (k := callK 2 (den__law_pick mg)) (cons_of (pb := p) (opd_of hv) (cons_of (pb := q) hgb (nil_of m)))
  rw [c]
  exact call_p (ds := [.lst items]) rfl hg e
end K31
namespace K31
open PySem PySem.Spec PyProof.Rows L2 PD
variable {mg : Str → Option Value}
/-! ### _law_deck -/
theorem unF_of {ga : M → Out EV} {k : M → EV → Out EV} {m m1 : M} {s : SV} (h : ga m = .ok (.fr s) m1) : dUn ga k m = k m1 (.v (frz s)) := by
  unfold dUn opd; rw [h]; rfl
def bgM (ns : List Int) (mk : Int) (x : Option Sl) (v : Option Sl) : M := ⟨[some (.sv (.fz (.scr ns))), some (.sv (.fz (.int mk))), x, v], []⟩
theorem e_deck (ns : List Int) (mk : Int) (hs : -(2 ^ 60) < mk ∧ mk < 2 ^ 60) : ∃ s, Dk 0 s ∧ Rn (den__law_deck mg [.fz (.scr ns), .fz (.int mk)] []) s [] := by
  let cs := ns.take 63
  have hc : cs.length ≤ 63 := by rw [List.length_take]; omega
  have hb : bigLen = 1000000 := rfl
  have e1 : ∀ m : M, dVar 0 m = .ok (.v (.scr ns)) m → dSl true true (dVar 0) dNoPart (dPart (dC (.int 63))) m = .ok (.fr (intsS cs)) m := fun m h =>
    sl_of (x := .v (.scr ns)) (s := .fz (.scr ns)) (opd_of h) rfl (by
      show some (EV.fr (.ol ((PD.cutD ns none (some ((63 : Nat) : Int))).map fun i => .fz (.int i)))) = _
      rw [cut_take]
      rfl)
  have e2 : ∀ m : M, dVar 0 m = .ok (.v (.scr ns)) m → dISeq (dSl true true (dVar 0) dNoPart (dPart (dC (.int 63)))) m = .ok ⟨cs.map D.int, always⟩ m := fun m h => by
    refine iseq_of (e1 m h) (d := .lst (cs.map D.int)) ?_ rfl
    show Out.ok (frz (intsS cs)) m = _
    rw [show frz (intsS cs) = .lst (cs.map D.int) from frz_fm (fun i => D.int i) cs]
  obtain ⟨m', e5, x, v, hx, hv, rfl⟩ := for_map (gi := dISeq (dSl true true (dVar 0) dNoPart (dPart (dC (.int 63))))) (tg := bName 3) (gb := dAsg (dBin true (dApp (dCons true (dBin true (dBin true (dBin true (dVar 2) (dC (.int 48271)) (kV2 pMul)) (dBin true (dApp (dCons true (dVar 3) dNil) (kVN pInt)) (dC (.int 2147483629)) (kV2 pMod)) (kV2 pPlus)) (dC (.int 137)) (kV2 pPlus)) dNil) (kVN pInt)) (dC (.int 2147483587)) (kV2 pMod)) (bName 2)) (fun i : Int => D.int i) (fun (_ : Unit) m => ∃ (x : Int) (v : Option Sl), (-(2 ^ 60) < x ∧ x < 2 ^ 60) ∧ plainSl v = true ∧ m = bgM ns mk (some (.sv (.fz (.int x)))) v) (fun u _ => u) (b := ()) (e2 (bgM ns mk (some (.sv (.fz (.int mk)))) none) rfl) ⟨mk, none, hs, rfl, rfl⟩ fun y _ _ m h => by
    obtain ⟨x, v, hx, _, rfl⟩ := h
    let mm := bgM ns mk (some (.sv (.fz (.int x)))) (some (.sv (.fz (.int y))))
    have a1 := bin3 (pb := true) (k := kV2 pMul) (ga := dVar 2) (gb := dC (.int 48271)) (m := mm) (x := .int x) rfl rfl (mulI (cmulR (by decide)))
    have a0 : dApp (dCons true (dVar 3) dNil) (kVN pInt) mm = .ok (.v (.int y)) mm := (app1_of (ga := dVar 3) (d := .int y) rfl).trans (int_of _ _)
    have a2 := bin3 (pb := true) (k := kV2 pMod) (gb := dC (.int 2147483629)) a0 rfl (modI (by decide))
    have a3 := bin3 (pb := true) (k := kV2 pPlus) a1 a2 (plusI _ _)
    have a4 := bin3 (pb := true) (k := kV2 pPlus) (gb := dC (.int 137)) a3 rfl (plusI _ _)
    have a4' := (app1_of (pb := true) (k := kVN pInt) a4).trans (int_of _ _)
    have a5 := bin3 (pb := true) (k := kV2 pMod) (gb := dC (.int 2147483587)) a4' rfl (modI (by decide))
    have r := emod_rng (x * 48271 + y % 2147483629 + 137) (j := 2147483587) (by decide)
    exact ⟨mm, bgM ns mk (some (.sv (.fz (.int _)))) (some (.sv (.fz (.int y)))), rfl, .inl (asgV_of a5), _, _, ⟨by omega, by omega⟩, rfl, rfl⟩
  let m1 := bgM ns mk (some (.sv (.fz (.int x)))) v
  have cm := comp_allm (gi := dISeq (dSl true true (dVar 0) dNoPart (dPart (dC (.int 63))))) (vs := [3]) (b := bName 3) (ge := dApp (dCons true (dVar 3) dNil) (kVN pInt)) (fun i : Int => D.int i) (fun i => .fz (.int i)) (e2 m1 rfl) (by omega) (by show (plainSl v && true) = true; rw [hv]; rfl) rfl fun y _ =>
    ⟨bgM ns mk (some (.sv (.fz (.int x)))) (some (.sv (.fz (.int y)))), .v (.int y), bgM ns mk (some (.sv (.fz (.int x)))) (some (.sv (.fz (.int y)))), _, rfl, (app1_of (ga := dVar 3) (d := .int y) rfl).trans (int_of _ _), rfl, rfl⟩
  have rv : dUn (dComp (dISeq (dSl true true (dVar 0) dNoPart (dPart (dC (.int 63))))) [3] (bName 3) (fun m => .ok true m) (dApp (dCons true (dVar 3) dNil) (kVN pInt))) (kV1 pRev) m1 = .ok (.fr (intsS cs.reverse)) m1 := by
    rw [unF_of cm, frz_fm (fun i => D.int i)]
    show Out.ok (EV.fr (.ol ((cs.map D.int).reverse.map SV.fz))) _ = _
    unfold intsS
    rw [← List.map_reverse, List.map_map]
    rfl
  refine ⟨dkS cs.reverse x 0, ⟨cs.reverse, x, 0, rfl, by simpa using hc, by omega, by omega⟩, ?_⟩
  have key : b__law_deck mg (bgM ns mk none none) = .ok (.rt (dkS cs.reverse x 0)) m1 := by
    unfold b__law_deck
    rw [seq_nx (asgV_of (g := dVar 1) (d := .int mk) rfl)]
    rw [show ({ (bgM ns mk none none) with sl := (bgM ns mk none none).sl.set 2 (some (.sv (.fz (.int mk)))) } : M) = bgM ns mk (some (.sv (.fz (.int mk)))) none from rfl]
    rw [seq_nx e5]
    refine retF_of (disp_of (pair_of (gk := dC (.str "left")) (ek := .v (.str "left")) rfl rfl rv rfl (pair_of (gk := dC (.str "mixed")) (ek := .v (.str "mixed")) rfl rfl (gv := dVar 2) (ev := .v (.int x)) rfl rfl (pair_of (gk := dC (.str "draws")) (ek := .v (.str "draws")) rfl rfl (gv := dC (.int 0)) (ev := .v (.int 0)) rfl rfl (gr := dPairs0) rfl))) (by show 3 ≤ 15; decide) ?_)
    show ([.inr "left", .inr "mixed", .inr "draws"] : List Key).Nodup
    decide
  exact def_rt (n := 4) (b := b__law_deck mg) (as := [.fz (.scr ns), .fz (.int mk)]) (pins := []) (m := m1) key
/-! ### _law_mixed -/
theorem perm_erase {α : Type} : ∀ (l : List α) (i : Nat) (h : i < l.length), (l[i] :: l.eraseIdx i).Perm l
  | x :: l, 0, _ => .refl _
  | x :: l, i + 1, h => by
    rw [List.eraseIdx_cons_succ, List.getElem_cons_succ]
    exact (List.Perm.swap _ _ _).trans ((perm_erase l i (by simpa using h)).cons x)
def lS (l : List N7) : SV := .ol (l.map fun i => .fz (.str (nm i)))
def nmD (l : List N7) : List D := l.map fun i => .str (nm i)
theorem pyS_nm (l : List N7) : toPyS (lS l) = some (.list (l.map fun i => .str (nm i))) := by
  have e : ∀ l : List N7, toPySL (l.map fun i => SV.fz (.str (nm i))) = some (l.map fun i => .str (nm i)) := fun l => by
    induction l with
    | nil => rfl
    | cons x l ih => rw [List.map_cons, toPySL, ih]; rfl
  unfold lS
  rw [toPyS, e]
  rfl
def mxM (s : SV) (it L F : List N7) : M := ⟨[some (.pa 0), some (.sv (.fz (.lst (nmD it)))), some (.sv (lS L)), some (.sv (lS F))], [s]⟩
theorem sIx {i n : Nat} (h : i < n) : seqIndex? (i : Int) n = some i := by
  unfold seqIndex?
  simp
  omega
theorem pop_at {L : List N7} {r : Nat} (h : r < L.length) (hl : L.length ≤ 100) : fPopAt (lS L) [.fz (.int (r : Nat))] = some (lS (L.eraseIdx r), .str (nm L[r])) := by
  have hb : -(2 ^ 62) ≤ (r : Int) ∧ (r : Int) < 2 ^ 62 := ⟨by omega, by omega⟩
  unfold lS fPopAt
  simp only [if_pos hb, List.length_map, sIx h, List.getElem?_map, List.getElem?_eq_getElem h, Option.map_some]
  rw [erase_map]
theorem mx_test (s : SV) (it L F : List N7) : dTest (dBin true (dVar 2) (dApp dNil kLst0) (kV2 (bin2 pNe))) (mxM s it L F) = .ok (!(L.map fun i => PyData.str (nm i)).isEmpty) (mxM s it L F) := test_of (by
  have o1 : opd (dVar 2) (mxM s it L F) = .ok (.br (.s 2) []) (mxM s it L F) := rfl
  have o2 : opd (dApp dNil kLst0) (mxM s it L F) = .ok (.v (.lst [])) (mxM s it L F) := rfl
  rw [bin_of (pb := true) o1 o2]
  have g : PD.view (mxM s it L F) (.br (.s 2) []) = some (lS L) := rfl
  unfold kV2
  rw [g]
  simp only [PD.view, ne_nil (pyS_nm L)])
theorem mt1_of {T : String} {pb : Bool} {go ga : M → Out EV} {f : SV → List SV → Option (SV × D)} {m m1 : M} {x : EV} {d : D} {r : Out EV} (h : go m = .ok x m) (h1 : isTy m x T = true) (h2 : (nofr x && stable pb x) = true) (h3 : ga m = .ok (.v d) m1) (h4 : kMut f m1 x [.fz d] = r) : dMt1 T pb go ga f m = r := by
  unfold dMt1
  rw [h, bind_ok, h1, h2, show (if (true && true) = true then (ga m).bind fun ev m2 => (ownE m2 ev).bind fun s m3 => kMut f m3 x [s] else Out.bad) = (ga m).bind fun ev m2 => (ownE m2 ev).bind fun s m3 => kMut f m3 x [s] from rfl, h3, bind_ok]
  exact h4
theorem mut_of {f : SV → List SV → Option (SV × D)} {m : M} {o : Ow} {p : List Pth} {r s s' : SV} {d : D} {ss : List SV} (h : get m o = some r) (h1 : PD.sub r p = some s) (h2 : f s ss = some (s', d)) : kMut f m (.br o p) ss = .ok (.v d) (setO m o (put r p s')) := by
  unfold kMut
  simp only [h, h1, h2]
theorem mx_turn {s : SV} {k : Nat} (h : Dk k s) (hk : k < 2 ^ 57) (it L F : List N7) (hL : L ≠ []) (hl : L.length ≤ 100) (hf : F.length ≤ 100) : ∃ (s' : SV) (r : Nat) (hr : r < L.length), Dk (k + 1) s' ∧
    dDrop (dMt1 "list" false (dVar 3) (dMt1 "list" false (dVar 2) (dApp (dCons true (dVar 0) (dCons true (dApp (dCons true (dVar 2) dNil) (kVN pLen)) dNil)) (callK 2 (den__law_draw mg))) fPopAt) fAppend) (mxM s it L F) = .ok .nx (mxM s' it (L.eraseIdx r) (F ++ [L[r]])) := by
  have hp := List.length_pos_iff.mpr hL
  have len : dApp (dCons true (dVar 2) dNil) (kVN pLen) (mxM s it L F) = .ok (.v (.int L.length)) (mxM s it L F) := by
    rw [app1b_of (ga := dVar 2) (m := mxM s it L F) (o := .s 2) (p := []) rfl]
    show Out.ok (EV.v (.int ((L.map fun i => SV.fz (.str (nm i))).length : Nat))) (mxM s it L F) = _
    rw [List.length_map]
  obtain ⟨s', r, h1, h2, h3, e⟩ := draw_call (mg := mg) (p := true) (q := true) (a := 0) (o := .p 0) (m := mxM s it L F) (s := s) (b := L.length) rfl rfl h (by omega) (by omega) len
  obtain ⟨q, rfl⟩ : ∃ q : Nat, r = q := ⟨r.toNat, by omega⟩
  have hq : q < L.length := by omega
  refine ⟨s', q, hq, h1, ?_⟩
  have it2 : isTy (mxM s it L F) (.br (.s 2) []) "list" = true := rfl
  have it3 : isTy (mxM s it L F) (.br (.s 3) []) "list" = true := rfl
  have g2 : get (mxM s' it L F) (.s 2) = some (lS L) := rfl
  have inner : dMt1 "list" false (dVar 2) (dApp (dCons true (dVar 0) (dCons true (dApp (dCons true (dVar 2) dNil) (kVN pLen)) dNil)) (callK 2 (den__law_draw mg))) fPopAt (mxM s it L F) = .ok (.v (.str (nm L[q]))) (mxM s' it (L.eraseIdx q) F) := by
    refine mt1_of (go := dVar 2) (x := .br (.s 2) []) (m1 := mxM s' it L F) (d := .int q) rfl it2 rfl e ?_
    exact mut_of g2 rfl (pop_at hq hl)
  have ap := appendM_of (a := 3) (pb := false) (m := mxM s it L F) (m1 := mxM s' it (L.eraseIdx q) F) (xs := F.map fun i => .fz (.str (nm i))) rfl rfl rfl inner (by rw [List.length_map]; have : bigLen = 1000000 := rfl; omega)
  rw [ap]
  show Out.ok Ctl.nx (⟨[some (.pa 0), some (.sv (.fz (.lst (nmD it)))), some (.sv (lS (L.eraseIdx q))), some (.sv (.ol ((F.map fun i => SV.fz (.str (nm i))) ++ [.fz (.str (nm L[q]))])))], [s']⟩ : M) = _
  unfold mxM
  rw [show lS (F ++ [L[q]]) = .ol ((F.map fun i => SV.fz (.str (nm i))) ++ [.fz (.str (nm L[q]))]) from by unfold lS; rw [List.map_append]; rfl]
theorem mx_loop (it : List N7) : ∀ (j : Nat) (s : SV) (k : Nat) (L F : List N7), L.length = j → Dk k s → k + j < 2 ^ 56 → L.length + F.length ≤ 100 → (F ++ L).Perm it →
    ∃ s' F', Dk (k + j) s' ∧ F'.Perm it ∧ dWhile (dTest (dBin true (dVar 2) (dApp dNil kLst0) (kV2 (bin2 pNe)))) (dDrop (dMt1 "list" false (dVar 3) (dMt1 "list" false (dVar 2) (dApp (dCons true (dVar 0) (dCons true (dApp (dCons true (dVar 2) dNil) (kVN pLen)) dNil)) (callK 2 (den__law_draw mg))) fPopAt) fAppend)) (mxM s it L F) = .ok .nx (mxM s' it [] F')
  | 0, s, k, L, F, hj, h, hk, hl, hp => by
    obtain rfl := List.length_eq_zero_iff.mp hj
    rw [List.append_nil] at hp
    exact ⟨s, F, h, hp, while_end (mx_test s it [] F)⟩
  | j + 1, s, k, L, F, hj, h, hk, hl, hp => by
    have hL : L ≠ [] := fun e => by rw [e] at hj; simp at hj
    obtain ⟨s', r, hr, h1, e⟩ := mx_turn (mg := mg) h (by omega) it L F hL (by omega) (by omega)
    have t := mx_test s it L F
    have z : (!(L.map fun i => PyData.str (nm i)).isEmpty) = true := by cases L with
      | nil => exact (hL rfl).elim
      | cons _ _ => rfl
    rw [z] at t
    have hlen : (L.eraseIdx r).length = j := by rw [List.length_eraseIdx_of_lt hr]; omega
    have pm : (L[r] :: L.eraseIdx r).Perm L := perm_erase L r hr
    have hp2 : (F ++ [L[r]] ++ L.eraseIdx r).Perm it := by
      rw [List.append_assoc]
      exact (List.Perm.append_left F pm).trans hp
    obtain ⟨s2, F', h2, p2, e2⟩ := mx_loop it j s' (k + 1) (L.eraseIdx r) (F ++ [L[r]]) hlen h1 (by omega) (by rw [hlen, List.length_append]; simp; omega) hp2
    refine ⟨s2, F', by rw [show k + (j + 1) = k + 1 + j by omega]; exact h2, p2, ?_⟩
    rw [while_nx t e]
    exact e2
theorem e_mixed {s : SV} {k : Nat} (h : Dk k s) (hk : k < 2 ^ 55) (it : List N7) (hl : it.length ≤ 100) : ∃ s' F', Dk (k + it.length) s' ∧ F'.Perm it ∧ Rn (den__law_mixed mg [.pin 0, .fz (.lst (nmD it))] [s]) (lS F') [s'] := by
  obtain ⟨s', F', h1, h2, e⟩ := mx_loop (mg := mg) it it.length s k it [] rfl h (by omega) (by simpa using hl) (by simp)
  refine ⟨s', F', h1, h2, ?_⟩
  have e0 : dPar [2, 3] (dRaw (dApp (dCons true (dVar 1) dNil) (kVN pList)) (dRaw (dApp dNil kLst0) dRaw0)) ⟨[some (.pa 0), some (.sv (.fz (.lst (nmD it)))), none, none], [s]⟩ = .ok .nx (mxM s it it []) := by
    have a : dApp (dCons true (dVar 1) dNil) (kVN pList) ⟨[some (.pa 0), some (.sv (.fz (.lst (nmD it)))), none, none], [s]⟩ = .ok (.fr (lS it)) ⟨[some (.pa 0), some (.sv (.fz (.lst (nmD it)))), none, none], [s]⟩ := by
      rw [app1_of (ga := dVar 1) (d := .lst (nmD it)) rfl]
      show Out.ok (EV.fr (.ol ((nmD it).map .fz))) _ = _
      unfold nmD lS
      rw [List.map_map]
      rfl
    exact par_of (raw_of a rfl (raw_of (gv := dApp dNil kLst0) (ev := .fr (.ol [])) rfl rfl rfl)) rfl
  have key : b__law_mixed mg ⟨[some (.pa 0), some (.sv (.fz (.lst (nmD it)))), none, none], [s]⟩ = .ok (.rt (lS F')) ⟨[some (.pa 0), some (.sv (.fz (.lst (nmD it)))), some (.sv (lS [])), none], [s']⟩ := by
    unfold b__law_mixed
    rw [seq_nx e0, seq_nx e]
    rfl
  exact def_rt (n := 4) (b := b__law_mixed mg) (as := [.pin 0, .fz (.lst (nmD it))]) (pins := [s]) (m := ⟨[some (.pa 0), some (.sv (.fz (.lst (nmD it)))), some (.sv (lS [])), none], [s']⟩) key
end K31
namespace K31
open PySem PySem.Spec PyProof.Rows L2 PD
variable {mg : Str → Option Value}
/-! ### _law_same: what is the same -/
inductive SmD : Nat → D → Prop
  | int (k : Nat) (i : Int) : SmD (k + 1) (.int i)
  | bl (k : Nat) (b : Bool) : SmD (k + 1) (.bl b)
  | str (k : Nat) (z : Str) : SmD (k + 1) (.str z)
  | non (k : Nat) : SmD (k + 1) .non
  | tup {k : Nat} {ds : List D} : (∀ x ∈ ds, SmD k x) → ds.length ≤ bigLen → SmD (k + 1) (.tup ds)
  | lst {k : Nat} {ds : List D} : (∀ x ∈ ds, SmD k x) → ds.length ≤ bigLen → SmD (k + 1) (.lst ds)
theorem SmD.succ {k : Nat} {d : D} (h : SmD k d) : SmD (k + 1) d := by
  induction h with
  | int k i => exact .int _ i
  | bl k b => exact .bl _ b
  | str k z => exact .str _ z
  | non k => exact .non _
  | tup _ hl ih => exact .tup ih hl
  | lst _ hl ih => exact .lst ih hl
theorem SmD.up {k j : Nat} {d : D} (h : SmD k d) (e : k ≤ j) : SmD j d := by
  induction e with
  | refl => exact h
  | step _ ih => exact ih.succ
def sM (d : D) (a b : Option Sl) : M := ⟨[some (.sv (.fz d)), some (.sv (.fz d)), a, b], []⟩
theorem s_isi {d : D} {n : String} (T : String) (h : tyOfS (.fz d) = some n) : dUn (dVar 0) (kV1 (pIsi T)) (sM d none none) = .ok (.v (.bl (isB T n))) (sM d none none) ∧ dUn (dVar 1) (kV1 (pIsi T)) (sM d none none) = .ok (.v (.bl (isB T n))) (sM d none none) :=
  ⟨(un_of (ga := dVar 0) (m := sM d none none) (x := .v d) rfl).trans (isi_of _ h), (un_of (ga := dVar 1) (m := sM d none none) (x := .v d) rfl).trans (isi_of _ h)⟩
theorem neBl (m : M) (b : Bool) : kV2 (bin2 pNe) m (.v (.bl b)) (.v (.bl b)) = .ok (.v (.bl false)) m := by
  have e : bin2 pNe (.fz (.bl b)) (.fz (.bl b)) = some (.v (.bl false)) := by
    show pNe (.bool b) (.bool b) = _
    unfold pNe
    rw [if_pos (by unfold dMin; simp [PyData.depth])]
    simp [PyData.eqv]
  rw [s_kv2, e]
theorem eqBl (m : M) (b : Bool) : kV2 (bin2 pEq) m (.v (.bl b)) (.v (.bl b)) = .ok (.v (.bl true)) m := by
  have e : bin2 pEq (.fz (.bl b)) (.fz (.bl b)) = some (.v (.bl true)) := by
    show pEq (.bool b) (.bool b) = _
    unfold pEq
    rw [if_pos (by unfold dMin; simp [PyData.depth])]
    simp [PyData.eqv]
  rw [s_kv2, e]
theorem isN_no (m : M) {d : D} (h : d ≠ .non) : kV2 (pIsN false) m (.v d) (.v .non) = .ok (.v (.bl false)) m := by
  cases d <;> first | exact absurd rfl h | rfl
theorem isN_yes (m : M) : kV2 (pIsN false) m (.v .non) (.v .non) = .ok (.v (.bl true)) m := rfl
theorem zip_self (ds : List D) : zipD ds ds = ds.map fun x => .tup [x, x] := by
  unfold zipD
  rw [List.zip_eq_zipWith]
  induction ds with
  | nil => rfl
  | cons x ds ih => simp only [List.zipWith_cons_cons, List.map_cons, ih]
/-- two rows of the same things, one by one -/
theorem same_seq {d : D} {ds : List D} {rc : Den} (hd : (d = .tup ds) ∨ (d = .lst ds)) (hl : ds.length ≤ bigLen) (ih : ∀ x ∈ ds, Rn (rc [.fz x, .fz x] []) (.fz (.bl true)) []) : b__law_same mg rc (sM d none none) = .ok (.rt (.fz (.bl true))) (sM d none none) := by
  obtain ⟨n, hn, tl⟩ : ∃ n, tyOfS (.fz d) = some n ∧ (isB "tuple" n || isB "list" n) = true := by
    rcases hd with rfl | rfl
    · exact ⟨"tuple", rfl, rfl⟩
    · exact ⟨"list", rfl, rfl⟩
  let m0 := sM d none none
  have T := s_isi "tuple" hn
  have L := s_isi "list" hn
  have t1 : dOrT (dTest (dUn (dVar 1) (kV1 (pIsi "tuple")))) (dTest (dUn (dVar 1) (kV1 (pIsi "list")))) m0 = .ok true m0 := by
    have := or_of (test_of T.2) (fun _ => test_of L.2) fun _ => rfl
    rw [tl] at this
    exact this
  have ln : ∀ i, dVar i m0 = .ok (.v d) m0 → dApp (dCons true (dVar i) dNil) (kVN pLen) m0 = .ok (.v (.int ds.length)) m0 := fun i h => by
    rw [app1_of h]
    rcases hd with rfl | rfl <;> rfl
  have t2 : dOrT (dTest (dBin true (dUn (dVar 0) (kV1 (pIsi "tuple"))) (dUn (dVar 1) (kV1 (pIsi "tuple"))) (kV2 (bin2 pNe)))) (dOrT (dTest (dBin true (dUn (dVar 0) (kV1 (pIsi "list"))) (dUn (dVar 1) (kV1 (pIsi "list"))) (kV2 (bin2 pNe)))) (dTest (dBin true (dApp (dCons true (dVar 0) dNil) (kVN pLen)) (dApp (dCons true (dVar 1) dNil) (kVN pLen)) (kV2 (bin2 pNe))))) m0 = .ok (false || (false || !decide ((ds.length : Int) = ds.length))) m0 :=
    or_of (test_of (bin3 T.1 T.2 (neBl _ _))) (fun _ => or_of (test_of (bin3 L.1 L.2 (neBl _ _))) (fun _ => test_of (bin3 (ln 0 rfl) (ln 1 rfl) (neI _ _ _))) fun _ => rfl) fun _ => rfl
  have t2' : (false || (false || !decide ((ds.length : Int) = ds.length))) = false := by simp
  rw [t2'] at t2
  have z : dZip (dCons true (dVar 0) (dCons true (dVar 1) dNil)) m0 = .ok ⟨ds.map fun x => .tup [x, x], always⟩ m0 := by
    have e := cons_of (pb := true) (opd_of (g := dVar 0) (m := m0) (x := .v d) rfl) (cons_of (pb := true) (opd_of (g := dVar 1) (m := m0) (x := .v d) rfl) (nil_of _))
    unfold dZip
    rw [e, ← zip_self ds]
    rcases hd with rfl | rfl <;> rfl
  have c := comp_ifm (gi := dZip (dCons true (dVar 0) (dCons true (dVar 1) dNil))) (vs := [2, 3]) (b := bTup 2 (bCons (bName 2) (bCons (bName 3) bNil))) (gt := dNotT (dTest (dApp (dCons true (dVar 2) (dCons true (dVar 3) dNil)) (callK 2 rc)))) (ge := dC (.int 1)) (fun x : D => D.tup [x, x]) (fun _ => false) (fun _ => .fz (.int 1)) z hl rfl rfl fun x hx =>
    ⟨sM d (some (.sv (.fz x))) (some (.sv (.fz x))), sM d (some (.sv (.fz x))) (some (.sv (.fz x))), rfl, not_of (b := true) (test_of ((app2_of (ga := dVar 2) (gb := dVar 3) (x := x) (y := x) rfl rfl).trans (call2 (ih x hx)))), fun _ => rfl, fun h => by cases h⟩
  have o := ones_eq (p := fun _ : D => false) c
  have al : (ds.all fun _ => !false) = true := by simp
  rw [al] at o
  unfold b__law_same
  refine seq_rt ?_
  rw [if_of t1, if_pos rfl, seq_nx (g1 := dIf _ _ _) (m1 := m0) (by rw [if_of t2]; rfl)]
  exact retV_of o
theorem same_flat {d : D} {n : String} {rc : Den} (hn : tyOfS (.fz d) = some n) (tl : (isB "tuple" n || isB "list" n) = false) (r : (dSeq (dIf (dOrT (dTest (dUn (dVar 1) (kV1 (pIsi "bool")))) (dTest (dUn (dVar 0) (kV1 (pIsi "bool"))))) (dRet (dAndV (dUn (dVar 1) (kV1 (pIsi "bool"))) (dAndV (dUn (dVar 0) (kV1 (pIsi "bool"))) (dBin true (dVar 0) (dVar 1) (kV2 (bin2 pEq))))))
 dSkip)
 (dSeq (dIf (dTest (dUn (dVar 1) (kV1 (pIsi "str")))) (dRet (dAndV (dUn (dVar 0) (kV1 (pIsi "str"))) (dBin true (dVar 0) (dVar 1) (kV2 (bin2 pEq)))))
 dSkip)
 (dSeq (dIf (dOrT (dTest (dBin true (dVar 1) (dC .non) (kV2 (pIsN false)))) (dTest (dUn (dVar 1) (kV1 (pIsi "dict"))))) (dRet (dIfE (dTest (dBin true (dVar 1) (dC .non) (kV2 (pIsN false)))) (dBin true (dVar 0) (dC .non) (kV2 (pIsN false))) (dAndV (dUn (dVar 0) (kV1 (pIsi "dict"))) (dBin true (dVar 0) (dVar 1) (kV2 (bin2 pEq))))))
 dSkip)
 (dRet (dAndV (dApp (dCons true (dVar 0) dNil) (callK 1 (den__law_is_whole mg))) (dBin true (dVar 0) (dVar 1) (kV2 (bin2 pEq)))))))) (sM d none none) = .ok (.rt (.fz (.bl true))) (sM d none none)) : b__law_same mg rc (sM d none none) = .ok (.rt (.fz (.bl true))) (sM d none none) := by
  have T := s_isi "tuple" hn
  have L := s_isi "list" hn
  have t1 : dOrT (dTest (dUn (dVar 1) (kV1 (pIsi "tuple")))) (dTest (dUn (dVar 1) (kV1 (pIsi "list")))) (sM d none none) = .ok false (sM d none none) := by
    have := or_of (test_of T.2) (fun _ => test_of L.2) fun _ => rfl
    rw [tl] at this
    exact this
  unfold b__law_same
  rw [seq_nx (g1 := dIf _ _ _) (m1 := sM d none none) (by rw [if_of t1]; rfl)]
  exact r
theorem e_lis_whole {d : D} {n : String} (h : tyOfS (.fz d) = some n) : Rn (den__law_is_whole mg [.fz d] []) (.fz (.bl (isB "int" n && !isB "bool" n))) [] := by
  let m0 : M := ⟨[some (.sv (.fz d))], []⟩
  have key : b__law_is_whole mg m0 = .ok (.rt (.fz (.bl (isB "int" n && !isB "bool" n)))) m0 := by
    unfold b__law_is_whole
    refine retV_of ?_
    rw [andV_of ((un_of (ga := dVar 0) (m := m0) (x := .v d) rfl).trans (isi_of m0 (T := "int") h)), notV_of ((un_of (ga := dVar 0) (m := m0) (x := .v d) rfl).trans (isi_of m0 (T := "bool") h))]
    cases isB "int" n <;> rfl
  exact def_rt (n := 1) (b := b__law_is_whole mg) (as := [.fz d]) (pins := []) (m := m0) key
theorem e_same : ∀ (k : Nat) (d : D), SmD k d → Rn (den__law_same mg k [.fz d, .fz d] []) (.fz (.bl true)) []
  | 0, d, h => by cases h
  | k + 1, d, h => by
    have v0 : dVar 0 (sM d none none) = .ok (.v d) (sM d none none) := rfl
    have v1 : dVar 1 (sM d none none) = .ok (.v d) (sM d none none) := rfl
    have key : b__law_same mg (den__law_same mg k) (sM d none none) = .ok (.rt (.fz (.bl true))) (sM d none none) := by
      cases h with
      | tup h hl => exact same_seq (.inl rfl) hl fun x hx => e_same k x (h x hx)
      | lst h hl => exact same_seq (.inr rfl) hl fun x hx => e_same k x (h x hx)
      | bl _ b =>
        have B := s_isi "bool" (d := .bl b) (n := "bool") rfl
        refine same_flat (n := "bool") rfl rfl (seq_rt ?_)
        have t := or_of (gb := dTest (dUn (dVar 0) (kV1 (pIsi "bool")))) (b := true) (test_of B.2) (fun h => by cases h) fun _ => rfl
        rw [if_of t]
        refine retV_of ?_
        rw [andV_of B.2]
        show dAndV _ _ _ = _
        rw [andV_of B.1]
        exact bin3 (pb := true) v0 v1 (eqBl _ _)
      | str _ z =>
        have B := s_isi "bool" (d := .str z) (n := "str") rfl
        have S := s_isi "str" (d := .str z) (n := "str") rfl
        have t := or_of (test_of B.2) (fun _ => test_of B.1) fun _ => rfl
        refine same_flat (n := "str") rfl rfl ?_
        rw [seq_nx (g1 := dIf _ _ _) (m1 := sM (.str z) none none) (by rw [if_of t]; rfl)]
        refine seq_rt ?_
        rw [if_of (test_of S.2)]
        refine retV_of ?_
        rw [andV_of S.1]
        have := bin3 (pb := true) v0 v1 (eqS (sM (.str z) none none) z z)
        rw [beq_self_eq_true] at this
        exact this
      | non _ =>
        have B := s_isi "bool" (d := .non) (n := "NoneType") rfl
        have S := s_isi "str" (d := .non) (n := "NoneType") rfl
        have t := or_of (test_of B.2) (fun _ => test_of B.1) fun _ => rfl
        refine same_flat (n := "NoneType") rfl rfl ?_
        rw [seq_nx (g1 := dIf _ _ _) (m1 := sM .non none none) (by rw [if_of t]; rfl)]
        rw [seq_nx (g1 := dIf _ _ _) (m1 := sM .non none none) (by rw [if_of (test_of S.2)]; rfl)]
        refine seq_rt ?_
        have i1 := bin3 (pb := true) (gb := dC .non) v1 rfl (isN_yes _)
        have i0 := bin3 (pb := true) (gb := dC .non) v0 rfl (isN_yes _)
        have t3 := or_of (gb := dTest (dUn (dVar 1) (kV1 (pIsi "dict")))) (b := true) (test_of i1) (fun h => by cases h) fun _ => rfl
        rw [if_of t3]
        refine retV_of ?_
        rw [ifeV_of (test_of i1)]
        exact i0
      | int _ i =>
        have B := s_isi "bool" (d := .int i) (n := "int") rfl
        have S := s_isi "str" (d := .int i) (n := "int") rfl
        have Dd := s_isi "dict" (d := .int i) (n := "int") rfl
        have t := or_of (test_of B.2) (fun _ => test_of B.1) fun _ => rfl
        refine same_flat (n := "int") rfl rfl ?_
        rw [seq_nx (g1 := dIf _ _ _) (m1 := sM (.int i) none none) (by rw [if_of t]; rfl)]
        rw [seq_nx (g1 := dIf _ _ _) (m1 := sM (.int i) none none) (by rw [if_of (test_of S.2)]; rfl)]
        have i1 := bin3 (pb := true) (gb := dC .non) v1 rfl (isN_no _ (fun e => by cases e))
        have t3 := or_of (test_of i1) (fun _ => test_of Dd.2) fun _ => rfl
        rw [seq_nx (g1 := dIf _ _ _) (m1 := sM (.int i) none none) (by rw [if_of t3]; rfl)]
        refine retV_of ?_
        rw [andV_of ((app1_of (pb := true) v0).trans (call1 (e_lis_whole (mg := mg) (d := .int i) (n := "int") rfl)))]
        have := bin3 (pb := true) v0 v1 (eqI (sM (.int i) none none) i i)
        rw [decide_eq_true rfl] at this
        exact this
    have e : den__law_same mg (k + 1) = dDef 4 (b__law_same mg (den__law_same mg k)) := rfl
    rw [e]
    exact def_rt (n := 4) (b := b__law_same mg (den__law_same mg k)) (as := [.fz d, .fz d]) (pins := []) (m := sM d none none) key
end K31
namespace K31
open PySem PySem.Spec PyProof.Rows L2 PD
variable {mg : Str → Option Value}
/-! ### dicts whose keys are names -/
section
variable {β : Type}
def dictS (f : β → D) (L : List (N7 × β)) : SV := .ok (L.map fun p => (.inr (nm p.1), .fz (f p.2)))
def dictD (f : β → D) (L : List (N7 × β)) : D := .dk (L.map fun p => (.inr (nm p.1), f p.2))
theorem frz_dict (f : β → D) (L : List (N7 × β)) : frz (dictS f L) = dictD f L := by
  have e : ∀ L : List (N7 × β), frzK (L.map fun p => ((.inr (nm p.1) : Key), SV.fz (f p.2))) = L.map fun p => (.inr (nm p.1), f p.2) := fun L => by
    induction L with
    | nil => rfl
    | cons p L ih => rw [List.map_cons, frzK, ih]; rfl
  unfold dictS dictD
  rw [frz, e]
theorem key_eq (x y : N7) : ((.inr (nm x) : Key) = .inr (nm y)) = (x = y) := propext ⟨fun h => nm_inj _ _ (Sum.inr.inj h), fun h => h ▸ rfl⟩
theorem look_g {γ : Type} (g : β → γ) (x : N7) : ∀ L : List (N7 × β), look (L.map fun p => ((.inr (nm p.1) : Key), g p.2)) (.inr (nm x)) = (look L x).map g
  | [] => rfl
  | (y, c) :: L => by
    rw [List.map_cons, look_cons, look_cons, look_g g x L]
    by_cases h : y = x
    · rw [if_pos h, if_pos (by rw [key_eq]; exact h)]; rfl
    · rw [if_neg h, if_neg (by rw [key_eq]; exact h)]
theorem any_g {γ : Type} (g : β → γ) (x : N7) : ∀ L : List (N7 × β), ((L.map fun p => ((.inr (nm p.1) : Key), g p.2)).any fun kv => decide (kv.1 = .inr (nm x))) = L.any fun kv => decide (kv.1 = x)
  | [] => rfl
  | (y, c) :: L => by
    rw [List.map_cons, List.any_cons, List.any_cons, any_g g x L]
    congr 1
    exact decide_eq_decide.mpr (by rw [key_eq])
theorem put_g {γ : Type} (g : β → γ) (x : N7) (c : β) (L : List (N7 × β)) : putG (L.map fun p => ((.inr (nm p.1) : Key), g p.2)) (.inr (nm x)) (g c) = (putG L x c).map fun p => (.inr (nm p.1), g p.2) := by
  unfold putG
  rw [any_g]
  by_cases h : (L.any fun kv => decide (kv.1 = x)) = true
  · rw [if_pos h, if_pos h, List.map_map, List.map_map]
    refine List.map_congr_left fun p _ => ?_
    show (if (Sum.inr (nm p.1) : Key) = .inr (nm x) then _ else _) = _
    by_cases e : p.1 = x
    · rw [if_pos (by rw [key_eq]; exact e)]
      show _ = (fun p : N7 × β => ((Sum.inr (nm p.1) : Key), g p.2)) (if p.1 = x then (p.1, c) else p)
      rw [if_pos e]
    · rw [if_neg (by rw [key_eq]; exact e)]
      show _ = (fun p : N7 × β => ((Sum.inr (nm p.1) : Key), g p.2)) (if p.1 = x then (p.1, c) else p)
      rw [if_neg e]
  · rw [if_neg h, if_neg h, List.map_append]
    rfl
theorem look_any {x : N7} : ∀ {L : List (N7 × β)}, (L.any fun kv => decide (kv.1 = x)) = true ↔ (look L x).isSome = true
  | [] => by simp [look]
  | (y, c) :: L => by
    rw [List.any_cons, look_cons]
    by_cases h : y = x
    · simp [h]
    · rw [if_neg h, ← look_any (L := L)]; simp [h]
theorem look_app (x y : N7) (c : β) : ∀ L : List (N7 × β), look (L ++ [(x, c)]) y = match look L y with
    | some z => some z
    | none => if x = y then some c else none
  | [] => by rw [List.nil_append, look_cons]; rfl
  | (z, d) :: L => by
    rw [List.cons_append, look_cons, look_cons, look_app x y c L]
    by_cases h : z = y
    · rw [if_pos h, if_pos h]
    · rw [if_neg h, if_neg h]
theorem look_rep (x y : N7) (c : β) : ∀ L : List (N7 × β), look (L.map fun kv => if kv.1 = x then (kv.1, c) else kv) y = (look L y).map fun z => if y = x then c else z
  | [] => rfl
  | (z, d) :: L => by
    rw [List.map_cons]
    by_cases h : z = x
    · rw [if_pos h]
      show look ((z, c) :: _) y = _
      rw [look_cons, look_cons, look_rep x y c L]
      by_cases e : z = y
      · rw [if_pos e, if_pos e, Option.map_some, if_pos (by rw [← e]; exact h)]
      · rw [if_neg e, if_neg e]
    · rw [if_neg h]
      show look ((z, d) :: _) y = _
      rw [look_cons, look_cons, look_rep x y c L]
      by_cases e : z = y
      · rw [if_pos e, if_pos e, Option.map_some, if_neg (by rw [← e]; exact h)]
      · rw [if_neg e, if_neg e]
theorem look_put (x y : N7) (c : β) (L : List (N7 × β)) : look (putG L x c) y = if y = x then some c else look L y := by
  unfold putG
  by_cases h : (L.any fun kv => decide (kv.1 = x)) = true
  · rw [if_pos h, look_rep]
    by_cases e : y = x
    · subst e
      have := look_any.mp h
      cases q : look L y with
      | none => rw [q] at this; cases this
      | some z => simp
    · rw [if_neg e]
      cases look L y <;> simp [e]
  · rw [if_neg h, look_app]
    by_cases e : y = x
    · subst e
      cases q : look L y with
      | none => simp
      | some z => exact absurd (look_any.mpr (by rw [q]; rfl)) h
    · rw [if_neg e]
      have e' : ¬ x = y := fun z => e z.symm
      cases q : look L y with
      | none => simp [e']
      | some z => rfl
theorem nd_put (x : N7) (c : β) (L : List (N7 × β)) (h : (L.map (·.1)).Nodup) : ((putG L x c).map (·.1)).Nodup := by
  unfold putG
  by_cases e : (L.any fun kv => decide (kv.1 = x)) = true
  · rw [if_pos e, List.map_map]
    have : ((fun p : N7 × β => p.1) ∘ fun kv : N7 × β => if kv.1 = x then (kv.1, c) else kv) = fun p => p.1 := by
      funext p
      show (if p.1 = x then (p.1, c) else p).1 = p.1
      split <;> rfl
    rw [this]
    exact h
  · rw [if_neg e, List.map_append]
    refine List.nodup_append.mpr ⟨h, by simp, fun a ha b hb => ?_⟩
    obtain ⟨p, hp, rfl⟩ := List.mem_map.mp ha
    have hb : b = x := by simpa using hb
    rintro rfl
    apply e
    rw [List.any_eq_true]
    exact ⟨p, hp, by simpa using hb⟩
theorem nd_twice {γ : Type} (x : γ) (A B C : List γ) (h : (A ++ x :: B ++ x :: C).Nodup) : False := by
  have := (List.nodup_append.mp h).2.2 x (by simp) x (by simp)
  exact this rfl
theorem nd_len (L : List (N7 × β)) (h : (L.map (·.1)).Nodup) : L.length ≤ 7 := by
  by_cases e : L.length ≤ 7
  · exact e
  · obtain ⟨x, A, B, C, q⟩ := KQ.twice (L.map (·.1)) ([0, 1, 2, 3, 4, 5, 6] : List N7) (fun x _ => (by decide : ∀ x : N7, x ∈ ([0, 1, 2, 3, 4, 5, 6] : List N7)) x) (by rw [List.length_map]; show 7 < _; omega)
    rw [q] at h
    exact (nd_twice x A B C (by simpa using h)).elim
end
section
variable {m : M} {β : Type} {f : β → D} {L : List (N7 × β)}
theorem dl_dict (x : N7) : dlook (dictS f L) (.fz (.str (nm x))) = some ((look L x).map fun c => .fz (f c)) := by
  show some (look (L.map fun p => ((.inr (nm p.1) : Key), SV.fz (f p.2))) (.inr (nm x))) = _
  rw [look_g (fun c => SV.fz (f c))]
theorem dl_dictD (x : N7) : dlook (.fz (dictD f L)) (.fz (.str (nm x))) = some ((look L x).map fun c => .fz (f c)) := by
  show some (look ((L.map fun p => ((.inr (nm p.1) : Key), f p.2)).map fun kv => (kv.1, SV.fz kv.2)) (.inr (nm x))) = _
  rw [List.map_map]
  show some (look (L.map fun p => ((.inr (nm p.1) : Key), SV.fz (f p.2))) (.inr (nm x))) = _
  rw [look_g (fun c => SV.fz (f c))]
theorem in_dict {ga gb : M → Out EV} {o : Ow} {x : N7} (h1 : ga m = .ok (.v (.str (nm x))) m) (h2 : gb m = .ok (.br o []) m) (hg : get m o = some (dictS f L)) : dBin true ga gb (kV2 pInA) m = .ok (.v (.bl (look L x).isSome)) m := by
  rw [bin_of (pb := true) (opd_of h1) (opd_of h2)]
  have e : pInA (.fz (.str (nm x))) (dictS f L) = some (.v (.bl (look L x).isSome)) := by
    show (dlook (dictS f L) (.fz (.str (nm x)))).map (fun o => EV.v (.bl (if false then !o.isSome else o.isSome))) = _
    rw [dl_dict]
    cases look L x <;> rfl
  have v : PD.view m (.br o []) = some (dictS f L) := by simp [PD.view, hg, PD.sub]
  unfold kV2
  rw [v]
  simp only [PD.view, e]
theorem nin_dict {ga gb : M → Out EV} {o : Ow} {x : N7} (h1 : ga m = .ok (.v (.str (nm x))) m) (h2 : gb m = .ok (.br o []) m) (hg : get m o = some (dictS f L)) : dBin true ga gb (kV2 pNotInA) m = .ok (.v (.bl (!(look L x).isSome))) m := by
  rw [bin_of (pb := true) (opd_of h1) (opd_of h2)]
  have e : pNotInA (.fz (.str (nm x))) (dictS f L) = some (.v (.bl (!(look L x).isSome))) := by
    show (dlook (dictS f L) (.fz (.str (nm x)))).map (fun o => EV.v (.bl (if true then !o.isSome else o.isSome))) = _
    rw [dl_dict]
    cases look L x <;> rfl
  have v : PD.view m (.br o []) = some (dictS f L) := by simp [PD.view, hg, PD.sub]
  unfold kV2
  rw [v]
  simp only [PD.view, e]
theorem ix_dict {ga gb : M → Out EV} {o : Ow} {x : N7} {c : β} (h1 : ga m = .ok (.br o []) m) (h2 : gb m = .ok (.v (.str (nm x))) m) (hg : get m o = some (dictS f L)) (hl : look L x = some c) : dBin true ga gb kIx m = .ok (.v (f c)) m := by
  refine binP h1 h2 ?_
  have s : ∃ p, stepIx (dictS f L) (.fz (.str (nm x))) = some (.fz (f c), p) := by
    refine ⟨.k (.inr (nm x)), ?_⟩
    show (match dlook (dictS f L) (.fz (.str (nm x))) with
      | some (some x) => some (x, _)
      | _ => none) = _
    rw [dl_dict, hl]
    rfl
  obtain ⟨p, s⟩ := s
  have v : PD.view m (.br o []) = some (dictS f L) := by simp [PD.view, hg, PD.sub]
  unfold kIx
  rw [v]
  simp only [PD.view, s]
theorem set_dict (x : N7) (c : β) (hl : L.length ≤ 100) : fSet (dictS f L) [.fz (.str (nm x)), .fz (f c)] = some (dictS f (putG L x c), .non) := by
  have hb : bigLen = 1000000 := rfl
  show (if (L.map fun p => ((.inr (nm p.1) : Key), SV.fz (f p.2))).length < bigLen ∧ _ then some (SV.ok (putG (L.map fun p => ((.inr (nm p.1) : Key), SV.fz (f p.2))) (.inr (nm x)) (.fz (f c))), D.non) else none) = _
  rw [if_pos ⟨by rw [List.length_map]; omega, .inl rfl⟩, put_g (fun c => SV.fz (f c))]
  rfl
theorem bsub_of {go gi : M → Out EV} {o : Ow} {k d : D} {s s' : SV} (h1 : go m = .ok (.br o []) m) (h2 : gi m = .ok (.v k) m) (hg : get m o = some s) (hs : fSet s [.fz k, .fz d] = some (s', .non)) : bSubA go gi (.v d) m = .ok () (setO m o s') := by
  unfold bSubA
  rw [show ownE m (.v d) = .ok (.fz d) m from rfl, bind_ok, opd_of h1, bind_ok, opd_of h2, bind_ok]
  show ((kMut fSet m (.br o []) [.fz k, .fz d]).bind fun _ m2 => Out.ok () m2) = _
  rw [kMut_of hg hs, bind_ok]
where
  kMut_of {m : M} {o : Ow} {s s' : SV} {ss : List SV} {d : D} (hg : get m o = some s) (hs : fSet s ss = some (s', d)) : kMut fSet m (.br o []) ss = .ok (.v d) (setO m o s') := by
    unfold kMut
    simp only [hg, PD.sub, hs, PD.put]
theorem asgS_of {g go gi : M → Out EV} {m0 : M} {o : Ow} {k d : D} {s s' : SV} (hv : g m0 = .ok (.v d) m) (h1 : go m = .ok (.br o []) m) (h2 : gi m = .ok (.v k) m) (hg : get m o = some s) (hs : fSet s [.fz k, .fz d] = some (s', .non)) : dAsg g (bSubA go gi) m0 = .ok .nx (setO m o s') := by
  unfold dAsg
  rw [hv, bind_ok, bsub_of h1 h2 hg hs]
theorem get2_of {gd gk gx : M → Out EV} {d : EV} {s : SV} {x : N7} {y : D} (h1 : opd gd m = .ok d m) (hv : PD.view m d = some s) (hd : isDct s = true) (h2 : gk m = .ok (.v (.str (nm x))) m) (h3 : gx m = .ok (.v y) m) (hl : dlook s (.fz (.str (nm x))) = some ((look L x).map fun c => .fz (f c))) : dGet2 gd gk gx m = .ok (.v (((look L x).map f).getD y)) m := by
  unfold dGet2
  rw [h1, bind_ok, hv]
  show (if isDct s = true then _ else _) = _
  rw [hd, if_pos rfl, opd_of h2, bind_ok, opd_of h3, bind_ok]
  show (match dlook s (.fz (.str (nm x))) with
      | some (some (.fz d')) => Out.ok (EV.v d') m
      | some none => .ok (.v y) m
      | _ => .bad) = _
  rw [hl]
  cases look L x <;> rfl
end
end K31
namespace K31
open PySem PySem.Spec PyProof.Rows L2 PD
variable {mg : Str → Option Value}
/-! ### what the turns do to the dicts -/
abbrev LI := List (N7 × Int)
abbrev LN := List (N7 × N7)
def lkF (L : LI) : KQ.G N7 := fun x => look L x
theorem lkF_put (L : LI) (x : N7) (c : Int) : lkF (putG L x c) = KQ.setG (lkF L) x c := by
  funext y
  show look (putG L x c) y = _
  rw [look_put]
  rfl
def ps (S : LI × LN × Bool) (r : Row) : LI × LN × Bool := match look S.1 r.1 with
  | none => S
  | some ca => match look S.1 r.2.1 with
    | none => (putG S.1 r.2.1 (ca + r.2.2), putG S.2.1 r.2.1 r.1, true)
    | some cb => if ca + r.2.2 < cb then (putG S.1 r.2.1 (ca + r.2.2), putG S.2.1 r.2.1 r.1, true) else S
theorem ps_lk (S : LI × LN × Bool) (r : Row) : lkF (ps S r).1 = KQ.stp (lkF S.1) r := by
  unfold ps KQ.stp
  show _ = match look S.1 r.1 with
    | none => lkF S.1
    | some ca => KQ.setG (lkF S.1) r.2.1 (match look S.1 r.2.1 with
      | none => ca + r.2.2
      | some cb => if ca + r.2.2 < cb then ca + r.2.2 else cb)
  cases e1 : look S.1 r.1 with
  | none => rfl
  | some ca =>
    cases e2 : look S.1 r.2.1 with
    | none => exact lkF_put _ _ _
    | some cb =>
      show lkF (if ca + r.2.2 < cb then (putG S.1 r.2.1 (ca + r.2.2), putG S.2.1 r.2.1 r.1, true) else S).1 = KQ.setG (lkF S.1) r.2.1 (if ca + r.2.2 < cb then ca + r.2.2 else cb)
      by_cases h : ca + r.2.2 < cb
      · rw [if_pos h, if_pos h]; exact lkF_put _ _ _
      · rw [if_neg h, if_neg h]
        funext y
        show look S.1 y = if y = r.2.1 then some cb else look S.1 y
        by_cases hy : y = r.2.1
        · rw [if_pos hy, hy, e2]
        · rw [if_neg hy]
/-- a turn that has not changed anything -/
theorem ps_quiet {S : LI × LN × Bool} {r : Row} (h : (ps S r).2.2 = false) : ps S r = S ∧ KQ.Qt (lkF S.1) r := by
  unfold ps at h ⊢
  cases e1 : look S.1 r.1 with
  | none => exact ⟨rfl, fun ca h => by rw [show lkF S.1 r.1 = look S.1 r.1 from rfl, e1] at h; cases h⟩
  | some ca =>
    rw [e1] at h
    cases e2 : look S.1 r.2.1 with
    | none => rw [e2] at h; cases h
    | some cb =>
      rw [e2] at h
      dsimp only at h ⊢
      by_cases q : ca + r.2.2 < cb
      · rw [if_pos q] at h; cases h
      · rw [if_neg q]
        refine ⟨rfl, fun ca' h' => ?_⟩
        rw [show lkF S.1 r.1 = look S.1 r.1 from rfl, e1] at h'
        cases h'
        exact ⟨cb, e2, by omega⟩
theorem ps_qt {S : LI × LN × Bool} {r : Row} (h : KQ.Qt (lkF S.1) r) : ps S r = S := by
  unfold ps
  cases e1 : look S.1 r.1 with
  | none => rfl
  | some ca =>
    obtain ⟨cb, e2, hb⟩ := h ca e1
    rw [show lkF S.1 r.2.1 = look S.1 r.2.1 from rfl] at e2
    rw [e2]
    dsimp only
    rw [if_neg (by omega)]
theorem ps_true {S : LI × LN × Bool} {r : Row} (h : S.2.2 = true) : (ps S r).2.2 = true := by
  unfold ps
  cases look S.1 r.1 with
  | none => exact h
  | some ca => cases look S.1 r.2.1 with
    | none => rfl
    | some cb => dsimp only; split <;> first | rfl | exact h
theorem fold_true : ∀ (rows : List Row) {S : LI × LN × Bool}, S.2.2 = true → (rows.foldl ps S).2.2 = true
  | [], _, h => h
  | r :: rows, _, h => fold_true rows (ps_true h)
theorem fold_lk : ∀ (rows : List Row) (S : LI × LN × Bool), lkF (rows.foldl ps S).1 = rows.foldl KQ.stp (lkF S.1)
  | [], _ => rfl
  | r :: rows, S => by rw [List.foldl_cons, List.foldl_cons, fold_lk rows, ps_lk]
theorem fold_quiet : ∀ (rows : List Row) {S : LI × LN × Bool}, (rows.foldl ps S).2.2 = false → ∀ r ∈ rows, KQ.Qt (lkF S.1) r
  | [], _, _ => fun r hr => by cases hr
  | r :: rows, S, h => by
    have hf : (ps S r).2.2 = false := by
      cases e : (ps S r).2.2 with
      | false => rfl
      | true => rw [List.foldl_cons, fold_true rows e] at h; cases h
    obtain ⟨h1, h2⟩ := ps_quiet hf
    have := fold_quiet rows (S := ps S r) h
    rw [h1] at this
    intro q hq
    rcases List.mem_cons.mp hq with rfl | hq
    · exact h2
    · exact this q hq
theorem fold_qt : ∀ (rows : List Row) {S : LI × LN × Bool}, (∀ r ∈ rows, KQ.Qt (lkF S.1) r) → rows.foldl ps S = S
  | [], _, _ => rfl
  | r :: rows, S, h => by
    rw [List.foldl_cons, ps_qt (h r List.mem_cons_self)]
    exact fold_qt rows fun q hq => h q (List.mem_cons_of_mem _ hq)
def Nd (S : LI × LN × Bool) : Prop := (S.1.map (·.1)).Nodup ∧ (S.2.1.map (·.1)).Nodup
theorem nd_ps {S : LI × LN × Bool} (h : Nd S) (r : Row) : Nd (ps S r) := by
  unfold ps
  cases look S.1 r.1 with
  | none => exact h
  | some ca => cases look S.1 r.2.1 with
    | none => exact ⟨nd_put _ _ _ h.1, nd_put _ _ _ h.2⟩
    | some cb => dsimp only; split <;> first | exact h | exact ⟨nd_put _ _ _ h.1, nd_put _ _ _ h.2⟩
/-! ### costs_from -/
def byD (i : N7) : D := .str (nm i)
def cfM (rows : List Row) (s : N7) (S : LI × LN × Bool) (a b c : Option Sl) : M := ⟨[some (.sv (.fz (rowsD rows))), some (.sv (.fz (.str (nm s)))), some (.sv (dictS D.int S.1)), some (.sv (dictS byD S.2.1)), some (.sv (.fz (.bl S.2.2))), a, b, c], []⟩
abbrev cfTest : M → Out Bool := dAndT (dTest (dBin true (dVar 5) (dVar 2) (kV2 pInA))) (dOrT (dTest (dBin true (dVar 6) (dVar 2) (kV2 pNotInA))) (dTest (dBin true (dBin true (dBin true (dVar 2) (dVar 5) kIx) (dVar 7) (kV2 pPlus)) (dBin true (dVar 2) (dVar 6) kIx) (kV2 pLt))))
abbrev cfDo : M → Out Ctl := dSeq (dAsg (dApp (dCons true (dBin true (dBin true (dVar 2) (dVar 5) kIx) (dVar 7) (kV2 pPlus)) (dCons true (dVar 5) dNil)) PD.kTup) (bTup 2 (bCons (bSubA (dVar 2) (dVar 6)) (bCons (bSubA (dVar 3) (dVar 6)) bNil)))) (dAsg (dC (.bl true)) (bName 4))
theorem tup2_of {go1 gi1 go2 gi2 : M → Out EV} {g : M → Out EV} {m m1 m2 m3 : M} {x y : D} (h : g m = .ok (.v (.tup [x, y])) m1) (h1 : bSubA go1 gi1 (.v x) m1 = .ok () m2) (h2 : bSubA go2 gi2 (.v y) m2 = .ok () m3) : dAsg g (bTup 2 (bCons (bSubA go1 gi1) (bCons (bSubA go2 gi2) bNil))) m = .ok .nx m3 := by
  have e : bTup 2 (bCons (bSubA go1 gi1) (bCons (bSubA go2 gi2) bNil)) (.v (.tup [x, y])) m1 = .ok () m3 := by
    show ((bSubA go1 gi1 (.v x) m1).bind fun _ m => bCons (bSubA go2 gi2) bNil [y] m) = _
    rw [h1, bind_ok]
    show ((bSubA go2 gi2 (.v y) m2).bind fun _ m => bNil [] m) = _
    rw [h2, bind_ok]
    rfl
  unfold dAsg
  rw [h, bind_ok, e]
theorem cf_do (rows : List Row) (s : N7) {S : LI × LN × Bool} (nd : Nd S) (r : Row) {ca : Int} (e1 : look S.1 r.1 = some ca) : cfDo (cfM rows s S (some (.sv (.fz (.str (nm r.1))))) (some (.sv (.fz (.str (nm r.2.1))))) (some (.sv (.fz (.int r.2.2))))) =
    .ok .nx (cfM rows s (putG S.1 r.2.1 (ca + r.2.2), putG S.2.1 r.2.1 r.1, true) (some (.sv (.fz (.str (nm r.1))))) (some (.sv (.fz (.str (nm r.2.1))))) (some (.sv (.fz (.int r.2.2))))) := by
  let mm := cfM rows s S (some (.sv (.fz (.str (nm r.1))))) (some (.sv (.fz (.str (nm r.2.1))))) (some (.sv (.fz (.int r.2.2))))
  have x1 : dBin true (dVar 2) (dVar 5) kIx mm = .ok (.v (.int ca)) mm := ix_dict (f := D.int) (o := .s 2) (x := r.1) rfl rfl rfl e1
  have x2 : dBin true (dBin true (dVar 2) (dVar 5) kIx) (dVar 7) (kV2 pPlus) mm = .ok (.v (.int (ca + r.2.2))) mm := bin3 (pb := true) (gb := dVar 7) x1 rfl (plusI _ _)
  have x3 := t2_of x2 (g2 := dVar 5) (b := .str (nm r.1)) rfl
  have l1 := nd_len S.1 nd.1
  have l2 := nd_len S.2.1 nd.2
  have b1 : bSubA (dVar 2) (dVar 6) (.v (.int (ca + r.2.2))) mm = .ok () _ := bsub_of (m := mm) (o := .s 2) (k := .str (nm r.2.1)) rfl rfl rfl (set_dict (f := D.int) r.2.1 (ca + r.2.2) (by omega))
  have b2 : bSubA (dVar 3) (dVar 6) (.v (.str (nm r.1))) (setO mm (.s 2) (dictS D.int (putG S.1 r.2.1 (ca + r.2.2)))) = .ok () _ := bsub_of (o := .s 3) (k := .str (nm r.2.1)) rfl rfl rfl (set_dict (f := byD) r.2.1 r.1 (by omega))
  show cfDo mm = _
  unfold cfDo
  rw [seq_nx (tup2_of x3 b1 b2)]
  rfl
theorem cf_turn (rows : List Row) (s : N7) {S : LI × LN × Bool} (nd : Nd S) (r : Row) : dIf cfTest cfDo dSkip (cfM rows s S (some (.sv (.fz (.str (nm r.1))))) (some (.sv (.fz (.str (nm r.2.1))))) (some (.sv (.fz (.int r.2.2))))) =
    .ok .nx (cfM rows s (ps S r) (some (.sv (.fz (.str (nm r.1))))) (some (.sv (.fz (.str (nm r.2.1))))) (some (.sv (.fz (.int r.2.2))))) := by
  let mm := cfM rows s S (some (.sv (.fz (.str (nm r.1))))) (some (.sv (.fz (.str (nm r.2.1))))) (some (.sv (.fz (.int r.2.2))))
  have t1 : dTest (dBin true (dVar 5) (dVar 2) (kV2 pInA)) mm = .ok (look S.1 r.1).isSome mm := test_of (in_dict (f := D.int) (o := .s 2) (x := r.1) rfl rfl rfl)
  have t2 : dTest (dBin true (dVar 6) (dVar 2) (kV2 pNotInA)) mm = .ok (!(look S.1 r.2.1).isSome) mm := test_of (nin_dict (f := D.int) (o := .s 2) (x := r.2.1) rfl rfl rfl)
  show dIf cfTest cfDo dSkip mm = _
  have dn := fun ca => cf_do rows s nd r (ca := ca)
  unfold ps
  cases e1 : look S.1 r.1 with
  | none =>
    rw [e1] at t1
    have t : cfTest mm = .ok (false && false) mm := and_of t1 (fun h => by cases h) fun _ => rfl
    rw [if_of t]
    rfl
  | some ca =>
    rw [e1] at t1
    have x1 : dBin true (dVar 2) (dVar 5) kIx mm = .ok (.v (.int ca)) mm := ix_dict (f := D.int) (o := .s 2) (x := r.1) rfl rfl rfl e1
    have x2 : dBin true (dBin true (dVar 2) (dVar 5) kIx) (dVar 7) (kV2 pPlus) mm = .ok (.v (.int (ca + r.2.2))) mm := bin3 (pb := true) (gb := dVar 7) x1 rfl (plusI _ _)
    cases e2 : look S.1 r.2.1 with
    | none =>
      rw [e2] at t2
      have t : cfTest mm = .ok (true && (true || true)) mm := and_of t1 (fun _ => or_of t2 (fun h => by cases h) fun _ => rfl) fun h => by cases h
      rw [if_of t]
      exact dn ca e1
    | some cb =>
      rw [e2] at t2
      have x3 : dBin true (dVar 2) (dVar 6) kIx mm = .ok (.v (.int cb)) mm := ix_dict (f := D.int) (o := .s 2) (x := r.2.1) rfl rfl rfl e2
      have t : cfTest mm = .ok (true && (false || decide (ca + r.2.2 < cb))) mm := and_of t1 (fun _ => or_of t2 (fun _ => test_of (bin3 (pb := true) x2 x3 (ltI _ _))) fun _ => rfl) fun h => by cases h
      rw [if_of t]
      dsimp only
      by_cases h : ca + r.2.2 < cb
      · rw [decide_eq_true h, if_pos h]
        exact dn ca e1
      · rw [decide_eq_false h, if_neg h]
        rfl
def CfR (rows : List Row) (s : N7) (S : LI × LN × Bool) (m : M) : Prop := Nd S ∧ ∃ a b c, m = cfM rows s S a b c
theorem cf_round (rows : List Row) (s : N7) {S : LI × LN × Bool} (nd : Nd S) (a b c : Option Sl) : ∃ m', (dSeq (dAsg (dC (.bl false)) (bName 4))
 (dFor (dISeq (dVar 0)) (bTup 3 (bCons (bName 5) (bCons (bName 6) (bCons (bName 7) bNil)))) (dIf cfTest cfDo dSkip))) (cfM rows s S a b c) = .ok .nx m' ∧ CfR rows s (rows.foldl ps (S.1, S.2.1, false)) m' := by
  have i := iseq_of (g := dVar 0) (m := cfM rows s (S.1, S.2.1, false) a b c) (ev := .v (rowsD rows)) (d := rowsD rows) rfl rfl rfl
  obtain ⟨m', e, h⟩ := for_map (tg := bTup 3 (bCons (bName 5) (bCons (bName 6) (bCons (bName 7) bNil)))) (gb := dIf cfTest cfDo dSkip) (l := rows) (b := (S.1, S.2.1, false)) rowT (CfR rows s) ps i ⟨nd, a, b, c, rfl⟩ fun r hr S m h => by
    obtain ⟨nd, a, b, c, rfl⟩ := h
    exact ⟨cfM rows s S (some (.sv (.fz (.str (nm r.1))))) (some (.sv (.fz (.str (nm r.2.1))))) (some (.sv (.fz (.int r.2.2)))), _, rfl, .inl (cf_turn rows s nd r), nd_ps nd r, _, _, _, rfl⟩
  refine ⟨m', ?_, h⟩
  rw [seq_nx (g1 := dAsg _ _) (m1 := cfM rows s (S.1, S.2.1, false) a b c) rfl]
  exact e
theorem cf_loop (rows : List Row) (P : KQ.Pos rows) (s : N7) : ∀ (j k : Nat) (S : LI × LN × Bool) (m : M), k + j = rows.length + 1 → CfR rows s S m → S.2.2 = true → lkF S.1 = KQ.rds rows k (KQ.g0 s) →
    ∃ m' S', dWhile (dTest (dVar 4)) (dSeq (dAsg (dC (.bl false)) (bName 4))
 (dFor (dISeq (dVar 0)) (bTup 3 (bCons (bName 5) (bCons (bName 6) (bCons (bName 7) bNil)))) (dIf cfTest cfDo dSkip))) m = .ok .nx m' ∧ CfR rows s S' m' ∧ lkF S'.1 = KQ.least rows s := by
  have go : ∀ (S : LI × LN × Bool) (m : M), CfR rows s S m → S.2.2 = true → ∃ m1, dTest (dVar 4) m = .ok true m ∧ (dSeq (dAsg (dC (.bl false)) (bName 4))
 (dFor (dISeq (dVar 0)) (bTup 3 (bCons (bName 5) (bCons (bName 6) (bCons (bName 7) bNil)))) (dIf cfTest cfDo dSkip))) m = .ok .nx m1 ∧ CfR rows s (rows.foldl ps (S.1, S.2.1, false)) m1 := fun S m h hf => by
    obtain ⟨nd, a, b, c, rfl⟩ := h
    obtain ⟨m1, e, h1⟩ := cf_round rows s nd a b c
    refine ⟨m1, test_of (g := dVar 4) ?_, e, h1⟩
    show Out.ok (EV.v (.bl S.2.2)) _ = _
    rw [hf]
  have fin : ∀ (S : LI × LN × Bool) (m : M), CfR rows s S m → S.2.2 = false → dTest (dVar 4) m = .ok false m := fun S m h hf => by
    obtain ⟨nd, a, b, c, rfl⟩ := h
    refine test_of (g := dVar 4) ?_
    show Out.ok (EV.v (.bl S.2.2)) _ = _
    rw [hf]
  intro j
  induction j with
  | zero =>
    intro k S m hk h hf hl
    obtain ⟨m1, t, e, h1⟩ := go S m h hf
    have q := KQ.all_qt P s (k := k) (by omega)
    rw [← hl] at q
    have fx := fold_qt rows (S := (S.1, S.2.1, false)) q
    rw [fx] at h1
    refine ⟨m1, _, (while_nx t e).trans (while_end (fin _ _ h1 rfl)), h1, ?_⟩
    show lkF S.1 = _
    rw [hl, show k = rows.length + 1 by omega]
    rfl
  | succ j ih =>
    intro k S m hk h hf hl
    obtain ⟨m1, t, e, h1⟩ := go S m h hf
    have lk : lkF (rows.foldl ps (S.1, S.2.1, false)).1 = KQ.rds rows (k + 1) (KQ.g0 s) := by
      rw [fold_lk, KQ.rds_succ, ← hl]
      rfl
    cases hc : (rows.foldl ps (S.1, S.2.1, false)).2.2 with
    | false =>
      refine ⟨m1, _, (while_nx t e).trans (while_end (fin _ _ h1 hc)), h1, ?_⟩
      have q := fold_quiet rows hc
      have fx := fold_qt rows (S := (S.1, S.2.1, false)) q
      rw [fx]
      show lkF S.1 = _
      have q : ∀ r ∈ rows, KQ.Qt (lkF S.1) r := q
      rw [hl] at q ⊢
      exact (KQ.least_qt (by omega) q).symm
    | true =>
      obtain ⟨m', S', e', h', l'⟩ := ih (k + 1) _ m1 (by omega) h1 hc lk
      exact ⟨m', S', (while_nx t e).trans e', h', l'⟩
theorem e_costs (rows : List Row) (P : KQ.Pos rows) (s : N7) : ∃ (L : LI) (B : LN), lkF L = KQ.least rows s ∧ Rn (den_costs_from mg [.fz (rowsD rows), .fz (.str (nm s))] []) (.fz (.tup [dictD D.int L, dictD byD B])) [] := by
  let m0 : M := enter 8 [.fz (rowsD rows), .fz (.str (nm s))] []
  let S0 : LI × LN × Bool := ([(s, 0)], [], true)
  have e1 : dPar [2, 3] (dRaw (dDisp (dPairs (dVar 1) (dC (.int 0)) dPairs0)) (dRaw dNewK dRaw0)) m0 = .ok .nx ⟨[some (.sv (.fz (rowsD rows))), some (.sv (.fz (.str (nm s)))), some (.sv (dictS D.int [(s, 0)])), some (.sv (dictS byD [])), none, none, none, none], []⟩ := by
    refine par_of (raw_of (disp_of (pair_of (gk := dVar 1) (ek := .v (.str (nm s))) (k := .inr (nm s)) rfl rfl (gv := dC (.int 0)) (ev := .v (.int 0)) rfl rfl (gr := dPairs0) rfl) (by show 1 ≤ 15; decide) (by simp)) rfl (raw_of (gv := dNewK) (ev := .fr (.ok [])) rfl rfl rfl)) rfl
  have lk0 : lkF S0.1 = KQ.rds rows 0 (KQ.g0 s) := by
    funext y
    show look [(s, (0 : Int))] y = KQ.g0 s y
    rw [look_cons]
    unfold KQ.g0
    by_cases h : s = y
    · rw [if_pos h, if_pos h.symm]
    · rw [if_neg h, if_neg (fun e => h e.symm)]; rfl
  obtain ⟨m', S', e, ⟨nd, a, b, c, rfl⟩, l⟩ := cf_loop rows P s (rows.length + 1) 0 S0 (cfM rows s S0 none none none) (by omega) ⟨⟨by simp [S0], by simp [S0]⟩, none, none, none, rfl⟩ rfl lk0
  refine ⟨S'.1, S'.2.1, l, ?_⟩
  have key : ∃ m', m'.pp = [] ∧ b_costs_from mg m0 = .ok (.rt (.fz (.tup [dictD D.int S'.1, dictD byD S'.2.1]))) m' := by
    refine ⟨⟨[some (.sv (.fz (rowsD rows))), some (.sv (.fz (.str (nm s)))), some (.sv (.fz (dictD D.int S'.1))), some (.sv (.fz (dictD byD S'.2.1))), some (.sv (.fz (.bl S'.2.2))), a, b, c], []⟩, rfl, ?_⟩
    unfold b_costs_from
    rw [seq_nx e1, seq_nx (g1 := dAsg (dC (.bl true)) (bName 4)) (m1 := cfM rows s S0 none none none) rfl, seq_nx e]
    refine retV_of ?_
    have o2 : opd (dVar 2) (cfM rows s S' a b c) = .ok (.br (.s 2) []) (cfM rows s S' a b c) := rfl
    have o3 : opd (dVar 3) (cfM rows s S' a b c) = .ok (.br (.s 3) []) (cfM rows s S' a b c) := rfl
    rw [app_of (cons_of (pb := true) o2 (cons_of (pb := true) o3 (nil_of _)))]
    show Out.ok (EV.v (.tup [frz (dictS D.int S'.1), frz (dictS byD S'.2.1)])) (⟨[some (.sv (.fz (rowsD rows))), some (.sv (.fz (.str (nm s)))), some (.sv (.fz (frz (dictS D.int S'.1)))), some (.sv (.fz (frz (dictS byD S'.2.1)))), some (.sv (.fz (.bl S'.2.2))), a, b, c], []⟩ : M) = _
    rw [frz_dict, frz_dict]
  obtain ⟨m2, hp, e2⟩ := key
  have := def_rt (n := 8) (b := b_costs_from mg) (as := [.fz (rowsD rows), .fz (.str (nm s))]) (pins := []) (m := m2) e2
  rw [hp] at this
  exact this
/-- what a chain of swaps costs; -1: there is none -/
def costV (rows : List Row) (s t : N7) : Int := (KQ.least rows s t).getD (-1)
theorem e_swap_cost (rows : List Row) (hr : ∀ r ∈ rows, OkR r) (ho : ordB rows = true) (hl : rows.length ≤ bigLen) (s t : N7) : Rn (den_swap_cost mg [.fz (rowsD rows), .fz (.str (nm s)), .fz (.str (nm t))] []) (.fz (.int (costV rows s t))) [] := by
  obtain ⟨L, B, l, e⟩ := e_costs (mg := mg) rows (fun r h => (hr r h).2) s
  have ar := e_are_rows (mg := mg) hr hl
  rw [ho] at ar
  let mm := scM (rowsD rows) (.str (nm s)) (.str (nm t))
  have key : b_swap_cost mg mm = .ok (.rt (.fz (.int (costV rows s t)))) mm := by
    unfold b_swap_cost
    rw [seq_nx (drop_of ((app1_of (ga := dVar 0) (m := mm) (d := rowsD rows) rfl).trans (call1 (e_need_swaps ar))))]
    rw [seq_nx (drop_of ((app1_of (ga := dVar 1) (m := mm) (d := .str (nm s)) rfl).trans (call1 (e_need_kind (tyK_nm s) (name_nm s).1))))]
    rw [seq_nx (drop_of ((app1_of (ga := dVar 2) (m := mm) (d := .str (nm t)) rfl).trans (call1 (e_need_kind (tyK_nm t) (name_nm t).1))))]
    refine retV_of ?_
    have c := (app2_of (pa := true) (pb := true) (ga := dVar 0) (gb := dVar 1) (m := mm) (x := rowsD rows) (y := .str (nm s)) rfl rfl).trans (call2 e)
    have x : dBin true (dApp (dCons true (dVar 0) (dCons true (dVar 1) dNil)) (callK 2 (den_costs_from mg))) (dC (.int 0)) kIx mm = .ok (.v (dictD D.int L)) mm := bin3 (pb := true) (gb := dC (.int 0)) c rfl rfl
    have n : dUn (dC (.int 1)) (kV1 pNeg) mm = .ok (.v (.int (-1))) mm := (un_of (ga := dC (.int 1)) (m := mm) (x := .v (.int 1)) rfl).trans (negI 1)
    rw [show dGet2 (dBin true (dApp (dCons true (dVar 0) (dCons true (dVar 1) dNil)) (callK 2 (den_costs_from mg))) (dC (.int 0)) kIx) (dVar 2) (dUn (dC (.int 1)) (kV1 pNeg)) mm = _ from get2_of (f := D.int) (L := L) (s := .fz (dictD D.int L)) (gk := dVar 2) (x := t) (opd_of x) rfl rfl rfl n (dl_dictD t)]
    have : look L t = KQ.least rows s t := congrFun l t
    rw [this]
    unfold costV
    cases KQ.least rows s t <;> rfl
  exact def_rt (n := 3) (b := b_swap_cost mg) (as := [.fz (rowsD rows), .fz (.str (nm s)), .fz (.str (nm t))]) (pins := []) (m := mm) key
end K31
namespace K31
open PySem PySem.Spec PyProof.Rows L2 PD
variable {mg : Str → Option Value}
/-! ### _law_costs -/
def ls (L : LI) (r : Row) : LI := match look L r.1 with
  | none => L
  | some ca => putG L r.2.1 (if ca + r.2.2 < (look L r.2.1).getD (ca + r.2.2) then ca + r.2.2 else (look L r.2.1).getD (ca + r.2.2))
theorem ls_lk (L : LI) (r : Row) : lkF (ls L r) = KQ.stp (lkF L) r := by
  unfold ls KQ.stp
  show _ = match look L r.1 with
    | none => lkF L
    | some ca => KQ.setG (lkF L) r.2.1 (match look L r.2.1 with
      | none => ca + r.2.2
      | some cb => if ca + r.2.2 < cb then ca + r.2.2 else cb)
  cases e1 : look L r.1 with
  | none => rfl
  | some ca =>
    dsimp only
    rw [lkF_put]
    cases e2 : look L r.2.1 with
    | none => simp
    | some cb => rfl
theorem nd_ls {L : LI} (h : (L.map (·.1)).Nodup) (r : Row) : ((ls L r).map (·.1)).Nodup := by
  unfold ls
  cases look L r.1 with
  | none => exact h
  | some ca => exact nd_put _ _ _ h
def lcM (rows : List Row) (s : N7) (L : LI) (t a b c : Option Sl) : M := ⟨[some (.sv (.fz (rowsD rows))), some (.sv (.fz (.str (nm s)))), some (.sv (dictS D.int L)), t, a, b, c], []⟩
abbrev lcDo : M → Out Ctl := dIf (dTest (dBin true (dVar 4) (dVar 2) (kV2 pInA))) (dAsg (dApp (dCons true (dGet2 (dVar 2) (dVar 5) (dBin true (dBin true (dVar 2) (dVar 4) kIx) (dVar 6) (kV2 pPlus))) (dCons true (dBin true (dBin true (dVar 2) (dVar 4) kIx) (dVar 6) (kV2 pPlus)) dNil)) (kVN pMin2)) (bSubA (dVar 2) (dVar 5)))
 dSkip
theorem lc_turn (rows : List Row) (s : N7) {L : LI} (nd : (L.map (·.1)).Nodup) (r : Row) (t : Option Sl) : lcDo (lcM rows s L t (some (.sv (.fz (.str (nm r.1))))) (some (.sv (.fz (.str (nm r.2.1))))) (some (.sv (.fz (.int r.2.2))))) =
    .ok .nx (lcM rows s (ls L r) t (some (.sv (.fz (.str (nm r.1))))) (some (.sv (.fz (.str (nm r.2.1))))) (some (.sv (.fz (.int r.2.2))))) := by
  let mm := lcM rows s L t (some (.sv (.fz (.str (nm r.1))))) (some (.sv (.fz (.str (nm r.2.1))))) (some (.sv (.fz (.int r.2.2))))
  have l1 := nd_len L nd
  have t1 : dTest (dBin true (dVar 4) (dVar 2) (kV2 pInA)) mm = .ok (look L r.1).isSome mm := test_of (in_dict (f := D.int) (o := .s 2) (x := r.1) rfl rfl rfl)
  show lcDo mm = _
  unfold ls
  cases e1 : look L r.1 with
  | none =>
    rw [e1] at t1
    unfold lcDo
    rw [if_of t1]
    rfl
  | some ca =>
    rw [e1] at t1
    have x1 : dBin true (dVar 2) (dVar 4) kIx mm = .ok (.v (.int ca)) mm := ix_dict (f := D.int) (o := .s 2) (x := r.1) rfl rfl rfl e1
    have x2 : dBin true (dBin true (dVar 2) (dVar 4) kIx) (dVar 6) (kV2 pPlus) mm = .ok (.v (.int (ca + r.2.2))) mm := bin3 (pb := true) (gb := dVar 6) x1 rfl (plusI _ _)
    have x3 : dGet2 (dVar 2) (dVar 5) (dBin true (dBin true (dVar 2) (dVar 4) kIx) (dVar 6) (kV2 pPlus)) mm = .ok (.v (((look L r.2.1).map D.int).getD (.int (ca + r.2.2)))) mm := get2_of (f := D.int) (L := L) (gd := dVar 2) (d := .br (.s 2) []) (s := dictS D.int L) (gk := dVar 5) (x := r.2.1) rfl rfl rfl rfl x2 (dl_dict _)
    have e3 : ((look L r.2.1).map D.int).getD (.int (ca + r.2.2)) = .int ((look L r.2.1).getD (ca + r.2.2)) := by cases look L r.2.1 <;> rfl
    rw [e3] at x3
    have x4 : dApp (dCons true (dGet2 (dVar 2) (dVar 5) (dBin true (dBin true (dVar 2) (dVar 4) kIx) (dVar 6) (kV2 pPlus))) (dCons true (dBin true (dBin true (dVar 2) (dVar 4) kIx) (dVar 6) (kV2 pPlus)) dNil)) (kVN pMin2) mm = .ok (.v (.int (if ca + r.2.2 < (look L r.2.1).getD (ca + r.2.2) then ca + r.2.2 else (look L r.2.1).getD (ca + r.2.2)))) mm := (app2_of x3 x2).trans rfl
    unfold lcDo
    rw [if_of t1]
    exact asgS_of x4 (go := dVar 2) (gi := dVar 5) (o := .s 2) (k := .str (nm r.2.1)) rfl rfl rfl (set_dict (f := D.int) r.2.1 _ (by omega))
def LcR (rows : List Row) (s : N7) (L : LI) (m : M) : Prop := (L.map (·.1)).Nodup ∧ ∃ t a b c, m = lcM rows s L t a b c
theorem fold_lk' : ∀ (rows : List Row) (L : LI), lkF (rows.foldl ls L) = rows.foldl KQ.stp (lkF L)
  | [], _ => rfl
  | r :: rows, L => by rw [List.foldl_cons, List.foldl_cons, fold_lk' rows, ls_lk]
theorem lc_round (rows : List Row) (s : N7) {L : LI} (nd : (L.map (·.1)).Nodup) (t a b c : Option Sl) : ∃ m', (dFor (dISeq (dVar 0)) (bTup 3 (bCons (bName 4) (bCons (bName 5) (bCons (bName 6) bNil)))) lcDo) (lcM rows s L t a b c) = .ok .nx m' ∧ LcR rows s (rows.foldl ls L) m' := by
  have i := iseq_of (g := dVar 0) (m := lcM rows s L t a b c) (ev := .v (rowsD rows)) (d := rowsD rows) rfl rfl rfl
  obtain ⟨m', e, h⟩ := for_map (tg := bTup 3 (bCons (bName 4) (bCons (bName 5) (bCons (bName 6) bNil)))) (gb := lcDo) (l := rows) (b := L) rowT (LcR rows s) ls i ⟨nd, t, a, b, c, rfl⟩ fun r hr L m h => by
    obtain ⟨nd, t, a, b, c, rfl⟩ := h
    exact ⟨lcM rows s L t (some (.sv (.fz (.str (nm r.1))))) (some (.sv (.fz (.str (nm r.2.1))))) (some (.sv (.fz (.int r.2.2)))), _, rfl, .inl (lc_turn rows s nd r t), nd_ls nd r, _, _, _, _, rfl⟩
  exact ⟨m', e, h⟩
theorem rng_of {g : M → Out EV} {m : M} {n : Nat} (h : g m = .ok (.v (.int n)) m) (hn : n ≤ bigLen) : dIter (dCons true g dNil) kRange1 m = .ok ⟨(List.range n).map fun i => .int (i : Nat), always⟩ m := by
  have hb : bigLen = 1000000 := rfl
  have h1 : (-(2 ^ 62) ≤ (n : Int) ∧ (n : Int) < 2 ^ 62) := ⟨by omega, by omega⟩
  have e := cons_of (pb := true) (opd_of h) (nil_of m)
  unfold dIter
  rw [e, bind_ok]
  simp only [kRange1, if_pos h1, Int.toNat_natCast]
theorem rounds_rds (rows : List Row) : ∀ (k : Nat) (L : LI), lkF ((List.range k).foldl (fun L _ => rows.foldl ls L) L) = KQ.rds rows k (lkF L)
  | 0, _ => rfl
  | k + 1, L => by
    rw [List.range_succ, List.foldl_append, KQ.rds_succ]
    show lkF (rows.foldl ls _) = _
    rw [fold_lk', rounds_rds rows k L]
    rfl
theorem e_lcosts (rows : List Row) (hl : rows.length ≤ 1000) (s : N7) : ∃ L : LI, lkF L = KQ.least rows s ∧ Rn (den__law_costs mg [.fz (rowsD rows), .fz (.str (nm s))] []) (dictS D.int L) [] := by
  have hb : bigLen = 1000000 := rfl
  let m0 : M := enter 7 [.fz (rowsD rows), .fz (.str (nm s))] []
  have e1 : dAsg (dDisp (dPairs (dVar 1) (dC (.int 0)) dPairs0)) (bName 2) m0 = .ok .nx (lcM rows s [(s, 0)] none none none none) :=
    asgF_of (m := m0) (m1 := m0) (s := .ok [(.inr (nm s), .fz (.int 0))]) (disp_of (pair_of (gk := dVar 1) (ek := .v (.str (nm s))) (k := .inr (nm s)) rfl rfl (gv := dC (.int 0)) (ev := .v (.int 0)) rfl rfl (gr := dPairs0) rfl) (by show 1 ≤ 15; decide) (by simp)) (by show 2 < 7; decide)
  have ln : dBin true (dApp (dCons true (dVar 0) dNil) (kVN pLen)) (dC (.int 1)) (kV2 pPlus) (lcM rows s [(s, 0)] none none none none) = .ok (.v (.int (rows.length + 1 : Nat))) (lcM rows s [(s, 0)] none none none none) := by
    have a : dApp (dCons true (dVar 0) dNil) (kVN pLen) (lcM rows s [(s, 0)] none none none none) = .ok (.v (.int (rows.map rowT).length)) (lcM rows s [(s, 0)] none none none none) := (app1_of (ga := dVar 0) (d := rowsD rows) rfl).trans rfl
    rw [List.length_map] at a
    exact bin3 (pb := true) (gb := dC (.int 1)) a rfl (plusI _ _)
  obtain ⟨m', e, nd, t, a, b, c, rfl⟩ := for_map (gi := dIter (dCons true (dBin true (dApp (dCons true (dVar 0) dNil) (kVN pLen)) (dC (.int 1)) (kV2 pPlus)) dNil) kRange1) (tg := bName 3) (gb := dFor (dISeq (dVar 0)) (bTup 3 (bCons (bName 4) (bCons (bName 5) (bCons (bName 6) bNil)))) lcDo) (l := List.range (rows.length + 1)) (b := [(s, (0 : Int))]) (fun i : Nat => D.int i) (LcR rows s) (fun L _ => rows.foldl ls L) (rng_of ln (by omega)) ⟨by simp, none, none, none, none, rfl⟩ fun i hi L m h => by
    obtain ⟨nd, t, a, b, c, rfl⟩ := h
    obtain ⟨m', e, h'⟩ := lc_round rows s nd (some (.sv (.fz (.int i)))) a b c
    exact ⟨lcM rows s L (some (.sv (.fz (.int i)))) a b c, m', rfl, .inl e, h'⟩
  have lk0 : lkF [(s, (0 : Int))] = KQ.g0 s := by
    funext y
    show look [(s, (0 : Int))] y = KQ.g0 s y
    rw [look_cons]
    unfold KQ.g0
    by_cases h : s = y
    · rw [if_pos h, if_pos h.symm]
    · rw [if_neg h, if_neg (fun e => h e.symm)]; rfl
  have lk := rounds_rds rows (rows.length + 1) [(s, (0 : Int))]
  generalize (List.range (rows.length + 1)).foldl (fun L _ => rows.foldl ls L) [(s, (0 : Int))] = L at e nd lk
  refine ⟨L, by rw [lk, lk0]; rfl, ?_⟩
  have key : b__law_costs mg m0 = .ok (.rt (dictS D.int L)) ⟨[some (.sv (.fz (rowsD rows))), some (.sv (.fz (.str (nm s)))), none, t, a, b, c], []⟩ := by
    unfold b__law_costs
    rw [seq_nx e1, seq_nx e]
    rfl
  exact def_rt (n := 7) (b := b__law_costs mg) (as := [.fz (rowsD rows), .fz (.str (nm s))]) (pins := []) (m := ⟨[some (.sv (.fz (rowsD rows))), some (.sv (.fz (.str (nm s)))), none, t, a, b, c], []⟩) key
end K31
namespace K31
open PySem PySem.Spec PyProof.Rows L2 PD
variable {mg : Str → Option Value}
/-! ### dicts, any keys -/
section
variable {κ κ' β γ : Type} [DecidableEq κ] [DecidableEq κ']
theorem look_gK (kf : κ → κ') (inj : ∀ a b, kf a = kf b → a = b) (g : β → γ) (x : κ) : ∀ L : List (κ × β), look (L.map fun p => (kf p.1, g p.2)) (kf x) = (look L x).map g
  | [] => rfl
  | (y, c) :: L => by
    rw [List.map_cons, look_cons, look_cons, look_gK kf inj g x L]
    by_cases h : y = x
    · rw [if_pos h, if_pos (by rw [h])]; rfl
    · rw [if_neg h, if_neg (fun e => h (inj _ _ e))]
theorem any_gK (kf : κ → κ') (inj : ∀ a b, kf a = kf b → a = b) (g : β → γ) (x : κ) : ∀ L : List (κ × β), ((L.map fun p => (kf p.1, g p.2)).any fun kv => decide (kv.1 = kf x)) = L.any fun kv => decide (kv.1 = x)
  | [] => rfl
  | (y, c) :: L => by
    rw [List.map_cons, List.any_cons, List.any_cons, any_gK kf inj g x L]
    congr 1
    exact decide_eq_decide.mpr ⟨inj _ _, fun e => by rw [e]⟩
theorem put_gK (kf : κ → κ') (inj : ∀ a b, kf a = kf b → a = b) (g : β → γ) (x : κ) (c : β) (L : List (κ × β)) : putG (L.map fun p => (kf p.1, g p.2)) (kf x) (g c) = (putG L x c).map fun p => (kf p.1, g p.2) := by
  unfold putG
  rw [any_gK kf inj]
  by_cases h : (L.any fun kv => decide (kv.1 = x)) = true
  · rw [if_pos h, if_pos h, List.map_map, List.map_map]
    refine List.map_congr_left fun p _ => ?_
    show (if kf p.1 = kf x then (kf p.1, g c) else (kf p.1, g p.2)) = (fun p : κ × β => (kf p.1, g p.2)) (if p.1 = x then (p.1, c) else p)
    by_cases e : p.1 = x
    · rw [if_pos (by rw [e]), if_pos e]
    · rw [if_neg (fun z => e (inj _ _ z)), if_neg e]
  · rw [if_neg h, if_neg h, List.map_append]
    rfl
theorem nd_putK (x : κ) (c : β) (L : List (κ × β)) (h : (L.map (·.1)).Nodup) : ((putG L x c).map (·.1)).Nodup := by
  unfold putG
  by_cases e : (L.any fun kv => decide (kv.1 = x)) = true
  · rw [if_pos e, List.map_map]
    have : ((fun p : κ × β => p.1) ∘ fun kv : κ × β => if kv.1 = x then (kv.1, c) else kv) = fun p => p.1 := by
      funext p
      show (if p.1 = x then (p.1, c) else p).1 = p.1
      split <;> rfl
    rw [this]
    exact h
  · rw [if_neg e, List.map_append]
    refine List.nodup_append.mpr ⟨h, by simp, fun a ha b hb => ?_⟩
    obtain ⟨p, hp, rfl⟩ := List.mem_map.mp ha
    have hb : b = x := by simpa using hb
    rintro rfl
    apply e
    rw [List.any_eq_true]
    exact ⟨p, hp, by simpa using hb⟩
theorem mem_putK (x : κ) (c : β) (L : List (κ × β)) {q : κ × β} (h : q ∈ putG L x c) : q = (x, c) ∨ q ∈ L := by
  unfold putG at h
  split at h
  · obtain ⟨p, hp, e⟩ := List.mem_map.mp h
    by_cases z : p.1 = x
    · rw [if_pos z] at e; left; rw [← e, z]
    · rw [if_neg z] at e; right; rw [← e]; exact hp
  · rcases List.mem_append.mp h with h | h
    · exact .inr h
    · exact .inl (List.mem_singleton.mp h)
theorem look_mem : ∀ {L : List (κ × β)} {x : κ} {c : β}, look L x = some c → (x, c) ∈ L
  | [], _, _, h => by cases h
  | (y, d) :: L, x, c, h => by
    rw [look_cons] at h
    by_cases e : y = x
    · rw [if_pos e] at h; cases h; rw [e]; exact List.mem_cons_self
    · rw [if_neg e] at h; exact List.mem_cons_of_mem _ (look_mem h)
theorem look_key : ∀ {L : List (κ × β)} {x : κ}, x ∈ L.map (·.1) → ∃ c, look L x = some c
  | [], _, h => by cases h
  | (y, d) :: L, x, h => by
    rw [look_cons]
    by_cases e : y = x
    · exact ⟨d, if_pos e⟩
    · rw [if_neg e]
      rcases List.mem_cons.mp h with h | h
      · exact absurd h.symm e
      · exact look_key h
theorem len_putK (x : κ) (c : β) (L : List (κ × β)) : (putG L x c).length ≤ L.length + 1 := by
  unfold putG
  split
  · rw [List.length_map]; omega
  · rw [List.length_append]; simp
end
/-! ### _law_swaps -/
abbrev P2 := N7 × N7
def kk (p : P2) : List Key := [.inr (nm p.1), .inr (nm p.2)]
theorem kk_inj (a b : P2) (h : kk a = kk b) : a = b := by
  unfold kk at h
  simp only [List.cons.injEq, Sum.inr.injEq, and_true] at h
  exact Prod.ext (nm_inj _ _ h.1) (nm_inj _ _ h.2)
abbrev LP := List (P2 × Int)
def dictT (L : LP) : SV := .ot (L.map fun p => (kk p.1, .fz (.int p.2)))
def kD (p : P2) : D := .tup [.str (nm p.1), .str (nm p.2)]
theorem keyOf_kD (p : P2) : PD.keyOf (.fz (kD p)) = some (.inr (kk p)) := rfl
theorem set_dictT {L : LP} (p : P2) (c : Int) (hl : L.length ≤ 100) : fSet (dictT L) [.fz (kD p), .fz (.int c)] = some (dictT (putG L p c), .non) := by
  have hb : bigLen = 1000000 := rfl
  show (if (L.map fun p => (kk p.1, SV.fz (.int p.2))).length < bigLen ∧ _ then some (SV.ot (putG (L.map fun p => (kk p.1, SV.fz (.int p.2))) (kk p) (.fz (.int c))), D.non) else none) = _
  rw [if_pos ⟨by rw [List.length_map]; omega, .inl rfl⟩, put_gK kk kk_inj (fun c => SV.fz (.int c))]
  rfl
structure GL (ks : List N7) (L : LP) : Prop where
  nd : (L.map (·.1)).Nodup
  ok : ∀ e ∈ L, e.1.1 ≠ e.1.2 ∧ e.1.1 ∈ ks ∧ e.1.2 ∈ ks ∧ 0 ≤ e.2 ∧ e.2 ≤ 1000
  len : L.length ≤ 20
def swM (s : SV) (ks : List N7) (L : LP) (w t : Int) (a b : Option Sl) : M := ⟨[some (.pa 0), some (.pa 1), some (.sv (dictT L)), some (.sv (.fz (.int w))), some (.sv (.fz (.int t))), a, b, none], [s, .fz (.lst (nmD ks))]⟩
noncomputable abbrev swDo (mg : Str → Option Value) : M → Out Ctl := dIf (dAndT (dTest (dBin true (dVar 5) (dVar 6) (kV2 (bin2 pNe)))) (dAndT (dTest (dBin true (dApp (dCons true (dVar 0) (dCons true (dC (.int 5)) dNil)) (callK 2 (den__law_draw mg))) (dVar 4) (kV2 pLt))) (dTest (dBin true (dApp (dCons true (dVar 2) dNil) (kVN pLen)) (dC (.int 20)) (kV2 pLt))))) (dAsg (dApp (dCons true (dVar 0) (dCons true (dBin true (dVar 3) (dC (.int 1)) (kV2 pPlus)) dNil)) (callK 2 (den__law_draw mg))) (bSubA (dVar 2) (dApp (dCons true (dVar 5) (dCons true (dVar 6) dNil)) kTupV)))
 dSkip
theorem sw_turn {s : SV} {k : Nat} (h : Dk k s) (hk : k < 2 ^ 56) {ks : List N7} {L : LP} (g : GL ks L) {w : Int} (hw : 0 ≤ w ∧ w ≤ 1000) (t : Int) {x y : N7} (hx : x ∈ ks) (hy : y ∈ ks) :
    ∃ s' L', Dk (k + 2) s' ∧ GL ks L' ∧ swDo mg (swM s ks L w t (some (.sv (.fz (.str (nm x))))) (some (.sv (.fz (.str (nm y)))))) = .ok .nx (swM s' ks L' w t (some (.sv (.fz (.str (nm x))))) (some (.sv (.fz (.str (nm y)))))) := by
  let X : Option Sl := some (.sv (.fz (.str (nm x))))
  let Y : Option Sl := some (.sv (.fz (.str (nm y))))
  have t1 : dTest (dBin true (dVar 5) (dVar 6) (kV2 (bin2 pNe))) (swM s ks L w t X Y) = .ok (!(nm x == nm y)) (swM s ks L w t X Y) := test_of (bin3 (pb := true) (ga := dVar 5) (gb := dVar 6) (x := .str (nm x)) (y := .str (nm y)) rfl rfl (neSt _ _ _))
  by_cases e : x = y
  · subst e
    rw [beq_self_eq_true] at t1
    have tt := and_of (gb := dAndT (dTest (dBin true (dApp (dCons true (dVar 0) (dCons true (dC (.int 5)) dNil)) (callK 2 (den__law_draw mg))) (dVar 4) (kV2 pLt))) (dTest (dBin true (dApp (dCons true (dVar 2) dNil) (kVN pLen)) (dC (.int 20)) (kV2 pLt)))) (b := false) t1 (fun h => by cases h) fun _ => rfl
    refine ⟨s, L, h.up (by omega), g, ?_⟩
    show swDo mg (swM s ks L w t X Y) = _
    unfold swDo
    rw [if_of tt]
    rfl
  · have ne : (nm x == nm y) = false := beq_eq_false_iff_ne.mpr fun z => e (nm_inj _ _ z)
    rw [ne] at t1
    obtain ⟨s1, r, d1, r0, r1, c1⟩ := draw_call (mg := mg) (p := true) (q := true) (a := 0) (o := .p 0) (gb := dC (.int 5)) (m := swM s ks L w t X Y) (s := s) (b := 5) rfl rfl h (by omega) (by decide) rfl
    have t2 : dTest (dBin true (dApp (dCons true (dVar 0) (dCons true (dC (.int 5)) dNil)) (callK 2 (den__law_draw mg))) (dVar 4) (kV2 pLt)) (swM s ks L w t X Y) = .ok (decide (r < t)) (swM s1 ks L w t X Y) := test_of (bin3 (pb := true) (gb := dVar 4) (m1 := swM s1 ks L w t X Y) (y := .int t) c1 rfl (ltI _ _))
    have ln : dApp (dCons true (dVar 2) dNil) (kVN pLen) (swM s1 ks L w t X Y) = .ok (.v (.int L.length)) (swM s1 ks L w t X Y) := by
      rw [app1b_of (ga := dVar 2) (m := swM s1 ks L w t X Y) (o := .s 2) (p := []) rfl]
      show Out.ok (EV.v (.int ((L.map fun p => (kk p.1, SV.fz (.int p.2))).length : Nat))) _ = _
      rw [List.length_map]
    have t3 : dTest (dBin true (dApp (dCons true (dVar 2) dNil) (kVN pLen)) (dC (.int 20)) (kV2 pLt)) (swM s1 ks L w t X Y) = .ok (decide ((L.length : Int) < 20)) (swM s1 ks L w t X Y) := test_of (bin3 (pb := true) (gb := dC (.int 20)) ln rfl (ltI _ _))
    have tt := and_of t1 (fun _ => and_of t2 (fun _ => t3) (fun _ => rfl)) fun h => by cases h
    show ∃ s' L', Dk (k + 2) s' ∧ GL ks L' ∧ swDo mg (swM s ks L w t X Y) = .ok .nx (swM s' ks L' w t X Y)
    unfold swDo
    rw [if_of tt]
    by_cases q : (decide (r < t) && decide ((L.length : Int) < 20)) = true
    · simp only [Bool.and_eq_true, decide_eq_true_eq] at q
      rw [decide_eq_true q.1, decide_eq_true q.2]
      have w1 : dBin true (dVar 3) (dC (.int 1)) (kV2 pPlus) (swM s1 ks L w t X Y) = .ok (.v (.int (w + 1))) (swM s1 ks L w t X Y) := bin3 (pb := true) (ga := dVar 3) (gb := dC (.int 1)) (x := .int w) rfl rfl (plusI _ _)
      obtain ⟨s2, v, d2, v0, v1, c2⟩ := draw_call (mg := mg) (p := true) (q := true) (a := 0) (o := .p 0) (m := swM s1 ks L w t X Y) (s := s1) (b := w + 1) rfl rfl d1 (by omega) (by omega) w1
      have ky : dApp (dCons true (dVar 5) (dCons true (dVar 6) dNil)) kTupV (swM s2 ks L w t X Y) = .ok (.v (kD (x, y))) (swM s2 ks L w t X Y) := (app2_of (ga := dVar 5) (gb := dVar 6) (x := .str (nm x)) (y := .str (nm y)) rfl rfl).trans rfl
      have gl := g.len
      refine ⟨s2, putG L (x, y) v, d2, ⟨nd_putK _ _ _ g.nd, fun q hq => ?_, by have := len_putK (x, y) v L; omega⟩, ?_⟩
      · rcases mem_putK _ _ _ hq with rfl | hq
        · exact ⟨e, hx, hy, v0, by show v ≤ 1000; omega⟩
        · exact g.ok q hq
      · exact asgS_of (m := swM s2 ks L w t X Y) c2 (go := dVar 2) (o := .s 2) rfl ky rfl (set_dictT (x, y) v (by omega))
    · have q' : (decide (r < t) && decide ((L.length : Int) < 20)) = false := by simpa using q
      rw [q']
      exact ⟨s1, L, d1.up (by omega), g, rfl⟩
def SwR (k : Nat) (ks : List N7) (w t : Int) (a : Option Sl) (c : Nat) (m : M) : Prop := ∃ s L b, Dk (k + c) s ∧ GL ks L ∧ m = swM s ks L w t a b
theorem sw_inner {k : Nat} (hk : k < 2 ^ 55) {ks : List N7} (hl : ks.length ≤ 10) {w : Int} (hw : 0 ≤ w ∧ w ≤ 1000) (t : Int) {x : N7} (hx : x ∈ ks) {m : M} (h : SwR k ks w t (some (.sv (.fz (.str (nm x))))) 0 m) : ∃ m', dFor (dISeq (dVar 1)) (bName 6) (swDo mg) m = .ok .nx m' ∧ SwR k ks w t (some (.sv (.fz (.str (nm x))))) (2 * ks.length) m' := by
  obtain ⟨s, L, b, d, g, rfl⟩ := h
  have i := iseq_of (g := dVar 1) (m := swM s ks L w t (some (.sv (.fz (.str (nm x))))) b) (m1 := swM s ks L w t (some (.sv (.fz (.str (nm x))))) b) (m2 := swM s ks L w t (some (.sv (.fz (.str (nm x))))) b) (ev := .br (.p 1) []) (d := .lst (nmD ks)) rfl rfl rfl
  obtain ⟨m', e, h⟩ := for_pre (tg := bName 6) (gb := swDo mg) (l := ks) (fun i : N7 => D.str (nm i)) (fun pre m => SwR k ks w t (some (.sv (.fz (.str (nm x))))) (2 * pre.length) m) i ⟨s, L, b, d, g, rfl⟩ fun pre y post e m h => by
    obtain ⟨s, L, b, d, g, rfl⟩ := h
    have lp : pre.length < ks.length := by rw [e, List.length_append]; simp
    obtain ⟨s', L', d', g', e'⟩ := sw_turn (mg := mg) d (by omega) g hw t hx (y := y) (by rw [e]; simp)
    exact ⟨swM s ks L w t (some (.sv (.fz (.str (nm x))))) (some (.sv (.fz (.str (nm y))))), _, rfl, .inl e', s', L', _, by rw [List.length_append]; exact d', g', rfl⟩
  exact ⟨m', e, h⟩
theorem sw_outer {k : Nat} (hk : k < 2 ^ 54) {ks : List N7} (hl : ks.length ≤ 10) {w : Int} (hw : 0 ≤ w ∧ w ≤ 1000) (t : Int) {s : SV} (d : Dk k s) {m : M} (i : dISeq (dVar 1) m = .ok ⟨nmD ks, always⟩ (swM s ks [] w t none none)) : ∃ m' s' L a b, dFor (dISeq (dVar 1)) (bName 5) (dFor (dISeq (dVar 1)) (bName 6) (swDo mg)) m = .ok .nx m' ∧ Dk (k + 200) s' ∧ GL ks L ∧ m' = swM s' ks L w t a b := by
  obtain ⟨m', e, h⟩ := for_pre (tg := bName 5) (gb := dFor (dISeq (dVar 1)) (bName 6) (swDo mg)) (l := ks) (fun i : N7 => D.str (nm i)) (fun pre m => ∃ a, SwR k ks w t a (20 * pre.length) m) i ⟨none, s, [], none, d, ⟨by simp, by simp, by simp⟩, rfl⟩ fun pre x post e m h => by
    obtain ⟨a, s, L, b, d, g, rfl⟩ := h
    have lp : pre.length < ks.length := by rw [e, List.length_append]; simp
    obtain ⟨m', e', s', L', b', d', g', rfl⟩ := sw_inner (mg := mg) (k := k + 20 * pre.length) (by omega) hl hw t (x := x) (by rw [e]; simp) (m := swM s ks L w t (some (.sv (.fz (.str (nm x))))) b) ⟨s, L, b, d, g, rfl⟩
    exact ⟨swM s ks L w t (some (.sv (.fz (.str (nm x))))) b, _, rfl, .inl e', _, s', L', b', d'.up (by rw [List.length_append]; simp; omega), g', rfl⟩
  obtain ⟨a, s', L, b, d', g, rfl⟩ := h
  exact ⟨_, s', L, a, b, e, d'.up (by omega), g, rfl⟩
/-! ### the swaps, sorted -/
theorem le_kD (p q : P2) : PySem.W.dataLe false encD (kD p) (kD q) = decide (code p.1 p.2 ≤ code q.1 q.2) := le_nm _ _ _ _
theorem code_inj (p q : P2) (h : code p.1 p.2 = code q.1 q.2) : p = q := by
  obtain ⟨a, b⟩ := p
  obtain ⟨c, d⟩ := q
  have h : 7 * a.val + b.val = 7 * c.val + d.val := h
  have := a.isLt
  have := b.isLt
  have := c.isLt
  have := d.isLt
  exact Prod.ext (Fin.ext (by show a.val = c.val; omega)) (Fin.ext (by show b.val = d.val; omega))
def srt (l : List P2) : List P2 := l.mergeSort fun p q => decide (code p.1 p.2 ≤ code q.1 q.2)
theorem srt_perm (l : List P2) : (srt l).Perm l := List.mergeSort_perm _ _
theorem srt_D (l : List P2) : (srt l).map kD = sortD (l.map kD) := List.map_mergeSort fun a _ b _ => (le_kD a b).symm
theorem srt_lt {l : List P2} (nd : l.Nodup) : (srt l).Pairwise fun p q => code p.1 p.2 < code q.1 q.2 := by
  have so : (srt l).Pairwise (fun p q => decide (code p.1 p.2 ≤ code q.1 q.2) = true) := List.pairwise_mergeSort (fun a b c h1 h2 => by
    simp only [decide_eq_true_eq] at *
    omega) (fun a b => by
    simp only [Bool.or_eq_true, decide_eq_true_eq]
    omega) l
  exact (so.and ((srt_perm l).nodup_iff.mpr nd)).imp fun {a b} h => by
    have h1 := h.1
    simp only [decide_eq_true_eq] at h1
    have : code a.1 a.2 ≠ code b.1 b.2 := fun e => h.2 (code_inj _ _ e)
    omega
theorem zip_tail {α : Type} {R : α → α → Prop} : ∀ {l : List α}, l.Pairwise R → ∀ p ∈ l.zip l.tail, R p.1 p.2
  | [], _, p, h => by simp at h
  | [x], _, p, h => by simp at h
  | x :: y :: l, hp, p, h => by
    simp only [List.tail_cons, List.zip_cons_cons, List.mem_cons] at h
    rcases h with rfl | h
    · exact (List.pairwise_cons.mp hp).1 y (by simp)
    · exact zip_tail (List.pairwise_cons.mp hp).2 p h
def rowsOf (L : LP) : List Row := (srt (L.map (·.1))).map fun p => (p.1, p.2, (look L p).getD 0)
theorem sortOk_kD (l : List P2) (hl : l.length ≤ 100) : sortOkD (l.map kD) = true := by
  have hb : bigLen = 1000000 := rfl
  unfold sortOkD
  simp only [Bool.and_eq_true, List.all_eq_true, decide_eq_true_eq, Bool.or_eq_true]
  refine ⟨⟨⟨fun d hd => ?_, fun d hd d' hd' => ?_⟩, by rw [List.length_map]; omega⟩, .inl fun d hd => ?_⟩
  · obtain ⟨p, _, rfl⟩ := List.mem_map.mp hd
    exact ⟨rfl, by show PyData.depth (.tuple [.str (nm p.1), .str (nm p.2)]) ≤ 100; simp [PyData.depth, PyData.depthAll]⟩
  · obtain ⟨p, _, rfl⟩ := List.mem_map.mp hd
    obtain ⟨q, _, rfl⟩ := List.mem_map.mp hd'
    rfl
  · obtain ⟨p, _, rfl⟩ := List.mem_map.mp hd
    rfl
theorem sort_run {m : M} {L : LP} (hl : L.length ≤ 20) (hv : dVar 2 m = .ok (.br (.s 2) []) m) (hg : get m (.s 2) = some (dictT L)) : dApp (dCons true (dVar 2) dNil) kSortDT m = .ok (.fr (.ol (((srt (L.map (·.1))).map kD).map .fz))) m := by
  rw [app1b_of hv]
  have v : PD.view m (.br (.s 2) []) = some (dictT L) := by simp [PD.view, hg, PD.sub]
  have k : keysT (dictT L) = some (L.map fun p => kk p.1) := by
    show some ((L.map fun p => (kk p.1, SV.fz (.int p.2))).map (·.1)) = _
    rw [List.map_map]
    rfl
  have km : (L.map fun p => kk p.1).map keyDt = (L.map (·.1)).map kD := by
    rw [List.map_map, List.map_map]
    rfl
  unfold kSortDT
  simp only [v, Option.bind_some, k]
  rw [km, if_pos (sortOk_kD _ (by rw [List.length_map]; omega)), srt_D]
theorem ix_dictT {m : M} {ga gb : M → Out EV} {o : Ow} {L : LP} {p : P2} {c : Int} (h1 : ga m = .ok (.br o []) m) (h2 : gb m = .ok (.v (kD p)) m) (hg : get m o = some (dictT L)) (hl : look L p = some c) : dBin true ga gb kIx m = .ok (.v (.int c)) m := by
  refine binP h1 h2 ?_
  have dl : dlook (dictT L) (.fz (kD p)) = some ((look L p).map fun c => .fz (.int c)) := by
    show some (look (L.map fun p => (kk p.1, SV.fz (.int p.2))) (kk p)) = _
    rw [look_gK kk kk_inj (fun c => SV.fz (.int c))]
  have s : ∃ q, stepIx (dictT L) (.fz (kD p)) = some (.fz (.int c), q) := by
    refine ⟨.t (kk p), ?_⟩
    show (match dlook (dictT L) (.fz (kD p)) with
      | some (some x) => some (x, _)
      | _ => none) = _
    rw [dl, hl]
    rfl
  obtain ⟨q, s⟩ := s
  have v : PD.view m (.br o []) = some (dictT L) := by simp [PD.view, hg, PD.sub]
  unfold kIx
  rw [v]
  simp only [PD.view, s]
theorem tupL_of {m : M} {ds : List D} : kVN pTuple m [.v (.lst ds)] = .ok (.v (.tup ds)) m := rfl
theorem sw_end (s : SV) (ks : List N7) {L : LP} (hl : L.length ≤ 20) (w t : Int) (a b : Option Sl) : dRet (dApp (dCons true (dComp (dISeq (dApp (dCons true (dVar 2) dNil) kSortDT)) [7] (bName 7) (fun m => .ok true m) (dBin false (dVar 7) (dApp (dCons true (dBin true (dVar 2) (dVar 7) kIx) dNil) PD.kTup) (kV2 pPlus))) dNil) (kVN pTuple)) (swM s ks L w t a b) = .ok (.rt (.fz (.tup ((rowsOf L).map fun r => .tup [.str (nm r.1), .str (nm r.2.1), .int r.2.2])))) (swM s ks L w t a b) := by
  have hb : bigLen = 1000000 := rfl
  have i := iseq_of (sort_run (m := swM s ks L w t a b) hl rfl rfl) (m2 := swM s ks L w t a b) (d := .lst ((srt (L.map (·.1))).map kD)) (by
    show Out.ok (frz _) _ = _
    rw [frz_fz]) rfl
  have len : (srt (L.map (·.1))).length = L.length := by rw [(srt_perm _).length_eq, List.length_map]
  have cm := comp_allm (vs := [7]) (b := bName 7) (ge := dBin false (dVar 7) (dApp (dCons true (dBin true (dVar 2) (dVar 7) kIx) dNil) PD.kTup) (kV2 pPlus)) (l := srt (L.map (·.1))) kD (fun p => .fz (.tup [.str (nm p.1), .str (nm p.2), .int ((look L p).getD 0)])) i (by omega) rfl rfl fun p hp => by
    let mm : M := ⟨[some (.pa 0), some (.pa 1), some (.sv (dictT L)), some (.sv (.fz (.int w))), some (.sv (.fz (.int t))), a, b, some (.sv (.fz (kD p)))], [s, .fz (.lst (nmD ks))]⟩
    obtain ⟨c, hc⟩ := look_key ((srt_perm _).mem_iff.mp hp)
    have x1 : dBin true (dVar 2) (dVar 7) kIx mm = .ok (.v (.int c)) mm := ix_dictT (o := .s 2) (p := p) rfl rfl rfl hc
    have x2 := bin3 (pb := false) (k := kV2 pPlus) (ga := dVar 7) (m := mm) (x := kD p) rfl (t1_of x1) (plus_tup (xs := [.str (nm p.1), .str (nm p.2)]) (ys := [.int c]) (by show 3 ≤ bigLen; omega))
    have e : (look L p).getD 0 = c := by rw [hc]; rfl
    refine ⟨mm, .v (.tup [.str (nm p.1), .str (nm p.2), .int c]), mm, mm, rfl, x2, ?_, rfl⟩
    rw [e]
    rfl
  refine retV_of ?_
  rw [appF_of cm, frz_fm (fun p : P2 => D.tup [.str (nm p.1), .str (nm p.2), .int ((look L p).getD 0)]), tupL_of]
  unfold rowsOf
  rw [List.map_map]
  rfl
end K31
namespace K31
open PySem PySem.Spec PyProof.Rows L2 PD
variable {mg : Str → Option Value}
structure RowsOk (rows : List Row) : Prop where
  ok : ∀ r ∈ rows, OkR r
  ord : ordB rows = true
  len : rows.length ≤ 20
  fee : ∀ r ∈ rows, r.2.2 ≤ 1000
theorem rowsOf_ok {ks : List N7} {L : LP} (g : GL ks L) : RowsOk (rowsOf L) := by
  have el : ∀ r ∈ rowsOf L, r.1 ≠ r.2.1 ∧ 0 ≤ r.2.2 ∧ r.2.2 ≤ 1000 := fun r hr => by
    obtain ⟨p, hp, rfl⟩ := List.mem_map.mp hr
    obtain ⟨c, hc⟩ := look_key ((srt_perm _).mem_iff.mp hp)
    have := g.ok _ (look_mem hc)
    show p.1 ≠ p.2 ∧ 0 ≤ (look L p).getD 0 ∧ (look L p).getD 0 ≤ 1000
    rw [hc]
    exact ⟨this.1, this.2.2.2.1, this.2.2.2.2⟩
  have len : (rowsOf L).length ≤ 20 := by
    unfold rowsOf
    rw [List.length_map, (srt_perm _).length_eq, List.length_map]
    exact g.len
  refine ⟨fun r hr => ⟨(el r hr).1, (el r hr).2.1⟩, ?_, len, fun r hr => (el r hr).2.2⟩
  unfold ordB
  rw [List.all_eq_true]
  intro p hp
  have pw : (rowsOf L).Pairwise fun p q => code p.1 p.2.1 < code q.1 q.2.1 := by
    unfold rowsOf
    rw [List.pairwise_map]
    exact srt_lt g.nd
  exact decide_eq_true (zip_tail pw p hp)
def wides : List D := [.int 2, .int 9, .int 9, .int 1000]
theorem wides_lit (m : M) : opd (dApp (dCons true (dC (.int 2)) (dCons true (dC (.int 9)) (dCons true (dC (.int 9)) (dCons true (dC (.int 1000)) dNil)))) kLst) m = .ok (.v (.lst wides)) m := by
  have l := (app_of (k := kLst) (c_of true (d := .int 2) (c_of true (d := .int 9) (c_of true (d := .int 9) (c_of true (d := .int 1000) (nil_of m)))))).trans (lst_of (ds := wides) (by show 4 ≤ 1000000; omega) rfl)
  have := opdF_of l
  rw [frz_fz] at this
  exact this
theorem e_swaps {s : SV} {k : Nat} (h : Dk k s) (hk : k < 2 ^ 53) (ks : List N7) (hl : ks.length ≤ 10) : ∃ s' rows, Dk (k + 202) s' ∧ RowsOk rows ∧ Rn (den__law_swaps mg [.pin 0, .pin 1] [s, lS ks]) (.fz (rowsD rows)) [s', .fz (.lst (nmD ks))] := by
  let m0 : M := ⟨[some (.pa 0), some (.pa 1), none, none, none, none, none, none], [s, lS ks]⟩
  obtain ⟨s1, d, hd, d1, e1⟩ := pick_call (mg := mg) (p := false) (q := true) (a := 0) (o := .p 0) (m := m0) (s := s) rfl rfl h (by omega) (items := wides) (by unfold wides; exact List.cons_ne_nil _ _) (by unfold wides; decide) (wides_lit m0)
  obtain ⟨w, rfl, hw⟩ : ∃ w : Int, d = .int w ∧ 0 ≤ w ∧ w ≤ 1000 := by
    simp only [wides, List.mem_cons, List.not_mem_nil, or_false] at hd
    rcases hd with rfl | rfl | rfl | rfl
    · exact ⟨2, rfl, by decide⟩
    · exact ⟨9, rfl, by decide⟩
    · exact ⟨9, rfl, by decide⟩
    · exact ⟨1000, rfl, by decide⟩
  let m1 : M := ⟨[some (.pa 0), some (.pa 1), none, none, none, none, none, none], [s1, lS ks]⟩
  obtain ⟨s2, r, d2, r0, r1, e2⟩ := draw_call (mg := mg) (p := true) (q := true) (a := 0) (o := .p 0) (gb := dC (.int 3)) (m := m1) (s := s1) (b := 3) rfl rfl d1 (by omega) (by decide) rfl
  let m2 : M := ⟨[some (.pa 0), some (.pa 1), none, none, none, none, none, none], [s2, lS ks]⟩
  have e2' : dBin false (dC (.int 1)) (dApp (dCons true (dVar 0) (dCons true (dC (.int 3)) dNil)) (callK 2 (den__law_draw mg))) (kV2 pPlus) m1 = .ok (.v (.int (1 + r))) m2 := bin3 (pb := false) (ga := dC (.int 1)) (x := .int 1) rfl e2 (plusI _ _)
  let m3 : M := ⟨[some (.pa 0), some (.pa 1), some (.sv (dictT [])), some (.sv (.fz (.int w))), some (.sv (.fz (.int (1 + r)))), none, none, none], [s2, lS ks]⟩
  have p1 : dPar [2, 3, 4] (dRaw dNewT (dRaw (dApp (dCons false (dVar 0) (dCons true (dApp (dCons true (dC (.int 2)) (dCons true (dC (.int 9)) (dCons true (dC (.int 9)) (dCons true (dC (.int 1000)) dNil)))) kLst) dNil)) (callK 2 (den__law_pick mg))) (dRaw (dBin false (dC (.int 1)) (dApp (dCons true (dVar 0) (dCons true (dC (.int 3)) dNil)) (callK 2 (den__law_draw mg))) (kV2 pPlus)) dRaw0))) m0 = .ok .nx m3 :=
    par_of (raw_of (gv := dNewT) (ev := .fr (.ot [])) rfl rfl (raw_of (m1 := m1) (ev := .v (.int w)) e1 rfl (raw_of (ev := .v (.int (1 + r))) e2' rfl rfl))) rfl
  have i : dISeq (dVar 1) m3 = .ok ⟨nmD ks, always⟩ (swM s2 ks [] w (1 + r) none none) := by
    refine iseq_of (g := dVar 1) (m1 := m3) (ev := .br (.p 1) []) (d := .lst (nmD ks)) rfl ?_ rfl
    have f : frz (lS ks) = .lst (nmD ks) := frz_fm (fun i => D.str (nm i)) ks
    show Out.ok (frz (lS ks)) (⟨[some (.pa 0), some (.pa 1), some (.sv (dictT [])), some (.sv (.fz (.int w))), some (.sv (.fz (.int (1 + r)))), none, none, none], [s2, .fz (frz (lS ks))]⟩ : M) = _
    rw [f]
    rfl
  obtain ⟨m', s', L, a, b, e3, d3, g, rfl⟩ := sw_outer (mg := mg) (k := k + 2) (by omega) hl hw (1 + r) d2 i
  refine ⟨s', rowsOf L, by rw [show k + 202 = k + 2 + 200 by omega]; exact d3, rowsOf_ok g, ?_⟩
  have key : b__law_swaps mg m0 = .ok (.rt (.fz (rowsD (rowsOf L)))) (swM s' ks L w (1 + r) a b) := by
    unfold b__law_swaps
    rw [seq_nx p1, seq_nx e3]
    exact sw_end s' ks g.len w (1 + r) a b
  exact def_rt (n := 8) (b := b__law_swaps mg) (as := [.pin 0, .pin 1]) (pins := [s, lS ks]) (m := swM s' ks L w (1 + r) a b) key
end K31
namespace K31
open PySem PySem.Spec PyProof.Rows L2 PD
variable {mg : Str → Option Value}
/-! ### _law_pick out of a list of one's own -/
def pmP (s : SV) (items : List D) : M := ⟨[some (.pa 0), some (.pa 1)], [s, .ol (items.map .fz)]⟩
theorem e_pickP {k : Nat} {s : SV} (h : Dk k s) (hk : k < 2 ^ 58) {items : List D} (hi : items ≠ []) (hl : items.length < 2 ^ 29) : ∃ s' d, d ∈ items ∧ Dk (k + 1) s' ∧ Rn (den__law_pick mg [.pin 0, .pin 1] [s, .ol (items.map .fz)]) (.fz d) [s', .ol (items.map .fz)] := by
  have hp := List.length_pos_iff.mpr hi
  have len : dApp (dCons true (dVar 1) dNil) (kVN pLen) (pmP s items) = .ok (.v (.int items.length)) (pmP s items) := by
    rw [app1b_of (ga := dVar 1) (m := pmP s items) (o := .p 1) (p := []) rfl]
    show Out.ok (EV.v (.int ((items.map SV.fz).length : Nat))) _ = _
    rw [List.length_map]
  obtain ⟨s', r, h1, h2, h3, e⟩ := draw_call (mg := mg) (p := true) (q := true) (a := 0) (o := .p 0) (m := pmP s items) (s := s) (b := items.length) rfl rfl h hk (by omega) len
  obtain ⟨q, rfl⟩ : ∃ q : Nat, r = q := ⟨r.toNat, by omega⟩
  have hr : q < items.length := by omega
  refine ⟨s', items[q], List.getElem_mem hr, h1, ?_⟩
  have ix : kIx (pmP s' items) (.br (.p 1) []) (.v (.int q)) = .ok (.v items[q]) (pmP s' items) := by
    have st : stepIx (.ol (items.map .fz)) (.fz (.int q)) = some (.fz items[q], .i q) := by
      show (ixN (items.map SV.fz).length (q : Int)).bind _ = _
      rw [List.length_map, ixN_at hr]
      show ((items.map SV.fz)[q]?).map _ = _
      rw [List.getElem?_map, List.getElem?_eq_getElem hr]
      rfl
    have v : PD.view (pmP s' items) (.br (.p 1) []) = some (.ol (items.map .fz)) := rfl
    unfold kIx
    rw [v]
    simp only [PD.view, st]
  have key : b__law_pick mg (pmP s items) = .ok (.rt (.fz items[q])) (pmP s' items) := by
    unfold b__law_pick
    refine retV_of ?_
    have o1 : opd (dVar 1) (pmP s items) = .ok (.br (.p 1) []) (pmP s items) := rfl
    rw [bin_of (pb := false) o1 (opd_of e)]
    exact ix
  exact def_rt (n := 2) (b := b__law_pick mg) (as := [.pin 0, .pin 1]) (pins := [s, .ol (items.map .fz)]) (m := pmP s' items) key
/-! ### _law_same, where what was told is a list of one's own -/
def sPM (ds : List D) (t : SV) (a b : Option Sl) : M := ⟨[some (.pa 0), some (.sv (.fz (.lst ds))), a, b], [t]⟩
theorem e_sameP {k : Nat} {ds : List D} (h : ∀ x ∈ ds, SmD k x) (hl : ds.length ≤ bigLen) : Rn (den__law_same mg (k + 1) [.pin 0, .fz (.lst ds)] [.ol (ds.map .fz)]) (.fz (.bl true)) [.fz (.lst ds)] := by
  let m0 := sPM ds (.ol (ds.map .fz)) none none
  let m1 := sPM ds (.fz (.lst ds)) none none
  have a1 : ∀ T n, isB T "list" = n → dUn (dVar 1) (kV1 (pIsi T)) m0 = .ok (.v (.bl n)) m0 := fun T n e => by
    rw [← e]; exact (un_of (ga := dVar 1) (m := m0) (x := .v (.lst ds)) rfl).trans (isi_of _ rfl)
  have a0 : ∀ T n, isB T "list" = n → dUn (dVar 0) (kV1 (pIsi T)) m0 = .ok (.v (.bl n)) m0 := fun T n e => by
    rw [← e]; exact (un_of (ga := dVar 0) (m := m0) (x := .br (.p 0) []) rfl).trans rfl
  have t1 : dOrT (dTest (dUn (dVar 1) (kV1 (pIsi "tuple")))) (dTest (dUn (dVar 1) (kV1 (pIsi "list")))) m0 = .ok true m0 := or_of (a := false) (b := true) (test_of (a1 "tuple" false rfl)) (fun _ => test_of (a1 "list" true rfl)) fun _ => rfl
  have l1 : dApp (dCons true (dVar 1) dNil) (kVN pLen) m0 = .ok (.v (.int ds.length)) m0 := (app1_of (ga := dVar 1) (d := .lst ds) rfl).trans rfl
  have l0 : dApp (dCons true (dVar 0) dNil) (kVN pLen) m0 = .ok (.v (.int ds.length)) m0 := by
    rw [app1b_of (ga := dVar 0) (m := m0) (o := .p 0) (p := []) rfl]
    show Out.ok (EV.v (.int ((ds.map SV.fz).length : Nat))) _ = _
    rw [List.length_map]
  have t2 : dOrT (dTest (dBin true (dUn (dVar 0) (kV1 (pIsi "tuple"))) (dUn (dVar 1) (kV1 (pIsi "tuple"))) (kV2 (bin2 pNe)))) (dOrT (dTest (dBin true (dUn (dVar 0) (kV1 (pIsi "list"))) (dUn (dVar 1) (kV1 (pIsi "list"))) (kV2 (bin2 pNe)))) (dTest (dBin true (dApp (dCons true (dVar 0) dNil) (kVN pLen)) (dApp (dCons true (dVar 1) dNil) (kVN pLen)) (kV2 (bin2 pNe))))) m0 = .ok (false || (false || !decide ((ds.length : Int) = ds.length))) m0 :=
    or_of (test_of (bin3 (a0 "tuple" false rfl) (a1 "tuple" false rfl) (neBl _ _))) (fun _ => or_of (test_of (bin3 (a0 "list" true rfl) (a1 "list" true rfl) (neBl _ _))) (fun _ => test_of (bin3 l0 l1 (neI _ _ _))) fun _ => rfl) fun _ => rfl
  have t2' : (false || (false || !decide ((ds.length : Int) = ds.length))) = false := by simp
  rw [t2'] at t2
  have z : dZip (dCons true (dVar 0) (dCons true (dVar 1) dNil)) m0 = .ok ⟨ds.map fun x => .tup [x, x], always⟩ m1 := by
    have o0 : opd (dVar 0) m0 = .ok (.br (.p 0) []) m0 := rfl
    have e := cons_of (pb := true) o0 (cons_of (pb := true) (opd_of (g := dVar 1) (m := m0) (x := .v (.lst ds)) rfl) (nil_of _))
    have ev : evD m0 [.br (.p 0) [], .v (.lst ds)] = .ok [.lst ds, .lst ds] m1 := by
      have f : frz (.ol (ds.map .fz)) = .lst ds := frz_fz ds
      show Out.ok [frz (.ol (ds.map .fz)), .lst ds] (sPM ds (.fz (frz (.ol (ds.map .fz)))) none none) = _
      rw [f]
    unfold dZip
    rw [e, bind_ok, ev, ← zip_self ds]
    rfl
  have c := comp_ifm (gi := dZip (dCons true (dVar 0) (dCons true (dVar 1) dNil))) (vs := [2, 3]) (b := bTup 2 (bCons (bName 2) (bCons (bName 3) bNil))) (gt := dNotT (dTest (dApp (dCons true (dVar 2) (dCons true (dVar 3) dNil)) (callK 2 (den__law_same mg k))))) (ge := dC (.int 1)) (fun x : D => D.tup [x, x]) (fun _ => false) (fun _ => .fz (.int 1)) z hl rfl rfl fun x hx =>
    ⟨sPM ds (.fz (.lst ds)) (some (.sv (.fz x))) (some (.sv (.fz x))), sPM ds (.fz (.lst ds)) (some (.sv (.fz x))) (some (.sv (.fz x))), rfl, not_of (b := true) (test_of ((app2_of (ga := dVar 2) (gb := dVar 3) (x := x) (y := x) rfl rfl).trans (call2 (e_same k x (h x hx))))), fun _ => rfl, fun h => by cases h⟩
  have o := ones_eq (p := fun _ : D => false) c
  have al : (ds.all fun _ => !false) = true := by simp
  rw [al] at o
  have key : b__law_same mg (den__law_same mg k) m0 = .ok (.rt (.fz (.bl true))) m1 := by
    unfold b__law_same
    refine seq_rt ?_
    rw [if_of t1, if_pos rfl, seq_nx (g1 := dIf _ _ _) (m1 := m0) (by rw [if_of t2]; rfl)]
    exact retV_of o
  have e : den__law_same mg (k + 1) = dDef 4 (b__law_same mg (den__law_same mg k)) := rfl
  rw [e]
  exact def_rt (n := 4) (b := b__law_same mg (den__law_same mg k)) (as := [.pin 0, .fz (.lst ds)]) (pins := [.ol (ds.map .fz)]) (m := m1) key
/-! ### what is refused -/
def lastR (rows : List Row) : List Row := rows.drop (rows.length - 1)
def badL (rows : List Row) : List D := [.non, .lst (rows.map rowT), .tup [.tup [.str "mica", .str "talc", .int (-1)]], .tup [.tup [.str "mica", .str "talc", .bl true]], .tup [.tup [.str "mica", .str "talc"]], .tup [.tup [.str "mi ca", .str "talc", .int 1]],
  .tup [.tup [.str "", .str "talc", .int 1]], .tup [.lst [.str "mica", .str "talc", .int 1]], .tup [.tup [.str "talc", .str "b2", .int 1], .tup [.str "mica", .str "b2", .int 1]], if rows.isEmpty = true then .tup [.int 1] else .tup (rows.map rowT ++ (lastR rows).map rowT),
  .tup [.str "mica", .str "talc", .int 1], .tup [.tup [.str "mica", .int 7, .int 1]], .tup [.tup [.str "mica", .str "talc", .str "1"]]]
theorem ord_twice {rows : List Row} (h : rows ≠ []) : ordB (rows ++ lastR rows) = false := by
  obtain ⟨pre, x, rfl⟩ : ∃ pre x, rows = pre ++ [x] := ⟨rows.dropLast, rows.getLast h, (List.dropLast_concat_getLast h).symm⟩
  have : lastR (pre ++ [x]) = [x] := by
    unfold lastR
    rw [List.length_append]
    simp
  rw [this]
  have key : ∀ pre : List Row, ((x, x) : Row × Row) ∈ (pre ++ [x] ++ [x]).zip (pre ++ [x] ++ [x]).tail := fun pre => by
    induction pre with
    | nil => simp
    | cons y pre ih =>
      cases pre with
      | nil => simp
      | cons z pre =>
        simp only [List.cons_append, List.tail_cons, List.zip_cons_cons, List.mem_cons] at ih ⊢
        exact .inr ih
  cases e : ordB (pre ++ [x] ++ [x]) with
  | false => rfl
  | true =>
    unfold ordB at e
    rw [List.all_eq_true] at e
    have := e _ (key pre)
    simp at this
theorem bad_no {rows : List Row} (R : RowsOk rows) {d : D} (h : d ∈ badL rows) : Rn (den_are_swaps mg [.fz d] []) (.fz (.bl false)) [] := by
  have hb : bigLen = 1000000 := rfl
  have t : ∀ ds : List D, ds.all swK = true → ds.length ≤ 100 → ds.all swB = false → Rn (den_are_swaps mg [.fz (.tup ds)] []) (.fz (.bl false)) [] := fun ds a b c => e_are a (by omega) c
  simp only [badL, List.mem_cons, List.not_mem_nil, or_false] at h
  rcases h with rfl | rfl | rfl | rfl | rfl | rfl | rfl | rfl | rfl | h | rfl | rfl | rfl
  · exact e_are_no (n := "NoneType") rfl rfl
  · exact e_are_no (n := "list") rfl rfl
  · exact t _ (by decide +kernel) (by decide) (by decide +kernel)
  · exact t _ (by decide +kernel) (by decide) (by decide +kernel)
  · exact t _ (by decide +kernel) (by decide) (by decide +kernel)
  · exact t _ (by decide +kernel) (by decide) (by decide +kernel)
  · exact t _ (by decide +kernel) (by decide) (by decide +kernel)
  · exact t _ (by decide +kernel) (by decide) (by decide +kernel)
  · have := e_are_rows (mg := mg) (rows := [(6, 1, 1), (3, 1, 1)]) (fun r hr => by
      simp only [List.mem_cons, List.not_mem_nil, or_false] at hr
      rcases hr with rfl | rfl <;> exact ⟨by decide, by decide⟩) (by show 2 ≤ 1000000; omega)
    rw [show ordB [((6 : N7), (1 : N7), (1 : Int)), (3, 1, 1)] = false from by decide] at this
    exact this
  · by_cases e : rows.isEmpty = true
    · rw [if_pos e] at h
      rw [h]
      exact t _ (by decide) (by decide) (by decide)
    · rw [if_neg e] at h
      have e : rows ≠ [] := fun z => e (by rw [z]; rfl)
      have ok : ∀ r ∈ rows ++ lastR rows, OkR r := fun r hr => by
        rcases List.mem_append.mp hr with hr | hr
        · exact R.ok r hr
        · exact R.ok r (List.mem_of_mem_drop hr)
      have := e_are_rows (mg := mg) ok (by
        have := R.len
        unfold lastR
        rw [List.length_append, List.length_drop]; omega)
      rw [ord_twice e] at this
      rw [h, ← List.map_append]
      exact this
  · exact t _ (by decide +kernel) (by decide) (by decide +kernel)
  · exact t _ (by decide +kernel) (by decide) (by decide +kernel)
  · exact t _ (by decide +kernel) (by decide) (by decide +kernel)
def oddL : List D := [.non, .str "", .str "2b", .str "two words", .str "longerthantwelve", .int 3, .tup [.str "mica"], .str "mi-ca"]
def wrongL : List D := [.non, .str "", .str "9", .bl true, .str "a.b"]
theorem odd_no {d : D} (h : d ∈ oddL) : tyK d = true ∧ nameD d = false := by
  simp only [oddL, List.mem_cons, List.not_mem_nil, or_false] at h
  rcases h with rfl | rfl | rfl | rfl | rfl | rfl | rfl | rfl <;> decide +kernel
theorem wrong_no {d : D} (h : d ∈ wrongL) : tyK d = true ∧ nameD d = false := by
  simp only [wrongL, List.mem_cons, List.not_mem_nil, or_false] at h
  rcases h with rfl | rfl | rfl | rfl | rfl <;> decide +kernel
/-! ### how deep it is -/
theorem sm_rowT (r : Row) : SmD 2 (rowT r) := .tup (fun x hx => by
  simp only [List.mem_cons, List.not_mem_nil, or_false] at hx
  rcases hx with rfl | rfl | rfl
  · exact .str _ _
  · exact .str _ _
  · exact .int _ _) (by show 3 ≤ 1000000; omega)
theorem smt {k : Nat} {ds : List D} (h : ∀ x ∈ ds, SmD k x) (hl : ds.length ≤ 100) : SmD (k + 1) (.tup ds) := .tup h (by have : bigLen = 1000000 := rfl; omega)
theorem flat1 {ds : List D} (h : ∀ x ∈ ds, SmD 1 x) (hl : ds.length ≤ 100) : SmD 3 (.tup [.tup ds]) := smt (fun x hx => by
  rw [List.mem_singleton] at hx; rw [hx]; exact smt h hl) (by show 1 ≤ 100; omega)
theorem bad_sm {rows : List Row} (R : RowsOk rows) {d : D} (h : d ∈ badL rows) : SmD 3 d := by
  have hb : bigLen = 1000000 := rfl
  have len := R.len
  have rw' : ∀ x ∈ rows.map rowT, SmD 2 x := fun x hx => by
    obtain ⟨r, _, rfl⟩ := List.mem_map.mp hx
    exact sm_rowT r
  have i1 (i : Int) : SmD 1 (.int i) := .int _ _
  have s1 (z : Str) : SmD 1 (.str z) := .str _ _
  have b1 (b : Bool) : SmD 1 (.bl b) := .bl _ _
  have three : ∀ a b c : D, SmD 1 a → SmD 1 b → SmD 1 c → ∀ x ∈ [a, b, c], SmD 1 x := fun a b c h1 h2 h3 x hx => by
    simp only [List.mem_cons, List.not_mem_nil, or_false] at hx
    rcases hx with rfl | rfl | rfl
    · exact h1
    · exact h2
    · exact h3
  have two : ∀ a b : D, SmD 1 a → SmD 1 b → ∀ x ∈ [a, b], SmD 1 x := fun a b h1 h2 x hx => by
    simp only [List.mem_cons, List.not_mem_nil, or_false] at hx
    rcases hx with rfl | rfl
    · exact h1
    · exact h2
  simp only [badL, List.mem_cons, List.not_mem_nil, or_false] at h
  rcases h with rfl | rfl | rfl | rfl | rfl | rfl | rfl | rfl | rfl | h | rfl | rfl | rfl
  · exact .non _
  · exact .lst rw' (by rw [List.length_map]; omega)
  · exact flat1 (three _ _ _ (s1 _) (s1 _) (i1 _)) (by show 3 ≤ 100; omega)
  · exact flat1 (three _ _ _ (s1 _) (s1 _) (b1 _)) (by show 3 ≤ 100; omega)
  · exact flat1 (two _ _ (s1 _) (s1 _)) (by show 2 ≤ 100; omega)
  · exact flat1 (three _ _ _ (s1 _) (s1 _) (i1 _)) (by show 3 ≤ 100; omega)
  · exact flat1 (three _ _ _ (s1 _) (s1 _) (i1 _)) (by show 3 ≤ 100; omega)
  · exact smt (fun x hx => by
      rw [List.mem_singleton] at hx; rw [hx]
      exact .lst (three _ _ _ (s1 _) (s1 _) (i1 _)) (by show 3 ≤ 1000000; omega)) (by show 1 ≤ 100; omega)
  · exact smt (fun x hx => by
      simp only [List.mem_cons, List.not_mem_nil, or_false] at hx
      rcases hx with rfl | rfl <;> exact smt (three _ _ _ (s1 _) (s1 _) (i1 _)) (by show 3 ≤ 100; omega)) (by show 2 ≤ 100; omega)
  · by_cases e : rows.isEmpty = true
    · rw [if_pos e] at h
      rw [h]
      exact (smt (k := 1) (fun x hx => by
        rw [List.mem_singleton] at hx; rw [hx]
        exact i1 1) (by show 1 ≤ 100; omega)).up (by omega)
    · rw [if_neg e] at h
      rw [h, ← List.map_append]
      exact smt (fun x hx => by
        obtain ⟨r, _, rfl⟩ := List.mem_map.mp hx
        exact sm_rowT r) (by
        unfold lastR
        rw [List.length_map, List.length_append, List.length_drop]; omega)
  · exact (smt (three _ _ _ (s1 _) (s1 _) (i1 _)) (by show 3 ≤ 100; omega)).up (by omega)
  · exact flat1 (three _ _ _ (s1 _) (i1 _) (i1 _)) (by show 3 ≤ 100; omega)
  · exact flat1 (three _ _ _ (s1 _) (s1 _) (s1 _)) (by show 3 ≤ 100; omega)
theorem odd_sm {d : D} (h : d ∈ oddL) : SmD 3 d := by
  simp only [oddL, List.mem_cons, List.not_mem_nil, or_false] at h
  rcases h with rfl | rfl | rfl | rfl | rfl | rfl | rfl | rfl
  · exact .non _
  · exact .str _ _
  · exact .str _ _
  · exact .str _ _
  · exact .str _ _
  · exact .int _ _
  · exact (smt (k := 1) (fun x hx => by
      rw [List.mem_singleton] at hx; rw [hx]
      exact .str _ _) (by show 1 ≤ 100; omega)).up (by omega)
  · exact .str _ _
theorem wrong_sm {d : D} (h : d ∈ wrongL) : SmD 3 d := by
  simp only [wrongL, List.mem_cons, List.not_mem_nil, or_false] at h
  rcases h with rfl | rfl | rfl | rfl | rfl
  · exact .non _
  · exact .str _ _
  · exact .str _ _
  · exact .bl _ _
  · exact .str _ _
/-! ### its text -/
theorem nm_small : ∀ i : N7, (nm i).cps.toList.all (fun c => decide (c < 16 ^ 8)) = true ∧ (nm i).cps.size ≤ 10 := by decide +kernel
theorem sm_rows {rows : List Row} (R : RowsOk rows) : Sm 2 1000 (rowsD rows) :=
  (Sm.tup (d := 1) (b := 33) (n := 20) (fun x hx => by
    obtain ⟨r, hr, rfl⟩ := List.mem_map.mp hx
    exact Sm.tup (d := 0) (b := 10) (n := 3) (fun y hy => by
      simp only [List.mem_cons, List.not_mem_nil, or_false] at hy
      rcases hy with rfl | rfl | rfl
      · exact Sm.str (nm_small _).1 (nm_small _).2
      · exact Sm.str (nm_small _).1 (nm_small _).2
      · exact (Sm.int (by have := (R.ok r hr).2; omega) (by have := R.fee r hr; omega)).up (by omega) (by omega)) (by show 3 ≤ 3; decide)) (by rw [List.length_map]; exact R.len)).up (by omega) (by omega)
end K31
namespace K31
open PySem PySem.Spec PyProof.Rows L2 PD
/-! # the law itself, statement by statement -/
noncomputable def pw_1 (mg : Str → Option Value) : M → Out Ctl :=
 (dAsg (dSl true false (dApp (dCons false (dVar 1) (dCons true (dApp (dCons true (dC (.str "quartz")) (dCons true (dC (.str "mica")) (dCons true (dC (.str "Opal")) (dCons true (dC (.str "b2")) (dCons true (dC (.str "talc")) (dCons true (dC (.str "garnet")) dNil)))))) kLst) dNil)) (callK 2 (den__law_mixed mg))) dNoPart (dPart (dBin false (dC (.int 2)) (dApp (dCons true (dVar 1) (dCons true (dC (.int 5)) dNil)) (callK 2 (den__law_draw mg))) (kV2 pPlus)))) (bName 3))
noncomputable def pw_2 (mg : Str → Option Value) : M → Out Ctl :=
 (dAsg (dApp (dCons true (dVar 1) (dCons true (dVar 3) dNil)) (callK 2 (den__law_swaps mg))) (bName 4))
noncomputable def pw_3 (mg : Str → Option Value) : M → Out Ctl :=
 (dAsg (dApp (dCons true (dVar 4) dNil) (kVN pRepr)) (bName 5))
noncomputable def gw_1 (mg : Str → Option Value) : M → Out Ctl :=
 (dPar [7, 8] (dRaw (dApp (dCons false (dVar 1) (dCons true (dBin false (dVar 3) (dApp (dCons true (dC (.str "none")) dNil) kLst) (kV2 pPlus)) dNil)) (callK 2 (den__law_pick mg))) (dRaw (dApp (dCons false (dVar 1) (dCons true (dBin false (dVar 3) (dApp (dCons true (dC (.str "none")) dNil) kLst) (kV2 pPlus)) dNil)) (callK 2 (den__law_pick mg))) dRaw0)))
noncomputable def gw_2 (mg : Str → Option Value) : M → Out Ctl :=
 (dAsg (dGet2 (dApp (dCons true (dVar 4) (dCons true (dVar 7) dNil)) (callK 2 (den__law_costs mg))) (dVar 8) (dUn (dC (.int 1)) (kV1 pNeg))) (bName 9))
noncomputable def gw_3 (mg : Str → Option Value) : M → Out Ctl :=
 (dIf (dNotT (dTest (dApp (dCons false (dApp (dCons false (dApp (dCons true (dVar 4) (dCons true (dVar 7) (dCons true (dVar 8) dNil))) (callK 3 (den_swap_cost mg))) (dCons true (dApp (dCons true (dVar 8) (dCons true (dVar 7) (dCons true (dVar 4) dNil))) (callP 3 (den_swap_cost mg) [2, 1, 0])) dNil)) kLst) (dCons true (dApp (dCons true (dVar 9) (dCons true (dVar 9) dNil)) kLst) dNil)) (callK 2 (den__law_same mg 5))))) (dRet (dC (.bl false)))
 dSkip)
noncomputable def gw_4 (mg : Str → Option Value) : M → Out Ctl :=
 (dPar [10, 11] (dRaw (dVar 7) (dRaw (dC (.int 0)) dRaw0)))
noncomputable def tw_1 (mg : Str → Option Value) : M → Out Ctl :=
 (dFrz 14 (dAsg (dComp (dISeq (dVar 4)) [14] (bName 14) (dTest (dBin true (dBin true (dVar 14) (dC (.int 0)) kIx) (dVar 10) (kV2 (bin2 pEq)))) (dVar 14)) (bName 13)))
noncomputable def uw_1 (mg : Str → Option Value) : M → Out Ctl :=
 (dAsg (dApp (dCons true (dVar 1) (dCons true (dVar 13) dNil)) (callK 2 (den__law_pick mg))) (bName 14))
noncomputable def uw_2 (mg : Str → Option Value) : M → Out Ctl :=
 (dPar [10, 11] (dRaw (dBin true (dVar 14) (dC (.int 1)) kIx) (dRaw (dBin true (dVar 11) (dBin true (dVar 14) (dC (.int 2)) kIx) (kV2 pPlus)) dRaw0)))
noncomputable def uw_3 (mg : Str → Option Value) : M → Out Ctl :=
 (dIf (dAndT (dTest (dBin true (dApp (dCons true (dVar 1) (dCons true (dC (.int 3)) dNil)) (callK 2 (den__law_draw mg))) (dC (.int 0)) (kV2 (bin2 pEq)))) (dNotT (dTest (dChain false true (dC (.int 0)) (dApp (dCons true (dVar 4) (dCons true (dVar 7) (dCons true (dVar 10) dNil))) (callK 3 (den_swap_cost mg))) (dVar 11) (kV2 pLe) (kV2 pLe))))) (dRet (dC (.bl false)))
 dSkip)
noncomputable def uw_all (mg : Str → Option Value) : M → Out Ctl := dSeq (uw_1 mg) (dSeq (uw_2 mg) (uw_3 mg))
noncomputable def tw_2 (mg : Str → Option Value) : M → Out Ctl :=
 dIf (dTest (dBin true (dVar 13) (dApp dNil kLst0) (kV2 (bin2 pNe)))) (uw_all mg) dSkip
noncomputable def tw_body (mg : Str → Option Value) : M → Out Ctl := dSeq (tw_1 mg) (tw_2 mg)
noncomputable def gw_5 (mg : Str → Option Value) : M → Out Ctl :=
 dFor (dIter (dCons true (dC (.int 6)) dNil) kRange1) (bName 12) (tw_body mg)
noncomputable def gw_body (mg : Str → Option Value) : M → Out Ctl := dSeq (gw_1 mg) (dSeq (gw_2 mg) (dSeq (gw_3 mg) (dSeq (gw_4 mg) (gw_5 mg))))
noncomputable def pw_4 (mg : Str → Option Value) : M → Out Ctl :=
 dFor (dIter (dCons true (dC (.int 6)) dNil) kRange1) (bName 6) (gw_body mg)
noncomputable def pw_5 (mg : Str → Option Value) : M → Out Ctl :=
 (dAsg (dApp (dCons false (dVar 1) (dCons true (dApp (dCons false (dC .non) (dCons false (dApp (dCons true (dVar 4) dNil) (kVN pList)) (dCons false (dApp (dCons true (dApp (dCons true (dC (.str "mica")) (dCons true (dC (.str "talc")) (dCons true (dUn (dC (.int 1)) (kV1 pNeg)) dNil))) PD.kTup) dNil) PD.kTup) (dCons false (dApp (dCons true (dApp (dCons true (dC (.str "mica")) (dCons true (dC (.str "talc")) (dCons true (dC (.bl true)) dNil))) PD.kTup) dNil) PD.kTup) (dCons false (dApp (dCons true (dApp (dCons true (dC (.str "mica")) (dCons true (dC (.str "talc")) dNil)) PD.kTup) dNil) PD.kTup) (dCons false (dApp (dCons true (dApp (dCons true (dC (.str "mi ca")) (dCons true (dC (.str "talc")) (dCons true (dC (.int 1)) dNil))) PD.kTup) dNil) PD.kTup) (dCons false (dApp (dCons true (dApp (dCons true (dC (.str "")) (dCons true (dC (.str "talc")) (dCons true (dC (.int 1)) dNil))) PD.kTup) dNil) PD.kTup) (dCons false (dApp (dCons true (dApp (dCons true (dC (.str "mica")) (dCons true (dC (.str "talc")) (dCons true (dC (.int 1)) dNil))) kLst) dNil) PD.kTup) (dCons false (dApp (dCons false (dApp (dCons true (dC (.str "talc")) (dCons true (dC (.str "b2")) (dCons true (dC (.int 1)) dNil))) PD.kTup) (dCons true (dApp (dCons true (dC (.str "mica")) (dCons true (dC (.str "b2")) (dCons true (dC (.int 1)) dNil))) PD.kTup) dNil)) PD.kTup) (dCons false (dIfE (dTest (dBin false (dVar 4) (dApp dNil PD.kTup) (kV2 (bin2 pNe)))) (dBin true (dVar 4) (dSl true true (dVar 4) (dPart (dUn (dC (.int 1)) (kV1 pNeg))) dNoPart) (kV2 pPlus)) (dApp (dCons true (dC (.int 1)) dNil) PD.kTup)) (dCons false (dApp (dCons true (dC (.str "mica")) (dCons true (dC (.str "talc")) (dCons true (dC (.int 1)) dNil))) PD.kTup) (dCons false (dApp (dCons true (dApp (dCons true (dC (.str "mica")) (dCons true (dC (.int 7)) (dCons true (dC (.int 1)) dNil))) PD.kTup) dNil) PD.kTup) (dCons true (dApp (dCons true (dApp (dCons true (dC (.str "mica")) (dCons true (dC (.str "talc")) (dCons true (dC (.str "1")) dNil))) PD.kTup) dNil) PD.kTup) dNil))))))))))))) kLst) dNil)) (callK 2 (den__law_pick mg))) (bName 15))
noncomputable def pw_6 (mg : Str → Option Value) : M → Out Ctl :=
 (dPar [16, 17] (dRaw (dApp (dCons false (dVar 1) (dCons true (dApp (dCons false (dC .non) (dCons false (dC (.str "")) (dCons false (dC (.str "2b")) (dCons false (dC (.str "two words")) (dCons false (dC (.str "longerthantwelve")) (dCons false (dC (.int 3)) (dCons true (dApp (dCons true (dC (.str "mica")) dNil) PD.kTup) (dCons true (dC (.str "mi-ca")) dNil)))))))) kLst) dNil)) (callK 2 (den__law_pick mg))) (dRaw (dApp (dCons false (dVar 1) (dCons true (dApp (dCons true (dC .non) (dCons true (dC (.str "")) (dCons true (dC (.str "9")) (dCons true (dC (.bl true)) (dCons true (dC (.str "a.b")) dNil))))) kLst) dNil)) (callK 2 (den__law_pick mg))) dRaw0)))
noncomputable def pw_7 (mg : Str → Option Value) : M → Out Ctl :=
 (dAsg (dApp (dCons true (dHear "told" [("BadSwaps", "swaps"), ("BadKind", "kind")] (dApp (dCons true (dVar 15) (dCons true (dVar 16) (dCons true (dVar 17) dNil))) (callK 3 (den_swap_cost mg)))) dNil) kLst) (bName 18))
noncomputable def pw_8 (mg : Str → Option Value) : M → Out Ctl :=
 (dDrop (dMt1 "list" false (dVar 18) (dHear "told" [("BadSwaps", "swaps"), ("BadKind", "kind")] (dApp (dCons true (dVar 17) (dCons true (dVar 16) (dCons true (dVar 4) dNil))) (callP 3 (den_swap_cost mg) [2, 1, 0]))) fAppend))
noncomputable def pw_9 (mg : Str → Option Value) : M → Out Ctl :=
 (dDrop (dMt1 "list" false (dVar 18) (dHear "told" [("BadSwaps", "swaps"), ("BadKind", "kind")] (dApp (dCons true (dVar 4) (dCons true (dBin true (dVar 3) (dC (.int 0)) kIx) (dCons true (dVar 17) dNil))) (callK 3 (den_swap_cost mg)))) fAppend))
noncomputable def pw_10 (mg : Str → Option Value) : M → Out Ctl :=
 (dIf (dOrT (dNotT (dTest (dApp (dCons false (dVar 18) (dCons true (dApp (dCons false (dApp (dCons true (dC (.str "swaps")) (dCons true (dVar 15) (dCons true (dC (.bl true)) dNil))) PD.kTup) (dCons false (dApp (dCons true (dC (.str "kind")) (dCons true (dVar 16) (dCons true (dC (.bl true)) dNil))) PD.kTup) (dCons true (dApp (dCons true (dC (.str "kind")) (dCons true (dVar 17) (dCons true (dC (.bl true)) dNil))) PD.kTup) dNil))) kLst) dNil)) (callK 2 (den__law_same mg 5))))) (dTest (dBin true (dApp (dCons true (dVar 4) dNil) (kVN pRepr)) (dVar 5) (kV2 (bin2 pNe))))) (dRet (dC (.bl false)))
 dSkip)
noncomputable def pw_body (mg : Str → Option Value) : M → Out Ctl := dSeq (pw_1 mg) (dSeq (pw_2 mg) (dSeq (pw_3 mg) (dSeq (pw_4 mg) (dSeq (pw_5 mg) (dSeq (pw_6 mg) (dSeq (pw_7 mg) (dSeq (pw_8 mg) (dSeq (pw_9 mg) (pw_10 mg)))))))))
noncomputable def qw_1 (mg : Str → Option Value) : M → Out Ctl :=
 (dAsg (dApp (dCons true (dVar 0) (dCons true (dC (.int 21493031)) dNil)) (callK 2 (den__law_deck mg))) (bName 1))
theorem b_law_eq (mg : Str → Option Value) : b_law mg = dSeq (qw_1 mg) (dSeq (dFor (dIter (dCons true (dC (.int 5)) dNil) kRange1) (bName 2) (pw_body mg)) (dRet (dC (.bl true)))) := rfl
theorem len_set (m : M) (j : Nat) (x : Option Sl) : (setS m j x).sl.length = m.sl.length := List.length_set
theorem set_self {α : Type} {l : List α} {i : Nat} {x : α} (h : l[i]? = some x) : l.set i x = l := by
  apply List.ext_getElem?
  intro j
  by_cases e : i = j
  · subst e
    have hl : i < l.length := (List.getElem?_eq_some_iff.mp h).1
    rw [List.getElem?_set_self hl, h]
  · rw [List.getElem?_set_ne e]
/-- a comprehension's own slot, put back -/
theorem rest1 (m : M) {j : Nat} (h : j < m.sl.length) : restM (wipeM m [j]) m [j] = m := by
  show ({ m with sl := (m.sl.set j none).set j (m.sl[j]?.join) } : M) = m
  rw [List.set_set]
  have : m.sl[j]? = some (m.sl[j]?.join) := by
    rw [List.getElem?_eq_getElem h]
    rfl
  rw [set_self this]
theorem frz_id {g : M → Out Ctl} {m : M} {j : Nat} (h : plainSl (m.sl[j]?.join) = true) : dFrz j g m = g m := by
  unfold dFrz
  cases e : m.sl[j]? with
  | none =>
    have : get m (.s j) = none := by unfold PD.get; simp only [e]
    rw [this]
  | some x =>
    rw [e] at h
    cases x with
    | none =>
      have : get m (.s j) = none := by unfold PD.get; simp only [e]
      rw [this]
    | some sl =>
      cases sl with
      | pa k => cases h
      | sv s =>
        cases s with
        | fz d =>
          have gt : get m (.s j) = some (.fz d) := by unfold PD.get; simp only [e]
          rw [gt]
          show (match dFzE m (.br (.s j) []) with
            | .ok _ m1 => g m1
            | _ => .bad) = _
          have f : dFzE m (.br (.s j) []) = .ok d m := by
            unfold dFzE
            simp only [gt, PD.sub]
            show Out.ok d ({ m with sl := m.sl.set j (some (.sv (.fz d))) } : M) = _
            rw [set_self e]
          rw [f]
        | _ => cases h
theorem part2 {g : M → Out EV} {m m1 : M} {i : Int} (h : g m = .ok (.v (.int i)) m1) : dPart g m = .ok (some i) m1 := by unfold dPart; rw [h]; rfl
theorem dk_own {k : Nat} {s : SV} (h : Dk k s) : isO s = true := by
  obtain ⟨c, x, t, rfl, _⟩ := h
  rfl
theorem asgF_s {g : M → Out EV} {m m1 : M} {s : SV} {i : Nat} (h : g m = .ok (.fr s) m1) (hi : i < m1.sl.length) : dAsg g (bName i) m = .ok .nx (setS m1 i (some (.sv s))) := asgF_of h hi
theorem put2 {m : M} {i j : Nat} {a b : SV} (hi : i < m.sl.length) (hj : j < m.sl.length) : putSl [i, j] [a, b] m = .ok () (setS (setS m i (some (.sv a))) j (some (.sv b))) := by
  unfold putSl
  rw [if_pos hi]
  unfold putSl
  rw [if_pos (by show j < (m.sl.set i _).length; rw [List.length_set]; exact hj)]
  rfl
theorem plusL {m : M} {xs ys : List D} (h : xs.length + ys.length ≤ bigLen) : kV2 pPlus m (.v (.lst xs)) (.v (.lst ys)) = .ok (.fr (.ol ((xs ++ ys).map .fz))) m := by
  have e : pPlus (.fz (.lst xs)) (.fz (.lst ys)) = some (.fr (.ol ((xs ++ ys).map .fz))) := by
    have c : pCatL (.fz (.lst xs)) (.fz (.lst ys)) = some (.fr (.ol ((xs ++ ys).map .fz))) := by
      show (if xs.length + ys.length ≤ bigLen then _ else none) = _
      rw [if_pos h]
    have t : pCatT (.fz (.lst xs)) (.fz (.lst ys)) = none := rfl
    have s : pCatS (.fz (.lst xs)) (.fz (.lst ys)) = none := rfl
    have a : pAddI (.fz (.lst xs)) (.fz (.lst ys)) = none := rfl
    unfold pPlus orOp
    rw [a]
    simp only [s, t, c]
  rw [s_kv2, e]
structure LF (m : M) (s : SV) : Prop where
  pp : m.pp = []
  len : m.sl.length = 19
  dk : Hs m 1 s
  r14 : plainSl (m.sl[14]?.join) = true
theorem LF.set {m : M} {s : SV} (h : LF m s) {j : Nat} {x : Option Sl} (h1 : j ≠ 1) (h2 : j ≠ 14) : LF (setS m j x) s :=
  ⟨h.pp, (len_set m j x).trans h.len, hs_ne h.dk h1, by show plainSl ((m.sl.set j x)[14]?.join) = true; rw [List.getElem?_set_ne h2]; exact h.r14⟩
theorem LF.row {m : M} {s : SV} (h : LF m s) (d : D) : LF (setS m 14 (some (.sv (.fz d)))) s :=
  ⟨h.pp, (len_set m 14 _).trans h.len, hs_ne h.dk (by decide), by show plainSl ((m.sl.set 14 _)[14]?.join) = true; rw [List.getElem?_set_self (by rw [h.len]; decide)]; rfl⟩
theorem LF.deck {m : M} {s s' : SV} (h : LF m s) : LF (setS m 1 (some (.sv s'))) s' :=
  ⟨h.pp, (len_set m 1 _).trans h.len, hs_eq (by rw [h.len]; decide), by show plainSl ((m.sl.set 1 _)[14]?.join) = true; rw [List.getElem?_set_ne (by decide)]; exact h.r14⟩
structure BF (ks : List N7) (rows : List Row) (m : M) (s : SV) : Prop where
  L : LF m s
  h3 : Hs m 3 (.fz (.lst (nmD ks)))
  h4 : Hs m 4 (.fz (rowsD rows))
  h5 : Hs m 5 (.fz (.str (shD (rowsD rows))))
section
variable {mg : Str → Option Value} {m : M} {s : SV} {k : Nat} {ks : List N7} {rows : List Row}
theorem BF.set (h : BF ks rows m s) {j : Nat} {x : Option Sl} (e : 6 ≤ j ∧ j ≠ 14) : BF ks rows (setS m j x) s :=
  ⟨h.L.set (by omega) (by omega), hs_ne h.h3 (by omega), hs_ne h.h4 (by omega), hs_ne h.h5 (by omega)⟩
theorem BF.row (h : BF ks rows m s) (d : D) : BF ks rows (setS m 14 (some (.sv (.fz d)))) s :=
  ⟨h.L.row d, hs_ne h.h3 (by omega), hs_ne h.h4 (by omega), hs_ne h.h5 (by omega)⟩
theorem BF.deck {s' : SV} (h : BF ks rows m s) : BF ks rows (setS m 1 (some (.sv s'))) s' :=
  ⟨h.L.deck, hs_ne h.h3 (by decide), hs_ne h.h4 (by decide), hs_ne h.h5 (by decide)⟩
/-! ### 1: the kinds -/
def it6 : List N7 := [5, 3, 0, 1, 6, 2]
theorem lit6 (m : M) : opd (dApp (dCons true (dC (.str "quartz")) (dCons true (dC (.str "mica")) (dCons true (dC (.str "Opal")) (dCons true (dC (.str "b2")) (dCons true (dC (.str "talc")) (dCons true (dC (.str "garnet")) dNil)))))) kLst) m = .ok (.v (.lst (nmD it6))) m := by
  have l := (app_of (k := kLst) (c_of true (d := .str "quartz") (c_of true (d := .str "mica") (c_of true (d := .str "Opal") (c_of true (d := .str "b2") (c_of true (d := .str "talc") (c_of true (d := .str "garnet") (nil_of m)))))))).trans (lst_of (ds := nmD it6) (by show 6 ≤ 1000000; omega) rfl)
  have := opdF_of l
  rw [frz_fz] at this
  exact this
theorem st1 (L : LF m s) (h : Dk k s) (hk : k < 2 ^ 52) : ∃ m' s' ks, pw_1 mg m = .ok .nx m' ∧ LF m' s' ∧ Dk (k + 7) s' ∧ Hs m' 3 (lS ks) ∧ ks ≠ [] ∧ ks.length ≤ 6 := by
  obtain ⟨s1, F, d1, pm, e1⟩ := e_mixed (mg := mg) h (by omega) it6 (by decide)
  have c := (app_of (k := callK 2 (den__law_mixed mg)) (cons_of (pb := false) (opd_of (hs_own L.dk (dk_own h))) (cons_of (pb := true) (lit6 m) (nil_of _)))).trans (call_p (ds := [.lst (nmD it6)]) rfl (hs_get L.dk) e1)
  rw [setO_s] at c
  have L1 := L.deck (s' := s1)
  obtain ⟨s2, r, d2, r0, r5, e2⟩ := draw_call (mg := mg) (p := true) (q := true) (hs_own L1.dk (dk_own d1)) (hs_get L1.dk) d1 (by show k + 6 < _; omega) (b := 5) (by decide) (gb := dC (.int 5)) rfl
  rw [setO_s] at e2
  have L2 := L1.deck (s' := s2)
  obtain ⟨q, rfl⟩ : ∃ q : Nat, r = q := ⟨r.toNat, by omega⟩
  have a := bin3 (pb := false) (k := kV2 pPlus) (ga := dC (.int 2)) (x := .int 2) rfl e2 (plusI 2 _)
  have hF : F.length = 6 := pm.length_eq
  have sl : dSl true false (dApp (dCons false (dVar 1) (dCons true (dApp (dCons true (dC (.str "quartz")) (dCons true (dC (.str "mica")) (dCons true (dC (.str "Opal")) (dCons true (dC (.str "b2")) (dCons true (dC (.str "talc")) (dCons true (dC (.str "garnet")) dNil)))))) kLst) dNil)) (callK 2 (den__law_mixed mg))) dNoPart (dPart (dBin false (dC (.int 2)) (dApp (dCons true (dVar 1) (dCons true (dC (.int 5)) dNil)) (callK 2 (den__law_draw mg))) (kV2 pPlus))) m =
      .ok (.fr (lS (F.take (2 + q)))) (setS (setS m 1 (some (.sv s1))) 1 (some (.sv s2))) := by
    unfold dSl
    have f : frz (lS F) = .lst (nmD F) := frz_fm (fun i => D.str (nm i)) F
    have c' := opdF_of (s := lS F) c
    rw [f] at c'
    rw [c', bind_ok]
    show ((dPart _ (setS m 1 (some (.sv s1)))).bind fun h m3 => if stable (true && false) (EV.v (.lst (nmD F))) = true then Out.ok (EV.fr (.ol ((PD.cutD (nmD F) none h).map .fz))) m3 else .bad) = _
    rw [part2 a, bind_ok, if_pos (show stable (true && false) (EV.v (.lst (nmD F))) = true from rfl)]
    rw [show ((2 : Int) + q) = ((2 + q : Nat) : Int) by omega, cut_take]
    unfold nmD lS
    rw [← List.map_take, List.map_map]
    rfl
  refine ⟨_, s2, F.take (2 + q), asgF_s sl (by rw [L2.len]; decide), L2.set (by decide) (by decide), d2.up (by show k + 6 + 1 ≤ _; omega), hs_eq (by rw [L2.len]; decide), fun e => ?_, by rw [List.length_take]; omega⟩
  have := congrArg List.length e
  rw [List.length_take, hF] at this
  have this : min (2 + q) 6 = 0 := this
  omega
/-! ### 2, 3: the swaps, their text -/
theorem st2 (L : LF m s) (h : Dk k s) (hk : k < 2 ^ 52) (H3 : Hs m 3 (lS ks)) (hl : ks.length ≤ 6) : ∃ m' s' rows, pw_2 mg m = .ok .nx m' ∧ RowsOk rows ∧ LF m' s' ∧ Dk (k + 202) s' ∧ Hs m' 3 (.fz (.lst (nmD ks))) ∧ Hs m' 4 (.fz (rowsD rows)) := by
  obtain ⟨s', rows, d', R, e⟩ := e_swaps (mg := mg) h (by omega) ks (by omega)
  have c := (app_of (k := callK 2 (den__law_swaps mg)) (cons_of (pb := true) (opd_of (hs_own L.dk (dk_own h))) (cons_of (pb := true) (opd_of (hs_own H3 rfl)) (nil_of m)))).trans (call_pp (ds := []) rfl (by decide) (hs_get L.dk) (hs_get H3) e)
  rw [setO_s, setO_s] at c
  have L1 := L.deck (s' := s')
  have L2 : LF (setS (setS m 1 (some (.sv s'))) 3 (some (.sv (.fz (.lst (nmD ks)))))) s' := L1.set (by decide) (by decide)
  exact ⟨_, s', rows, asgV_s c, R, L2.set (by decide) (by decide), d', hs_ne (hs_eq (by rw [L1.len]; decide)) (by decide), hs_eq (by rw [L2.len]; decide)⟩
theorem st3 (R : RowsOk rows) (L : LF m s) (H3 : Hs m 3 (.fz (.lst (nmD ks)))) (H4 : Hs m 4 (.fz (rowsD rows))) : ∃ m', pw_3 mg m = .ok .nx m' ∧ BF ks rows m' s := by
  have r := (app1_of (pb := true) (k := kVN pRepr) (hs_var H4)).trans (repr_v (sm_rows R) (by decide) (by decide) rfl m)
  exact ⟨_, asgV_s r, L.set (by decide) (by decide), hs_ne H3 (by decide), hs_ne H4 (by decide), hs_eq (by rw [L.len]; decide)⟩
end
end K31
namespace K31
open PySem PySem.Spec PyProof.Rows L2 PD
section
variable {mg : Str → Option Value} {m : M} {s : SV} {k : Nat} {ks : List N7} {rows : List Row} {gv gt : N7}
structure GF (ks : List N7) (rows : List Row) (gv gt : N7) (m : M) (s : SV) : Prop where
  F : BF ks rows m s
  h7 : Hs m 7 (.fz (.str (nm gv)))
  h8 : Hs m 8 (.fz (.str (nm gt)))
theorem GF.set (h : GF ks rows gv gt m s) {j : Nat} {x : Option Sl} (e : 9 ≤ j ∧ j ≠ 14) : GF ks rows gv gt (setS m j x) s :=
  ⟨h.F.set (by omega), hs_ne h.h7 (by omega), hs_ne h.h8 (by omega)⟩
theorem GF.row (h : GF ks rows gv gt m s) (d : D) : GF ks rows gv gt (setS m 14 (some (.sv (.fz d)))) s :=
  ⟨h.F.row d, hs_ne h.h7 (by omega), hs_ne h.h8 (by omega)⟩
theorem GF.deck {s' : SV} (h : GF ks rows gv gt m s) : GF ks rows gv gt (setS m 1 (some (.sv s'))) s' :=
  ⟨h.F.deck, hs_ne h.h7 (by decide), hs_ne h.h8 (by decide)⟩
/-! ### give, get -/
theorem kinds_lit (hl : ks.length ≤ 6) (H3 : Hs m 3 (.fz (.lst (nmD ks)))) : opd (dBin false (dVar 3) (dApp (dCons true (dC (.str "none")) dNil) kLst) (kV2 pPlus)) m = .ok (.v (.lst (nmD (ks ++ [4])))) m := by
  have hb : bigLen = 1000000 := rfl
  have l := (app_of (k := kLst) (c_of true (d := .str "none") (nil_of m))).trans (lst_of (ds := nmD [4]) (by show 1 ≤ 1000000; omega) rfl)
  have l := opdF_of l
  rw [frz_fz] at l
  have b := bin_of (pb := false) (k := kV2 pPlus) (opd_of (hs_var H3)) l
  rw [plusL (by unfold nmD; rw [List.length_map, List.length_map]; show ks.length + 1 ≤ bigLen; omega)] at b
  have := opdF_of b
  rw [frz_fz] at this
  rw [this]
  unfold nmD
  rw [List.map_append]
theorem nm_of {l : List N7} {d : D} (h : d ∈ nmD l) : ∃ g : N7, d = .str (nm g) := by
  obtain ⟨g, _, rfl⟩ := List.mem_map.mp h
  exact ⟨g, rfl⟩
theorem gst1 (hl : ks.length ≤ 6) (F : BF ks rows m s) (h : Dk k s) (hk : k < 2 ^ 52) : ∃ m' s' gv gt, gw_1 mg m = .ok .nx m' ∧ GF ks rows gv gt m' s' ∧ Dk (k + 2) s' := by
  have ne : nmD (ks ++ [4]) ≠ [] := by unfold nmD; simp
  have ln : (nmD (ks ++ [4])).length < 2 ^ 29 := by unfold nmD; rw [List.length_map, List.length_append]; show ks.length + 1 < _; omega
  obtain ⟨s1, d, hd, d1, e1⟩ := pick_call (mg := mg) (p := false) (q := true) (hs_own F.L.dk (dk_own h)) (hs_get F.L.dk) h (by omega) (items := nmD (ks ++ [4])) ne ln (kinds_lit hl F.h3)
  rw [setO_s] at e1
  have F1 := F.deck (s' := s1)
  obtain ⟨s2, d', hd', d2, e2⟩ := pick_call (mg := mg) (p := false) (q := true) (hs_own F1.L.dk (dk_own d1)) (hs_get F1.L.dk) d1 (by omega) (items := nmD (ks ++ [4])) ne ln (kinds_lit hl F1.h3)
  rw [setO_s] at e2
  have F2 := F1.deck (s' := s2)
  obtain ⟨gv, rfl⟩ := nm_of hd
  obtain ⟨gt, rfl⟩ := nm_of hd'
  have p := par_of (is := [7, 8]) (raw_of e1 rfl (raw_of e2 rfl rfl)) (put2 (by rw [F2.L.len]; decide) (by rw [F2.L.len]; decide))
  exact ⟨_, s2, gv, gt, p, ⟨(F2.set (by omega)).set (by omega), hs_ne (hs_eq (by rw [F2.L.len]; decide)) (by decide), hs_eq (by rw [len_set, F2.L.len]; decide)⟩, d2⟩
/-! ### due -/
theorem gst2 (R : RowsOk rows) (G : GF ks rows gv gt m s) : gw_2 mg m = .ok .nx (setS m 9 (some (.sv (.fz (.int (costV rows gv gt)))))) := by
  have len := R.len
  obtain ⟨L, l, e⟩ := e_lcosts (mg := mg) rows (by omega) gv
  have c : dApp (dCons true (dVar 4) (dCons true (dVar 7) dNil)) (callK 2 (den__law_costs mg)) m = .ok (.fr (dictS D.int L)) m := (app2_of (hs_var G.F.h4) (hs_var G.h7)).trans (call2 e)
  have c := opdF_of c
  rw [frz_dict] at c
  have n : dUn (dC (.int 1)) (kV1 pNeg) m = .ok (.v (.int (-1))) m := (un_of (ga := dC (.int 1)) (m := m) (x := .v (.int 1)) rfl).trans (negI 1)
  have g := get2_of (f := D.int) (L := L) (s := .fz (dictD D.int L)) (x := gt) c rfl rfl (hs_var G.h8) n (dl_dictD gt)
  have lk : look L gt = KQ.least rows gv gt := congrFun l gt
  rw [lk] at g
  have v : ((KQ.least rows gv gt).map D.int).getD (.int (-1)) = .int (costV rows gv gt) := by
    unfold costV
    cases KQ.least rows gv gt <;> rfl
  rw [v] at g
  exact asgV_s g
theorem cost_run (R : RowsOk rows) (a b : N7) : Rn (den_swap_cost mg [.fz (rowsD rows), .fz (.str (nm a)), .fz (.str (nm b))] []) (.fz (.int (costV rows a b))) [] := e_swap_cost rows R.ok R.ord (by have : bigLen = 1000000 := rfl; have := R.len; omega) a b
theorem two_lst {g1 g2 : M → Out EV} {a b : D} {p q : Bool} (h1 : g1 m = .ok (.v a) m) (h2 : g2 m = .ok (.v b) m) : dApp (dCons p g1 (dCons q g2 dNil)) kLst m = .ok (.fr (.ol ([a, b].map .fz))) m :=
  (app_of (k := kLst) (cons_of (opd_of h1) (cons_of (opd_of h2) (nil_of m)))).trans (lst_of (ds := [a, b]) (by show 2 ≤ 1000000; omega) rfl)
theorem opdL {g : M → Out EV} {ds : List D} (h : g m = .ok (.fr (.ol (ds.map .fz))) m) : opd g m = .ok (.v (.lst ds)) m := by
  have := opdF_of h
  rw [frz_fz] at this
  exact this
theorem gst3 (R : RowsOk rows) (G : GF ks rows gv gt m s) (H9 : Hs m 9 (.fz (.int (costV rows gv gt)))) : gw_3 mg m = .ok .nx m := by
  have c1 : dApp (dCons true (dVar 4) (dCons true (dVar 7) (dCons true (dVar 8) dNil))) (callK 3 (den_swap_cost mg)) m = .ok (.v (.int (costV rows gv gt))) m := (app3_of (hs_var G.F.h4) (hs_var G.h7) (hs_var G.h8)).trans (call3 (cost_run R gv gt))
  have c2 : dApp (dCons true (dVar 8) (dCons true (dVar 7) (dCons true (dVar 4) dNil))) (callP 3 (den_swap_cost mg) [2, 1, 0]) m = .ok (.v (.int (costV rows gv gt))) m := (app3_of (hs_var G.h8) (hs_var G.h7) (hs_var G.F.h4)).trans (callP3 (cost_run R gv gt))
  have sm : SmD 5 (.lst [.int (costV rows gv gt), .int (costV rows gv gt)]) := .lst (fun x hx => by
    simp only [List.mem_cons, List.not_mem_nil, or_false] at hx
    rcases hx with rfl | rfl <;> exact .int _ _) (by show 2 ≤ 1000000; omega)
  have t := not_of (test_of ((app_of (k := callK 2 (den__law_same mg 5)) (cons_of (pb := false) (opdL (two_lst (p := false) (q := true) c1 c2)) (cons_of (pb := true) (opdL (two_lst (p := true) (q := true) (hs_var H9) (hs_var H9))) (nil_of m)))).trans (call2 (e_same (mg := mg) 5 _ sm))))
  unfold gw_3
  rw [if_of t]
  rfl
/-! ### the walk -/
structure WF (ks : List N7) (rows : List Row) (gv gt h : N7) (pd : Int) (m : M) (s : SV) : Prop where
  G : GF ks rows gv gt m s
  h10 : Hs m 10 (.fz (.str (nm h)))
  h11 : Hs m 11 (.fz (.int pd))
  wk : ∃ l, KQ.Wk rows gv h l ∧ KQ.fee l = pd
variable {hr : N7} {pd : Int}
theorem WF.set (W : WF ks rows gv gt hr pd m s) {j : Nat} {x : Option Sl} (e : 12 ≤ j ∧ j ≠ 14) : WF ks rows gv gt hr pd (setS m j x) s :=
  ⟨W.G.set (by omega), hs_ne W.h10 (by omega), hs_ne W.h11 (by omega), W.wk⟩
theorem WF.row (W : WF ks rows gv gt hr pd m s) (d : D) : WF ks rows gv gt hr pd (setS m 14 (some (.sv (.fz d)))) s :=
  ⟨W.G.row d, hs_ne W.h10 (by omega), hs_ne W.h11 (by omega), W.wk⟩
theorem WF.deck {s' : SV} (W : WF ks rows gv gt hr pd m s) : WF ks rows gv gt hr pd (setS m 1 (some (.sv s'))) s' :=
  ⟨W.G.deck, hs_ne W.h10 (by decide), hs_ne W.h11 (by decide), W.wk⟩
theorem gst4 (G : GF ks rows gv gt m s) : ∃ m', gw_4 mg m = .ok .nx m' ∧ WF ks rows gv gt gv 0 m' s := by
  have p := par_of (is := [10, 11]) (raw_of (hs_var G.h7) rfl (raw_of (gv := dC (.int 0)) (ev := .v (.int 0)) (m := m) rfl rfl rfl)) (put2 (by rw [G.F.L.len]; decide) (by rw [G.F.L.len]; decide))
  exact ⟨_, p, (G.set (by omega)).set (by omega), hs_ne (hs_eq (by rw [G.F.L.len]; decide)) (by decide), hs_eq (by rw [len_set, G.F.L.len]; decide), [], .nil _, rfl⟩
def out (rows : List Row) (h : N7) : List Row := rows.filter fun r => nm r.1 == nm h
theorem tst1 (R : RowsOk rows) (W : WF ks rows gv gt hr pd m s) : tw_1 mg m = .ok .nx (setS m 13 (some (.sv (.ol ((out rows hr).map fun r => .fz (rowT r)))))) := by
  have hb : bigLen = 1000000 := rfl
  have rl := R.len
  have ln : 14 < m.sl.length := by rw [W.G.F.L.len]; decide
  have c := comp_ifm (gi := dISeq (dVar 4)) (vs := [14]) (b := bName 14) (gt := dTest (dBin true (dBin true (dVar 14) (dC (.int 0)) kIx) (dVar 10) (kV2 (bin2 pEq)))) (ge := dVar 14) (l := rows) rowT (fun r => nm r.1 == nm hr) (fun r => .fz (rowT r)) (iseq_of (hs_var W.G.F.h4) (d := rowsD rows) rfl rfl) (by omega) (by show (plainSl (m.sl[14]?.join) && true) = true; rw [W.G.F.L.r14]; rfl) (rest1 m ln) fun r hr' => by
    have m1 : bName 14 (.v (rowT r)) (wipeM m [14]) = .ok () (setS (setS m 14 none) 14 (some (.sv (.fz (rowT r))))) := rfl
    have h14 : Hs (setS (setS m 14 none) 14 (some (.sv (.fz (rowT r))))) 14 (.fz (rowT r)) := hs_eq (by rw [len_set]; exact ln)
    have h10 : Hs (setS (setS m 14 none) 14 (some (.sv (.fz (rowT r))))) 10 (.fz (.str (nm hr))) := hs_ne (hs_ne W.h10 (by decide)) (by decide)
    have wp : wipeM (setS (setS m 14 none) 14 (some (.sv (.fz (rowT r))))) [14] = wipeM m [14] := by
      show ({ m with sl := ((m.sl.set 14 none).set 14 _).set 14 none } : M) = { m with sl := m.sl.set 14 none }
      rw [List.set_set, List.set_set]
    generalize setS (setS m 14 none) 14 (some (.sv (.fz (rowT r)))) = mm at m1 h14 h10 wp
    have x0 : dBin true (dVar 14) (dC (.int 0)) kIx mm = .ok (.v (.str (nm r.1))) mm := bin3 (pb := true) (gb := dC (.int 0)) (hs_var h14) rfl (ixt 0 (by decide) rfl)
    have t := test_of (bin3 (pb := true) x0 (hs_var h10) (eqS _ _ _))
    exact ⟨mm, mm, m1, t, fun _ => wp, fun _ => ⟨.v (rowT r), mm, mm, hs_var h14, rfl, wp⟩⟩
  unfold tw_1
  rw [frz_id W.G.F.L.r14]
  exact asgF_s c (by rw [W.G.F.L.len]; decide)
theorem pyS_rows (l : List Row) : toPyS (.ol (l.map fun r => .fz (rowT r))) = some (.list (l.map fun r => .tuple [.str (nm r.1), .str (nm r.2.1), .int r.2.2])) := by
  have e : ∀ l : List Row, toPySL (l.map fun r => SV.fz (rowT r)) = some (l.map fun r => PyData.tuple [.str (nm r.1), .str (nm r.2.1), .int r.2.2]) := fun l => by
    induction l with
    | nil => rfl
    | cons x l ih => rw [List.map_cons, toPySL, ih]; rfl
  rw [toPyS, e]
  rfl
theorem tst2 (R : RowsOk rows) (W : WF ks rows gv gt hr pd m s) (h : Dk k s) (hk : k < 2 ^ 52) (H13 : Hs m 13 (.ol ((out rows hr).map fun r => .fz (rowT r)))) : ∃ m' s' h' p', tw_2 mg m = .ok .nx m' ∧ WF ks rows gv gt h' p' m' s' ∧ Dk (k + 2) s' := by
  have t : dTest (dBin true (dVar 13) (dApp dNil kLst0) (kV2 (bin2 pNe))) m = .ok (!((out rows hr).map fun r => PyData.tuple [.str (nm r.1), .str (nm r.2.1), .int r.2.2]).isEmpty) m := test_of (by
    have o2 : opd (dApp dNil kLst0) m = .ok (.v (.lst [])) m := rfl
    rw [bin_of (pb := true) (opd_of (hs_own H13 rfl)) o2]
    have g : PD.view m (.br (.s 13) []) = some (.ol ((out rows hr).map fun r => .fz (rowT r))) := by simp [PD.view, hs_get H13, PD.sub]
    unfold kV2
    rw [g]
    simp only [PD.view, ne_nil (pyS_rows _)])
  unfold tw_2
  by_cases e : out rows hr = []
  · rw [e] at t
    refine ⟨m, s, hr, pd, ?_, W, h.up (by omega)⟩
    rw [if_of t]
    rfl
  · have z : (!((out rows hr).map fun r => PyData.tuple [.str (nm r.1), .str (nm r.2.1), .int r.2.2]).isEmpty) = true := by cases q : out rows hr with
      | nil => exact (e q).elim
      | cons _ _ => rfl
    rw [z] at t
    rw [if_of t, if_pos rfl]
    have ol : (out rows hr).length ≤ 20 := Nat.le_trans (List.length_filter_le _ _) R.len
    obtain ⟨s1, d, hd, d1, e1⟩ := e_pickP (mg := mg) h (by omega) (items := (out rows hr).map rowT) (by simpa using e) (by rw [List.length_map]; omega)
    rw [List.map_map] at e1
    obtain ⟨r, hr1, rfl⟩ := List.mem_map.mp hd
    have rm : r ∈ rows ∧ r.1 = hr := by
      have := List.mem_filter.mp hr1
      exact ⟨this.1, nm_inj _ _ (eq_of_beq this.2)⟩
    have c := (app_of (k := callK 2 (den__law_pick mg)) (cons_of (pb := true) (opd_of (hs_own W.G.F.L.dk (dk_own h))) (cons_of (pb := true) (opd_of (hs_own H13 rfl)) (nil_of m)))).trans (call_pp (ds := []) rfl (by decide) (hs_get W.G.F.L.dk) (hs_get H13) e1)
    rw [setO_s, setO_s] at c
    have W1 : WF ks rows gv gt hr pd (setS (setS m 1 (some (.sv s1))) 13 (some (.sv (.ol ((out rows hr).map (SV.fz ∘ rowT)))))) s1 := W.deck.set (by omega)
    generalize setS (setS m 1 (some (.sv s1))) 13 (some (.sv (.ol ((out rows hr).map (SV.fz ∘ rowT))))) = m1 at c W1
    have u1 : uw_1 mg m = .ok .nx (setS m1 14 (some (.sv (.fz (rowT r))))) := asgV_s c
    have W2 := W1.row (rowT r)
    have h14 : Hs (setS m1 14 (some (.sv (.fz (rowT r))))) 14 (.fz (rowT r)) := hs_eq (by rw [W1.G.F.L.len]; decide)
    generalize setS m1 14 (some (.sv (.fz (rowT r)))) = m2 at u1 W2 h14
    have x1 : dBin true (dVar 14) (dC (.int 1)) kIx m2 = .ok (.v (.str (nm r.2.1))) m2 := bin3 (pb := true) (gb := dC (.int 1)) (hs_var h14) rfl (ixt 1 (by decide) rfl)
    have x2 : dBin true (dVar 14) (dC (.int 2)) kIx m2 = .ok (.v (.int r.2.2)) m2 := bin3 (pb := true) (gb := dC (.int 2)) (hs_var h14) rfl (ixt 2 (by decide) rfl)
    have x3 := bin3 (pb := true) (k := kV2 pPlus) (hs_var W2.h11) x2 (plusI _ _)
    have u2 : uw_2 mg m2 = .ok .nx _ := par_of (is := [10, 11]) (raw_of x1 rfl (raw_of x3 rfl rfl)) (put2 (by rw [W2.G.F.L.len]; decide) (by rw [W2.G.F.L.len]; decide))
    have W3 : WF ks rows gv gt r.2.1 (pd + r.2.2) (setS (setS m2 10 (some (.sv (.fz (.str (nm r.2.1)))))) 11 (some (.sv (.fz (.int (pd + r.2.2)))))) s1 := by
      obtain ⟨l, w, f⟩ := W2.wk
      refine ⟨(W2.G.set (by omega)).set (by omega), hs_ne (hs_eq (by rw [W2.G.F.L.len]; decide)) (by decide), hs_eq (by rw [len_set, W2.G.F.L.len]; decide), l ++ [(hr, r.2.1, r.2.2)], w.snoc ?_, ?_⟩
      · rw [← rm.2]; exact rm.1
      · rw [KQ.fee_app, f]; simp [KQ.fee]
    generalize setS (setS m2 10 (some (.sv (.fz (.str (nm r.2.1)))))) 11 (some (.sv (.fz (.int (pd + r.2.2))))) = m3 at u2 W3
    obtain ⟨s2, q, d2, q0, q1, e2⟩ := draw_call (mg := mg) (p := true) (q := true) (hs_own W3.G.F.L.dk (dk_own d1)) (hs_get W3.G.F.L.dk) d1 (by omega) (b := 3) (by decide) (gb := dC (.int 3)) rfl
    rw [setO_s] at e2
    have W4 := W3.deck (s' := s2)
    generalize setS m3 1 (some (.sv s2)) = m4 at e2 W4
    have t1 := test_of (bin3 (pb := true) (gb := dC (.int 0)) e2 rfl (eqI _ _ _))
    have cc : dApp (dCons true (dVar 4) (dCons true (dVar 7) (dCons true (dVar 10) dNil))) (callK 3 (den_swap_cost mg)) m4 = .ok (.v (.int (costV rows gv r.2.1))) m4 := (app3_of (hs_var W4.G.F.h4) (hs_var W4.G.h7) (hs_var W4.h10)).trans (call3 (cost_run R gv r.2.1))
    have bd : 0 ≤ costV rows gv r.2.1 ∧ costV rows gv r.2.1 ≤ pd + r.2.2 := by
      obtain ⟨l, w, f⟩ := W4.wk
      have P : KQ.Pos rows := fun r h => (R.ok r h).2
      obtain ⟨c, e, hc⟩ := KQ.least_le P w
      have := KQ.least_pos P e
      have v : costV rows gv r.2.1 = c := by unfold costV; rw [e]; rfl
      rw [v, ← f]
      exact ⟨this, hc⟩
    have t2 := not_of (test_of (chainV_of (pb := false) (pc := true) (ga := dC (.int 0)) (x := 0) rfl cc (hs_var W4.h11)))
    rw [decide_eq_true bd.1, decide_eq_true bd.2] at t2
    have u3 : uw_3 mg m3 = .ok .nx m4 := by
      unfold uw_3
      rw [if_of (and_of t1 (fun _ => t2) (fun _ => rfl))]
      cases decide (q = 0) <;> rfl
    refine ⟨m4, s2, r.2.1, pd + r.2.2, ?_, W4, d2⟩
    unfold uw_all
    rw [seq_nx u1, seq_nx u2]
    exact u3
theorem rng6 (m : M) (n : Nat) (hn : n ≤ 100) : dIter (dCons true (dC (.int (n : Nat))) dNil) kRange1 m = .ok ⟨(List.range n).map fun i => .int (i : Nat), always⟩ m := rng_of (g := dC (.int n)) rfl (by have : bigLen = 1000000 := rfl; omega)
theorem gst5 (R : RowsOk rows) (W : WF ks rows gv gt hr pd m s) (h : Dk k s) (hk : k < 2 ^ 51) : ∃ m' s', gw_5 mg m = .ok .nx m' ∧ BF ks rows m' s' ∧ Dk (k + 12) s' := by
  obtain ⟨m', e, s', h', p', W', d'⟩ := for_rng (tg := bName 12) (gb := tw_body mg) (fun i m => ∃ s h p, WF ks rows gv gt h p m s ∧ Dk (k + 2 * i) s) (rng6 m 6 (by decide)) ⟨s, hr, pd, W, h⟩ fun i hi m h => by
    obtain ⟨s, hr, pd, W, d⟩ := h
    have W1 : WF ks rows gv gt hr pd (setS m 12 (some (.sv (.fz (.int i))))) s := W.set (by omega)
    have st : bName 12 (.v (.int i)) m = .ok () (setS m 12 (some (.sv (.fz (.int i))))) := rfl
    generalize setS m 12 (some (.sv (.fz (.int i)))) = m1 at W1 st
    have e1 := tst1 (mg := mg) R W1
    have W2 : WF ks rows gv gt hr pd (setS m1 13 (some (.sv (.ol ((out rows hr).map fun r => .fz (rowT r)))))) s := W1.set (by omega)
    have h13 : Hs (setS m1 13 (some (.sv (.ol ((out rows hr).map fun r => .fz (rowT r)))))) 13 (.ol ((out rows hr).map fun r => .fz (rowT r))) := hs_eq (by rw [W1.G.F.L.len]; decide)
    generalize setS m1 13 (some (.sv (.ol ((out rows hr).map fun r => .fz (rowT r))))) = m2 at e1 W2 h13
    obtain ⟨m3, s3, h3, p3, e2, W3, d3⟩ := tst2 (mg := mg) R W2 d (by omega) h13
    refine ⟨m1, m3, st, .inl ?_, s3, h3, p3, W3, d3⟩
    unfold tw_body
    rw [seq_nx e1]
    exact e2
  exact ⟨m', s', e, W'.G.F, d'⟩
theorem go_turn (hl : ks.length ≤ 6) (R : RowsOk rows) (F : BF ks rows m s) (h : Dk k s) (hk : k < 2 ^ 50) : ∃ m' s', gw_body mg m = .ok .nx m' ∧ BF ks rows m' s' ∧ Dk (k + 14) s' := by
  obtain ⟨m1, s1, gv, gt, e1, G1, d1⟩ := gst1 (mg := mg) hl F h (by omega)
  have e2 := gst2 (mg := mg) R G1
  have G2 : GF ks rows gv gt (setS m1 9 (some (.sv (.fz (.int (costV rows gv gt)))))) s1 := G1.set (by omega)
  have h9 : Hs (setS m1 9 (some (.sv (.fz (.int (costV rows gv gt)))))) 9 (.fz (.int (costV rows gv gt))) := hs_eq (by rw [G1.F.L.len]; decide)
  generalize setS m1 9 (some (.sv (.fz (.int (costV rows gv gt))))) = m2 at e2 G2 h9
  have e3 := gst3 (mg := mg) R G2 h9
  obtain ⟨m4, e4, W4⟩ := gst4 (mg := mg) G2
  obtain ⟨m5, s5, e5, F5, d5⟩ := gst5 (mg := mg) R W4 d1 (by omega)
  refine ⟨m5, s5, ?_, F5, d5⟩
  unfold gw_body
  rw [seq_nx e1, seq_nx e2, seq_nx e3, seq_nx e4]
  exact e5
theorem st4 (hl : ks.length ≤ 6) (R : RowsOk rows) (F : BF ks rows m s) (h : Dk k s) (hk : k < 2 ^ 49) : ∃ m' s', pw_4 mg m = .ok .nx m' ∧ BF ks rows m' s' ∧ Dk (k + 84) s' := by
  obtain ⟨m', e, s', F', d'⟩ := for_rng (tg := bName 6) (gb := gw_body mg) (fun i m => ∃ s, BF ks rows m s ∧ Dk (k + 14 * i) s) (rng6 m 6 (by decide)) ⟨s, F, h⟩ fun i hi m h => by
    obtain ⟨s, F, d⟩ := h
    have F1 : BF ks rows (setS m 6 (some (.sv (.fz (.int i))))) s := F.set (by omega)
    obtain ⟨m2, s2, e2, F2, d2⟩ := go_turn (mg := mg) hl R F1 d (by omega)
    exact ⟨setS m 6 (some (.sv (.fz (.int i)))), m2, rfl, .inl e2, s2, F2, d2⟩
  exact ⟨m', s', e, F', d'⟩
end
end K31
namespace K31
open PySem PySem.Spec PyProof.Rows L2 PD
section
variable {mg : Str → Option Value} {m : M} {s : SV} {k : Nat} {ks : List N7} {rows : List Row} {K : Kf}
/-! ### what is not right -/
theorem tF_of {g : M → Out EV} {ds : List D} (h : g m = .ok (.fr (.ol (ds.map .fz))) m) : dApp (dCons true g dNil) PD.kTup m = .ok (.v (.tup [.lst ds])) m := (app_of (k := PD.kTup) (cons_of (pb := true) (opdL h) (nil_of m))).trans rfl
theorem t2p_of {p q : Bool} {g1 g2 : M → Out EV} {a b : D} (h1 : g1 m = .ok (.v a) m) (h2 : g2 m = .ok (.v b) m) : dApp (dCons p g1 (dCons q g2 dNil)) PD.kTup m = .ok (.v (.tup [a, b])) m := (app_of (k := PD.kTup) (cons_of (opd_of h1) (cons_of (opd_of h2) (nil_of m)))).trans rfl
theorem l3_of {p q r : Bool} {g1 g2 g3 : M → Out EV} {a b c : D} (h1 : g1 m = .ok (.v a) m) (h2 : g2 m = .ok (.v b) m) (h3 : g3 m = .ok (.v c) m) : dApp (dCons p g1 (dCons q g2 (dCons r g3 dNil))) kLst m = .ok (.fr (.ol ([a, b, c].map .fz))) m :=
  (app_of (k := kLst) (cons_of (opd_of h1) (cons_of (opd_of h2) (cons_of (opd_of h3) (nil_of m))))).trans (lst_of (ds := [a, b, c]) (by show 3 ≤ 1000000; omega) rfl)
theorem eqv_nilT (ps : List PyData) : PyData.eqv (.tuple ps) (.tuple []) = ps.isEmpty := by
  cases ps with
  | nil => simp [PyData.eqv, PyData.eqvAll]
  | cons p ps => simp [PyData.eqv, PyData.eqvAll]
theorem py_rows (l : List Row) : toPy (rowsD l) = some (.tuple (l.map fun r => .tuple [.str (nm r.1), .str (nm r.2.1), .int r.2.2])) := by
  have e : ∀ l : List Row, toPyL (l.map rowT) = some (l.map fun r => PyData.tuple [.str (nm r.1), .str (nm r.2.1), .int r.2.2]) := fun l => by
    induction l with
    | nil => rfl
    | cons x l ih => rw [List.map_cons, toPyL, ih]; rfl
  unfold rowsD
  rw [toPy, e]
  rfl
theorem neT (m : M) (l : List Row) : kV2 (bin2 pNe) m (.v (rowsD l)) (.v (.tup [])) = .ok (.v (.bl (!l.isEmpty))) m := by
  have e : bin2 pNe (.fz (rowsD l)) (.fz (.tup [])) = some (.v (.bl (!l.isEmpty))) := by
    have a : toPyS (.fz (rowsD l)) = some (.tuple (l.map fun r => .tuple [.str (nm r.1), .str (nm r.2.1), .int r.2.2])) := py_rows l
    have b : toPyS (.fz (.tup [])) = some (.tuple []) := rfl
    unfold bin2
    rw [a, b]
    show pNe _ _ = _
    unfold pNe
    rw [if_pos (by unfold dMin; simp [PyData.depth, PyData.depthAll]), eqv_nilT]
    cases l <;> rfl
  rw [s_kv2, e]
theorem cut_last {α : Type} (l : List α) (h : l ≠ []) : PD.cutD l (some (-1)) none = l.drop (l.length - 1) := by
  unfold PD.cutD
  have : HT.sIx l.length 0 (some (-1)) = l.length - 1 := by
    have := List.length_pos_iff.mpr h
    unfold HT.sIx
    simp
    try omega
  rw [this, HT.sIx_none]
  rw [List.take_of_length_le (by rw [List.length_drop]; omega)]
theorem neg1 (m : M) : dUn (dC (.int 1)) (kV1 pNeg) m = .ok (.v (.int (-1))) m := (un_of (ga := dC (.int 1)) (m := m) (x := .v (.int 1)) rfl).trans (negI 1)
theorem twice_lit (H4 : Hs m 4 (.fz (rowsD rows))) (hl : rows.length ≤ 20) : opd (dIfE (dTest (dBin false (dVar 4) (dApp dNil PD.kTup) (kV2 (bin2 pNe)))) (dBin true (dVar 4) (dSl true true (dVar 4) (dPart (dUn (dC (.int 1)) (kV1 pNeg))) dNoPart) (kV2 pPlus)) (dApp (dCons true (dC (.int 1)) dNil) PD.kTup)) m =
    .ok (.v (if rows.isEmpty = true then .tup [.int 1] else .tup (rows.map rowT ++ (lastR rows).map rowT))) m := by
  have hb : bigLen = 1000000 := rfl
  have t := test_of (bin3 (pb := false) (gb := dApp dNil PD.kTup) (y := .tup []) (hs_var H4) rfl (neT m rows))
  refine opd_of ?_
  rw [ifeV_of t]
  cases e : rows.isEmpty with
  | true => exact t1_of (g := dC (.int 1)) (d := .int 1) rfl
  | false =>
    have ne : rows ≠ [] := fun z => by rw [z] at e; cases e
    have sl : dSl true true (dVar 4) (dPart (dUn (dC (.int 1)) (kV1 pNeg))) dNoPart m = .ok (.v (.tup ((lastR rows).map rowT))) m := by
      unfold dSl
      rw [opd_of (hs_var H4), bind_ok, part_of (neg1 m)]
      show (if stable (true && true) (EV.v (rowsD rows)) = true then Out.ok (EV.v (.tup (PD.cutD (rows.map rowT) (some (-1)) none))) m else .bad) = _
      rw [if_pos (show stable (true && true) (EV.v (rowsD rows)) = true from rfl), cut_last _ (by simpa using ne), List.length_map, ← List.map_drop]
      rfl
    have ll : (lastR rows).length ≤ 20 := by unfold lastR; rw [List.length_drop]; omega
    show dBin true (dVar 4) _ (kV2 pPlus) m = _
    exact bin3 (pb := true) (hs_var H4) sl (plus_tup (by rw [List.length_map, List.length_map]; omega))
theorem bad_lit (H4 : Hs m 4 (.fz (rowsD rows))) (hl : rows.length ≤ 20) : ∃ gl, (pw_5 mg = dAsg (dApp (dCons false (dVar 1) (dCons true gl dNil)) (callK 2 (den__law_pick mg))) (bName 15)) ∧ opd gl m = .ok (.v (.lst (badL rows))) m := by
  have kd (d : D) : dC d m = .ok (.v d) m := rfl
  have g1 : opd (dApp (dCons true (dVar 4) dNil) (kVN pList)) m = .ok (.v (.lst (rows.map rowT))) m := by
    have : dApp (dCons true (dVar 4) dNil) (kVN pList) m = .ok (.fr (.ol ((rows.map rowT).map .fz))) m := (app1_of (hs_var H4)).trans rfl
    exact opdL this
  have mi (a b c : D) : dApp (dCons true (dApp (dCons true (dC a) (dCons true (dC b) (dCons true (dC c) dNil))) PD.kTup) dNil) PD.kTup m = .ok (.v (.tup [.tup [a, b, c]])) m := t1_of (t3_of (kd a) (kd b) (kd c))
  have l := (app_of (k := kLst) (cons_of (pb := false) (opd_of (kd .non)) (cons_of (pb := false) g1 (cons_of (pb := false) (opd_of (t1_of (t3_of (kd (.str "mica")) (kd (.str "talc")) (neg1 m)))) (cons_of (pb := false) (opd_of (mi (.str "mica") (.str "talc") (.bl true))) (cons_of (pb := false) (opd_of (t1_of (t2_of (kd (.str "mica")) (kd (.str "talc")))))
    (cons_of (pb := false) (opd_of (mi (.str "mi ca") (.str "talc") (.int 1))) (cons_of (pb := false) (opd_of (mi (.str "") (.str "talc") (.int 1))) (cons_of (pb := false) (opd_of (tF_of (l3_of (p := true) (q := true) (r := true) (kd (.str "mica")) (kd (.str "talc")) (kd (.int 1)))))
    (cons_of (pb := false) (opd_of (t2p_of (p := false) (q := true) (t3_of (kd (.str "talc")) (kd (.str "b2")) (kd (.int 1))) (t3_of (kd (.str "mica")) (kd (.str "b2")) (kd (.int 1))))) (cons_of (pb := false) (twice_lit H4 hl) (cons_of (pb := false) (opd_of (t3_of (kd (.str "mica")) (kd (.str "talc")) (kd (.int 1))))
    (cons_of (pb := false) (opd_of (mi (.str "mica") (.int 7) (.int 1))) (cons_of (pb := true) (opd_of (mi (.str "mica") (.str "talc") (.str "1"))) (nil_of m))))))))))))))).trans (lst_of (ds := badL rows) (by show 13 ≤ 1000000; omega) rfl)
  exact ⟨_, rfl, opdL l⟩
structure XF (ks : List N7) (rows : List Row) (bad odd wrong : D) (m : M) (s : SV) : Prop where
  F : BF ks rows m s
  h15 : Hs m 15 (.fz bad)
  h16 : Hs m 16 (.fz odd)
  h17 : Hs m 17 (.fz wrong)
variable {bad odd wrong : D}
theorem XF.set (X : XF ks rows bad odd wrong m s) {x : Option Sl} : XF ks rows bad odd wrong (setS m 18 x) s :=
  ⟨X.F.set (by omega), hs_ne X.h15 (by omega), hs_ne X.h16 (by omega), hs_ne X.h17 (by omega)⟩
theorem st5 (R : RowsOk rows) (F : BF ks rows m s) (h : Dk k s) (hk : k < 2 ^ 52) : ∃ m' s' bad, pw_5 mg m = .ok .nx m' ∧ BF ks rows m' s' ∧ Dk (k + 1) s' ∧ bad ∈ badL rows ∧ Hs m' 15 (.fz bad) := by
  obtain ⟨gl, eq, l⟩ := bad_lit (mg := mg) F.h4 R.len
  obtain ⟨s', d, hd, d', e⟩ := pick_call (mg := mg) (p := false) (q := true) (hs_own F.L.dk (dk_own h)) (hs_get F.L.dk) h (by omega) (items := badL rows) (by unfold badL; exact List.cons_ne_nil _ _) (by unfold badL; show 13 < 2 ^ 29; decide) l
  rw [setO_s] at e
  have F1 := F.deck (s' := s')
  rw [eq]
  exact ⟨_, s', d, asgV_s e, F1.set (by omega), d', hd, hs_eq (by rw [F1.L.len]; decide)⟩
theorem odd_lit (m : M) : opd (dApp (dCons false (dC .non) (dCons false (dC (.str "")) (dCons false (dC (.str "2b")) (dCons false (dC (.str "two words")) (dCons false (dC (.str "longerthantwelve")) (dCons false (dC (.int 3)) (dCons true (dApp (dCons true (dC (.str "mica")) dNil) PD.kTup) (dCons true (dC (.str "mi-ca")) dNil)))))))) kLst) m = .ok (.v (.lst oddL)) m := by
  have kd (d : D) : dC d m = .ok (.v d) m := rfl
  have l := (app_of (k := kLst) (c_of false (d := .non) (c_of false (d := .str "") (c_of false (d := .str "2b") (c_of false (d := .str "two words") (c_of false (d := .str "longerthantwelve") (c_of false (d := .int 3) (cons_of (pb := true) (opd_of (t1_of (kd (.str "mica")))) (c_of true (d := .str "mi-ca") (nil_of m)))))))))).trans (lst_of (ds := oddL) (by show 8 ≤ 1000000; omega) rfl)
  exact opdL l
theorem wrong_lit (m : M) : opd (dApp (dCons true (dC .non) (dCons true (dC (.str "")) (dCons true (dC (.str "9")) (dCons true (dC (.bl true)) (dCons true (dC (.str "a.b")) dNil))))) kLst) m = .ok (.v (.lst wrongL)) m := by
  have l := (app_of (k := kLst) (c_of true (d := .non) (c_of true (d := .str "") (c_of true (d := .str "9") (c_of true (d := .bl true) (c_of true (d := .str "a.b") (nil_of m))))))).trans (lst_of (ds := wrongL) (by show 5 ≤ 1000000; omega) rfl)
  exact opdL l
theorem st6 (F : BF ks rows m s) (h : Dk k s) (hk : k < 2 ^ 52) (H15 : Hs m 15 (.fz bad)) : ∃ m' s' odd wrong, pw_6 mg m = .ok .nx m' ∧ XF ks rows bad odd wrong m' s' ∧ Dk (k + 2) s' ∧ odd ∈ oddL ∧ wrong ∈ wrongL := by
  obtain ⟨s1, d, hd, d1, e1⟩ := pick_call (mg := mg) (p := false) (q := true) (hs_own F.L.dk (dk_own h)) (hs_get F.L.dk) h (by omega) (items := oddL) (by unfold oddL; exact List.cons_ne_nil _ _) (by show 8 < 2 ^ 29; decide) (odd_lit m)
  rw [setO_s] at e1
  have F1 := F.deck (s' := s1)
  obtain ⟨s2, d', hd', d2, e2⟩ := pick_call (mg := mg) (p := false) (q := true) (hs_own F1.L.dk (dk_own d1)) (hs_get F1.L.dk) d1 (by omega) (items := wrongL) (by unfold wrongL; exact List.cons_ne_nil _ _) (by show 5 < 2 ^ 29; decide) (wrong_lit _)
  rw [setO_s] at e2
  have F2 := F1.deck (s' := s2)
  have p := par_of (is := [16, 17]) (raw_of e1 rfl (raw_of e2 rfl rfl)) (put2 (by rw [F2.L.len]; decide) (by rw [F2.L.len]; decide))
  exact ⟨_, s2, d, d', p, ⟨(F2.set (by omega)).set (by omega), hs_ne (hs_ne (hs_ne (hs_ne H15 (by decide)) (by decide)) (by decide)) (by decide), hs_ne (hs_eq (by rw [F2.L.len]; decide)) (by decide), hs_eq (by rw [len_set, F2.L.len]; decide)⟩, d2, hd, hd'⟩
/-! ### what is heard -/
abbrev heTags : List (Str × Str) := [("BadSwaps", "swaps"), ("BadKind", "kind")]
theorem tag_swaps : tagOf heTags "BadSwaps" = some "swaps" := by decide
theorem tag_kind : tagOf heTags "BadKind" = some "kind" := by decide
theorem hear_of {told : Str} {gb : M → Out EV} {c t : Str} {d : D} (h : gb m = .exc c d m) (ht : tagOf heTags c = some t) : dHear told heTags gb m = .ok (.v (.tup [.str t, d, .bl true])) m := by
  unfold dHear
  rw [h]
  simp only [ht]
theorem callPX3 {f : Den} {x y z : D} {c : Str} {v : D} (r : RnX (f [.fz x, .fz y, .fz z] []) c v []) : callP 3 f [2, 1, 0] m [.v z, .v y, .v x] = .exc c v m := by
  show (if 3 = 3 then callK 3 f m (perm [2, 1, 0] [.v z, .v y, .v x]) else .bad) = _
  rw [if_pos rfl, perm3]
  exact callX3 r
def tagD (x : Str) (d : D) : D := .tup [.str x, d, .bl true]
def dueL (bad odd wrong : D) : List D := [tagD "swaps" bad, tagD "kind" odd, tagD "kind" wrong]
theorem heard3 (R : RowsOk rows) (hk : ks ≠ []) (X : XF ks rows bad odd wrong m s) (hb : bad ∈ badL rows) (ho : odd ∈ oddL) (hw : wrong ∈ wrongL) : ∃ m', pw_7 mg m = .ok .nx (setS m 18 (some (.sv (.ol ([tagD "swaps" bad].map .fz))))) ∧
    pw_8 mg (setS m 18 (some (.sv (.ol ([tagD "swaps" bad].map .fz))))) = .ok .nx (setS (setS m 18 (some (.sv (.ol ([tagD "swaps" bad].map .fz))))) 18 (some (.sv (.ol ([tagD "swaps" bad, tagD "kind" odd].map .fz))))) ∧
    pw_9 mg (setS (setS m 18 (some (.sv (.ol ([tagD "swaps" bad].map .fz))))) 18 (some (.sv (.ol ([tagD "swaps" bad, tagD "kind" odd].map .fz))))) = .ok .nx m' ∧ XF ks rows bad odd wrong m' s ∧ Hs m' 18 (.ol ((dueL bad odd wrong).map .fz)) := by
  have hbl : bigLen = 1000000 := rfl
  have ar : Rn (den_are_swaps mg [.fz (rowsD rows)] []) (.fz (.bl true)) [] := by
    have := e_are_rows (mg := mg) R.ok (by have := R.len; omega)
    rw [R.ord] at this
    exact this
  obtain ⟨k0, kr, rfl⟩ : ∃ k0 kr, ks = k0 :: kr := by
    cases ks with
    | nil => exact absurd rfl hk
    | cons a b => exact ⟨a, b, rfl⟩
  have x1 : dApp (dCons true (dVar 15) (dCons true (dVar 16) (dCons true (dVar 17) dNil))) (callK 3 (den_swap_cost mg)) m = .exc "BadSwaps" bad m := (app3_of (hs_var X.h15) (hs_var X.h16) (hs_var X.h17)).trans (callX3 (x_cost_swaps (bad_no R hb)))
  have e1 : pw_7 mg m = .ok .nx (setS m 18 (some (.sv (.ol ([tagD "swaps" bad].map .fz))))) :=
    asgF_s ((app_of (k := kLst) (cons_of (pb := true) (opd_of (hear_of (told := "told") x1 tag_swaps)) (nil_of m))).trans (lst_of (ds := [tagD "swaps" bad]) (by show 1 ≤ 1000000; omega) rfl)) (by rw [X.F.L.len]; decide)
  have X1 : XF (k0 :: kr) rows bad odd wrong (setS m 18 (some (.sv (.ol ([tagD "swaps" bad].map .fz))))) s := X.set
  have h18 : Hs (setS m 18 (some (.sv (.ol ([tagD "swaps" bad].map .fz))))) 18 (.ol ([tagD "swaps" bad].map .fz)) := hs_eq (by rw [X.F.L.len]; decide)
  generalize setS m 18 (some (.sv (.ol ([tagD "swaps" bad].map .fz)))) = m1 at e1 X1 h18
  have x2 : dApp (dCons true (dVar 17) (dCons true (dVar 16) (dCons true (dVar 4) dNil))) (callP 3 (den_swap_cost mg) [2, 1, 0]) m1 = .exc "BadKind" odd m1 := (app3_of (hs_var X1.h17) (hs_var X1.h16) (hs_var X1.F.h4)).trans (callPX3 (x_cost_give ar (odd_no ho).1 (odd_no ho).2))
  have e2 : pw_8 mg m1 = .ok .nx (setS m1 18 (some (.sv (.ol ([tagD "swaps" bad, tagD "kind" odd].map .fz))))) := append_of (a := 18) (pb := false) (hs_own h18 rfl) (hs_get h18) (hear_of (told := "told") x2 tag_kind) (by show 1 < 1000000; omega)
  have X2 : XF (k0 :: kr) rows bad odd wrong (setS m1 18 (some (.sv (.ol ([tagD "swaps" bad, tagD "kind" odd].map .fz))))) s := X1.set
  have h18' : Hs (setS m1 18 (some (.sv (.ol ([tagD "swaps" bad, tagD "kind" odd].map .fz))))) 18 (.ol ([tagD "swaps" bad, tagD "kind" odd].map .fz)) := hs_eq (by rw [X1.F.L.len]; decide)
  generalize setS m1 18 (some (.sv (.ol ([tagD "swaps" bad, tagD "kind" odd].map .fz)))) = m2 at e2 X2 h18'
  have kx : dBin true (dVar 3) (dC (.int 0)) kIx m2 = .ok (.v (.str (nm k0))) m2 := bin3 (pb := true) (gb := dC (.int 0)) (hs_var X2.F.h3) rfl (ix_lst (by decide) rfl)
  have x3 : dApp (dCons true (dVar 4) (dCons true (dBin true (dVar 3) (dC (.int 0)) kIx) (dCons true (dVar 17) dNil))) (callK 3 (den_swap_cost mg)) m2 = .exc "BadKind" wrong m2 := (app3_of (hs_var X2.F.h4) kx (hs_var X2.h17)).trans (callX3 (x_cost_get ar (tyK_nm k0) (name_nm k0).1 (wrong_no hw).1 (wrong_no hw).2))
  have e3 : pw_9 mg m2 = .ok .nx (setS m2 18 (some (.sv (.ol ((dueL bad odd wrong).map .fz))))) := append_of (a := 18) (pb := false) (hs_own h18' rfl) (hs_get h18') (hear_of (told := "told") x3 tag_kind) (by show 2 < 1000000; omega)
  exact ⟨_, e1, e2, e3, X2.set, hs_eq (by rw [X2.F.L.len]; decide)⟩
theorem st10 (R : RowsOk rows) (X : XF ks rows bad odd wrong m s) (hb : bad ∈ badL rows) (ho : odd ∈ oddL) (hw : wrong ∈ wrongL) (H18 : Hs m 18 (.ol ((dueL bad odd wrong).map .fz))) : ∃ m', pw_10 mg m = .ok .nx m' ∧ LF m' s := by
  have kd (d : D) : dC d m = .ok (.v d) m := rfl
  have l := l3_of (p := false) (q := false) (r := true) (t3_of (kd (.str "swaps")) (hs_var X.h15) (kd (.bl true))) (t3_of (kd (.str "kind")) (hs_var X.h16) (kd (.bl true))) (t3_of (kd (.str "kind")) (hs_var X.h17) (kd (.bl true)))
  have tg : ∀ (x : Str) (d : D), SmD 3 d → SmD 4 (tagD x d) := fun x d h => smt (fun y hy => by
    simp only [List.mem_cons, List.not_mem_nil, or_false] at hy
    rcases hy with rfl | rfl | rfl
    · exact .str _ _
    · exact h
    · exact .bl _ _) (by show 3 ≤ 100; omega)
  have sm : ∀ x ∈ dueL bad odd wrong, SmD 4 x := fun x hx => by
    simp only [dueL, List.mem_cons, List.not_mem_nil, or_false] at hx
    rcases hx with rfl | rfl | rfl
    · exact tg _ _ (bad_sm R hb)
    · exact tg _ _ (odd_sm ho)
    · exact tg _ _ (wrong_sm hw)
  have c := (app_of (k := callK 2 (den__law_same mg 5)) (cons_of (pb := false) (opd_of (hs_own H18 rfl)) (cons_of (pb := true) (opdL l) (nil_of m)))).trans (call_p (ds := [.lst (dueL bad odd wrong)]) rfl (hs_get H18) (e_sameP (mg := mg) (k := 4) sm (by show 3 ≤ 1000000; omega)))
  rw [setO_s] at c
  have t1 := not_of (test_of (b := true) c)
  have X1 : XF ks rows bad odd wrong (setS m 18 (some (.sv (.fz (.lst (dueL bad odd wrong)))))) s := X.set
  generalize setS m 18 (some (.sv (.fz (.lst (dueL bad odd wrong))))) = m1 at t1 X1
  have r := (app1_of (pb := true) (k := kVN pRepr) (hs_var X1.F.h4)).trans (repr_v (sm_rows R) (by decide) (by decide) rfl m1)
  have t2 := test_of (bin3 (pb := true) r (hs_var X1.F.h5) (neS m1 _))
  refine ⟨m1, ?_, X1.F.L⟩
  unfold pw_10
  rw [if_of (or_of t1 (fun _ => t2) (fun h => by cases h))]
  rfl
/-! ### a turn, and the law -/
theorem turn (L : LF m s) (h : Dk k s) (hk : k < 2 ^ 48) : ∃ m' s', pw_body mg m = .ok .nx m' ∧ LF m' s' ∧ Dk (k + 300) s' := by
  obtain ⟨m1, s1, ks, e1, L1, d1, H3, hn, hl⟩ := st1 (mg := mg) L h (by omega)
  obtain ⟨m2, s2, rows, e2, R, L2, d2, G3, G4⟩ := st2 (mg := mg) L1 d1 (by omega) H3 hl
  obtain ⟨m3, e3, F3⟩ := st3 (mg := mg) (ks := ks) R L2 G3 G4
  obtain ⟨m4, s4, e4, F4, d4⟩ := st4 (mg := mg) hl R F3 d2 (by omega)
  obtain ⟨m5, s5, bad, e5, F5, d5, hb, H15⟩ := st5 (mg := mg) R F4 d4 (by omega)
  obtain ⟨m6, s6, odd, wrong, e6, X6, d6, ho, hw⟩ := st6 (mg := mg) F5 d5 (by omega) H15
  obtain ⟨m9, e7, e8, e9, X9, H18⟩ := heard3 (mg := mg) R hn X6 hb ho hw
  obtain ⟨m10, e10, L10⟩ := st10 (mg := mg) R X9 hb ho hw H18
  refine ⟨m10, s6, ?_, L10, d6.up (by omega)⟩
  unfold pw_body
  rw [seq_nx e1, seq_nx e2, seq_nx e3, seq_nx e4, seq_nx e5, seq_nx e6, seq_nx e7, seq_nx e8, seq_nx e9]
  exact e10
theorem plain : ∀ mg, Env K mg → ∀ ns : List Int, ns.length ≤ 63 → ∃ m', b_law mg (PD.enter lawN.length [.fz (.scr ns)] []) = .ok (.rt (.fz (.bl true))) m' := by
  intro mg E ns hl
  let m0 : M := PD.enter lawN.length [.fz (.scr ns)] []
  obtain ⟨s, d, r⟩ := e_deck (mg := mg) ns 21493031 (by decide)
  have c := (app_of (k := callK 2 (den__law_deck mg)) (cons_of (pb := true) (opd_of (g := dVar 0) (m := m0) (x := .v (.scr ns)) rfl) (c_of true (d := .int 21493031) (nil_of m0)))).trans (call2 (m := m0) r)
  have cs : resE s = .fr s := by
    obtain ⟨c, x, t, rfl, _⟩ := d
    rfl
  rw [cs] at c
  have p : qw_1 mg m0 = .ok .nx (setS m0 1 (some (.sv s))) := asgF_s (i := 1) c (by show 1 < 19; decide)
  have L : LF (setS m0 1 (some (.sv s))) s := ⟨rfl, by rw [len_set]; rfl, hs_eq (by show 1 < 19; decide), rfl⟩
  generalize setS m0 1 (some (.sv s)) = m1 at p L
  obtain ⟨m', e, _⟩ := for_rng (tg := bName 2) (gb := pw_body mg) (fun i m => ∃ s, LF m s ∧ Dk (300 * i) s) (rng6 m1 5 (by decide)) ⟨s, L, d⟩ fun i hi m h => by
    obtain ⟨s, L, d⟩ := h
    have L' : LF (setS m 2 (some (.sv (.fz (.int i))))) s := L.set (by decide) (by decide)
    obtain ⟨m', s', e, L'', d'⟩ := turn (mg := mg) L' d (by omega)
    exact ⟨setS m 2 (some (.sv (.fz (.int i)))), m', rfl, .inl e, s', L'', d'.up (by omega)⟩
  refine ⟨m', ?_⟩
  rw [b_law_eq]
  show dSeq _ _ m0 = _
  rw [seq_nx p]
  refine (seq_nx (g1 := dFor (dIter (dCons true (dC (.int 5)) dNil) kRange1) (bName 2) (pw_body mg)) e).trans ?_
  rfl
end
end K31
open PySem PySem.W PyProof.Rows
set_option maxHeartbeats 0 in
theorem PySem.Challenge.cw_surelythisrock_k31_chains_of_swaps_holds : PySem.Challenge.rw_surelythisrock_k31_chains_of_swaps.Holds := by
  w_on; o_law; k_head; (case hw => w_witness2)
  k_fill
  refine PD.walk_pdT (l := PySem.Challenge.rw_surelythisrock_k31_chains_of_swaps) (n := 63) (k := 7) (x := "script") (fnm := "law") (qual := "law") (st := K31.s_law) (N := K31.lawN) rfl (by decide) rfl ⟨rfl, by decide, by decide⟩ (fun w h Y => PySem.W.km_in_of Y) (by first | rfl | decide +kernel) ?F
  case F =>
    intro w mg fa h KX G hmg
    refine' K31.law_mk KX G hmg K31.plain ?ga_law ?l_law ?co_law ?k_law ?lc_law ?hv_law ?nt_law (K31.env_mk KX G ?z_all ?z_bool ?z_dict ?z_int ?z_isinstance ?z_len ?z_list ?z_max ?z_min ?z_range ?z_repr ?z_sorted ?z_str ?z_tuple ?z_zip ?c_FIGURES ?c_MOST_SIGNS ?c_SIGNS ?ga_is_whole ?l_is_whole ?co_is_whole ?k_is_whole ?ga_is_tuple_of ?l_is_tuple_of ?co_is_tuple_of ?k_is_tuple_of ?ga_is_name ?l_is_name ?co_is_name ?k_is_name ?ga_is_swap ?l_is_swap ?co_is_swap ?k_is_swap ?ga_are_swaps ?l_are_swaps ?co_are_swaps ?k_are_swaps ?ga_need_swaps ?l_need_swaps ?co_need_swaps ?k_need_swaps ?ga_need_kind ?l_need_kind ?co_need_kind ?k_need_kind ?ga_costs_from ?l_costs_from ?co_costs_from ?k_costs_from ?ga_swap_cost ?l_swap_cost ?co_swap_cost ?k_swap_cost ?ga__law_deck ?l__law_deck ?co__law_deck ?k__law_deck ?ga__law_draw ?l__law_draw ?co__law_draw ?k__law_draw ?ga__law_pick ?l__law_pick ?co__law_pick ?k__law_pick ?ga__law_mixed ?l__law_mixed ?co__law_mixed ?k__law_mixed ?ga__law_is_whole ?l__law_is_whole ?co__law_is_whole ?k__law_is_whole ?ga__law_same ?l__law_same ?co__law_same ?k__law_same ?ga__law_swaps ?l__law_swaps ?co__law_swaps ?k__law_swaps ?ga__law_costs ?l__law_costs ?co__law_costs ?k__law_costs ?ga__law_refused ?l__law_refused ?co__law_refused ?k__law_refused ?x_g_BadKind ?x_ini_BadKind ?x_ovr_BadKind ?x_iC_BadKind ?x_sa_BadKind ?x_tkr_BadKind ?x_noT_BadKind ?x_hd_BadKind ?x_kC_BadKind ?x_exC_BadKind ?x_tyC_BadKind ?x_tI_BadKind ?x_ga_BadKind ?x_gg_BadKind ?x_cl_BadKind ?x_mr_BadKind ?x_fn_BadKind ?x_co_BadKind ?x_g_BadSwaps ?x_ini_BadSwaps ?x_ovr_BadSwaps ?x_iC_BadSwaps ?x_sa_BadSwaps ?x_tkr_BadSwaps ?x_noT_BadSwaps ?x_hd_BadSwaps ?x_kC_BadSwaps ?x_exC_BadSwaps ?x_tyC_BadSwaps ?x_tI_BadSwaps ?x_ga_BadSwaps ?x_gg_BadSwaps ?x_cl_BadSwaps ?x_mr_BadSwaps ?x_fn_BadSwaps ?x_co_BadSwaps ?x_R ?tg1 ?tg2 ?ee_BadKind_BadKind ?ee_BadKind_BadSwaps ?ki_BadKind ?ee_BadSwaps_BadKind ?ee_BadSwaps_BadSwaps ?ki_BadSwaps ?Rhd ?Rty)
    (case ga_law => k_is); (case l_law => k_is); (case co_law => k_is); (case k_law => k_is); (case lc_law => k_is); (case hv_law => rfl); (case nt_law => first | k_is | rfl | decide +kernel); (case z_all => k_is); (case z_bool => k_is); (case z_dict => k_is); (case z_int => k_is); (case z_isinstance => k_is); (case z_len => k_is); (case z_list => k_is); (case z_max => k_is); (case z_min => k_is); (case z_range => k_is); (case z_repr => k_is); (case z_sorted => k_is); (case z_str => k_is); (case z_tuple => k_is); (case z_zip => k_is); (case c_FIGURES => k_is); (case c_MOST_SIGNS => k_is); (case c_SIGNS => k_is); (case ga_is_whole => k_is); (case l_is_whole => k_is); (case co_is_whole => k_is); (case k_is_whole => k_is); (case ga_is_tuple_of => k_is); (case l_is_tuple_of => k_is); (case co_is_tuple_of => k_is); (case k_is_tuple_of => k_is); (case ga_is_name => k_is); (case l_is_name => k_is); (case co_is_name => k_is); (case k_is_name => k_is); (case ga_is_swap => k_is); (case l_is_swap => k_is); (case co_is_swap => k_is); (case k_is_swap => k_is); (case ga_are_swaps => k_is); (case l_are_swaps => k_is); (case co_are_swaps => k_is); (case k_are_swaps => k_is); (case ga_need_swaps => k_is); (case l_need_swaps => k_is); (case co_need_swaps => k_is); (case k_need_swaps => k_is); (case ga_need_kind => k_is); (case l_need_kind => k_is); (case co_need_kind => k_is); (case k_need_kind => k_is); (case ga_costs_from => k_is); (case l_costs_from => k_is); (case co_costs_from => k_is); (case k_costs_from => k_is); (case ga_swap_cost => k_is); (case l_swap_cost => k_is); (case co_swap_cost => k_is); (case k_swap_cost => k_is); (case ga__law_deck => k_is); (case l__law_deck => k_is); (case co__law_deck => k_is); (case k__law_deck => k_is); (case ga__law_draw => k_is); (case l__law_draw => k_is); (case co__law_draw => k_is); (case k__law_draw => k_is); (case ga__law_pick => k_is); (case l__law_pick => k_is); (case co__law_pick => k_is); (case k__law_pick => k_is); (case ga__law_mixed => k_is); (case l__law_mixed => k_is); (case co__law_mixed => k_is); (case k__law_mixed => k_is); (case ga__law_is_whole => k_is); (case l__law_is_whole => k_is); (case co__law_is_whole => k_is); (case k__law_is_whole => k_is); (case ga__law_same => k_is); (case l__law_same => k_is); (case co__law_same => k_is); (case k__law_same => k_is); (case ga__law_swaps => k_is); (case l__law_swaps => k_is); (case co__law_swaps => k_is); (case k__law_swaps => k_is); (case ga__law_costs => k_is); (case l__law_costs => k_is); (case co__law_costs => k_is); (case k__law_costs => k_is); (case ga__law_refused => k_is); (case l__law_refused => k_is); (case co__law_refused => k_is); (case k__law_refused => k_is); (case x_g_BadKind => k_is); (case x_ini_BadKind => first | k_is | kx_is); (case x_ovr_BadKind => first | k_is | kx_is); (case x_iC_BadKind => k_is); (case x_sa_BadKind => k_is); (case x_tkr_BadKind => k_is); (case x_noT_BadKind => k_is); (case x_hd_BadKind => k_is); (case x_kC_BadKind => k_is); (case x_exC_BadKind => k_is); (case x_tyC_BadKind => k_is); (case x_tI_BadKind => k_is); (case x_ga_BadKind => k_is); (case x_gg_BadKind => k_is); (case x_cl_BadKind => k_is); (case x_mr_BadKind => k_is); (case x_fn_BadKind => k_is); (case x_co_BadKind => k_is); (case x_g_BadSwaps => k_is); (case x_ini_BadSwaps => first | k_is | kx_is); (case x_ovr_BadSwaps => first | k_is | kx_is); (case x_iC_BadSwaps => k_is); (case x_sa_BadSwaps => k_is); (case x_tkr_BadSwaps => k_is); (case x_noT_BadSwaps => k_is); (case x_hd_BadSwaps => k_is); (case x_kC_BadSwaps => k_is); (case x_exC_BadSwaps => k_is); (case x_tyC_BadSwaps => k_is); (case x_tI_BadSwaps => k_is); (case x_ga_BadSwaps => k_is); (case x_gg_BadSwaps => k_is); (case x_cl_BadSwaps => k_is); (case x_mr_BadSwaps => k_is); (case x_fn_BadSwaps => k_is); (case x_co_BadSwaps => k_is); (case x_R => k_is); (case tg1 => k_is); (case tg2 => k_is); (case ee_BadKind_BadKind => k_is); (case ee_BadKind_BadSwaps => k_is); (case ki_BadKind => k_is); (case ee_BadSwaps_BadKind => k_is); (case ee_BadSwaps_BadSwaps => k_is); (case ki_BadSwaps => k_is); (case Rhd => k_is); (case Rty => k_is)
