import PyProof.Rows.All
import Wide.All
import OpenK.AllK
import Wide.FinOn
import HandS.ForMost
import HandS.ForExc
import HandS.Deep
import HandS.ExcInit
import HandS.ExcCtx
import HandS.CallSlots
import HandS.Wide
import HandS.TupAny
import HandS.Star
import HandS.Walk
import HandS.Small
import HandS.ExcField
import KE.KExcIs
import HandS.Defaults
import HandS.ExcValue
import HandS.MakeKwOnly
import HandS.ExcBuiltin
import HandS.IsInst
import KE.DataMinMax
import PyProof.StrOps2
import HandS.Head0
import HandS.Head1
import HandS.Head2
import HandS.HeadEnd
import HandS.HeadHook1
import HandS.HeadHook2
import PySem.Challenge.RW_stephulls_k03_errors
set_option Elab.async false
set_option linter.all false
set_option autoImplicit false
set_option maxRecDepth 100000
set_option maxHeartbeats 4000000
/-! AE1: pure data D, owned trees O, how they lie in the abstract heap; the frame of an evaluation. -/
namespace AE
open PySem L2

/-- an exception object that is held as a value -/
def exv (a : Addr) (cls : Value) (d : Option Addr) : HO := .ext fun hp => ∃ tup : Addr, hp.get? a = some ({ cls := cls, dict := d, data := .fields #[.ref tup, .none, .none, .none, .bool false, .none] } : Obj)
/-- pure data: never changed any more -/
inductive D where
  | non | bl (b : Bool) | int (i : Int) | str (x : Str)
  | lst (xs : List D) | tup (xs : List D) | kt (xs : List D)
  | dic (kvs : List (Key × D)) | dit (kvs : List (List Key × D))
  | ins (C : Addr) (fs : List (Str × D)) | cl (a : Addr) | ty (n : String) | scr (ns : List Int)
  | exc (a : Addr) (cls : Value) (d : Option Addr) (fs : List (Str × D))
  | xo (cls : Value) (fs : List (Str × D))
/-- a tree of objects that one place owns; its leaves are pure data -/
inductive O where
  | fz (d : D)
  | ls (xs : List D) | dc (kvs : List (Key × D)) | dt (kvs : List (List Key × D))
  | nl (xs : List O) | nd (kvs : List (Key × O))
  | ob (C : Addr) (fs : List (Str × O))
abbrev Env := List (Option O)
/-- what an expression hands on: a tree (new, or pure data), or the thing that slot i owns -/
inductive EV where
  | ow (o : O) | pt (i : Nat)

section
variable (K : PySem.W.Frag) (H : Hp)
mutual
def Rep : D → V → Prop
  | .non, v => v = .non
  | .bl b, v => v = .bl b
  | .int i, v => v = .int i
  | .str x, v => v = .str x
  | .lst ds, v => ∃ a vs, v = .ref a ∧ H a = some (.lst vs) ∧ Reps ds vs
  | .tup ds, v => ∃ a vs, v = .ref a ∧ H a = some (.tup vs) ∧ Reps ds vs
  | .kt ds, v => ∃ a vs, v = .ref a ∧ SqT K H a vs ∧ Reps ds vs
  | .dic kds, v => ∃ a kvs, v = .ref a ∧ Rd H a (.dK kvs) ∧ RepKs kds kvs
  | .dit kds, v => ∃ a kvs, v = .ref a ∧ Rd H a (.dT kvs) ∧ RepTs kds kvs
  | .ins C fds, v => ∃ a dx fvs, v = .ref a ∧ H a = some (.ins C dx fvs) ∧ RepFs fds fvs
  | .cl a, v => v = .ref a
  | .ty n, v => v = .ty n
  | .scr ns, v => ∃ a, v = .ref a ∧ SqL K H a (ns.map V.int)
  | .exc a _ d fds, v => v = .ref a ∧ ((d = none ∧ fds = []) ∨ ∃ p fvs, d = some p ∧ H p = some (.xd fvs) ∧ RepFs fds fvs)
  | .xo cls fds, v => ∃ a, v = .ref a ∧ ((fds = [] ∧ H a = some (exv a cls none)) ∨ ∃ p fvs, H a = some (exv a cls (some p)) ∧ H p = some (exd p fvs) ∧ RepFs fds fvs)
def Reps : List D → List V → Prop
  | [], vs => vs = []
  | d :: ds, vs => ∃ v ws, vs = v :: ws ∧ Rep d v ∧ Reps ds ws
def RepKs : List (Key × D) → List (Key × V) → Prop
  | [], vs => vs = []
  | kd :: ds, vs => ∃ v ws, vs = v :: ws ∧ RepK kd v ∧ RepKs ds ws
def RepK : (Key × D) → (Key × V) → Prop
  | (k, d), kv => kv.1 = k ∧ Rep d kv.2
def RepTs : List (List Key × D) → List (List Key × V) → Prop
  | [], vs => vs = []
  | kd :: ds, vs => ∃ v ws, vs = v :: ws ∧ RepT kd v ∧ RepTs ds ws
def RepT : (List Key × D) → (List Key × V) → Prop
  | (k, d), kv => kv.1 = k ∧ Rep d kv.2
def RepFs : List (Str × D) → List (Str × V) → Prop
  | [], vs => vs = []
  | kd :: ds, vs => ∃ v ws, vs = v :: ws ∧ RepF kd v ∧ RepFs ds ws
def RepF : (Str × D) → (Str × V) → Prop
  | (k, d), kv => kv.1 = k ∧ Rep d kv.2
end
end

theorem Rd.mono {H H' : Hp} {a : Addr} {u : HO} (h : Rd H a u) (s : Same H H') : Rd H' a u :=
  h.elim (fun e => .inl (s _ _ e)) fun ⟨o, e⟩ => .inr ⟨o, s _ _ e⟩
theorem SqL.mono {K : PySem.W.Frag} {H H' : Hp} {a : Addr} {xs : List V} (h : SqL K H a xs) (e : Same H H') : SqL K H' a xs := e.seq h
theorem SqT.mono {K : PySem.W.Frag} {H H' : Hp} {a : Addr} {xs : List V} (h : SqT K H a xs) (e : Same H H') : SqT K H' a xs := by
  rcases h with h | h
  · exact .inl (Rd.mono h e)
  · exact .inr h

section
variable {K : PySem.W.Frag} {H H' : Hp}
mutual
theorem Rep.mono (s : Same H H') : ∀ (d : D) {v : V}, Rep K H d v → Rep K H' d v
  | .non, v, h => h
  | .bl b, v, h => h
  | .int i, v, h => h
  | .str x, v, h => h
  | .lst ds, v, h => let ⟨a, vs, e, q, r⟩ := h; ⟨a, vs, e, s _ _ q, Reps.mono s ds r⟩
  | .tup ds, v, h => let ⟨a, vs, e, q, r⟩ := h; ⟨a, vs, e, s _ _ q, Reps.mono s ds r⟩
  | .kt ds, v, h => let ⟨a, vs, e, q, r⟩ := h; ⟨a, vs, e, SqT.mono q s, Reps.mono s ds r⟩
  | .dic ds, v, h => let ⟨a, vs, e, q, r⟩ := h; ⟨a, vs, e, Rd.mono q s, RepKs.mono s ds r⟩
  | .dit ds, v, h => let ⟨a, vs, e, q, r⟩ := h; ⟨a, vs, e, Rd.mono q s, RepTs.mono s ds r⟩
  | .ins C ds, v, h => let ⟨a, dx, vs, e, q, r⟩ := h; ⟨a, dx, vs, e, s _ _ q, RepFs.mono s ds r⟩
  | .cl a, v, h => h
  | .ty n, v, h => h
  | .scr ns, v, h => let ⟨a, e, q⟩ := h; ⟨a, e, SqL.mono q s⟩
  | .exc a _ d fds, v, h => ⟨h.1, h.2.elim .inl fun ⟨p, fvs, e, q, r⟩ => .inr ⟨p, fvs, e, s _ _ q, RepFs.mono s fds r⟩⟩
  | .xo cls fds, v, h => let ⟨a, e, z⟩ := h; ⟨a, e, z.elim (fun y => .inl ⟨y.1, s _ _ y.2⟩) fun ⟨p, fvs, q, q2, r⟩ => .inr ⟨p, fvs, s _ _ q, s _ _ q2, RepFs.mono s fds r⟩⟩
theorem Reps.mono (s : Same H H') : ∀ (ds : List D) {vs : List V}, Reps K H ds vs → Reps K H' ds vs
  | [], vs, h => h
  | d :: ds, vs, h => let ⟨v, ws, e, q, r⟩ := h; ⟨v, ws, e, Rep.mono s d q, Reps.mono s ds r⟩
theorem RepKs.mono (s : Same H H') : ∀ (ds : List (Key × D)) {vs : List (Key × V)}, RepKs K H ds vs → RepKs K H' ds vs
  | [], vs, h => h
  | d :: ds, vs, h => let ⟨v, ws, e, q, r⟩ := h; ⟨v, ws, e, RepK.mono s d q, RepKs.mono s ds r⟩
theorem RepK.mono (s : Same H H') : ∀ (d : Key × D) {v : Key × V}, RepK K H d v → RepK K H' d v
  | (k, d), v, h => ⟨h.1, Rep.mono s d h.2⟩
theorem RepTs.mono (s : Same H H') : ∀ (ds : List (List Key × D)) {vs : List (List Key × V)}, RepTs K H ds vs → RepTs K H' ds vs
  | [], vs, h => h
  | d :: ds, vs, h => let ⟨v, ws, e, q, r⟩ := h; ⟨v, ws, e, RepT.mono s d q, RepTs.mono s ds r⟩
theorem RepT.mono (s : Same H H') : ∀ (d : List Key × D) {v : List Key × V}, RepT K H d v → RepT K H' d v
  | (k, d), v, h => ⟨h.1, Rep.mono s d h.2⟩
theorem RepFs.mono (s : Same H H') : ∀ (ds : List (Str × D)) {vs : List (Str × V)}, RepFs K H ds vs → RepFs K H' ds vs
  | [], vs, h => h
  | d :: ds, vs, h => let ⟨v, ws, e, q, r⟩ := h; ⟨v, ws, e, RepF.mono s d q, RepFs.mono s ds r⟩
theorem RepF.mono (s : Same H H') : ∀ (d : Str × D) {v : Str × V}, RepF K H d v → RepF K H' d v
  | (k, d), v, h => ⟨h.1, Rep.mono s d h.2⟩
end
end

section
variable (K : PySem.W.Frag) (HF H : Hp)
mutual
def RepO : O → V → List Addr → Prop
  | .fz d, v, A => A = [] ∧ Rep K HF d v
  | .ls ds, v, A => ∃ a vs, v = .ref a ∧ A = [a] ∧ H a = some (.lst vs) ∧ Reps K HF ds vs
  | .dc ds, v, A => ∃ a vs, v = .ref a ∧ A = [a] ∧ H a = some (.dK vs) ∧ RepKs K HF ds vs
  | .dt ds, v, A => ∃ a vs, v = .ref a ∧ A = [a] ∧ H a = some (.dT vs) ∧ RepTs K HF ds vs
  | .nl os, v, A => ∃ a vs B, v = .ref a ∧ A = a :: B ∧ H a = some (.lst vs) ∧ RepOs os vs B
  | .nd os, v, A => ∃ a vs B, v = .ref a ∧ A = a :: B ∧ H a = some (.dK vs) ∧ RepOKs os vs B
  | .ob C os, v, A => ∃ a dx vs B, v = .ref a ∧ A = a :: B ∧ H a = some (.ins C dx vs) ∧ RepOFs os vs B
def RepOs : List O → List V → List Addr → Prop
  | [], vs, A => vs = [] ∧ A = []
  | o :: os, vs, A => ∃ v ws A1 A2, vs = v :: ws ∧ A = A1 ++ A2 ∧ RepO o v A1 ∧ RepOs os ws A2
def RepOKs : List (Key × O) → List (Key × V) → List Addr → Prop
  | [], vs, A => vs = [] ∧ A = []
  | o :: os, vs, A => ∃ v ws A1 A2, vs = v :: ws ∧ A = A1 ++ A2 ∧ RepOK o v A1 ∧ RepOKs os ws A2
def RepOK : (Key × O) → (Key × V) → List Addr → Prop
  | (k, o), kv, A => kv.1 = k ∧ RepO o kv.2 A
def RepOFs : List (Str × O) → List (Str × V) → List Addr → Prop
  | [], vs, A => vs = [] ∧ A = []
  | o :: os, vs, A => ∃ v ws A1 A2, vs = v :: ws ∧ A = A1 ++ A2 ∧ RepOF o v A1 ∧ RepOFs os ws A2
def RepOF : (Str × O) → (Str × V) → List Addr → Prop
  | (k, o), kv, A => kv.1 = k ∧ RepO o kv.2 A
end
end

section
variable {K : PySem.W.Frag} {HF HF' H H' : Hp}
mutual
theorem RepO.keep (s : Same HF HF') : ∀ (o : O) {v : V} {A : List Addr}, RepO K HF H o v A → (∀ p ∈ A, H' p = H p) → RepO K HF' H' o v A
  | .fz d, v, A, h, k => ⟨h.1, Rep.mono s d h.2⟩
  | .ls os, v, A, h, k => let ⟨a, vs, e, ea, q, r⟩ := h; ⟨a, vs, e, ea, (k a (by rw [ea]; exact List.mem_cons_self)).trans q, Reps.mono s os r⟩
  | .dc os, v, A, h, k => let ⟨a, vs, e, ea, q, r⟩ := h; ⟨a, vs, e, ea, (k a (by rw [ea]; exact List.mem_cons_self)).trans q, RepKs.mono s os r⟩
  | .dt os, v, A, h, k => let ⟨a, vs, e, ea, q, r⟩ := h; ⟨a, vs, e, ea, (k a (by rw [ea]; exact List.mem_cons_self)).trans q, RepTs.mono s os r⟩
  | .nl os, v, A, h, k => let ⟨a, vs, B, e, ea, q, r⟩ := h; ⟨a, vs, B, e, ea, (k a (by rw [ea]; exact List.mem_cons_self)).trans q, RepOs.keep s os r fun p hp => k p (by rw [ea]; exact List.mem_cons_of_mem _ hp)⟩
  | .nd os, v, A, h, k => let ⟨a, vs, B, e, ea, q, r⟩ := h; ⟨a, vs, B, e, ea, (k a (by rw [ea]; exact List.mem_cons_self)).trans q, RepOKs.keep s os r fun p hp => k p (by rw [ea]; exact List.mem_cons_of_mem _ hp)⟩
  | .ob C os, v, A, h, k => let ⟨a, dx, vs, B, e, ea, q, r⟩ := h; ⟨a, dx, vs, B, e, ea, (k a (by rw [ea]; exact List.mem_cons_self)).trans q, RepOFs.keep s os r fun p hp => k p (by rw [ea]; exact List.mem_cons_of_mem _ hp)⟩
theorem RepOs.keep (s : Same HF HF') : ∀ (os : List O) {vs : List V} {A : List Addr}, RepOs K HF H os vs A → (∀ p ∈ A, H' p = H p) → RepOs K HF' H' os vs A
  | [], vs, A, h, k => h
  | o :: os, vs, A, h, k => let ⟨v, ws, A1, A2, e, ea, q, r⟩ := h; ⟨v, ws, A1, A2, e, ea, RepO.keep s o q fun p hp => k p (by rw [ea]; exact List.mem_append_left _ hp), RepOs.keep s os r fun p hp => k p (by rw [ea]; exact List.mem_append_right _ hp)⟩
theorem RepOKs.keep (s : Same HF HF') : ∀ (os : List (Key × O)) {vs : List (Key × V)} {A : List Addr}, RepOKs K HF H os vs A → (∀ p ∈ A, H' p = H p) → RepOKs K HF' H' os vs A
  | [], vs, A, h, k => h
  | o :: os, vs, A, h, k => let ⟨v, ws, A1, A2, e, ea, q, r⟩ := h; ⟨v, ws, A1, A2, e, ea, RepOK.keep s o q fun p hp => k p (by rw [ea]; exact List.mem_append_left _ hp), RepOKs.keep s os r fun p hp => k p (by rw [ea]; exact List.mem_append_right _ hp)⟩
theorem RepOK.keep (s : Same HF HF') : ∀ (o : Key × O) {v : Key × V} {A : List Addr}, RepOK K HF H o v A → (∀ p ∈ A, H' p = H p) → RepOK K HF' H' o v A
  | (k, o), v, A, h, kp => ⟨h.1, RepO.keep s o h.2 kp⟩
theorem RepOFs.keep (s : Same HF HF') : ∀ (os : List (Str × O)) {vs : List (Str × V)} {A : List Addr}, RepOFs K HF H os vs A → (∀ p ∈ A, H' p = H p) → RepOFs K HF' H' os vs A
  | [], vs, A, h, k => h
  | o :: os, vs, A, h, k => let ⟨v, ws, A1, A2, e, ea, q, r⟩ := h; ⟨v, ws, A1, A2, e, ea, RepOF.keep s o q fun p hp => k p (by rw [ea]; exact List.mem_append_left _ hp), RepOFs.keep s os r fun p hp => k p (by rw [ea]; exact List.mem_append_right _ hp)⟩
theorem RepOF.keep (s : Same HF HF') : ∀ (o : Str × O) {v : Str × V} {A : List Addr}, RepOF K HF H o v A → (∀ p ∈ A, H' p = H p) → RepOF K HF' H' o v A
  | (k, o), v, A, h, kp => ⟨h.1, RepO.keep s o h.2 kp⟩
end
mutual
/-- what is owned stands in the heap -/
theorem RepO.there : ∀ (o : O) {v : V} {A : List Addr}, RepO K HF H o v A → ∀ p ∈ A, ∃ u, H p = some u
  | .fz d, v, A, h, p, hp => by rw [h.1] at hp; cases hp
  | .ls os, v, A, h, p, hp => by
    obtain ⟨a, vs, e, rfl, q, r⟩ := h
    rcases List.mem_cons.mp hp with rfl | hp
    · exact ⟨_, q⟩
    · cases hp
  | .dc os, v, A, h, p, hp => by
    obtain ⟨a, vs, e, rfl, q, r⟩ := h
    rcases List.mem_cons.mp hp with rfl | hp
    · exact ⟨_, q⟩
    · cases hp
  | .dt os, v, A, h, p, hp => by
    obtain ⟨a, vs, e, rfl, q, r⟩ := h
    rcases List.mem_cons.mp hp with rfl | hp
    · exact ⟨_, q⟩
    · cases hp
  | .nl os, v, A, h, p, hp => by
    obtain ⟨a, vs, B, e, rfl, q, r⟩ := h
    rcases List.mem_cons.mp hp with rfl | hp
    · exact ⟨_, q⟩
    · exact RepOs.there os r p hp
  | .nd os, v, A, h, p, hp => by
    obtain ⟨a, vs, B, e, rfl, q, r⟩ := h
    rcases List.mem_cons.mp hp with rfl | hp
    · exact ⟨_, q⟩
    · exact RepOKs.there os r p hp
  | .ob C os, v, A, h, p, hp => by
    obtain ⟨a, dx, vs, B, e, rfl, q, r⟩ := h
    rcases List.mem_cons.mp hp with rfl | hp
    · exact ⟨_, q⟩
    · exact RepOFs.there os r p hp
theorem RepOs.there : ∀ (os : List O) {vs : List V} {A : List Addr}, RepOs K HF H os vs A → ∀ p ∈ A, ∃ u, H p = some u
  | [], vs, A, h, p, hp => by rw [h.2] at hp; cases hp
  | o :: os, vs, A, h, p, hp => by
    obtain ⟨v, ws, A1, A2, e, rfl, q, r⟩ := h
    exact (List.mem_append.mp hp).elim (RepO.there o q p) (RepOs.there os r p)
theorem RepOKs.there : ∀ (os : List (Key × O)) {vs : List (Key × V)} {A : List Addr}, RepOKs K HF H os vs A → ∀ p ∈ A, ∃ u, H p = some u
  | [], vs, A, h, p, hp => by rw [h.2] at hp; cases hp
  | o :: os, vs, A, h, p, hp => by
    obtain ⟨v, ws, A1, A2, e, rfl, q, r⟩ := h
    exact (List.mem_append.mp hp).elim (RepOK.there o q p) (RepOKs.there os r p)
theorem RepOK.there : ∀ (o : Key × O) {v : Key × V} {A : List Addr}, RepOK K HF H o v A → ∀ p ∈ A, ∃ u, H p = some u
  | (k, o), v, A, h, p, hp => RepO.there o h.2 p hp
theorem RepOFs.there : ∀ (os : List (Str × O)) {vs : List (Str × V)} {A : List Addr}, RepOFs K HF H os vs A → ∀ p ∈ A, ∃ u, H p = some u
  | [], vs, A, h, p, hp => by rw [h.2] at hp; cases hp
  | o :: os, vs, A, h, p, hp => by
    obtain ⟨v, ws, A1, A2, e, rfl, q, r⟩ := h
    exact (List.mem_append.mp hp).elim (RepOF.there o q p) (RepOFs.there os r p)
theorem RepOF.there : ∀ (o : Str × O) {v : Str × V} {A : List Addr}, RepOF K HF H o v A → ∀ p ∈ A, ∃ u, H p = some u
  | (k, o), v, A, h, p, hp => RepO.there o h.2 p hp
end
end

/-! ### a tree made pure -/
mutual
def frz : O → D
  | .fz d => d
  | .ls ds => .lst ds
  | .dc ds => .dic ds
  | .dt ds => .dit ds
  | .nl os => .lst (frzs os)
  | .nd os => .dic (frzKs os)
  | .ob C os => .ins C (frzFs os)
def frzs : List O → List D
  | [] => []
  | o :: os => frz o :: frzs os
def frzKs : List (Key × O) → List (Key × D)
  | [] => []
  | o :: os => frzK o :: frzKs os
def frzK : Key × O → Key × D
  | (k, o) => (k, frz o)
def frzFs : List (Str × O) → List (Str × D)
  | [] => []
  | o :: os => frzF o :: frzFs os
def frzF : Str × O → Str × D
  | (k, o) => (k, frz o)
end
section
variable {K : PySem.W.Frag} {HF HG H : Hp}
mutual
theorem RepO.frz (s : Same HF HG) : ∀ (o : O) {v : V} {A : List Addr}, RepO K HF H o v A → (∀ p ∈ A, HG p = H p) → Rep K HG (frz o) v
  | .fz d, v, A, h, k => Rep.mono s d h.2
  | .ls os, v, A, h, k => let ⟨a, vs, e, ea, q, r⟩ := h; ⟨a, vs, e, ((k a (by rw [ea]; exact List.mem_cons_self)).trans q), Reps.mono s os r⟩
  | .dc os, v, A, h, k => let ⟨a, vs, e, ea, q, r⟩ := h; ⟨a, vs, e, .inl ((k a (by rw [ea]; exact List.mem_cons_self)).trans q), RepKs.mono s os r⟩
  | .dt os, v, A, h, k => let ⟨a, vs, e, ea, q, r⟩ := h; ⟨a, vs, e, .inl ((k a (by rw [ea]; exact List.mem_cons_self)).trans q), RepTs.mono s os r⟩
  | .nl os, v, A, h, k => let ⟨a, vs, B, e, ea, q, r⟩ := h; ⟨a, vs, e, ((k a (by rw [ea]; exact List.mem_cons_self)).trans q), RepOs.frz s os r fun p hp => k p (by rw [ea]; exact List.mem_cons_of_mem _ hp)⟩
  | .nd os, v, A, h, k => let ⟨a, vs, B, e, ea, q, r⟩ := h; ⟨a, vs, e, .inl ((k a (by rw [ea]; exact List.mem_cons_self)).trans q), RepOKs.frz s os r fun p hp => k p (by rw [ea]; exact List.mem_cons_of_mem _ hp)⟩
  | .ob C os, v, A, h, k => let ⟨a, dx, vs, B, e, ea, q, r⟩ := h; ⟨a, dx, vs, e, (k a (by rw [ea]; exact List.mem_cons_self)).trans q, RepOFs.frz s os r fun p hp => k p (by rw [ea]; exact List.mem_cons_of_mem _ hp)⟩
theorem RepOs.frz (s : Same HF HG) : ∀ (os : List O) {vs : List V} {A : List Addr}, RepOs K HF H os vs A → (∀ p ∈ A, HG p = H p) → Reps K HG (frzs os) vs
  | [], vs, A, h, k => h.1
  | o :: os, vs, A, h, k => let ⟨v, ws, A1, A2, e, ea, q, r⟩ := h; ⟨v, ws, e, RepO.frz s o q fun p hp => k p (by rw [ea]; exact List.mem_append_left _ hp), RepOs.frz s os r fun p hp => k p (by rw [ea]; exact List.mem_append_right _ hp)⟩
theorem RepOKs.frz (s : Same HF HG) : ∀ (os : List (Key × O)) {vs : List (Key × V)} {A : List Addr}, RepOKs K HF H os vs A → (∀ p ∈ A, HG p = H p) → RepKs K HG (frzKs os) vs
  | [], vs, A, h, k => h.1
  | o :: os, vs, A, h, k => let ⟨v, ws, A1, A2, e, ea, q, r⟩ := h; ⟨v, ws, e, RepOK.frz s o q fun p hp => k p (by rw [ea]; exact List.mem_append_left _ hp), RepOKs.frz s os r fun p hp => k p (by rw [ea]; exact List.mem_append_right _ hp)⟩
theorem RepOK.frz (s : Same HF HG) : ∀ (o : Key × O) {v : Key × V} {A : List Addr}, RepOK K HF H o v A → (∀ p ∈ A, HG p = H p) → RepK K HG (frzK o) v
  | (k, o), v, A, h, kp => ⟨h.1, RepO.frz s o h.2 kp⟩
theorem RepOFs.frz (s : Same HF HG) : ∀ (os : List (Str × O)) {vs : List (Str × V)} {A : List Addr}, RepOFs K HF H os vs A → (∀ p ∈ A, HG p = H p) → RepFs K HG (frzFs os) vs
  | [], vs, A, h, k => h.1
  | o :: os, vs, A, h, k => let ⟨v, ws, A1, A2, e, ea, q, r⟩ := h; ⟨v, ws, e, RepOF.frz s o q fun p hp => k p (by rw [ea]; exact List.mem_append_left _ hp), RepOFs.frz s os r fun p hp => k p (by rw [ea]; exact List.mem_append_right _ hp)⟩
theorem RepOF.frz (s : Same HF HG) : ∀ (o : Str × O) {v : Str × V} {A : List Addr}, RepOF K HF H o v A → (∀ p ∈ A, HG p = H p) → RepF K HG (frzF o) v
  | (k, o), v, A, h, kp => ⟨h.1, RepO.frz s o h.2 kp⟩
end
end

/-! ### the state of a def's slots -/
section
variable (K : PySem.W.Frag) (HF H : Hp)
def EnvR : Env → St → List Addr → Prop
  | [], σ, A => σ = [] ∧ A = []
  | none :: ρ, σ, A => ∃ s r, σ = s :: r ∧ EnvR ρ r A
  | some o :: ρ, σ, A => ∃ v r A1 A2, σ = some v :: r ∧ A = A1 ++ A2 ∧ RepO K HF H o v A1 ∧ EnvR ρ r A2
def EVR (σ : St) : EV → V → List Addr → Prop
  | .ow o, v, A => RepO K HF H o v A
  | .pt i, v, A => A = [] ∧ σ[i]? = some (some v)
def EVRs (σ : St) : List EV → List V → List Addr → Prop
  | [], vs, A => vs = [] ∧ A = []
  | e :: es, vs, A => ∃ v ws A1 A2, vs = v :: ws ∧ A = A1 ++ A2 ∧ EVR K HF H σ e v A1 ∧ EVRs σ es ws A2
end
/-- what is pure stands in the heap; what is owned is owned once, and is not pure -/
structure WR (HF H : Hp) (A : List Addr) : Prop where
  same : Same HF H
  nodup : A.Nodup
  out : ∀ a ∈ A, HF a = none
/-- from a state to a later one: what was not owned here stands as it stood, and is not made pure here -/
structure Fr (H H' HF HF' : Hp) (A A' : List Addr) : Prop where
  same : Same HF HF'
  keep : ∀ p o, H p = some o → p ∉ A → H' p = some o
  free : ∀ p o, H p = some o → p ∉ A → HF p = none → HF' p = none
  new : ∀ p ∈ A', p ∈ A ∨ H p = none
theorem Fr.refl {H HF : Hp} {A : List Addr} : Fr H H HF HF A A := ⟨.refl _, fun _ _ h _ => h, fun _ _ _ _ h => h, fun _ h => .inl h⟩
theorem Fr.trans {H H1 H2 HF HF1 HF2 : Hp} {A A1 A2 : List Addr} (a : Fr H H1 HF HF1 A A1) (b : Fr H1 H2 HF1 HF2 A1 A2) : Fr H H2 HF HF2 A A2 where
  same := a.same.trans b.same
  keep := fun p o h n => b.keep p o (a.keep p o h n) fun z => (a.new p z).elim n fun q => by rw [h] at q; cases q
  free := fun p o h n f => b.free p o (a.keep p o h n) (fun z => (a.new p z).elim n fun q => by rw [h] at q; cases q) (a.free p o h n f)
  new := fun p hp => (b.new p hp).elim (fun z => a.new p z) fun z => by
    by_cases hA : p ∈ A
    · exact .inl hA
    · cases q : H p with
      | none => exact .inr rfl
      | some o => rw [a.keep p o q hA] at z; cases z
/-- owning more at the start: what lies beside (R) is kept -/
theorem Fr.frame {H H' HF HF' : Hp} {A A' R : List Addr} (a : Fr H H' HF HF' A A') (hR : ∀ p ∈ R, ∃ o, H p = some o) (hd : ∀ p ∈ R, p ∉ A) : (∀ p ∈ R, H' p = H p) ∧ (∀ p ∈ R, HF p = none → HF' p = none) ∧ (∀ p ∈ R, p ∉ A') :=
  ⟨fun p hp => let ⟨o, e⟩ := hR p hp; by rw [e]; exact a.keep p o e (hd p hp), fun p hp f => let ⟨o, e⟩ := hR p hp; a.free p o e (hd p hp) f, fun p hp z => (a.new p z).elim (hd p hp) fun q => by obtain ⟨o, e⟩ := hR p hp; rw [e] at q; cases q⟩
theorem Fr.mono {H H' HF HF' : Hp} {A A' B B' : List Addr} (a : Fr H H' HF HF' A A') (h : ∀ p ∈ A, p ∈ B) (h' : ∀ p ∈ B', p ∈ A' ∨ p ∈ B) : Fr H H' HF HF' B B' :=
  ⟨a.same, fun p o e n => a.keep p o e fun z => n (h p z), fun p o e n f => a.free p o e (fun z => n (h p z)) f, fun p hp => (h' p hp).elim (fun z => (a.new p z).elim (fun q => .inl (h p q)) .inr) .inl⟩
theorem WR.sub {HF H : Hp} {A B : List Addr} (w : WR HF H A) (hs : B.Sublist A) : WR HF H B := ⟨w.same, w.nodup.sublist hs, fun a ha => w.out a (hs.subset ha)⟩
theorem WR.left {HF H : Hp} {A B : List Addr} (w : WR HF H (A ++ B)) : WR HF H A := w.sub (List.sublist_append_left _ _)
theorem WR.right {HF H : Hp} {A B : List Addr} (w : WR HF H (A ++ B)) : WR HF H B := w.sub (List.sublist_append_right _ _)
theorem WR.perm {HF H : Hp} {A B : List Addr} (w : WR HF H A) (p : A.Perm B) : WR HF H B := ⟨w.same, p.nodup_iff.mp w.nodup, fun a ha => w.out a (p.mem_iff.mpr ha)⟩
theorem WR.disj {HF H : Hp} {A B : List Addr} (w : WR HF H (A ++ B)) : ∀ p ∈ A, p ∉ B := fun p hp hq => (List.nodup_append.mp w.nodup).2.2 p hp p hq rfl

section
variable {K : PySem.W.Frag} {HF HF' H H' : Hp}
theorem EnvR.keep (s : Same HF HF') : ∀ (ρ : Env) {σ : St} {A : List Addr}, EnvR K HF H ρ σ A → (∀ p ∈ A, H' p = H p) → EnvR K HF' H' ρ σ A
  | [], σ, A, h, k => h
  | none :: ρ, σ, A, h, k => let ⟨s', r, e, q⟩ := h; ⟨s', r, e, EnvR.keep s ρ q k⟩
  | some o :: ρ, σ, A, h, k => let ⟨v, r, A1, A2, e, ea, q, t⟩ := h; ⟨v, r, A1, A2, e, ea, RepO.keep s o q fun p hp => k p (by rw [ea]; exact List.mem_append_left _ hp), EnvR.keep s ρ t fun p hp => k p (by rw [ea]; exact List.mem_append_right _ hp)⟩
theorem EnvR.there : ∀ (ρ : Env) {σ : St} {A : List Addr}, EnvR K HF H ρ σ A → ∀ p ∈ A, ∃ u, H p = some u
  | [], σ, A, h, p, hp => by rw [h.2] at hp; cases hp
  | none :: ρ, σ, A, h, p, hp => let ⟨s', r, e, q⟩ := h; EnvR.there ρ q p hp
  | some o :: ρ, σ, A, h, p, hp => by
    obtain ⟨v, r, A1, A2, e, rfl, q, t⟩ := h
    exact (List.mem_append.mp hp).elim (RepO.there o q p) (EnvR.there ρ t p)
theorem EnvR.length : ∀ (ρ : Env) {σ : St} {A : List Addr}, EnvR K HF H ρ σ A → σ.length = ρ.length
  | [], σ, A, h => by rw [h.1]; rfl
  | none :: ρ, σ, A, h => by obtain ⟨s', r, rfl, q⟩ := h; simp [EnvR.length ρ q]
  | some o :: ρ, σ, A, h => by obtain ⟨v, r, A1, A2, rfl, rfl, q, t⟩ := h; simp [EnvR.length ρ t]
theorem EVR.keep (s : Same HF HF') {σ : St} {e : EV} {v : V} {A : List Addr} (h : EVR K HF H σ e v A) (k : ∀ p ∈ A, H' p = H p) : EVR K HF' H' σ e v A := by
  cases e with
  | ow o => exact RepO.keep s o h k
  | pt i => exact h
theorem EVR.there {σ : St} {e : EV} {v : V} {A : List Addr} (h : EVR K HF H σ e v A) : ∀ p ∈ A, ∃ u, H p = some u := by
  cases e with
  | ow o => exact RepO.there o h
  | pt i => intro p hp; rw [h.1] at hp; cases hp
theorem EVRs.keep (s : Same HF HF') {σ : St} : ∀ {es : List EV} {vs : List V} {A : List Addr}, EVRs K HF H σ es vs A → (∀ p ∈ A, H' p = H p) → EVRs K HF' H' σ es vs A
  | [], vs, A, h, k => h
  | e :: es, vs, A, h, k => let ⟨v, ws, A1, A2, ev, ea, q, r⟩ := h; ⟨v, ws, A1, A2, ev, ea, EVR.keep s q fun p hp => k p (by rw [ea]; exact List.mem_append_left _ hp), EVRs.keep s r fun p hp => k p (by rw [ea]; exact List.mem_append_right _ hp)⟩
theorem EVRs.there {σ : St} : ∀ {es : List EV} {vs : List V} {A : List Addr}, EVRs K HF H σ es vs A → ∀ p ∈ A, ∃ u, H p = some u
  | [], vs, A, h, p, hp => by rw [h.2] at hp; cases hp
  | e :: es, vs, A, h, p, hp => by
    obtain ⟨v, ws, A1, A2, ev, rfl, q, r⟩ := h
    exact (List.mem_append.mp hp).elim (EVR.there q p) (EVRs.there r p)
/-- slot i taken out: its value, its part of what is owned -/
theorem EnvR.get : ∀ {ρ : Env} {i : Nat} {o : O} {σ : St} {A : List Addr}, EnvR K HF H ρ σ A → ρ[i]? = some (some o) → ∃ v B C, σ[i]? = some (some v) ∧ RepO K HF H o v B ∧ A.Perm (B ++ C) ∧
      EnvR K HF H (ρ.set i none) σ C
  | [], i, o, σ, A, h, e => by simp at e
  | none :: ρ, 0, o, σ, A, h, e => by simp at e
  | none :: ρ, i + 1, o, σ, A, h, e => by
    obtain ⟨s', r, rfl, q⟩ := h
    obtain ⟨v, B, C, h1, h2, h3, h4⟩ := EnvR.get (i := i) q (by simpa using e)
    exact ⟨v, B, C, by simpa using h1, h2, h3, ⟨s', r, rfl, h4⟩⟩
  | some o' :: ρ, 0, o, σ, A, h, e => by
    obtain ⟨v, r, A1, A2, rfl, rfl, q, t⟩ := h
    simp at e; subst e
    exact ⟨v, A1, A2, by simp, q, .refl _, ⟨some v, r, rfl, t⟩⟩
  | some o' :: ρ, i + 1, o, σ, A, h, e => by
    obtain ⟨v, r, A1, A2, rfl, rfl, q, t⟩ := h
    obtain ⟨w, B, C, h1, h2, h3, h4⟩ := EnvR.get (i := i) t (by simpa using e)
    refine ⟨w, B, A1 ++ C, by simpa using h1, h2, ?_, ⟨v, r, A1, C, rfl, rfl, q, h4⟩⟩
    exact (List.Perm.append_left A1 h3).trans (by simpa [List.append_assoc] using List.perm_append_comm_assoc A1 B C)
/-- a slot filled -/
theorem EnvR.put : ∀ {ρ : Env} {i : Nat} {o : O} {σ : St} {v : V} {C B : List Addr}, EnvR K HF H (ρ.set i none) σ C → i < ρ.length → RepO K HF H o v B → ∃ A, A.Perm (B ++ C) ∧ EnvR K HF H (ρ.set i (some o)) (σ.set i (some v)) A
  | [], i, o, σ, v, C, B, h, hi, r => by simp at hi
  | x :: ρ, 0, o, σ, v, C, B, h, hi, r => by
    obtain ⟨s', r', rfl, q⟩ := h
    exact ⟨B ++ C, .refl _, ⟨v, r', B, C, rfl, rfl, r, q⟩⟩
  | none :: ρ, i + 1, o, σ, v, C, B, h, hi, r => by
    obtain ⟨s', r', rfl, q⟩ := h
    obtain ⟨A, p, t⟩ := EnvR.put (i := i) q (by simpa using hi) r
    exact ⟨A, p, ⟨s', _, rfl, t⟩⟩
  | some o' :: ρ, i + 1, o, σ, v, C, B, h, hi, r => by
    obtain ⟨w, r', A1, A2, rfl, rfl, q, t⟩ := h
    obtain ⟨A, p, z⟩ := EnvR.put (i := i) t (by simpa using hi) r
    refine ⟨A1 ++ A, (List.Perm.append_left A1 p).trans ?_, ⟨w, _, A1, A, rfl, rfl, q, z⟩⟩
    exact List.perm_append_comm_assoc A1 B A2
theorem EnvR.forget : ∀ {ρ : Env} {i : Nat} {σ : St} {A : List Addr}, EnvR K HF H ρ σ A → ∃ C, C.Sublist A ∧ EnvR K HF H (ρ.set i none) σ C
  | [], i, σ, A, h => ⟨A, .refl _, by simpa using h⟩
  | none :: ρ, 0, σ, A, h => ⟨A, .refl _, h⟩
  | some o :: ρ, 0, σ, A, h => by
    obtain ⟨v, r, A1, A2, rfl, rfl, q, t⟩ := h
    exact ⟨A2, List.sublist_append_right _ _, ⟨some v, r, rfl, t⟩⟩
  | none :: ρ, i + 1, σ, A, h => by
    obtain ⟨s', r, rfl, q⟩ := h
    obtain ⟨C, hs, t⟩ := EnvR.forget (i := i) q
    exact ⟨C, hs, ⟨s', r, rfl, t⟩⟩
  | some o :: ρ, i + 1, σ, A, h => by
    obtain ⟨v, r, A1, A2, rfl, rfl, q, t⟩ := h
    obtain ⟨C, hs, z⟩ := EnvR.forget (i := i) t
    exact ⟨A1 ++ C, List.Sublist.append_left hs A1, ⟨v, r, A1, C, rfl, rfl, q, z⟩⟩
end
end AE
/-! AE2: readings over slots of trees; judgements; names, constants, operators, tests, arguments. -/
namespace AE
open PySem L2

structure XD where
  cls : Value
  fs : List (Str × D)
abbrev KD := EV → Env → Prop
abbrev XC := XD → Env → Prop
abbrev TD := Env → KD → XC → Prop
abbrev TDs := Env → (List EV → Env → Prop) → XC → Prop
abbrev TDt := Env → (Bool → Env → Prop) → XC → Prop

def EXR (K : PySem.W.Frag) (HF : Hp) (x : XD) (cls : Value) (d : Option Addr) : Prop :=
  x.cls = cls ∧ match d with
    | none => x.fs = []
    | some p => ∃ fvs, HF p = some (.xd fvs) ∧ RepFs K HF x.fs fvs

section
variable (K : PySem.W.Frag) (σ : St) (H HF : Hp) (A : List Addr)
def KOk (Kd : KD) (Q : VK) : Prop := ∀ ev ρ, Kd ev ρ → ∀ HF' H' A' v Av, Fr H H' HF HF' A (A' ++ Av) → WR HF' H' (A' ++ Av) → EnvR K HF' H' ρ σ A' → EVR K HF' H' σ ev v Av → Q v H'
def KOks (Kd : List EV → Env → Prop) (Q : List V → Hp → Prop) : Prop := ∀ evs ρ, Kd evs ρ → ∀ HF' H' A' vs Av, Fr H H' HF HF' A (A' ++ Av) → WR HF' H' (A' ++ Av) → EnvR K HF' H' ρ σ A' → EVRs K HF' H' σ evs vs Av → Q vs H'
def KOkt (Kd : Bool → Env → Prop) (Q : Bool → Hp → Prop) : Prop := ∀ b ρ, Kd b ρ → ∀ HF' H' A', Fr H H' HF HF' A A' → WR HF' H' A' → EnvR K HF' H' ρ σ A' → Q b H'
def XOk (Ed : XC) (W : WX) : Prop := ∀ x ρ, Ed x ρ → ∀ HF' H' A' cls d, Fr H H' HF HF' A A' → WR HF' H' A' → EnvR K HF' H' ρ σ A' → EXR K HF' x cls d → W cls d σ H'
end
def tA (K : PySem.W.Frag) (W : WX) (t : TD) : TE := fun σ H Q => ∃ HF ρ A Kd Ed, WR HF H A ∧ EnvR K HF H ρ σ A ∧ t ρ Kd Ed ∧ KOk K σ H HF A Kd Q ∧ XOk K σ H HF A Ed W
def tAs (K : PySem.W.Frag) (W : WX) (t : TDs) : TA := fun σ H Q => ∃ HF ρ A Kd Ed, WR HF H A ∧ EnvR K HF H ρ σ A ∧ t ρ Kd Ed ∧ KOks K σ H HF A Kd Q ∧ XOk K σ H HF A Ed W
def tAt (K : PySem.W.Frag) (W : WX) (t : TDt) : TT := fun σ H Q => ∃ HF ρ A Kd Ed, WR HF H A ∧ EnvR K HF H ρ σ A ∧ t ρ Kd Ed ∧ KOkt K σ H HF A Kd Q ∧ XOk K σ H HF A Ed W

/-- an expression, an argument list, a test, read over trees; W: what is wanted of an exception -/
def AE (X : Cx) (W : WX) (e : Expr) (t : TD) : Prop := PE X e (tA X.K W t)
def AA (X : Cx) (W : WX) (es : List Expr) (t : TDs) : Prop := PA X es (tAs X.K W t)
def AT (X : Cx) (W : WX) (e : Expr) (t : TDt) : Prop := PT X e (tAt X.K W t)
def AW (X : Cx) (W : WX) (e : Expr) (t : TDt) : Prop := PW X e (tAt X.K W t)

theorem PE.imp {X : Cx} {e : Expr} {t u : TE} (h : PE X e t) (i : ∀ σ H Q, u σ H Q → t σ H Q) : PE X e u := ⟨fun pins s σ H Q I q => h.run pins s σ H Q I (i σ H Q q)⟩
theorem PT.imp {X : Cx} {e : Expr} {t u : TT} (h : PT X e t) (i : ∀ σ H Q, u σ H Q → t σ H Q) : PT X e u := ⟨fun pins s σ H Q I q => h.run pins s σ H Q I (i σ H Q q)⟩
theorem PW.imp {X : Cx} {e : Expr} {t u : TT} (h : PW X e t) (i : ∀ σ H Q, u σ H Q → t σ H Q) : PW X e u := ⟨fun wh pins s σ H Q I q => h.run wh pins s σ H Q I (i σ H Q q)⟩
theorem PA.imp {X : Cx} {es : List Expr} {t u : TA} (h : PA X es t) (i : ∀ σ H Q, u σ H Q → t σ H Q) : PA X es u := ⟨fun pos pins s σ H Q I q => h.run pos pins s σ H Q I (i σ H Q q)⟩
theorem PS.imp {X : Cx} {st : Stmt} {t u : TS} (h : PS X st t) (i : ∀ D σ H, u D σ H → t D σ H) : PS X st u := ⟨fun pins s σ H D I q => h.run pins s σ H D I (i D σ H q)⟩
theorem PSs.imp {X : Cx} {st : List Stmt} {t u : TS} (h : PSs X st t) (i : ∀ D σ H, u D σ H → t D σ H) : PSs X st u := ⟨fun pins s σ H D I q => h.run pins s σ H D I (i D σ H q)⟩

section
variable {K : PySem.W.Frag} {σ : St} {H H1 HF HF1 : Hp} {A A1 : List Addr} {W : WX}
theorem KOk.step {Kd : KD} {Q : VK} (k : KOk K σ H HF A Kd Q) (f : Fr H H1 HF HF1 A A1) : KOk K σ H1 HF1 A1 Kd Q := fun ev ρ q HF' H' A' v Av f' w e r => k ev ρ q HF' H' A' v Av (f.trans f') w e r
theorem KOks.step {Kd : List EV → Env → Prop} {Q : List V → Hp → Prop} (k : KOks K σ H HF A Kd Q) (f : Fr H H1 HF HF1 A A1) : KOks K σ H1 HF1 A1 Kd Q := fun ev ρ q HF' H' A' v Av f' w e r => k ev ρ q HF' H' A' v Av (f.trans f') w e r
theorem KOkt.step {Kd : Bool → Env → Prop} {Q : Bool → Hp → Prop} (k : KOkt K σ H HF A Kd Q) (f : Fr H H1 HF HF1 A A1) : KOkt K σ H1 HF1 A1 Kd Q := fun ev ρ q HF' H' A' f' w e => k ev ρ q HF' H' A' (f.trans f') w e
theorem XOk.step {Ed : XC} (k : XOk K σ H HF A Ed W) (f : Fr H H1 HF HF1 A A1) : XOk K σ H1 HF1 A1 Ed W := fun x ρ q HF' H' A' c d f' w e r => k x ρ q HF' H' A' c d (f.trans f') w e r
/-- owning less from here on -/
theorem Fr.drop {A B : List Addr} (h : ∀ p ∈ B, p ∈ A) : Fr H H HF HF A B := ⟨.refl _, fun _ _ e _ => e, fun _ _ _ _ e => e, fun p hp => .inl (h p hp)⟩
/-- a second part behind a first one that is still held -/
theorem join {H2 HF2 : Hp} {A2 Ax Ay : List Addr} (w1 : WR HF1 H1 (A1 ++ Ax)) (tx : ∀ p ∈ Ax, ∃ u, H1 p = some u) (f : Fr H1 H2 HF1 HF2 A1 (A2 ++ Ay)) (w2 : WR HF2 H2 (A2 ++ Ay)) :
    WR HF2 H2 (A2 ++ (Ax ++ Ay)) ∧ Fr H1 H2 HF1 HF2 (A1 ++ Ax) (A2 ++ (Ax ++ Ay)) ∧ ∀ p ∈ Ax, H2 p = H1 p := by
  have dx : ∀ p ∈ Ax, p ∉ A1 := fun p hp hq => w1.disj p hq hp
  obtain ⟨k1, k2, k3⟩ := f.frame tx dx
  have pm : (A2 ++ (Ax ++ Ay)).Perm (Ax ++ (A2 ++ Ay)) := List.perm_append_comm_assoc A2 Ax Ay
  refine ⟨WR.perm ⟨w2.same, List.nodup_append.mpr ⟨w1.right.nodup, w2.nodup, fun a ha b hb e => k3 a ha (e ▸ hb)⟩, fun a ha => ?_⟩ pm.symm, ?_, k1⟩
  · rcases List.mem_append.mp ha with ha | ha
    · exact k2 a ha (w1.out a (List.mem_append_right _ ha))
    · exact w2.out a ha
  · refine f.mono (fun p hp => List.mem_append_left _ hp) fun p hp => ?_
    rcases List.mem_append.mp (pm.mem_iff.mp hp) with z | z
    · exact .inr (List.mem_append_right _ z)
    · exact .inl z
end

/-! ### names, constants -/
def tName (i : Nat) : TD := fun ρ Kd _ => match ρ[i]? with
  | some (some (.fz d)) => Kd (.ow (.fz d)) ρ
  | some (some _) => Kd (.pt i) ρ
  | _ => False
/-- the name's thing made pure -/
def tNameZ (i : Nat) : TD := fun ρ Kd _ => match ρ[i]? with
  | some (some o) => Kd (.ow (.fz (frz o))) (ρ.set i (some (.fz (frz o))))
  | _ => False
def tK (d : D) : TD := fun ρ Kd _ => Kd (.ow (.fz d)) ρ
section
variable {X : Cx} {W : WX}
theorem ae_name {e : Expr} {i : Nat} (h : PE X e (tVar i)) : AE X W e (tName i) := PE.imp h fun σ H Q q => by
  obtain ⟨HF, ρ, A, Kd, Ed, w, en, t, k, x⟩ := q
  unfold tName at t
  split at t
  · rename_i d e1
    obtain ⟨v, B, C, h1, h2, h3, _⟩ := en.get e1
    exact ⟨v, h1, k _ _ t HF H A v [] (by rw [List.append_nil]; exact Fr.refl) (by rw [List.append_nil]; exact w) en ⟨rfl, h2.2⟩⟩
  · rename_i o _ e1
    obtain ⟨v, B, C, h1, h2, h3, _⟩ := en.get e1
    exact ⟨v, h1, k _ _ t HF H A v [] (by rw [List.append_nil]; exact Fr.refl) (by rw [List.append_nil]; exact w) en ⟨rfl, h1⟩⟩
  · exact t.elim
/-- the pure part grown by what was owned -/
def grow (HF H : Hp) (B : List Addr) : Hp := fun p => if p ∈ B then H p else HF p
theorem grow_in {HF H : Hp} {B : List Addr} {p : Addr} (h : p ∈ B) : grow HF H B p = H p := if_pos h
theorem grow_out {HF H : Hp} {B : List Addr} {p : Addr} (h : p ∉ B) : grow HF H B p = HF p := if_neg h
theorem grow_ok {HF H : Hp} {B C : List Addr} (w : WR HF H (B ++ C)) : Same HF (grow HF H B) ∧ WR (grow HF H B) H C ∧ Fr H H HF (grow HF H B) (B ++ C) C := by
  have s1 : Same HF (grow HF H B) := fun b o e => by
    rw [grow_out fun hb => by have := w.out b (List.mem_append_left _ hb); rw [e] at this; cases this]
    exact e
  refine ⟨s1, ⟨fun b o e => ?_, w.right.nodup, fun a ha => ?_⟩, ⟨s1, fun _ _ e _ => e, fun p o e n f => ?_, fun p hp => .inl (List.mem_append_right _ hp)⟩⟩
  · by_cases hb : b ∈ B
    · rw [grow_in hb] at e; exact e
    · rw [grow_out hb] at e; exact w.same b o e
  · rw [grow_out fun hb => w.disj a hb ha]; exact w.out a (List.mem_append_right _ ha)
  · rw [grow_out fun hb => n (List.mem_append_left _ hb)]; exact f
theorem freeze {K : PySem.W.Frag} {HF H : Hp} {ρ : Env} {σ : St} {A Av : List Addr} {i : Nat} {o : O} (w : WR HF H (A ++ Av)) (en : EnvR K HF H ρ σ A) (e1 : ρ[i]? = some (some o)) :
    ∃ v HF' A', σ[i]? = some (some v) ∧ Same HF HF' ∧ WR HF' H (A' ++ Av) ∧ Fr H H HF HF' (A ++ Av) (A' ++ Av) ∧ EnvR K HF' H (ρ.set i (some (.fz (frz o)))) σ A' ∧ Rep K HF' (frz o) v := by
  obtain ⟨v, B, C, h1, h2, h3, h4⟩ := en.get e1
  have pm : (A ++ Av).Perm (B ++ (C ++ Av)) := by
    have := List.Perm.append_right Av h3
    rwa [List.append_assoc] at this
  obtain ⟨s1, w1, f1⟩ := grow_ok (w.perm pm)
  have r1 : Rep K (grow HF H B) (frz o) v := RepO.frz s1 o h2 fun p hp => grow_in hp
  have hi : i < ρ.length := (List.getElem?_eq_some_iff.mp e1).1
  have hσ : σ.set i (some v) = σ := by
    obtain ⟨q1, q2⟩ := List.getElem?_eq_some_iff.mp h1
    rw [← q2]; exact List.set_getElem_self q1
  obtain ⟨A', p', en'⟩ := EnvR.put (o := .fz (frz o)) (v := v) (EnvR.keep s1 _ h4 fun p _ => rfl) hi (B := []) ⟨rfl, r1⟩
  rw [List.nil_append] at p'
  rw [hσ] at en'
  have p2 : (C ++ Av).Perm (A' ++ Av) := List.Perm.append_right Av p'.symm
  refine ⟨v, grow HF H B, A', h1, s1, w1.perm p2, ?_, en', r1⟩
  exact f1.mono (fun p hp => pm.mem_iff.mpr hp) fun p hp => .inl (p2.mem_iff.mpr hp)
theorem ae_nameZ {e : Expr} {i : Nat} (h : PE X e (tVar i)) : AE X W e (tNameZ i) := PE.imp h fun σ H Q q => by
  obtain ⟨HF, ρ, A, Kd, Ed, w, en, t, k, x⟩ := q
  unfold tNameZ at t
  split at t
  · rename_i o e1
    obtain ⟨v, HF', A', h1, s1, w1, f1, en1, r1⟩ := freeze (Av := []) (by rw [List.append_nil]; exact w) en e1
    rw [List.append_nil] at f1
    exact ⟨v, h1, k _ _ t HF' H A' v [] f1 w1 en1 ⟨rfl, r1⟩⟩
  · exact t.elim
theorem ae_const {e : Expr} {v : V} {d : D} (h : PE X e (tC v)) (r : ∀ K H, Rep K H d v) : AE X W e (tK d) := PE.imp h fun σ H Q q => by
  obtain ⟨HF, ρ, A, Kd, Ed, w, en, t, k, x⟩ := q
  exact k _ _ t HF H A v [] (by rw [List.append_nil]; exact Fr.refl) (by rw [List.append_nil]; exact w) en ⟨rfl, r _ _⟩
theorem ae_int {i j pos} : AE X W (.Constant (.int i) j pos) (tK (.int i)) := ae_const pe_int fun _ _ => rfl
theorem ae_bl {b j pos} : AE X W (.Constant (.bool b) j pos) (tK (.bl b)) := ae_const pe_bl fun _ _ => rfl
theorem ae_non {j pos} : AE X W (.Constant .none j pos) (tK .non) := ae_const pe_non fun _ _ => rfl
theorem ae_str {x j pos} : AE X W (.Constant (.str x) j pos) (tK (.str x)) := ae_const pe_str fun _ _ => rfl
end

/-! ### views: a thing's data, the parts of it pure -/
section
variable (K : PySem.W.Frag) (HF H : Hp)
/-- v shows d: d's own object may be owned, its parts are pure -/
def Vw : D → V → Prop
  | .lst ds, v => ∃ a vs, v = .ref a ∧ H a = some (.lst vs) ∧ Reps K HF ds vs
  | .dic ds, v => ∃ a vs, v = .ref a ∧ Rd H a (.dK vs) ∧ RepKs K HF ds vs
  | .dit ds, v => ∃ a vs, v = .ref a ∧ Rd H a (.dT vs) ∧ RepTs K HF ds vs
  | .ins C ds, v => ∃ a dx vs, v = .ref a ∧ H a = some (.ins C dx vs) ∧ RepFs K HF ds vs
  | d, v => Rep K HF d v
def Vws : List D → List V → Prop
  | [], vs => vs = []
  | d :: ds, vs => ∃ v ws, vs = v :: ws ∧ Vw K HF H d v ∧ Vws ds ws
end
def flatFs : List (Str × O) → Option (List (Str × D))
  | [] => some []
  | (f, .fz d) :: r => match flatFs r with
    | some l => some ((f, d) :: l)
    | none => none
  | _ => none
def flat : O → Option D
  | .fz d => some d
  | .ls ds => some (.lst ds)
  | .dc ds => some (.dic ds)
  | .dt ds => some (.dit ds)
  | .ob C fs => match flatFs fs with
    | some l => some (.ins C l)
    | none => none
  | _ => none
def deref (ρ : Env) : EV → Option O
  | .ow o => some o
  | .pt i => match ρ[i]? with
    | some (some o) => some o
    | _ => none
def dOf (ρ : Env) (e : EV) : Option D := match deref ρ e with
  | some o => flat o
  | none => none
section
variable {K : PySem.W.Frag} {HF H : Hp}
theorem Vw.of {d : D} {v : V} (s : Same HF H) (r : Rep K HF d v) : Vw K HF H d v := by
  cases d with
  | lst ds => obtain ⟨a, vs, e, q, t⟩ := r; exact ⟨a, vs, e, s _ _ q, t⟩
  | dic ds => obtain ⟨a, vs, e, q, t⟩ := r; exact ⟨a, vs, e, Rd.mono q s, t⟩
  | dit ds => obtain ⟨a, vs, e, q, t⟩ := r; exact ⟨a, vs, e, Rd.mono q s, t⟩
  | ins C ds => obtain ⟨a, dx, vs, e, q, t⟩ := r; exact ⟨a, dx, vs, e, s _ _ q, t⟩
  | _ => exact r
theorem flatFs_ok : ∀ {fs : List (Str × O)} {l : List (Str × D)} {vs : List (Str × V)} {A : List Addr}, flatFs fs = some l → RepOFs K HF H fs vs A → RepFs K HF l vs
  | [], l, vs, A, h, r => by cases h; exact r.1
  | (f, o) :: r, l, vs, A, h, q => by
    cases o with
    | fz d =>
      unfold flatFs at h
      split at h
      · rename_i l' e
        cases h
        obtain ⟨v, ws, A1, A2, rfl, rfl, q1, q2⟩ := q
        exact ⟨v, ws, rfl, ⟨q1.1, q1.2.2⟩, flatFs_ok e q2⟩
      · cases h
    | ls _ => simp [flatFs] at h
    | dc _ => simp [flatFs] at h
    | dt _ => simp [flatFs] at h
    | nl _ => simp [flatFs] at h
    | nd _ => simp [flatFs] at h
    | ob _ _ => simp [flatFs] at h
theorem Vw.flat {o : O} {d : D} {v : V} {A : List Addr} (s : Same HF H) (h : flat o = some d) (r : RepO K HF H o v A) : Vw K HF H d v := by
  cases o with
  | fz d' => cases h; exact Vw.of s r.2
  | ls ds => cases h; obtain ⟨a, vs, e, ea, q, t⟩ := r; exact ⟨a, vs, e, q, t⟩
  | dc ds => cases h; obtain ⟨a, vs, e, ea, q, t⟩ := r; exact ⟨a, vs, e, .inl q, t⟩
  | dt ds => cases h; obtain ⟨a, vs, e, ea, q, t⟩ := r; exact ⟨a, vs, e, .inl q, t⟩
  | nl os => cases h
  | nd os => cases h
  | ob C fs =>
    have h : (match flatFs fs with | some l => some (D.ins C l) | none => none) = some d := h
    split at h
    · rename_i l e
      cases h
      obtain ⟨a, dx, vs, B, e1, ea, q, t⟩ := r
      exact ⟨a, dx, vs, e1, q, flatFs_ok e t⟩
    · cases h
theorem Vw.ev {ρ : Env} {σ : St} {A Av : List Addr} {ev : EV} {v : V} {d : D} (s : Same HF H) (en : EnvR K HF H ρ σ A) (r : EVR K HF H σ ev v Av) (h : dOf ρ ev = some d) : Vw K HF H d v := by
  cases ev with
  | ow o => exact Vw.flat s (by simpa [dOf, deref] using h) r
  | pt i =>
    have h : (match (match ρ[i]? with | some (some o) => some o | _ => none : Option O) with | some o => AE.flat o | none => none) = some d := h
    cases e' : ρ[i]? with
    | none => rw [e'] at h; cases h
    | some oo =>
      cases oo with
      | none => rw [e'] at h; cases h
      | some o =>
        rw [e'] at h
        obtain ⟨v', B, C, h1, h2, _⟩ := en.get e'
        have : v = v' := by
          have q := r.2
          rw [h1] at q
          exact (Option.some.inj (Option.some.inj q)).symm
        subst this
        exact Vw.flat s h h2
/-- every kind of view: its value's heap is the whole heap -/
theorem Reps.length : ∀ {ds : List D} {vs : List V}, Reps K HF ds vs → vs.length = ds.length
  | [], vs, h => by rw [show vs = [] from h]; rfl
  | d :: ds, vs, h => by obtain ⟨v, ws, rfl, _, r⟩ := h; simp [Reps.length r]
theorem Reps.get : ∀ {ds : List D} {vs : List V} {i : Nat} {d : D}, Reps K HF ds vs → ds[i]? = some d → ∃ v, vs[i]? = some v ∧ Rep K HF d v
  | [], vs, i, d, h, e => by simp at e
  | d' :: ds, vs, 0, d, h, e => by obtain ⟨v, ws, rfl, q, r⟩ := h; simp at e; subst e; exact ⟨v, by simp, q⟩
  | d' :: ds, vs, i + 1, d, h, e => by
    obtain ⟨v, ws, rfl, q, r⟩ := h
    obtain ⟨w, h1, h2⟩ := Reps.get (i := i) r (by simpa using e)
    exact ⟨w, by simpa using h1, h2⟩
theorem Reps.getV : ∀ {ds : List D} {vs : List V} {i : Nat} {v : V}, Reps K HF ds vs → vs[i]? = some v → ∃ d, ds[i]? = some d ∧ Rep K HF d v
  | [], vs, i, v, h, e => by rw [show vs = [] from h] at e; simp at e
  | d' :: ds, vs, 0, v, h, e => by obtain ⟨v', ws, rfl, q, r⟩ := h; simp at e; subst e; exact ⟨d', by simp, q⟩
  | d' :: ds, vs, i + 1, v, h, e => by
    obtain ⟨v', ws, rfl, q, r⟩ := h
    obtain ⟨w, h1, h2⟩ := Reps.getV (i := i) r (by simpa using e)
    exact ⟨w, by simpa using h1, h2⟩
theorem Reps.append : ∀ {ds es : List D} {vs ws : List V}, Reps K HF ds vs → Reps K HF es ws → Reps K HF (ds ++ es) (vs ++ ws)
  | [], es, vs, ws, h, q => by rw [show vs = [] from h]; exact q
  | d :: ds, es, vs, ws, h, q => by obtain ⟨v, us, rfl, r, t⟩ := h; exact ⟨v, us ++ ws, rfl, r, Reps.append t q⟩
theorem Reps.one {d : D} {v : V} (h : Rep K HF d v) : Reps K HF [d] [v] := ⟨v, [], rfl, h, rfl⟩
end

/-! ### operations on values -/
/-- values in, a value out; what it does with trees -/
def Prim (K : PySem.W.Frag) (r : List V → Hp → VK → Prop) (f : Env → List EV → KD → Prop) : Prop :=
  ∀ (σ : St) (HF H : Hp) (ρ : Env) (A Av : List Addr) (evs : List EV) (vs : List V) (Kd : KD) (Q : VK), WR HF H (A ++ Av) → EnvR K HF H ρ σ A → EVRs K HF H σ evs vs Av → f ρ evs Kd → KOk K σ H HF (A ++ Av) Kd Q → r vs H Q
def r1L (r : V → Hp → VK → Prop) : List V → Hp → VK → Prop
  | [x] => r x
  | _ => fun _ _ => False
def r2L (r : R2) : List V → Hp → VK → Prop
  | [x, y] => r x y
  | _ => fun _ _ => False
def t1 (f : Env → List EV → KD → Prop) (ta : TD) : TD := fun ρ Kd Ed => ta ρ (fun e1 ρ1 => f ρ1 [e1] Kd) Ed
def t2 (f : Env → List EV → KD → Prop) (ta tb : TD) : TD := fun ρ Kd Ed => ta ρ (fun e1 ρ1 => tb ρ1 (fun e2 ρ2 => f ρ2 [e1, e2] Kd) Ed) Ed
def tN (f : Env → List EV → KD → Prop) (ts : TDs) : TD := fun ρ Kd Ed => ts ρ (fun es ρ1 => f ρ1 es Kd) Ed
section
variable {X : Cx} {W : WX} {a b : Expr} {ta tb : TD} {pos : Pos} {f : Env → List EV → KD → Prop}
/-- two parts, then an operation -/
theorem two {r : R2} (hp : Prim X.K (r2L r) f) : ∀ σ H Q, tA X.K W (t2 f ta tb) σ H Q → tOp r (tA X.K W ta) (tA X.K W tb) σ H Q := fun σ H Q q => by
  obtain ⟨HF, ρ, A, Kd, Ed, w, en, t, k, x⟩ := q
  refine ⟨HF, ρ, A, _, Ed, w, en, t, fun e1 ρ1 q1 HF1 H1 A1 v1 Av1 f1 w1 en1 r1 => ?_, x⟩
  have x1 : XOk X.K σ H1 HF1 A1 Ed W := (x.step f1).step (Fr.drop fun p hp => List.mem_append_left _ hp)
  refine ⟨HF1, ρ1, A1, _, Ed, w1.left, en1, q1, fun e2 ρ2 q2 HF2 H2 A2 v2 Av2 f2 w2 en2 r2 => ?_, x1⟩
  obtain ⟨w3, f3, k3⟩ := join w1 (EVR.there r1) f2 w2
  refine hp σ HF2 H2 ρ2 A2 (Av1 ++ Av2) [e1, e2] [v1, v2] Kd Q w3 en2 ⟨v1, [v2], Av1, Av2, rfl, rfl, EVR.keep f2.same r1 k3, v2, [], Av2, [], rfl, by simp, r2, rfl, rfl⟩ q2 ?_
  exact (k.step f1).step f3
theorem one {r : V → Hp → VK → Prop} (hp : Prim X.K (r1L r) f) : ∀ σ H Q, tA X.K W (t1 f ta) σ H Q → tUn r (tA X.K W ta) σ H Q := fun σ H Q q => by
  obtain ⟨HF, ρ, A, Kd, Ed, w, en, t, k, x⟩ := q
  refine ⟨HF, ρ, A, _, Ed, w, en, t, fun e1 ρ1 q1 HF1 H1 A1 v1 Av1 f1 w1 en1 r1 => ?_, x⟩
  exact hp σ HF1 H1 ρ1 A1 Av1 [e1] [v1] Kd Q w1 en1 ⟨v1, [], Av1, [], rfl, by simp, r1, rfl, rfl⟩ q1 (k.step f1)
theorem ae_op {op : Operator} {r : R2} (ho : OpR X (binaryOp op) r) (hp : Prim X.K (r2L r) f) (ha : AE X W a ta) (hb : AE X W b tb) : AE X W (.BinOp a op b pos) (t2 f ta tb) := PE.imp (pe_op ho ha hb) (two hp)
theorem ae_un {op : UnaryOp} {r : V → Hp → VK → Prop} (ho : UnR X (unaryOp op) r) (hp : Prim X.K (r1L r) f) (ha : AE X W a ta) : AE X W (.UnaryOp op a pos) (t1 f ta) := PE.imp (pe_un ho ha) (one hp)
theorem ae_cmp {op : CmpOp} {r : R2} (ho : OpR X (compareOp op) r) (hp : Prim X.K (r2L r) f) (ha : AE X W a ta) (hb : AE X W b tb) (hm : behindInMarks op b = false) : AE X W (.Compare a [op] [b] pos) (t2 f ta tb) := PE.imp (pe_cmpR ho ha hb hm) (two hp)
theorem ae_ix {r : R2} (ho : IxR X r) (hp : Prim X.K (r2L r) f) (ha : AE X W a ta) (hb : AE X W b tb) (hs : PlainIx b) : AE X W (.Subscript a b pos) (t2 f ta tb) := PE.imp (pe_ix ho ha hb hs) (two hp)

/-! ### tests -/
def tVal (t : TD) : TDt := fun ρ Kd Ed => t ρ (fun e ρ1 => match dOf ρ1 e with
  | some (.bl b) => Kd b ρ1
  | _ => False) Ed
theorem at_val {e : Expr} {t : TD} (h : AE X W e t) (he : ∀ whole, isTrue e X.env whole = (do let v ← whole; standAt e.pos; holding [v] (truthy v)) := by intro _; rfl) : AT X W e (tVal t) := PT.imp (pt_val h he) fun σ H Q q => by
  obtain ⟨HF, ρ, A, Kd, Ed, w, en, t, k, x⟩ := q
  refine ⟨HF, ρ, A, _, Ed, w, en, t, fun e1 ρ1 q1 HF1 H1 A1 v1 Av1 f1 w1 en1 r1 => ?_, x⟩
  dsimp only at q1
  split at q1
  · rename_i b e2
    have r2 : Vw X.K HF1 H1 (.bl b) v1 := Vw.ev w1.same en1 r1 e2
    exact ⟨b, r2, k b ρ1 q1 HF1 H1 A1 (f1.mono (fun _ hp => hp) fun p hp => .inl (List.mem_append_left _ hp)) w1.left en1⟩
  · exact q1.elim
def tAndT (t u : TDt) : TDt := fun ρ Kd Ed => t ρ (fun b ρ1 => if b = true then u ρ1 Kd Ed else Kd false ρ1) Ed
def tOrT (t u : TDt) : TDt := fun ρ Kd Ed => t ρ (fun b ρ1 => if b = true then Kd true ρ1 else u ρ1 Kd Ed) Ed
def tNotT (t : TDt) : TDt := fun ρ Kd Ed => t ρ (fun b ρ1 => Kd (!b) ρ1) Ed
variable {tc td : TDt} {rest : List Expr}
theorem AW.at {e : Expr} {t : TDt} (h : AW X W e t) : AT X W e t := PW.pt h
theorem aw_and1 (ha : AT X W a tc) : AW X W (.BoolOp .And [a] pos) tc := pw_and1 ha
theorem aw_or1 (ha : AT X W a tc) : AW X W (.BoolOp .Or [a] pos) tc := pw_or1 ha
theorem aw_and (ha : AT X W a tc) (hb : AW X W (.BoolOp .And (b :: rest) pos) td) : AW X W (.BoolOp .And (a :: b :: rest) pos) (tAndT tc td) := PW.imp (pw_and ha hb) fun σ H Q q => by
  obtain ⟨HF, ρ, A, Kd, Ed, w, en, t, k, x⟩ := q
  refine ⟨HF, ρ, A, _, Ed, w, en, t, fun b1 ρ1 q1 HF1 H1 A1 f1 w1 en1 => ?_, x⟩
  cases b1 with
  | true => exact (if_pos rfl).mpr ⟨HF1, ρ1, A1, Kd, Ed, w1, en1, (by simpa using q1), k.step f1, x.step f1⟩
  | false => exact (if_neg (by simp)).mpr (k false ρ1 (by simpa using q1) HF1 H1 A1 f1 w1 en1)
theorem aw_or (ha : AT X W a tc) (hb : AW X W (.BoolOp .Or (b :: rest) pos) td) : AW X W (.BoolOp .Or (a :: b :: rest) pos) (tOrT tc td) := PW.imp (pw_or ha hb) fun σ H Q q => by
  obtain ⟨HF, ρ, A, Kd, Ed, w, en, t, k, x⟩ := q
  refine ⟨HF, ρ, A, _, Ed, w, en, t, fun b1 ρ1 q1 HF1 H1 A1 f1 w1 en1 => ?_, x⟩
  cases b1 with
  | true => exact (if_pos rfl).mpr (k true ρ1 (by simpa using q1) HF1 H1 A1 f1 w1 en1)
  | false => exact (if_neg (by simp)).mpr ⟨HF1, ρ1, A1, Kd, Ed, w1, en1, (by simpa using q1), k.step f1, x.step f1⟩
theorem at_not (ha : AT X W a tc) : AT X W (.UnaryOp .Not a pos) (tNotT tc) := PT.imp (pt_not ha) fun σ H Q q => by
  obtain ⟨HF, ρ, A, Kd, Ed, w, en, t, k, x⟩ := q
  exact ⟨HF, ρ, A, _, Ed, w, en, t, fun b1 ρ1 q1 HF1 H1 A1 f1 w1 en1 => k _ ρ1 q1 HF1 H1 A1 f1 w1 en1, x⟩
/-- .. as values -/
def tAndE (t u : TD) : TD := fun ρ Kd Ed => t ρ (fun e ρ1 => match dOf ρ1 e with
  | some (.bl b) => if b = true then u ρ1 Kd Ed else Kd (.ow (.fz (.bl false))) ρ1
  | _ => False) Ed
def tOrE (t u : TD) : TD := fun ρ Kd Ed => t ρ (fun e ρ1 => match dOf ρ1 e with
  | some (.bl b) => if b = true then Kd (.ow (.fz (.bl true))) ρ1 else u ρ1 Kd Ed
  | _ => False) Ed
def tNotE (t : TD) : TD := fun ρ Kd Ed => t ρ (fun e ρ1 => match dOf ρ1 e with
  | some (.bl b) => Kd (.ow (.fz (.bl (!b)))) ρ1
  | _ => False) Ed
theorem ae_one {op} {t : TD} (h : AE X W a t) : AE X W (.BoolOp op [a] pos) t := pe_one h
theorem ae_and (ha : AE X W a ta) (hb : AE X W (.BoolOp .And (b :: rest) pos) tb) : AE X W (.BoolOp .And (a :: b :: rest) pos) (tAndE ta tb) := PE.imp (pe_and ha hb) fun σ H Q q => by
  obtain ⟨HF, ρ, A, Kd, Ed, w, en, t, k, x⟩ := q
  refine ⟨HF, ρ, A, _, Ed, w, en, t, fun e1 ρ1 q1 HF1 H1 A1 v1 Av1 f1 w1 en1 r1 => ?_, x⟩
  dsimp only at q1
  split at q1
  · rename_i b e2
    have r2 : Vw X.K HF1 H1 (.bl b) v1 := Vw.ev w1.same en1 r1 e2
    have f1' : Fr H H1 HF HF1 A A1 := f1.mono (fun _ hp => hp) fun p hp => .inl (List.mem_append_left _ hp)
    refine ⟨b, r2, ?_⟩
    cases b with
    | true => exact (if_pos rfl).mpr ⟨HF1, ρ1, A1, Kd, Ed, w1.left, en1, (by simpa using q1), k.step f1', x.step f1'⟩
    | false => exact (if_neg (by simp)).mpr (k (.ow (.fz (.bl false))) ρ1 (by simpa using q1) HF1 H1 A1 (.bl false) [] (by rw [List.append_nil]; exact f1') (by rw [List.append_nil]; exact w1.left) en1 ⟨rfl, rfl⟩)
  · exact q1.elim
theorem ae_or (ha : AE X W a ta) (hb : AE X W (.BoolOp .Or (b :: rest) pos) tb) : AE X W (.BoolOp .Or (a :: b :: rest) pos) (tOrE ta tb) := PE.imp (pe_or ha hb) fun σ H Q q => by
  obtain ⟨HF, ρ, A, Kd, Ed, w, en, t, k, x⟩ := q
  refine ⟨HF, ρ, A, _, Ed, w, en, t, fun e1 ρ1 q1 HF1 H1 A1 v1 Av1 f1 w1 en1 r1 => ?_, x⟩
  dsimp only at q1
  split at q1
  · rename_i b e2
    have r2 : Vw X.K HF1 H1 (.bl b) v1 := Vw.ev w1.same en1 r1 e2
    have f1' : Fr H H1 HF HF1 A A1 := f1.mono (fun _ hp => hp) fun p hp => .inl (List.mem_append_left _ hp)
    refine ⟨b, r2, ?_⟩
    cases b with
    | true => exact (if_pos rfl).mpr (k (.ow (.fz (.bl true))) ρ1 (by simpa using q1) HF1 H1 A1 (.bl true) [] (by rw [List.append_nil]; exact f1') (by rw [List.append_nil]; exact w1.left) en1 ⟨rfl, rfl⟩)
    | false => exact (if_neg (by simp)).mpr ⟨HF1, ρ1, A1, Kd, Ed, w1.left, en1, (by simpa using q1), k.step f1', x.step f1'⟩
  · exact q1.elim
theorem ae_not (ha : AE X W a ta) : AE X W (.UnaryOp .Not a pos) (tNotE ta) := PE.imp (pe_not ha) fun σ H Q q => by
  obtain ⟨HF, ρ, A, Kd, Ed, w, en, t, k, x⟩ := q
  refine ⟨HF, ρ, A, _, Ed, w, en, t, fun e1 ρ1 q1 HF1 H1 A1 v1 Av1 f1 w1 en1 r1 => ?_, x⟩
  dsimp only at q1
  split at q1
  · rename_i b e2
    have r2 : Vw X.K HF1 H1 (.bl b) v1 := Vw.ev w1.same en1 r1 e2
    have f1' : Fr H H1 HF HF1 A A1 := f1.mono (fun _ hp => hp) fun p hp => .inl (List.mem_append_left _ hp)
    exact ⟨b, r2, k _ ρ1 q1 HF1 H1 A1 (.bl (!b)) [] (by rw [List.append_nil]; exact f1') (by rw [List.append_nil]; exact w1.left) en1 ⟨rfl, rfl⟩⟩
  · exact q1.elim
def tIfD (t : TDt) (u v : TD) : TD := fun ρ Kd Ed => t ρ (fun b ρ1 => if b = true then u ρ1 Kd Ed else v ρ1 Kd Ed) Ed
theorem ae_if {c : Expr} (hc : AT X W c tc) (ha : AE X W a ta) (hb : AE X W b tb) : AE X W (.IfExp c a b pos) (tIfD tc ta tb) := PE.imp (pe_ifExp hc ha hb) fun σ H Q q => by
  obtain ⟨HF, ρ, A, Kd, Ed, w, en, t, k, x⟩ := q
  refine ⟨HF, ρ, A, _, Ed, w, en, t, fun b1 ρ1 q1 HF1 H1 A1 f1 w1 en1 => ?_, x⟩
  cases b1 with
  | true => exact (if_pos rfl).mpr ⟨HF1, ρ1, A1, Kd, Ed, w1, en1, (by simpa using q1), k.step f1, x.step f1⟩
  | false => exact (if_neg (by simp)).mpr ⟨HF1, ρ1, A1, Kd, Ed, w1, en1, (by simpa using q1), k.step f1, x.step f1⟩

/-! ### argument lists -/
def tNilD : TDs := fun ρ Kd _ => Kd [] ρ
def tConsD (t : TD) (ts : TDs) : TDs := fun ρ Kd Ed => t ρ (fun e ρ1 => ts ρ1 (fun es ρ2 => Kd (e :: es) ρ2) Ed) Ed
theorem aa_nil : AA X W [] tNilD := PA.imp pa_nil fun σ H Q q => by
  obtain ⟨HF, ρ, A, Kd, Ed, w, en, t, k, x⟩ := q
  exact k [] ρ t HF H A [] [] (by rw [List.append_nil]; exact Fr.refl) (by rw [List.append_nil]; exact w) en ⟨rfl, rfl⟩
theorem aa_cons {e : Expr} {es : List Expr} {t : TD} {ts : TDs} (ha : AE X W e t) (hr : AA X W es ts) (hs : starEach (e :: es) X.env = (false, eval e X.env) :: starEach es X.env := by rfl) : AA X W (e :: es) (tConsD t ts) := PA.imp (pa_cons ha hr hs) fun σ H Q q => by
  obtain ⟨HF, ρ, A, Kd, Ed, w, en, t, k, x⟩ := q
  refine ⟨HF, ρ, A, _, Ed, w, en, t, fun e1 ρ1 q1 HF1 H1 A1 v1 Av1 f1 w1 en1 r1 => ?_, x⟩
  have x1 : XOk X.K σ H1 HF1 A1 Ed W := (x.step f1).step (Fr.drop fun p hp => List.mem_append_left _ hp)
  refine ⟨HF1, ρ1, A1, _, Ed, w1.left, en1, q1, fun es2 ρ2 q2 HF2 H2 A2 vs2 Av2 f2 w2 en2 r2 => ?_, x1⟩
  obtain ⟨w3, f3, k3⟩ := join w1 (EVR.there r1) f2 w2
  exact (k.step f1).step f3 (e1 :: es2) ρ2 q2 HF2 H2 A2 (v1 :: vs2) (Av1 ++ Av2) Fr.refl w3 en2 ⟨v1, vs2, Av1, Av2, rfl, rfl, EVR.keep f2.same r1 k3, r2⟩
end
end AE
/-! AE3: statements, defs and their calls. -/
namespace AE
open PySem L2
open PyProof.Rows (envOfC)

structure EndsD where
  nx : Env → Prop
  rt : O → Env → Prop
  bk : Env → Prop := fun _ => False
  ct : Env → Prop := fun _ => False
abbrev TSD := EndsD → XC → Env → Prop
/-- the slots that are not stored anew -/
abbrev Prot := Nat → Bool
def Pr (P : Prot) (σ σ' : St) : Prop := σ'.length = σ.length ∧ ∀ i, P i = true → σ'[i]? = σ[i]?
theorem Pr.refl {P : Prot} {σ : St} : Pr P σ σ := ⟨rfl, fun _ _ => rfl⟩
theorem Pr.trans {P : Prot} {σ σ1 σ2 : St} (a : Pr P σ σ1) (b : Pr P σ1 σ2) : Pr P σ σ2 := ⟨b.1.trans a.1, fun i h => (b.2 i h).trans (a.2 i h)⟩
section
variable (K : PySem.W.Frag) (P : Prot) (σ : St) (H HF : Hp) (A : List Addr)
def NOk (N : Env → Prop) (Q : St → Hp → Prop) : Prop := ∀ ρ, N ρ → ∀ HF' H' σ' A', Pr P σ σ' → Fr H H' HF HF' A A' → WR HF' H' A' → EnvR K HF' H' ρ σ' A' → Q σ' H'
def ROk (R : O → Env → Prop) (Q : VK) : Prop := ∀ o ρ, R o ρ → ∀ HF' H' σ' A' v Av, Pr P σ σ' → Fr H H' HF HF' A (A' ++ Av) → WR HF' H' (A' ++ Av) → EnvR K HF' H' ρ σ' A' → RepO K HF' H' o v Av → Q v H'
structure SOk (E : EndsD) (D : Ends) : Prop where
  nx : NOk K P σ H HF A E.nx D.nx
  rt : ROk K P σ H HF A E.rt D.rt
  bk : NOk K P σ H HF A E.bk D.bk
  ct : NOk K P σ H HF A E.ct D.ct
def XSOk (Ed : XC) (W : WX) : Prop := ∀ x ρ, Ed x ρ → ∀ HF' H' σ' A' cls d, Pr P σ σ' → Fr H H' HF HF' A A' → WR HF' H' A' → EnvR K HF' H' ρ σ' A' → EXR K HF' x cls d → W cls d σ' H'
end
section
variable {K : PySem.W.Frag} {P : Prot} {σ σ1 : St} {H H1 HF HF1 : Hp} {A A1 : List Addr}
theorem NOk.step {N : Env → Prop} {Q : St → Hp → Prop} (k : NOk K P σ H HF A N Q) (p : Pr P σ σ1) (f : Fr H H1 HF HF1 A A1) : NOk K P σ1 H1 HF1 A1 N Q := fun ρ n HF' H' σ' A' p' f' w e => k ρ n HF' H' σ' A' (p.trans p') (f.trans f') w e
theorem ROk.step {R : O → Env → Prop} {Q : VK} (k : ROk K P σ H HF A R Q) (p : Pr P σ σ1) (f : Fr H H1 HF HF1 A A1) : ROk K P σ1 H1 HF1 A1 R Q := fun o ρ n HF' H' σ' A' v Av p' f' w e r => k o ρ n HF' H' σ' A' v Av (p.trans p') (f.trans f') w e r
theorem SOk.step {E : EndsD} {D : Ends} (k : SOk K P σ H HF A E D) (p : Pr P σ σ1) (f : Fr H H1 HF HF1 A A1) : SOk K P σ1 H1 HF1 A1 E D := ⟨k.nx.step p f, k.rt.step p f, k.bk.step p f, k.ct.step p f⟩
theorem XSOk.step {Ed : XC} {W : WX} (k : XSOk K P σ H HF A Ed W) (p : Pr P σ σ1) (f : Fr H H1 HF HF1 A A1) : XSOk K P σ1 H1 HF1 A1 Ed W := fun x ρ n HF' H' σ' A' c d p' f' w e r => k x ρ n HF' H' σ' A' c d (p.trans p') (f.trans f') w e r
theorem XSOk.x {Ed : XC} {W : WX} (k : XSOk K P σ H HF A Ed W) : XOk K σ H HF A Ed W := fun x ρ n HF' H' A' c d f' w e r => k x ρ n HF' H' σ A' c d .refl f' w e r
end
def tS (K : PySem.W.Frag) (W : WX) (P : Prot) (t : TSD) : TS := fun D σ H => ∃ HF ρ A E Ed, WR HF H A ∧ EnvR K HF H ρ σ A ∧ t E Ed ρ ∧ SOk K P σ H HF A E D ∧ XSOk K P σ H HF A Ed W
def AS (X : Cx) (W : WX) (P : Prot) (st : Stmt) (t : TSD) : Prop := PS X st (tS X.K W P t)
def ASs (X : Cx) (W : WX) (P : Prot) (st : List Stmt) (t : TSD) : Prop := PSs X st (tS X.K W P t)

def tNextD : TSD := fun E _ ρ => E.nx ρ
def tSeqD (t u : TSD) : TSD := fun E Ed ρ => t { E with nx := fun ρ1 => u E Ed ρ1 } Ed ρ
/-- what is handed on is moved to a new owner -/
def moved (ρ : Env) : EV → Option (O × Env)
  | .ow o => some (o, ρ)
  | .pt i => match ρ[i]? with
    | some (some o) => some (o, ρ.set i none)
    | _ => none
theorem moved_ok {K : PySem.W.Frag} {HF H : Hp} {ρ ρ' : Env} {σ : St} {A Av : List Addr} {ev : EV} {v : V} {o : O} (w : WR HF H (A ++ Av)) (en : EnvR K HF H ρ σ A) (r : EVR K HF H σ ev v Av) (h : moved ρ ev = some (o, ρ')) :
    ∃ A' B, (A ++ Av).Perm (A' ++ B) ∧ EnvR K HF H ρ' σ A' ∧ RepO K HF H o v B := by
  cases ev with
  | ow o' => cases h; exact ⟨A, Av, .refl _, en, r⟩
  | pt i =>
    have h : (match ρ[i]? with | some (some o) => some (o, ρ.set i none) | _ => none) = some (o, ρ') := h
    cases e : ρ[i]? with
    | none => rw [e] at h; cases h
    | some oo =>
      cases oo with
      | none => rw [e] at h; cases h
      | some o' =>
        rw [e] at h
        cases h
        obtain ⟨v', B, C, h1, h2, h3, h4⟩ := en.get e
        have : v = v' := by
          have q := r.2
          rw [h1] at q
          exact (Option.some.inj (Option.some.inj q)).symm
        subst this
        obtain ⟨rfl, _⟩ := r
        exact ⟨C, B, by rw [List.append_nil]; exact h3.trans List.perm_append_comm, h4, h2⟩
section
variable {X : Cx} {W : WX} {P : Prot} {st : Stmt} {rest : List Stmt} {t u : TSD} {pos : Pos} {e : Expr} {te : TD}
theorem ass_nil : ASs X W P [] tNextD := PSs.imp pss_nil fun D σ H q => by
  obtain ⟨HF, ρ, A, E, Ed, w, en, t, k, x⟩ := q
  exact k.nx ρ t HF H σ A .refl .refl w en
theorem ass_one (h1 : AS X W P st t) : ASs X W P [st] t := pss_one h1
theorem ass_cons (h1 : AS X W P st t) (h2 : ASs X W P rest u) : ASs X W P (st :: rest) (tSeqD t u) := PSs.imp (pss_cons h1 h2) fun D σ H q => by
  obtain ⟨HF, ρ, A, E, Ed, w, en, t, k, x⟩ := q
  exact ⟨HF, ρ, A, _, Ed, w, en, t, ⟨fun ρ1 n HF1 H1 σ1 A1 p1 f1 w1 en1 => ⟨HF1, ρ1, A1, E, Ed, w1, en1, n, k.step p1 f1, x.step p1 f1⟩, k.rt, k.bk, k.ct⟩, x⟩
theorem as_pass : AS X W P (.Pass pos) tNextD := PS.imp ps_pass fun D σ H q => by
  obtain ⟨HF, ρ, A, E, Ed, w, en, t, k, x⟩ := q
  exact k.nx ρ t HF H σ A .refl .refl w en
def tBrkD : TSD := fun E _ ρ => E.bk ρ
def tCntD : TSD := fun E _ ρ => E.ct ρ
theorem as_break : AS X W P (.Break pos) tBrkD := PS.imp ps_break fun D σ H q => by
  obtain ⟨HF, ρ, A, E, Ed, w, en, t, k, x⟩ := q
  exact k.bk ρ t HF H σ A .refl .refl w en
theorem as_continue : AS X W P (.Continue pos) tCntD := PS.imp ps_continue fun D σ H q => by
  obtain ⟨HF, ρ, A, E, Ed, w, en, t, k, x⟩ := q
  exact k.ct ρ t HF H σ A .refl .refl w en
def tExprD (te : TD) : TSD := fun E Ed ρ => te ρ (fun _ ρ1 => E.nx ρ1) Ed
theorem as_expr (he : AE X W e te) (hs : swapsWith e none pos.line X.env = pure false := by rfl) : AS X W P (.Expr e pos) (tExprD te) := PS.imp (ps_expr he hs) fun D σ H q => by
  obtain ⟨HF, ρ, A, E, Ed, w, en, t, k, x⟩ := q
  refine ⟨HF, ρ, A, _, Ed, w, en, t, fun ev ρ1 q1 HF1 H1 A1 v Av f1 w1 en1 r1 => ?_, x.x⟩
  exact k.nx ρ1 q1 HF1 H1 σ A1 .refl (f1.mono (fun _ hp => hp) fun p hp => .inl (List.mem_append_left _ hp)) w1.left en1
def tRetD (te : TD) : TSD := fun E Ed ρ => te ρ (fun ev ρ1 => match moved ρ1 ev with
  | some (o, ρ2) => E.rt o ρ2
  | none => False) Ed
theorem as_ret (he : AE X W e te) : AS X W P (.Return (some e) pos) (tRetD te) := PS.imp (ps_ret he) fun D σ H q => by
  obtain ⟨HF, ρ, A, E, Ed, w, en, t, k, x⟩ := q
  refine ⟨HF, ρ, A, _, Ed, w, en, t, fun ev ρ1 q1 HF1 H1 A1 v Av f1 w1 en1 r1 => ?_, x.x⟩
  dsimp only at q1
  split at q1
  · rename_i o ρ2 e2
    obtain ⟨A', B, pm, en2, r2⟩ := moved_ok w1 en1 r1 e2
    exact k.rt o ρ2 q1 HF1 H1 σ A' v B .refl (f1.mono (fun _ hp => hp) fun p hp => .inl (pm.mem_iff.mpr hp)) (w1.perm pm) en2 r2
  · exact q1.elim
def tRetND : TSD := fun E _ ρ => E.rt (.fz .non) ρ
theorem as_retN : AS X W P (.Return none pos) tRetND := PS.imp ps_retN fun D σ H q => by
  obtain ⟨HF, ρ, A, E, Ed, w, en, t, k, x⟩ := q
  exact k.rt _ ρ t HF H σ A .non [] .refl (by rw [List.append_nil]; exact .refl) (by rw [List.append_nil]; exact w) en ⟨rfl, rfl⟩
def tIfSD (c : TDt) (t u : TSD) : TSD := fun E Ed ρ => c ρ (fun b ρ1 => if b = true then t E Ed ρ1 else u E Ed ρ1) Ed
theorem as_if {c : Expr} {a b : List Stmt} {tc : TDt} (hc : AT X W c tc) (ha : ASs X W P a t) (hb : ASs X W P b u) : AS X W P (.If c a b pos) (tIfSD tc t u) := PS.imp (ps_if hc ha hb) fun D σ H q => by
  obtain ⟨HF, ρ, A, E, Ed, w, en, t, k, x⟩ := q
  refine ⟨HF, ρ, A, _, Ed, w, en, t, fun b1 ρ1 q1 HF1 H1 A1 f1 w1 en1 => ?_, x.x⟩
  cases b1 with
  | true => exact (if_pos rfl).mpr ⟨HF1, ρ1, A1, E, Ed, w1, en1, (by simpa using q1), k.step .refl f1, x.step .refl f1⟩
  | false => exact (if_neg (by simp)).mpr ⟨HF1, ρ1, A1, E, Ed, w1, en1, (by simpa using q1), k.step .refl f1, x.step .refl f1⟩

/-! ### targets -/
abbrev TGD := O → Env → (Env → Prop) → Prop
def tG (K : PySem.W.Frag) (P : Prot) (g : TGD) : TG := fun v σ H Q => ∃ HF ρ A o B N, WR HF H (A ++ B) ∧ EnvR K HF H ρ σ A ∧ RepO K HF H o v B ∧ g o ρ N ∧ NOk K P σ H HF (A ++ B) N Q
def AG (X : Cx) (P : Prot) (tg : Expr) (g : TGD) : Prop := PG X tg (tG X.K P g)
theorem PG.imp {X : Cx} {tg : Expr} {g g' : TG} (h : PG X tg g) (i : ∀ v σ H Q, g' v σ H Q → g v σ H Q) : PG X tg g' := ⟨fun pins s σ H v u Q I r q => h.run pins s σ H v u Q I r (i v σ H Q q)⟩
def gNameD (i : Nat) : TGD := fun o ρ N => match ρ[i]? with
  | some _ => N (ρ.set i (some o))
  | none => False
theorem EnvR.store {K : PySem.W.Frag} {HF H : Hp} {ρ : Env} {σ : St} {A B : List Addr} {o : O} {v : V} {i : Nat} (w : WR HF H (A ++ B)) (en : EnvR K HF H ρ σ A) (r : RepO K HF H o v B) (hi : i < ρ.length) :
    ∃ A', WR HF H A' ∧ (∀ p ∈ A', p ∈ A ++ B) ∧ EnvR K HF H (ρ.set i (some o)) (σ.set i (some v)) A' := by
  obtain ⟨C, hs, en1⟩ := en.forget (i := i)
  obtain ⟨A', pm, en2⟩ := EnvR.put en1 hi r
  have w1 : WR HF H (B ++ C) := (w.sub (List.Sublist.append_right hs B)).perm List.perm_append_comm
  exact ⟨A', w1.perm pm.symm, fun p hp => (List.mem_append.mp (pm.mem_iff.mp hp)).elim (fun z => List.mem_append_right _ z) (fun z => List.mem_append_left _ (hs.subset z)), en2⟩
theorem ag_name {x : Str} {i : Nat} {pos : Pos} (hN : X.N.Nodup) (hi : X.N[i]? = some x) (hx : Loc X.env.scope x) (hp : P i = false) (hf : X.fn x = true ∨ X.env.scope.names.lookup x = some .local := by first | exact .inl rfl | exact .inr rfl | assumption) : AG X P (.Name x pos) (gNameD i) :=
  PG.imp (pg_name hN hi hx hf) fun v σ H Q q => by
    obtain ⟨HF, ρ, A, o, B, N, w, en, r, g, k⟩ := q
    have g : (match ρ[i]? with | some _ => N (ρ.set i (some o)) | none => False) := g
    obtain ⟨hl, n⟩ : i < ρ.length ∧ N (ρ.set i (some o)) := by
      cases e : ρ[i]? with
      | none => rw [e] at g; exact g.elim
      | some y => rw [e] at g; exact ⟨(List.getElem?_eq_some_iff.mp e).1, g⟩
    obtain ⟨A', w1, f1, en1⟩ := EnvR.store w en r hl
    refine k _ n HF H _ A' ⟨by simp, fun j hj => ?_⟩ (Fr.drop f1) w1 en1
    have : i ≠ j := fun e => by rw [e, hj] at hp; cases hp
    rw [List.getElem?_set_ne this]
def tAsgD (te : TD) (g : TGD) : TSD := fun E Ed ρ => te ρ (fun ev ρ1 => match moved ρ1 ev with
  | some (o, ρ2) => g o ρ2 E.nx
  | none => False) Ed
theorem as_asg {tg : Expr} {g : TGD} (he : AE X W e te) (hg : AG X P tg g) (hs : swapsWithSole [tg] e pos.line X.env = pure false := by rfl) (hw : swappedStores [tg] e X.env = pure none := by rfl) (h1 : (assignEach [tg] X.env).map (·.2) = [assign tg X.env] := by rfl) : AS X W P (.Assign [tg] e pos) (tAsgD te g) := PS.imp (ps_asg he hg hs hw h1) fun D σ H q => by
  obtain ⟨HF, ρ, A, E, Ed, w, en, t, k, x⟩ := q
  refine ⟨HF, ρ, A, _, Ed, w, en, t, fun ev ρ1 q1 HF1 H1 A1 v Av f1 w1 en1 r1 => ?_, x.x⟩
  dsimp only at q1
  split at q1
  · rename_i o ρ2 e2
    obtain ⟨A', B, pm, en2, r2⟩ := moved_ok w1 en1 r1 e2
    exact ⟨HF1, ρ2, A', o, B, E.nx, w1.perm pm, en2, r2, q1, k.nx.step .refl (f1.mono (fun _ hp => hp) fun p hp => .inl (pm.mem_iff.mpr hp))⟩
  · exact q1.elim
abbrev TGDs := List D → Env → (Env → Prop) → Prop
/-- several targets, pure parts -/
def tGs (K : PySem.W.Frag) (P : Prot) (g : TGDs) : TGs := fun vs σ H Q => ∃ HF ρ A ds N, WR HF H A ∧ EnvR K HF H ρ σ A ∧ Reps K HF ds vs ∧ g ds ρ N ∧ NOk K P σ H HF A N Q
def AGs (X : Cx) (P : Prot) (ts : List Expr) (g : TGDs) : Prop := PGs X ts (tGs X.K P g)
theorem PGs.imp {X : Cx} {ts : List Expr} {g g' : TGs} (h : PGs X ts g) (i : ∀ v σ H Q, g' v σ H Q → g v σ H Q) : PGs X ts g' := ⟨fun pins s σ H v u Q I r q => h.run pins s σ H v u Q I r (i v σ H Q q)⟩
def gNilD : TGDs := fun ds ρ N => match ds with
  | [] => N ρ
  | _ => False
def gConsD (g : TGD) (gs : TGDs) : TGDs := fun ds ρ N => match ds with
  | d :: ds => g (.fz d) ρ (fun ρ1 => gs ds ρ1 N)
  | _ => False
theorem ags_nil : AGs X P [] gNilD := PGs.imp pgs_nil fun vs σ H Q q => by
  obtain ⟨HF, ρ, A, ds, N, w, en, r, n, k⟩ := q
  cases ds with
  | nil => exact ⟨r, k ρ n HF H σ A .refl .refl w en⟩
  | cons _ _ => exact n.elim
theorem ags_cons {tg : Expr} {ts : List Expr} {g : TGD} {gs : TGDs} (h1 : AG X P tg g) (h2 : AGs X P ts gs) (hs : (assignEach (tg :: ts) X.env).map (·.2) = assign tg X.env :: (assignEach ts X.env).map (·.2) := by rfl) : AGs X P (tg :: ts) (gConsD g gs) := PGs.imp (pgs_cons h1 h2 hs) fun vs σ H Q q => by
  obtain ⟨HF, ρ, A, ds, N, w, en, r, n, k⟩ := q
  cases ds with
  | nil => exact n.elim
  | cons d ds =>
    obtain ⟨v, ws, rfl, r1, r2⟩ := r
    refine ⟨v, ws, rfl, HF, ρ, A, .fz d, [], _, (by rw [List.append_nil]; exact w), en, ⟨rfl, r1⟩, n, fun ρ1 n1 HF1 H1 σ1 A1 p1 f1 w1 en1 => ?_⟩
    rw [List.append_nil] at f1
    exact ⟨HF1, ρ1, A1, ds, N, w1, en1, Reps.mono f1.same ds r2, n1, k.step p1 f1⟩
def gTupD (n : Nat) (gs : TGDs) : TGD := fun o ρ N => match o with
  | .fz (.tup ds) => ds.length = n ∧ gs ds ρ N
  | _ => False
theorem ag_tup {es : List Expr} {k : Nat} {gs : TGDs} {n : Nat} (hc : X.calm = true) (h : AGs X P es gs) (hn : (assignEach es X.env).length = n := by rfl) (hst : (assignEach es X.env).findIdx? (·.1) = none := by rfl) : AG X P (.Tuple es k pos) (gTupD n gs) :=
  PG.imp (pg_tup hc h hn hst) fun v σ H Q q => by
    obtain ⟨HF, ρ, A, o, B, N, w, en, r, g, k⟩ := q
    cases o with
    | fz d =>
      cases d with
      | tup ds =>
        obtain ⟨rfl, a, vs, rfl, sq, rs⟩ := r
        rw [List.append_nil] at w k
        exact ⟨a, vs, rfl, SqT.of (w.same _ _ sq), rs.length.trans g.1, HF, ρ, A, ds, N, w, en, rs, g.2, k⟩
      | _ => exact g.elim
    | _ => exact g.elim
end

/-! ### defs -/
/-- what a def does with its arguments: the trees come, a tree goes back, what is left of the arguments; or an exception -/
abbrev AFn := List O → (O → Env → Prop) → (XD → Env → Prop) → Prop
def ros (os : List O) : Env := os.map some
def svs (vs : List V) : St := vs.map some
def spA (K : PySem.W.Frag) (n : Nat) (F : AFn) : Sp := fun vs H Q E => ∃ HF os A Kd Ed, vs.length = n ∧ WR HF H A ∧ EnvR K HF H (ros os) (svs vs) A ∧ F os Kd Ed ∧
  (∀ o ρ, Kd o ρ → ∀ HF' H' A' v Av, Fr H H' HF HF' A (A' ++ Av) → WR HF' H' (A' ++ Av) → EnvR K HF' H' ρ (svs vs) A' → RepO K HF' H' o v Av → Q v H') ∧
  (∀ x ρ, Ed x ρ → ∀ HF' H' A' cls d, Fr H H' HF HF' A A' → WR HF' H' A' → EnvR K HF' H' ρ (svs vs) A' → EXR K HF' x cls d → E cls d H')
/-- the slots at the entry -/
def startD (n : Nat) (os : List O) : Env := ros os ++ List.replicate (n - os.length) none
/-- what is left of the arguments at the end: of a slot that was never stored anew what stands there, else what was pure from the start -/
def leftD (P : Prot) : Nat → List O → Env → Env
  | _, [], _ => []
  | i, o :: os, ρ => (if P i = true then (match ρ with | x :: _ => x | [] => none) else (match o with | .fz d => some (.fz d) | _ => none)) :: leftD P (i + 1) os ρ.tail
theorem leftD_ok {K : PySem.W.Frag} {HF HF' H H' : Hp} {P : Prot} (s : Same HF HF') : ∀ {os : List O} {i : Nat} {ρ : Env} {vs : List V} {σ' : St} {A A' : List Addr}, EnvR K HF H (ros os) (svs vs) A → EnvR K HF' H' ρ σ' A' → os.length ≤ ρ.length →
    (∀ j, j < os.length → P (i + j) = true → σ'[j]? = (svs vs)[j]?) → ∃ B, B.Sublist A' ∧ EnvR K HF' H' (leftD P i os ρ) (svs vs) B
  | [], i, ρ, vs, σ', A, A', h, h', hl, hp => ⟨[], List.nil_sublist _, ⟨h.1, rfl⟩⟩
  | o :: os, i, [], vs, σ', A, A', h, h', hl, hp => by simp at hl
  | o :: os, i, x :: ρ, [], σ', A, A', h, h', hl, hp => by
    obtain ⟨_, _, _, _, e, _⟩ := h
    cases e
  | o :: os, i, x :: ρ, v :: vs, σ', A, A', h, h', hl, hp => by
    obtain ⟨v1, r1, A1, A2, e1, ea, q1, q2⟩ := h
    obtain ⟨rfl, rfl⟩ : v1 = v ∧ r1 = svs vs := by
      have e1 : some v :: svs vs = some v1 :: r1 := e1
      injection e1 with a b
      injection a with a
      exact ⟨a.symm, b.symm⟩
    have tailN : ∀ {σr : St}, (∀ j, j < os.length → P (i + 1 + j) = true → (some v1 :: σr : St)[j + 1]? = (svs (v1 :: vs))[j + 1]?) → ∀ j, j < os.length → P (i + 1 + j) = true → σr[j]? = (svs vs)[j]? := fun z j hj hq => by simpa [svs] using z j hj hq
    cases x with
    | none =>
      obtain ⟨s', r', rfl, q'⟩ := h'
      have hp' : ∀ j, j < os.length → P (i + 1 + j) = true → r'[j]? = (svs vs)[j]? := fun j hj hq => by
        have := hp (j + 1) (by simp; omega) (by rw [show i + (j + 1) = i + 1 + j by omega]; exact hq)
        simpa [svs] using this
      obtain ⟨B, hs, en⟩ := leftD_ok s (i := i + 1) q2 q' (by simpa using hl) hp'
      show ∃ B, B.Sublist A' ∧ EnvR K HF' H' ((if P i = true then none else (match o with | .fz d => some (.fz d) | _ => none)) :: leftD P (i + 1) os ρ) (svs (v1 :: vs)) B
      by_cases hPi : P i = true
      · rw [if_pos hPi]; exact ⟨B, hs, ⟨some v1, svs vs, rfl, en⟩⟩
      · rw [if_neg hPi]
        cases o with
        | fz d => exact ⟨B, hs, ⟨v1, svs vs, [], B, rfl, rfl, ⟨rfl, Rep.mono s d q1.2⟩, en⟩⟩
        | _ => exact ⟨B, hs, ⟨some v1, svs vs, rfl, en⟩⟩
    | some o' =>
      obtain ⟨v', r', B1, B2, rfl, rfl, t1, t2⟩ := h'
      have hp' : ∀ j, j < os.length → P (i + 1 + j) = true → r'[j]? = (svs vs)[j]? := fun j hj hq => by
        have := hp (j + 1) (by simp; omega) (by rw [show i + (j + 1) = i + 1 + j by omega]; exact hq)
        simpa [svs] using this
      obtain ⟨B, hs, en⟩ := leftD_ok s (i := i + 1) q2 t2 (by simpa using hl) hp'
      show ∃ B, B.Sublist (B1 ++ B2) ∧ EnvR K HF' H' ((if P i = true then some o' else (match o with | .fz d => some (.fz d) | _ => none)) :: leftD P (i + 1) os ρ) (svs (v1 :: vs)) B
      by_cases hPi : P i = true
      · rw [if_pos hPi]
        have e0 := hp 0 (by simp) hPi
        have e0 : v' = v1 := by simpa [svs] using e0
        subst e0
        exact ⟨B1 ++ B, List.Sublist.append_left hs B1, ⟨v', svs vs, B1, B, rfl, rfl, t1, en⟩⟩
      · rw [if_neg hPi]
        cases o with
        | fz d => exact ⟨B, hs.trans (List.sublist_append_right _ _), ⟨v1, svs vs, [], B, rfl, rfl, ⟨rfl, Rep.mono s d q1.2⟩, en⟩⟩
        | _ => exact ⟨B, hs.trans (List.sublist_append_right _ _), ⟨some v1, svs vs, rfl, en⟩⟩
theorem EnvR.pad {K : PySem.W.Frag} {HF H : Hp} (n : Nat) : ∀ {ρ : Env} {σ : St} {A : List Addr}, EnvR K HF H ρ σ A → EnvR K HF H (ρ ++ List.replicate n none) (σ ++ List.replicate n none) A
  | [], σ, A, h => by
    obtain ⟨rfl, rfl⟩ := h
    show EnvR K HF H (List.replicate n none) (List.replicate n none) []
    induction n with
    | zero => exact ⟨rfl, rfl⟩
    | succ n ih => exact ⟨none, _, rfl, ih⟩
  | none :: ρ, σ, A, h => by obtain ⟨s', r, rfl, q⟩ := h; exact ⟨s', _, rfl, EnvR.pad n q⟩
  | some o :: ρ, σ, A, h => by obtain ⟨v, r, A1, A2, rfl, rfl, q, t⟩ := h; exact ⟨v, _, A1, A2, rfl, rfl, q, EnvR.pad n t⟩
section
variable {P : Program} {w : World} {K : PySem.W.Frag} {mg : Str → Option Value} {base : Heap}
/-- a def's promise by its body -/
theorem Fun.okA {x qual : Str} {st : Stmt} {f : Addr} {fd : FuncData} {N ps : List Str} {k : Nat} {F : AFn} (Fn : L2.Fun K x qual st f fd) (S : FnScope N ps (defScope st)) (pr : Prot)
    (hbody : ∀ (cdv : Value) (A : Around) (outer : List PySem.Env) (s : Shared) (H : Hp) (E : XK), Room k (A.deeper (envOfC qual (defScope st) s.heap.objs.size f cdv)) →
      ∃ t, ASs (cxOf (L2N.CX P w) P w K mg base N qual (defScope st) f cdv A outer s H E) (fun cls d _ H => E cls d H) pr (defBody st) t ∧
        ∀ os Kd Ed, os.length = ps.length → F os Kd Ed → t { nx := fun ρ => Kd (.fz .non) (leftD pr 0 os ρ), rt := fun o ρ => Kd o (leftD pr 0 os ρ) } (fun x ρ => Ed x (leftD pr 0 os ρ)) (startD N.length os)) :
    FnOk P w K mg base (L2N.CX P w) (k + 1) f fd ps (spA K ps.length F) := by
  obtain ⟨oc, od, kV, doc, pm, an, cdv, ct, osl, rfl, lk, hcd⟩ := Fn.ex
  refine fn_of lk hcd S (fun vs H Q E h => ?_) (fun A outer s H vs Q E hr h => ?_)
  · obtain ⟨HF, os, A, Kd, Ed, hl, _⟩ := h
    exact hl
  · obtain ⟨HF, os, Af, Kd, Ed, hl, wr, en, hF, hK, hE⟩ := h
    have hol : os.length = ps.length := by
      have := en.length
      simp [ros, svs] at this
      omega
    have hpl : ps.length ≤ N.length := by
      have := congrArg List.length S.pre
      rw [List.length_take] at this
      omega
    have hst : (L2.start N vs).length = N.length := by
      unfold L2.start
      rw [List.length_append, List.length_map, List.length_replicate]
      omega
    have slot : ∀ j, j < os.length → (L2.start N vs)[j]? = (svs vs)[j]? := fun j hj => by
      unfold L2.start svs
      rw [List.getElem?_append_left (by rw [List.length_map]; omega)]
    obtain ⟨t, h1, h2⟩ := hbody cdv A outer s H E hr
    have fin : ∀ {ρ : Env} {HF' H' : Hp} {σ' : St} {A' : List Addr}, Pr pr (L2.start N vs) σ' → Same HF HF' → EnvR K HF' H' ρ σ' A' → ∃ B, B.Sublist A' ∧ EnvR K HF' H' (leftD pr 0 os ρ) (svs vs) B := fun {ρ HF' H' σ' A'} p s' en' => by
      refine leftD_ok s' en en' ?_ fun j hj hP => ?_
      · rw [← en'.length, p.1, hst]; omega
      · rw [Nat.zero_add] at hP
        rw [p.2 j hP, slot j hj]
    refine ⟨_, h1, HF, startD N.length os, Af, _, _, wr, ?_, h2 os Kd Ed hol hF, ⟨fun ρ n HF' H' σ' A' p f w' en' => ?_, fun o ρ n HF' H' σ' A' v Av p f w' en' r => ?_, fun ρ n => n.elim, fun ρ n => n.elim⟩, fun x ρ n HF' H' σ' A' cls d p f w' en' r => ?_⟩
    · show EnvR K HF H (ros os ++ List.replicate (N.length - os.length) none) (L2.start N vs) Af
      unfold L2.start
      rw [show N.length - vs.length = N.length - os.length by omega]
      exact EnvR.pad _ en
    · obtain ⟨B, hs, en2⟩ := fin p f.same en'
      exact hK _ _ n HF' H' B .non [] (by rw [List.append_nil]; exact f.mono (fun _ h => h) fun p hp => .inl (hs.subset hp)) (by rw [List.append_nil]; exact w'.sub hs) en2 ⟨rfl, rfl⟩
    · obtain ⟨B, hs, en2⟩ := fin p f.same en'
      have hs2 : (B ++ Av).Sublist (A' ++ Av) := List.Sublist.append_right hs Av
      exact hK _ _ n HF' H' B v Av (f.mono (fun _ h => h) fun p hp => .inl (hs2.subset hp)) (w'.sub hs2) en2 r
    · obtain ⟨B, hs, en2⟩ := fin p f.same en'
      exact hE _ _ n HF' H' B cls d (f.mono (fun _ h => h) fun p hp => .inl (hs.subset hp)) (w'.sub hs) en2 r
end

/-! ### calls -/
/-- the arguments' trees, and the slots without what is handed over -/
def takeD (ρ : Env) : List EV → Option (List O × Env)
  | [] => some ([], ρ)
  | .ow o :: es => match takeD ρ es with
    | some (os, ρ') => some (o :: os, ρ')
    | none => none
  | .pt i :: es => match ρ[i]? with
    | some (some (.fz d)) => (match takeD ρ es with
      | some (os, ρ') => some (.fz d :: os, ρ')
      | none => none)
    | some (some o) => (match takeD (ρ.set i none) es with
      | some (os, ρ') => some (o :: os, ρ')
      | none => none)
    | _ => none
/-- what is left of them is put back -/
def backD (ρ : Env) : List EV → Env → Env
  | .pt i :: es, x :: xs => match ρ[i]? with
    | some none => backD (ρ.set i x) es xs
    | _ => backD ρ es xs
  | _ :: es, _ :: xs => backD ρ es xs
  | _, _ => ρ
theorem takeD_ok {K : PySem.W.Frag} {HF H : Hp} {σ : St} : ∀ {es : List EV} {ρ ρ' : Env} {os : List O} {vs : List V} {A Av : List Addr}, EnvR K HF H ρ σ A → EVRs K HF H σ es vs Av → takeD ρ es = some (os, ρ') →
    ∃ A1 B, (A ++ Av).Perm (A1 ++ B) ∧ EnvR K HF H ρ' σ A1 ∧ EnvR K HF H (ros os) (svs vs) B
  | [], ρ, ρ', os, vs, A, Av, en, r, h => by
    cases h
    obtain ⟨rfl, rfl⟩ := r
    exact ⟨A, [], .refl _, en, ⟨rfl, rfl⟩⟩
  | .ow o :: es, ρ, ρ', os, vs, A, Av, en, r, h => by
    obtain ⟨v, ws, A1, A2, rfl, rfl, r1, r2⟩ := r
    have h : (match takeD ρ es with | some (os, ρ') => some (o :: os, ρ') | none => none) = some (os, ρ') := h
    split at h
    · rename_i os2 ρ2 e
      cases h
      obtain ⟨C, B, pm, en1, q⟩ := takeD_ok en r2 e
      refine ⟨C, A1 ++ B, ?_, en1, ⟨v, svs ws, A1, B, rfl, rfl, r1, q⟩⟩
      exact (List.perm_append_comm_assoc A A1 A2).trans ((List.Perm.append_left A1 pm).trans (List.perm_append_comm_assoc A1 C B))
    · cases h
  | .pt i :: es, ρ, ρ', os, vs, A, Av, en, r, h => by
    obtain ⟨v, ws, A1, A2, rfl, rfl, r1, r2⟩ := r
    obtain ⟨rfl, hv⟩ := r1
    have same : ∀ {v' : V}, σ[i]? = some (some v') → v = v' := fun {v'} z => by
      rw [hv] at z
      exact Option.some.inj (Option.some.inj z)
    have h : (match ρ[i]? with | some (some (.fz d)) => (match takeD ρ es with | some (os, ρ') => some (O.fz d :: os, ρ') | none => none) | some (some o) => (match takeD (ρ.set i none) es with | some (os, ρ') => some (o :: os, ρ') | none => none) | _ => none) = some (os, ρ') := h
    split at h
    · rename_i d e
      split at h
      · rename_i os2 ρ2 e2
        cases h
        obtain ⟨C, B, pm, en1, q⟩ := takeD_ok en r2 e2
        obtain ⟨v', B', C', h1, h2, _⟩ := en.get e
        obtain rfl := same h1
        exact ⟨C, B, by simpa using pm, en1, ⟨v, svs ws, [], B, rfl, rfl, ⟨rfl, h2.2⟩, q⟩⟩
      · cases h
    · rename_i o _ e
      split at h
      · rename_i os2 ρ2 e2
        cases h
        obtain ⟨v', B', C', h1, h2, h3, h4⟩ := en.get e
        obtain rfl := same h1
        obtain ⟨C, B, pm, en1, q⟩ := takeD_ok h4 r2 e2
        refine ⟨C, B' ++ B, ?_, en1, ⟨v, svs ws, B', B, rfl, rfl, h2, q⟩⟩
        have p1 : (A ++ ([] ++ A2)).Perm (B' ++ (C' ++ A2)) := by
          have := List.Perm.append_right A2 h3
          simpa [List.append_assoc] using this
        exact p1.trans ((List.Perm.append_left B' pm).trans (List.perm_append_comm_assoc B' C B))
      · cases h
    · cases h
theorem set_get {α : Type} {l : List α} {i : Nat} {x : α} (h : l[i]? = some x) : l.set i x = l := by
  obtain ⟨q1, q2⟩ := List.getElem?_eq_some_iff.mp h
  rw [← q2]; exact List.set_getElem_self q1
theorem backD_ok {K : PySem.W.Frag} {HF H : Hp} {σ : St} : ∀ {es : List EV} {ρ ρx : Env} {vs : List V} {A B : List Addr}, EnvR K HF H ρ σ A → EnvR K HF H ρx (svs vs) B → (∀ (j i : Nat), es[j]? = some (.pt i) → ∀ v, vs[j]? = some v → σ[i]? = some (some v)) →
    ∃ C R, (A ++ B).Perm (C ++ R) ∧ EnvR K HF H (backD ρ es ρx) σ C
  | [], ρ, ρx, vs, A, B, en, ex, hp => ⟨A, B, .refl _, by simpa [backD] using en⟩
  | e :: es, ρ, [], vs, A, B, en, ex, hp => ⟨A, B, .refl _, by cases e <;> simpa [backD] using en⟩
  | e :: es, ρ, x :: xs, [], A, B, en, ex, hp => by
    cases x with
    | none => obtain ⟨_, _, e, _⟩ := ex; cases e
    | some o => obtain ⟨_, _, _, _, e, _⟩ := ex; cases e
  | .ow o :: es, ρ, x :: xs, v :: vs, A, B, en, ex, hp => by
    have hp' : ∀ (j i : Nat), es[j]? = some (.pt i) → ∀ v, vs[j]? = some v → σ[i]? = some (some v) := fun j i h1 v' h2 => hp (j + 1) i (by simpa using h1) v' (by simpa using h2)
    cases x with
    | none =>
      obtain ⟨s', r, e, q⟩ := ex
      have e : some v :: svs vs = s' :: r := e
      injection e with e1 e2
      subst e2
      exact backD_ok (es := es) en q hp'
    | some o' =>
      obtain ⟨v', r, A1, A2, e, rfl, q1, q2⟩ := ex
      have e : some v :: svs vs = some v' :: r := e
      injection e with e1 e2
      subst e2
      obtain ⟨C, R, pm, en1⟩ := backD_ok (es := es) en q2 hp'
      refine ⟨C, R ++ A1, ?_, en1⟩
      have p1 : (A ++ (A1 ++ A2)).Perm ((A ++ A2) ++ A1) := by
        rw [List.append_assoc]
        exact List.Perm.append_left A List.perm_append_comm
      exact p1.trans (by rw [← List.append_assoc]; exact List.Perm.append_right A1 pm)
  | .pt i :: es, ρ, x :: xs, v :: vs, A, B, en, ex, hp => by
    have hp' : ∀ (j i : Nat), es[j]? = some (.pt i) → ∀ v, vs[j]? = some v → σ[i]? = some (some v) := fun j i h1 v' h2 => hp (j + 1) i (by simpa using h1) v' (by simpa using h2)
    have hv : σ[i]? = some (some v) := hp 0 i (by simp) v (by simp)
    cases x with
    | none =>
      obtain ⟨s', r, e, q⟩ := ex
      have e : some v :: svs vs = s' :: r := e
      injection e with e1 e2
      subst e2
      obtain ⟨C, R, pm, en1⟩ := backD_ok (es := es) en q hp'
      refine ⟨C, R, pm, ?_⟩
      show EnvR K HF H (match ρ[i]? with | some none => backD (ρ.set i none) es xs | _ => backD ρ es xs) σ C
      split
      · rename_i e3
        rw [set_get e3]; exact en1
      · exact en1
    | some o' =>
      obtain ⟨v', r, A1, A2, e, rfl, q1, q2⟩ := ex
      have e : some v :: svs vs = some v' :: r := e
      injection e with e1 e2
      injection e1 with e1
      subst e2 e1
      show ∃ C R, (A ++ (A1 ++ A2)).Perm (C ++ R) ∧ EnvR K HF H (match ρ[i]? with | some none => backD (ρ.set i (some o')) es xs | _ => backD ρ es xs) σ C
      split
      · rename_i e3
        have hi : i < ρ.length := (List.getElem?_eq_some_iff.mp e3).1
        obtain ⟨A', pm', en'⟩ := EnvR.put (ρ := ρ) (i := i) (o := o') (v := v) (by rw [set_get e3]; exact en) hi q1
        rw [set_get hv] at en'
        obtain ⟨C, R, pm, en1⟩ := backD_ok (es := es) en' q2 hp'
        refine ⟨C, R, ?_, en1⟩
        have p1 : (A ++ (A1 ++ A2)).Perm (A' ++ A2) := (List.perm_append_comm_assoc A A1 A2).trans (by rw [← List.append_assoc]; exact List.Perm.append_right A2 pm'.symm)
        exact p1.trans pm
      · obtain ⟨C, R, pm, en1⟩ := backD_ok (es := es) en q2 hp'
        refine ⟨C, R ++ A1, ?_, en1⟩
        have p1 : (A ++ (A1 ++ A2)).Perm ((A ++ A2) ++ A1) := by
          rw [List.append_assoc]
          exact List.Perm.append_left A List.perm_append_comm
        exact p1.trans (by rw [← List.append_assoc]; exact List.Perm.append_right A1 pm)
theorem EVRs.pts {K : PySem.W.Frag} {HF H : Hp} {σ : St} : ∀ {es : List EV} {vs : List V} {Av : List Addr}, EVRs K HF H σ es vs Av → ∀ (j i : Nat), es[j]? = some (.pt i) → ∀ v, vs[j]? = some v → σ[i]? = some (some v)
  | [], vs, Av, r, j, i, h, v, hv => by simp at h
  | e :: es, vs, Av, r, 0, i, h, v, hv => by
    obtain ⟨v', ws, A1, A2, rfl, rfl, r1, r2⟩ := r
    simp at h hv
    subst h hv
    exact r1.2
  | e :: es, vs, Av, r, j + 1, i, h, v, hv => by
    obtain ⟨v', ws, A1, A2, rfl, rfl, r1, r2⟩ := r
    exact EVRs.pts r2 j i (by simpa using h) v (by simpa using hv)
/-- f(..) -/
def tCallA (F : AFn) (ts : TDs) : TD := fun ρ Kd Ed => ts ρ (fun es ρ1 => match takeD ρ1 es with
  | some (os, ρ2) => F os (fun o ρx => Kd (.ow o) (backD ρ2 es ρx)) (fun x ρx => Ed x (backD ρ2 es ρx))
  | none => False) Ed
/-- a callee's promise met: from evaluated arguments -/
theorem call_sp {K : PySem.W.Frag} {σ : St} {HF H : Hp} {ρ : Env} {A Av : List Addr} {es : List EV} {vs : List V} {Kd : KD} {Ed : XC} {Q : VK} {E : XK} {F : AFn} {n : Nat} (hF : ∀ os Kd Ed, F os Kd Ed → os.length = n) (w : WR HF H (A ++ Av)) (en : EnvR K HF H ρ σ A) (r : EVRs K HF H σ es vs Av)
    (h : match takeD ρ es with | some (os, ρ2) => F os (fun o ρx => Kd (.ow o) (backD ρ2 es ρx)) (fun x ρx => Ed x (backD ρ2 es ρx)) | none => False)
    (k : KOk K σ H HF (A ++ Av) Kd Q) (x : XOk K σ H HF (A ++ Av) Ed (fun c d _ H => E c d H)) : spA K n F vs H Q E := by
  split at h
  · rename_i os ρ2 e
    obtain ⟨A1, B, pm, en1, ex⟩ := takeD_ok en r e
    have w1 := w.perm pm
    have wB := w1.right
    have hn : vs.length = n := by
      have := ex.length
      simp [ros, svs] at this
      rw [this]; exact hF _ _ _ h
    refine ⟨HF, os, B, _, _, hn, wB, ex, h, fun o ρx q HF' H' A' v Av' f w' en' ro => ?_, fun xd ρx q HF' H' A' cls d f w' en' rx => ?_⟩
    · -- the caller's other things are kept
      have tA1 := EnvR.there _ en1
      obtain ⟨k1, k2, k3⟩ := f.frame tA1 (w1.disj)
      have en2 := EnvR.keep f.same _ en1 k1
      obtain ⟨C, R, pm2, en3⟩ := backD_ok (es := es) en2 en' r.pts
      have hnd : (A1 ++ (A' ++ Av')).Nodup := List.nodup_append.mpr ⟨w1.left.nodup, w'.nodup, fun a ha b hb e => k3 a ha (e ▸ hb)⟩
      have pm3 : (A1 ++ (A' ++ Av')).Perm ((C ++ Av') ++ R) := by
        rw [← List.append_assoc]
        refine (List.Perm.append_right Av' pm2).trans ?_
        rw [List.append_assoc, List.append_assoc]
        exact List.Perm.append_left C List.perm_append_comm
      have w3 : WR HF' H' (A1 ++ (A' ++ Av')) := ⟨w'.same, hnd, fun a ha => (List.mem_append.mp ha).elim (fun z => k2 a z (w1.out a (List.mem_append_left _ z))) (w'.out a)⟩
      refine k _ _ q HF' H' C v Av' ?_ ((w3.perm pm3).left) en3 ro
      refine f.mono (fun p hp => pm.mem_iff.mpr (List.mem_append_right _ hp)) fun p hp => ?_
      rcases List.mem_append.mp (pm3.mem_iff.mpr (List.mem_append_left _ hp)) with z | z
      · exact .inr (pm.mem_iff.mpr (List.mem_append_left _ z))
      · exact .inl z
    · have tA1 := EnvR.there _ en1
      obtain ⟨k1, k2, k3⟩ := f.frame tA1 (w1.disj)
      have en2 := EnvR.keep f.same _ en1 k1
      obtain ⟨C, R, pm2, en3⟩ := backD_ok (es := es) en2 en' r.pts
      have hnd : (A1 ++ A').Nodup := List.nodup_append.mpr ⟨w1.left.nodup, w'.nodup, fun a ha b hb e => k3 a ha (e ▸ hb)⟩
      have w3 : WR HF' H' (A1 ++ A') := ⟨w'.same, hnd, fun a ha => (List.mem_append.mp ha).elim (fun z => k2 a z (w1.out a (List.mem_append_left _ z))) (w'.out a)⟩
      refine x _ _ q HF' H' C cls d ?_ ((w3.perm pm2).left) en3 rx
      refine f.mono (fun p hp => pm.mem_iff.mpr (List.mem_append_right _ hp)) fun p hp => ?_
      rcases List.mem_append.mp (pm2.mem_iff.mpr (List.mem_append_left _ hp)) with z | z
      · exact .inr (pm.mem_iff.mpr (List.mem_append_left _ z))
      · exact .inl z
  · exact h.elim
end AE
/-! AE4: calls of defs; operations that make new things; operators. -/
namespace AE
open PySem L2

/-- a def by its module's name, and what it does -/
structure Cal (P : Program) (w : World) (K : PySem.W.Frag) (mg : Str → Option Value) (base : Heap) (lv : Nat) (x : Str) (ps : List Str) (F : AFn) : Prop where
  ex : ∃ f fd, mg x = some (.ref f) ∧ PySem.W.keepIn K (.ref f) = true ∧ Binds K fd ps [] ∧ FnOk P w K mg base (L2N.CX P w) lv f fd ps (spA K ps.length F)
  len : ∀ os Kd Ed, F os Kd Ed → os.length = ps.length
section
variable {X : Cx} {W : WX} {lv : Nat} {x : Str} {ps : List Str} {F : AFn} {p pos : Pos} {e : Expr} {es : List Expr} {ts : TDs}
theorem ae_call (C : Cal X.prog X.w X.K X.mg X.base lv x ps F) (hr : Room lv X.A) (tk : L2N.Takes X W) (hg : Gl X x) (ha : AA X W (e :: es) ts) (hdb : (x == ("__debug__" : Str)) = false := by decide)
    (he : starEach (e :: es) X.env = (false, eval e X.env) :: starEach es X.env := by rfl) (hpl : (backTo pos (starEach es X.env)).any (·.1) = false := by rfl) : AE X W (.Call (.Name x p) (e :: es) [] pos) (tCallA F ts) := by
  obtain ⟨f, fd, hm, hk, hb, G⟩ := C.ex
  refine PE.imp (pe_callSD (E := WE W) G hr hg hm hk hb .nil (fun σ => L2N.passAt tk σ) ha hdb he hpl) fun σ H Q q => ?_
  obtain ⟨HF, ρ, A, Kd, Ed, w, en, t, k, x⟩ := q
  refine ⟨HF, ρ, A, _, Ed, w, en, t, fun es1 ρ1 q1 HF1 H1 A1 vs Av f1 w1 en1 r1 => ?_, x⟩
  show spA X.K ps.length F (vs ++ []) H1 Q (WE W σ)
  rw [List.append_nil]
  exact call_sp C.len w1 en1 r1 q1 (k.step f1) (fun xd ρ2 q2 HF2 H2 A2 cls d f2 w2 en2 r2 => x xd ρ2 q2 HF2 H2 A2 cls d (f1.trans f2) w2 en2 r2)
end

/-! ### new things -/
/-- o at z is new; all else stands -/
structure New (K : PySem.W.Frag) (HF H HF' H' : Hp) (o : O) (z : V) (Az : List Addr) : Prop where
  fr : Fr H H' HF HF' [] Az
  wr : WR HF' H' Az
  rep : RepO K HF' H' o z Az
section
variable {K : PySem.W.Frag} {HF H : Hp}
theorem New.imm {d : D} {z : V} (s : Same HF H) (r : Rep K HF d z) : New K HF H HF H (.fz d) z [] := ⟨.refl, ⟨s, List.nodup_nil, fun _ h => by cases h⟩, ⟨rfl, r⟩⟩
theorem upd_eq {H : Hp} {p b : Addr} {o u : HO} (hp : H p = none) (h : H b = some u) : upd H p o b = some u := by rw [upd_ne (ne_of_none h hp)]; exact h
theorem Same.up {HF H : Hp} {p : Addr} {o : HO} (s : Same HF H) (hp : H p = none) : Same (upd HF p o) (upd H p o) := fun b u e => by
  by_cases hb : b = p
  · subst hb; rw [upd_same] at e ⊢; exact e
  · rw [upd_ne hb] at e ⊢; exact s b u e
theorem Same.new {H : Hp} {p : Addr} {o : HO} (hp : H p = none) : Same H (upd H p o) := fun b u e => upd_eq hp e
/-- a new pure object -/
theorem New.pure {d : D} {p : Addr} {u : HO} (s : Same HF H) (hp : H p = none) (r : Rep K (upd HF p u) d (.ref p)) : New K HF H (upd HF p u) (upd H p u) (.fz d) (.ref p) [] where
  fr := ⟨Same.new (s.free hp), fun q o e _ => upd_eq hp e, fun q o e _ f => by rw [upd_ne (ne_of_none e hp)]; exact f, fun _ h => by cases h⟩
  wr := ⟨Same.up s hp, List.nodup_nil, fun _ h => by cases h⟩
  rep := ⟨rfl, r⟩
theorem New.tup {ds : List D} {vs : List V} {p : Addr} (s : Same HF H) (hp : H p = none) (r : Reps K HF ds vs) : New K HF H (upd HF p (.tup vs)) (upd H p (.tup vs)) (.fz (.tup ds)) (.ref p) [] :=
  New.pure s hp ⟨p, vs, rfl, upd_same, Reps.mono (Same.new (s.free hp)) ds r⟩
/-- a new owned object -/
theorem New.own {o : O} {p : Addr} {u : HO} (s : Same HF H) (hp : H p = none) (r : RepO K HF (upd H p u) o (.ref p) [p]) : New K HF H HF (upd H p u) o (.ref p) [p] where
  fr := ⟨.refl _, fun q o e _ => upd_eq hp e, fun q o e _ f => f, fun q hq => .inr (by rw [List.mem_singleton.mp hq]; exact hp)⟩
  wr := ⟨s.trans (Same.new hp), by simp, fun a ha => by rw [List.mem_singleton.mp ha]; exact s.free hp⟩
  rep := r
theorem New.lst {ds : List D} {vs : List V} {p : Addr} (s : Same HF H) (hp : H p = none) (r : Reps K HF ds vs) : New K HF H HF (upd H p (.lst vs)) (.ls ds) (.ref p) [p] := New.own s hp ⟨p, vs, rfl, rfl, upd_same, r⟩
theorem KOk.new {σ : St} {ρ : Env} {A Av : List Addr} {Kd : KD} {Q : VK} {HF' H' : Hp} {o : O} {z : V} {Az : List Addr} (k : KOk K σ H HF (A ++ Av) Kd Q) (w : WR HF H (A ++ Av)) (en : EnvR K HF H ρ σ A) (q : Kd (.ow o) ρ) (n : New K HF H HF' H' o z Az) : Q z H' := by
  have tA := EnvR.there _ en
  obtain ⟨k1, k2, k3⟩ := n.fr.frame tA (fun _ _ h => by cases h)
  refine k _ ρ q HF' H' A z Az ?_ ⟨n.wr.same, List.nodup_append.mpr ⟨w.left.nodup, n.wr.nodup, fun a ha b hb e => k3 a ha (e ▸ hb)⟩, fun a ha => (List.mem_append.mp ha).elim (fun z => k2 a z (w.out a (List.mem_append_left _ z))) (n.wr.out a)⟩ (EnvR.keep n.fr.same _ en k1) n.rep
  exact n.fr.mono (fun _ h => by cases h) fun p hp => (List.mem_append.mp hp).elim (fun z => .inr (List.mem_append_left _ z)) .inl
end
/-- an operation on data: what it wants of the result -/
abbrev G1 := D → (O → Prop) → Prop
abbrev G2 := D → D → (O → Prop) → Prop
abbrev GN := List D → (O → Prop) → Prop
def p1 (g : G1) : Env → List EV → KD → Prop := fun ρ es Kd => match es with
  | [e] => (match dOf ρ e with
    | some d => g d (fun o => Kd (.ow o) ρ)
    | none => False)
  | _ => False
def p2 (g : G2) : Env → List EV → KD → Prop := fun ρ es Kd => match es with
  | [e, e'] => (match dOf ρ e with
    | some d => (match dOf ρ e' with
      | some d' => g d d' (fun o => Kd (.ow o) ρ)
      | none => False)
    | none => False)
  | _ => False
def dsOf (ρ : Env) : List EV → Option (List D)
  | [] => some []
  | e :: es => match dOf ρ e with
    | some d => (match dsOf ρ es with
      | some ds => some (d :: ds)
      | none => none)
    | none => none
def pN (g : GN) : Env → List EV → KD → Prop := fun ρ es Kd => match dsOf ρ es with
  | some ds => g ds (fun o => Kd (.ow o) ρ)
  | none => False
def Do1 (K : PySem.W.Frag) (r : V → Hp → VK → Prop) (g : G1) : Prop := ∀ HF H v d P Q, Same HF H → Vw K HF H d v → g d P → (∀ o z HF' H' Az, P o → New K HF H HF' H' o z Az → Q z H') → r v H Q
def Do2 (K : PySem.W.Frag) (r : R2) (g : G2) : Prop := ∀ HF H v v' d d' P Q, Same HF H → Vw K HF H d v → Vw K HF H d' v' → g d d' P → (∀ o z HF' H' Az, P o → New K HF H HF' H' o z Az → Q z H') → r v v' H Q
def DoN (K : PySem.W.Frag) (r : List V → Hp → VK → Prop) (g : GN) : Prop := ∀ HF H vs ds P Q, Same HF H → Vws K HF H ds vs → g ds P → (∀ o z HF' H' Az, P o → New K HF H HF' H' o z Az → Q z H') → r vs H Q
section
variable {K : PySem.W.Frag}
theorem prim1 {r : V → Hp → VK → Prop} {g : G1} (h : Do1 K r g) : Prim K (r1L r) (p1 g) := fun σ HF H ρ A Av evs vs Kd Q w en r q k => by
  match evs, q with
  | [e], q =>
    obtain ⟨v, ws, A1, A2, rfl, rfl, r1, r2⟩ := r
    obtain ⟨rfl, rfl⟩ := r2
    have q : (match dOf ρ e with | some d => g d (fun o => Kd (.ow o) ρ) | none => False) := q
    split at q
    · rename_i d ed
      exact h HF H v d _ Q w.same (Vw.ev w.same en r1 ed) q fun o z HF' H' Az po n => k.new w en po n
    · exact q.elim
theorem prim2 {r : R2} {g : G2} (h : Do2 K r g) : Prim K (r2L r) (p2 g) := fun σ HF H ρ A Av evs vs Kd Q w en r q k => by
  match evs, q with
  | [e, e'], q =>
    obtain ⟨v, ws, A1, A2, rfl, rfl, r1, r2⟩ := r
    obtain ⟨v', ws', A3, A4, rfl, rfl, r3, r4⟩ := r2
    obtain ⟨rfl, rfl⟩ := r4
    have q : (match dOf ρ e with | some d => (match dOf ρ e' with | some d' => g d d' (fun o => Kd (.ow o) ρ) | none => False) | none => False) := q
    split at q
    · rename_i d ed
      split at q
      · rename_i d' ed'
        exact h HF H v v' d d' _ Q w.same (Vw.ev w.same en r1 ed) (Vw.ev w.same en r3 ed') q fun o z HF' H' Az po n => k.new w en po n
      · exact q.elim
    · exact q.elim
theorem dsOf_ok {HF H : Hp} {ρ : Env} {σ : St} {A : List Addr} (s : Same HF H) (en : EnvR K HF H ρ σ A) : ∀ {es : List EV} {ds : List D} {vs : List V} {Av : List Addr}, EVRs K HF H σ es vs Av → dsOf ρ es = some ds → Vws K HF H ds vs
  | [], ds, vs, Av, r, h => by cases h; exact r.1
  | e :: es, ds, vs, Av, r, h => by
    obtain ⟨v, ws, A1, A2, rfl, rfl, r1, r2⟩ := r
    have h : (match dOf ρ e with | some d => (match dsOf ρ es with | some ds => some (d :: ds) | none => none) | none => none) = some ds := h
    split at h
    · rename_i d ed
      split at h
      · rename_i ds' eds
        cases h
        exact ⟨v, ws, rfl, Vw.ev s en r1 ed, dsOf_ok s en r2 eds⟩
      · cases h
    · cases h
theorem primN {r : List V → Hp → VK → Prop} {g : GN} (h : DoN K r g) : Prim K r (pN g) := fun σ HF H ρ A Av evs vs Kd Q w en r q k => by
  have q : (match dsOf ρ evs with | some ds => g ds (fun o => Kd (.ow o) ρ) | none => False) := q
  split at q
  · rename_i ds ed
    exact h HF H vs ds _ Q w.same (dsOf_ok w.same en r ed) q fun o z HF' H' Az po n => k.new w en po n
  · exact q.elim
end

/-! ### operators -/
theorem OpR.or {X : Cx} {f : Value → Value → Sem Value} {r r' : R2} (h : OpR X f r) (h' : OpR X f r') : OpR X f (fun x y H Q => r x y H Q ∨ r' x y H Q) := fun pins s σ H x y v u Q I rx ry q => q.elim (h pins s σ H x y v u Q I rx ry) (h' pins s σ H x y v u Q I rx ry)
def gAdd : G2
  | .int i, .int j, P => P (.fz (.int (i + j)))
  | .str a, .str b, P => a.length + b.length ≤ sizeLine ∧ P (.fz (.str (a ++ b)))
  | .lst a, .lst b, P => a.length + b.length ≤ sizeLine ∧ P (.ls (a ++ b))
  | .tup a, .tup b, P => a.length + b.length ≤ sizeLine ∧ P (.fz (.tup (a ++ b)))
  | _, _, _ => False
section
variable {X : Cx} {W : WX} {a b : Expr} {ta tb : TD} {pos : Pos}
theorem ae_add (ha : AE X W a ta) (hb : AE X W b tb) : AE X W (.BinOp a .Add b pos) (t2 (p2 gAdd) ta tb) := by
  refine ae_op (OpR.or op_add (OpR.or op_add_str (OpR.or op_cat op_catA))) (prim2 fun HF H v v' d d' P Q s r r' g k => ?_) ha hb
  unfold gAdd at g
  split at g
  · cases r; cases r'
    exact .inl ⟨_, _, rfl, rfl, k _ _ _ _ _ g (New.imm s rfl)⟩
  · cases r; cases r'
    exact .inr (.inl ⟨_, _, rfl, rfl, g.1, k _ _ _ _ _ g.2 (New.imm s rfl)⟩)
  · obtain ⟨p, vs, rfl, h1, r1⟩ := r
    obtain ⟨p', vs', rfl, h1', r1'⟩ := r'
    exact .inr (.inr (.inl ⟨p, p', vs, vs', rfl, rfl, h1, h1', by rw [r1.length, r1'.length]; exact g.1, fun q hq => k _ _ _ _ _ g.2 (New.lst s hq (r1.append r1'))⟩))
  · obtain ⟨p, vs, rfl, h1, r1⟩ := r
    obtain ⟨p', vs', rfl, h1', r1'⟩ := r'
    refine .inr (.inr (.inr ⟨p, p', vs, vs', rfl, rfl, SqT.of (s _ _ h1), SqT.of (s _ _ h1'), by rw [r1.length, r1'.length]; exact g.1, fun z => ?_, fun _ z => ?_, fun _ _ q hq => k _ _ _ _ _ g.2 (New.tup s hq (r1.append r1'))⟩))
    · subst z
      have : vs'.length = vs'.length := rfl
      have e := r1.length
      rename_i d1 d2
      have hd : d1 = [] := List.eq_nil_of_length_eq_zero e.symm
      subst hd
      exact k _ _ _ _ _ g.2 (New.imm s ⟨p', vs', rfl, h1', r1'⟩)
    · subst z
      have e := r1'.length
      rename_i d1 d2 _
      have hd : d2 = [] := List.eq_nil_of_length_eq_zero e.symm
      subst hd
      exact k (.fz (.tup d1)) _ _ _ _ (by simpa using g.2) (New.imm (d := .tup d1) s ⟨p, vs, rfl, h1, r1⟩)
  · exact g.elim
/-- ints in, data out -/
theorem do2_int {K : PySem.W.Frag} {C : Int → Int → Prop} {f : Int → Int → V} {gd : Int → Int → D} (hr : ∀ i j K H, Rep K H (gd i j) (f i j)) : Do2 K (rI C f) (fun d d' P => match d, d' with
    | .int i, .int j => C i j ∧ P (.fz (gd i j))
    | _, _ => False) := fun HF H v v' d d' P Q s r r' g k => by
  dsimp only at g
  split at g
  · cases r; cases r'
    exact ⟨_, _, rfl, rfl, g.1, k _ _ _ _ _ g.2 (New.imm s (hr _ _ _ _))⟩
  · exact g.elim
theorem do2_int0 {K : PySem.W.Frag} {f : Int → Int → V} {gd : Int → Int → D} (hr : ∀ i j K H, Rep K H (gd i j) (f i j)) : Do2 K (rI0 f) (fun d d' P => match d, d' with
    | .int i, .int j => P (.fz (gd i j))
    | _, _ => False) := fun HF H v v' d d' P Q s r r' g k => by
  dsimp only at g
  split at g
  · cases r; cases r'
    exact ⟨_, _, rfl, rfl, k _ _ _ _ _ g (New.imm s (hr _ _ _ _))⟩
  · exact g.elim
def gI (C : Int → Int → Prop) (gd : Int → Int → D) : G2 := fun d d' P => match d, d' with
    | .int i, .int j => C i j ∧ P (.fz (gd i j))
    | _, _ => False
def gI0 (gd : Int → Int → D) : G2 := fun d d' P => match d, d' with
    | .int i, .int j => P (.fz (gd i j))
    | _, _ => False
theorem ae_sub (ha : AE X W a ta) (hb : AE X W b tb) : AE X W (.BinOp a .Sub b pos) (t2 (p2 (gI0 fun i j => .int (i - j))) ta tb) := ae_op op_sub (prim2 (do2_int0 fun _ _ _ _ => rfl)) ha hb
theorem ae_mod (ha : AE X W a ta) (hb : AE X W b tb) : AE X W (.BinOp a .Mod b pos) (t2 (p2 (gI (fun _ j => 0 < j) fun i j => .int (i % j))) ta tb) := ae_op op_mod (prim2 (do2_int fun _ _ _ _ => rfl)) ha hb
theorem ae_fdiv (ha : AE X W a ta) (hb : AE X W b tb) : AE X W (.BinOp a .FloorDiv b pos) (t2 (p2 (gI CDivW fun i j => .int (i / j))) ta tb) := ae_op op_fdivW (prim2 (do2_int fun _ _ _ _ => rfl)) ha hb
theorem ae_xor (ha : AE X W a ta) (hb : AE X W b tb) : AE X W (.BinOp a .BitXor b pos) (t2 (p2 (gI0 fun i j => .int (Builtin.bitXor i j))) ta tb) := ae_op op_xor (prim2 (do2_int0 fun _ _ _ _ => rfl)) ha hb
theorem ae_lt (ha : AE X W a ta) (hb : AE X W b tb) : AE X W (.Compare a [.Lt] [b] pos) (t2 (p2 (gI0 fun i j => .bl (decide (i < j)))) ta tb) := ae_cmp op_lt (prim2 (do2_int0 fun _ _ _ _ => rfl)) ha hb (nomark _)
theorem ae_le (ha : AE X W a ta) (hb : AE X W b tb) : AE X W (.Compare a [.LtE] [b] pos) (t2 (p2 (gI0 fun i j => .bl (decide (i ≤ j)))) ta tb) := ae_cmp op_le (prim2 (do2_int0 fun _ _ _ _ => rfl)) ha hb (nomark _)
theorem ae_gt (ha : AE X W a ta) (hb : AE X W b tb) : AE X W (.Compare a [.Gt] [b] pos) (t2 (p2 (gI0 fun i j => .bl (decide (i > j)))) ta tb) := ae_cmp op_gt (prim2 (do2_int0 fun _ _ _ _ => rfl)) ha hb (nomark _)
theorem ae_ge (ha : AE X W a ta) (hb : AE X W b tb) : AE X W (.Compare a [.GtE] [b] pos) (t2 (p2 (gI0 fun i j => .bl (decide (i ≥ j)))) ta tb) := ae_cmp op_ge (prim2 (do2_int0 fun _ _ _ _ => rfl)) ha hb (nomark _)
end
end AE
/-! AE5: subscripts, displays, built-ins by name. -/
namespace AE
open PySem L2

section
variable {X : Cx} {W : WX} {a b : Expr} {ta tb : TD} {pos : Pos}
/-! ### products, powers -/
theorem ae_mul (ha : AE X W a ta) (hb : AE X W b tb) : AE X W (.BinOp a .Mult b pos) (t2 (p2 (gI CMulW fun i j => .int (i * j))) ta tb) := ae_op op_mulW (prim2 (do2_int fun _ _ _ _ => rfl)) ha hb
def CPowW (i j : Int) : Prop := 0 ≤ j ∧ (Builtin.Int.intBits i : Int) * j ≤ 2 ^ 27
theorem op_powW : OpR X (binaryOp .Pow) (rI CPowW fun i j => .int (i ^ j.toNat)) := opI fun _ _ _ _ _ _ _ hc q => PyProof.Rows.pow_int hc.1 hc.2 q
theorem ae_pow (ha : AE X W a ta) (hb : AE X W b tb) : AE X W (.BinOp a .Pow b pos) (t2 (p2 (gI CPowW fun i j => .int (i ^ j.toNat))) ta tb) := ae_op op_powW (prim2 (do2_int fun _ _ _ _ => rfl)) ha hb
def gNeg : G1 := fun d P => match d with
  | .int i => P (.fz (.int (-i)))
  | _ => False
theorem ae_neg (ha : AE X W a ta) : AE X W (.UnaryOp .USub a pos) (t1 (p1 gNeg) ta) := ae_un un_neg (prim1 fun HF H v d P Q s r g k => by
  unfold gNeg at g
  split at g
  · cases r; exact ⟨_, rfl, k _ _ _ _ _ g (New.imm s rfl)⟩
  · exact g.elim) ha

/-! ### subscripts -/
def gIx : G2 := fun d d' P => match d, d' with
  | .lst ds, .int i => ∃ d, atI ds i = some d ∧ P (.fz d)
  | .tup ds, .int i => ∃ d, atI ds i = some d ∧ P (.fz d)
  | .str z, .int i => z.length ≤ sizeLine ∧ ∃ c, atI z.cps.toList i = some c ∧ P (.fz (.str ⟨#[c]⟩))
  | .scr ns, .int i => ∃ n, atI ns i = some n ∧ P (.fz (.int n))
  | _, _ => False
theorem Reps.atI {K : PySem.W.Frag} {HF : Hp} {ds : List D} {vs : List V} {i : Int} {d : D} (r : Reps K HF ds vs) (h : L2.atI ds i = some d) : ∃ v, L2.atI vs i = some v ∧ Rep K HF d v := by
  unfold L2.atI at h ⊢
  rw [r.length]
  cases e : ixN ds.length i with
  | none => rw [e] at h; cases h
  | some j =>
    rw [e] at h
    exact r.get h
theorem do_ix {K : PySem.W.Frag} : Do2 K (rIx K) gIx := fun HF H v v' d d' P Q s r r' g k => by
  unfold gIx at g
  split at g
  · obtain ⟨p, vs, rfl, h1, r1⟩ := r
    cases r'
    obtain ⟨d1, e1, q⟩ := g
    obtain ⟨w, e2, r2⟩ := r1.atI e1
    exact .inl ⟨p, vs, _, w, rfl, rfl, SqL.of h1, e2, k _ _ _ _ _ q (New.imm s r2)⟩
  · obtain ⟨p, vs, rfl, h1, r1⟩ := r
    cases r'
    obtain ⟨d1, e1, q⟩ := g
    obtain ⟨w, e2, r2⟩ := r1.atI e1
    exact .inr (.inl ⟨p, vs, _, w, rfl, rfl, SqT.of (s _ _ h1), e2, k _ _ _ _ _ q (New.imm s r2)⟩)
  · cases r; cases r'
    obtain ⟨hz, c, e1, q⟩ := g
    exact .inr (.inr ⟨_, _, c, rfl, rfl, hz, e1, k _ _ _ _ _ q (New.imm s rfl)⟩)
  · obtain ⟨p, rfl, h1⟩ := r
    cases r'
    obtain ⟨n, e1, q⟩ := g
    refine .inl ⟨p, _, _, .int n, rfl, rfl, SqL.mono h1 s, ?_, k _ _ _ _ _ q (New.imm s rfl)⟩
    unfold L2.atI at e1 ⊢
    rw [List.length_map]
    rename_i ns i
    cases e : ixN ns.length i with
    | none => rw [e] at e1; cases e1
    | some j =>
      rw [e] at e1
      have e1 : ns[j]? = some n := e1
      show (ns.map V.int)[j]? = some (.int n)
      rw [List.getElem?_map, e1]; rfl
  · exact g.elim
theorem ae_sub_ix (ha : AE X W a ta) (hb : AE X W b tb) (hs : PlainIx b := by intro _ _; rfl) : AE X W (.Subscript a b pos) (t2 (p2 gIx) ta tb) := ae_ix ix_seq (prim2 do_ix) ha hb hs

/-! ### slices -/
theorem cut_reps {K : PySem.W.Frag} {HF : Hp} : ∀ {ds : List D} {vs : List V}, Reps K HF ds vs → ∀ n, Reps K HF (ds.drop n) (vs.drop n) ∧ Reps K HF (ds.take n) (vs.take n)
  | [], vs, h, n => by obtain rfl : vs = [] := h; simp only [List.drop_nil, List.take_nil]; exact ⟨rfl, rfl⟩
  | d :: ds, vs, h, 0 => ⟨h, rfl⟩
  | d :: ds, vs, h, n + 1 => by
    obtain ⟨v, ws, rfl, r, t⟩ := h
    obtain ⟨h1, h2⟩ := cut_reps t n
    exact ⟨h1, v, ws.take n, rfl, r, h2⟩
def cutD {α : Type} (xs : List α) (lo hi : Option Int) : List α := (xs.drop (HT.sIx xs.length 0 lo)).take (HT.sIx xs.length xs.length hi - HT.sIx xs.length 0 lo)
theorem cutD_reps {K : PySem.W.Frag} {HF : Hp} {ds : List D} {vs : List V} (r : Reps K HF ds vs) (lo hi : Option Int) : Reps K HF (cutD ds lo hi) (cutV vs lo hi) := by
  unfold cutD cutV
  rw [r.length]
  exact (cut_reps (cut_reps r _).1 _).2
theorem cutD_whole {α : Type} {xs : List α} {lo hi : Option Int} (h : HT.sIx xs.length 0 lo = 0 ∧ HT.sIx xs.length xs.length hi = xs.length) : cutD xs lo hi = xs := by
  unfold cutD
  rw [h.1, h.2]; simp
/-- an optional bound -/
def PartOf (d : Option D) : Option (Option Int) := match d with
  | none => some none
  | some (.int i) => some (some i)
  | some .non => some none
  | _ => none
def gSl (lo hi : Option Int) : G1 := fun d P => match d with
  | .lst ds => P (.ls (cutD ds lo hi))
  | .tup ds => P (.fz (.tup (cutD ds lo hi)))
  | .str z => z.length ≤ sizeLine ∧ P (.fz (.str (cutS z lo hi)))
  | _ => False
def rSlU (K : PySem.W.Frag) : V → Option Int → Option Int → Hp → VK → Prop := fun x lo hi H Q => rSlL K x lo hi H Q ∨ rSlA K x lo hi H Q ∨ rSlS x lo hi H Q
theorem SlR.or {r r' : V → Option Int → Option Int → Hp → VK → Prop} (h : SlR X r) (h' : SlR X r') : SlR X (fun x lo hi H Q => r x lo hi H Q ∨ r' x lo hi H Q) := fun pins s σ H x v vl vu lo hi sl Q I rx hs pl pu q => q.elim (h pins s σ H x v vl vu lo hi sl Q I rx hs pl pu) (h' pins s σ H x v vl vu lo hi sl Q I rx hs pl pu)
theorem sl_any : SlR X (rSlU X.K) := SlR.or sl_list (SlR.or sl_tupA sl_str)
theorem do_sl {K : PySem.W.Frag} (lo hi : Option Int) : Do1 K (fun x => rSlU K x lo hi) (gSl lo hi) := fun HF H v d P Q s r g k => by
  unfold gSl at g
  split at g
  · obtain ⟨p, vs, rfl, h1, r1⟩ := r
    exact .inl ⟨p, vs, rfl, SqL.of h1, fun q hq => k _ _ _ _ _ g (New.lst s hq (cutD_reps r1 lo hi))⟩
  · obtain ⟨p, vs, rfl, h1, r1⟩ := r
    refine .inr (.inl ⟨p, vs, rfl, SqT.of (s _ _ h1), fun z => ?_, fun _ q hq => k _ _ _ _ _ g (New.tup s hq (cutD_reps r1 lo hi))⟩)
    rename_i ds
    have z' : cutD ds lo hi = ds := cutD_whole (by rw [← r1.length]; exact z)
    rw [z'] at g
    exact k _ _ _ _ _ g (New.imm s ⟨p, vs, rfl, h1, r1⟩)
  · cases r
    exact .inr (.inr ⟨_, rfl, g.1, k _ _ _ _ _ g.2 (New.imm s rfl)⟩)
  · exact g.elim

abbrev TDo := Env → (Option Int → Env → Prop) → XC → Prop
def KOko (K : PySem.W.Frag) (σ : St) (H HF : Hp) (A : List Addr) (Kd : Option Int → Env → Prop) (Q : Option Int → Hp → Prop) : Prop := ∀ b ρ, Kd b ρ → ∀ HF' H' A', Fr H H' HF HF' A A' → WR HF' H' A' → EnvR K HF' H' ρ σ A' → Q b H'
def tAo (K : PySem.W.Frag) (W : WX) (t : TDo) : TO := fun σ H Q => ∃ HF ρ A Kd Ed, WR HF H A ∧ EnvR K HF H ρ σ A ∧ t ρ Kd Ed ∧ KOko K σ H HF A Kd Q ∧ XOk K σ H HF A Ed W
def AO (X : Cx) (W : WX) (e : Option Expr) (t : TDo) : Prop := PO X e (tAo X.K W t)
theorem PO.imp {e : Option Expr} {t u : TO} (h : PO X e t) (i : ∀ σ H Q, u σ H Q → t σ H Q) : PO X e u := ⟨fun pins s σ H Q I q => h.run pins s σ H Q I (i σ H Q q)⟩
def tNoD : TDo := fun ρ Kd _ => Kd none ρ
def tPartD (t : TD) : TDo := fun ρ Kd Ed => t ρ (fun e ρ1 => match dOf ρ1 e with
  | some (.int i) => Kd (some i) ρ1
  | _ => False) Ed
theorem ao_none : AO X W none tNoD := PO.imp po_none fun σ H Q q => by
  obtain ⟨HF, ρ, A, Kd, Ed, w, en, t, k, x⟩ := q
  exact k none ρ t HF H A .refl w en
theorem ao_some (ha : AE X W a ta) : AO X W (some a) (tPartD ta) := PO.imp (po_some ha) fun σ H Q q => by
  obtain ⟨HF, ρ, A, Kd, Ed, w, en, t, k, x⟩ := q
  refine ⟨HF, ρ, A, _, Ed, w, en, t, fun e1 ρ1 q1 HF1 H1 A1 v1 Av1 f1 w1 en1 r1 => ?_, x⟩
  dsimp only at q1
  split at q1
  · rename_i i e2
    have r2 : Vw X.K HF1 H1 (.int i) v1 := Vw.ev w1.same en1 r1 e2
    exact ⟨i, r2, k (some i) ρ1 q1 HF1 H1 A1 (f1.mono (fun _ hp => hp) fun p hp => .inl (List.mem_append_left _ hp)) w1.left en1⟩
  · exact q1.elim
def tSlD (te : TD) (tl th : TDo) : TD := fun ρ Kd Ed => te ρ (fun e1 ρ1 => tl ρ1 (fun lo ρ2 => th ρ2 (fun hi ρ3 => p1 (gSl lo hi) ρ3 [e1] Kd) Ed) Ed) Ed
theorem ae_slice {lo hi : Option Expr} {tl th : TDo} {p2 : Pos} (ha : AE X W a ta) (hl : AO X W lo tl) (hh : AO X W hi th) : AE X W (.Subscript a (.Slice lo hi none p2) pos) (tSlD ta tl th) := PE.imp (pe_slice sl_any ha hl hh) fun σ H Q q => by
  obtain ⟨HF, ρ, A, Kd, Ed, w, en, t, k, x⟩ := q
  refine ⟨HF, ρ, A, _, Ed, w, en, t, fun e1 ρ1 q1 HF1 H1 A1 v1 Av1 f1 w1 en1 r1 => ?_, x⟩
  have x1 : XOk X.K σ H1 HF1 A1 Ed W := (x.step f1).step (Fr.drop fun p hp => List.mem_append_left _ hp)
  refine ⟨HF1, ρ1, A1, _, Ed, w1.left, en1, q1, fun l ρ2 q2 HF2 H2 A2 f2 w2 en2 => ?_, x1⟩
  refine ⟨HF2, ρ2, A2, _, Ed, w2, en2, q2, fun h ρ3 q3 HF3 H3 A3 f3 w3 en3 => ?_, x1.step f2⟩
  have f23 : Fr H1 H3 HF1 HF3 A1 (A3 ++ []) := by rw [List.append_nil]; exact f2.trans f3
  obtain ⟨w4, f4, k4⟩ := join (Ay := []) w1 (EVR.there r1) f23 (by rw [List.append_nil]; exact w3)
  rw [List.append_nil] at w4 f4
  refine prim1 (do_sl l h) σ HF3 H3 ρ3 A3 Av1 [e1] [v1] Kd Q w4 en3 ⟨v1, [], Av1, [], rfl, by simp, EVR.keep f23.same r1 k4, rfl, rfl⟩ q3 ?_
  exact (k.step f1).step f4
end

/-! ### displays -/
/-- what is put into a display is pure from then on -/
def storedD : List EV → Option (List D)
  | [] => some []
  | .ow o :: es => match storedD es with
    | some ds => some (frz o :: ds)
    | none => none
  | .pt _ :: _ => none
theorem stored_ok {K : PySem.W.Frag} {HF HG H : Hp} {σ : St} (s : Same HF HG) : ∀ {es : List EV} {vs : List V} {Av : List Addr} {ds : List D}, EVRs K HF H σ es vs Av → storedD es = some ds → (∀ p ∈ Av, HG p = H p) → Reps K HG ds vs
  | [], vs, Av, ds, r, h, k => by cases h; exact r.1
  | .pt _ :: es, vs, Av, ds, r, h, k => by cases h
  | .ow o :: es, vs, Av, ds, r, h, k => by
    have h : (match storedD es with | some ds => some (frz o :: ds) | none => none) = some ds := h
    split at h
    · rename_i ds' e
      cases h
      obtain ⟨v, ws, A1, A2, rfl, rfl, r1, r2⟩ := r
      exact ⟨v, ws, rfl, RepO.frz s o r1 fun p hp => k p (List.mem_append_left _ hp), stored_ok s r2 e fun p hp => k p (List.mem_append_right _ hp)⟩
    · cases h
section
variable {X : Cx} {W : WX} {es : List Expr} {ts : TDs} {pos : Pos}
def tDisp (mk : List D → O) (ts : TDs) : TD := fun ρ Kd Ed => ts ρ (fun evs ρ1 => match storedD evs with
  | some ds => ds.length ≤ sizeLine ∧ Kd (.ow (mk ds)) ρ1
  | none => False) Ed
theorem disp_ok {K : PySem.W.Frag} {σ : St} {HF1 H1 : Hp} {ρ1 : Env} {A1 Av : List Addr} {evs : List EV} {vs : List V} {ds : List D} {Kd : KD} {Q : VK} {o : O} {u : HO} (w1 : WR HF1 H1 (A1 ++ Av)) (en1 : EnvR K HF1 H1 ρ1 σ A1) (r1 : EVRs K HF1 H1 σ evs vs Av) (e : storedD evs = some ds)
    (q : Kd (.ow o) ρ1) (k : KOk K σ H1 HF1 (A1 ++ Av) Kd Q) (hn : ∀ HG, Same HG H1 → Reps K HG ds vs → ∀ p, H1 p = none → ∃ HF' H' Az, H' = upd H1 p u ∧ New K HG H1 HF' H' o (.ref p) Az) : ∀ p, H1 p = none → Q (.ref p) (upd H1 p u) := fun p hp => by
  obtain ⟨s1, w2, f2⟩ := grow_ok (w1.perm List.perm_append_comm)
  have rs : Reps K (grow HF1 H1 Av) ds vs := stored_ok s1 r1 e fun p hp => grow_in hp
  have f3 : Fr H1 H1 HF1 (grow HF1 H1 Av) (A1 ++ Av) (A1 ++ []) := f2.mono (fun p hp => (List.mem_append.mp hp).elim (fun z => List.mem_append_right _ z) (fun z => List.mem_append_left _ z)) fun p hp => .inl (by simpa using hp)
  obtain ⟨HF', H', Az, rfl, n⟩ := hn _ w2.same rs p hp
  exact (k.step f3).new (Av := []) (by rw [List.append_nil]; exact w2) (EnvR.keep s1 _ en1 fun _ _ => rfl) q n
theorem ae_tup {x1} (h : AA X W es ts) : AE X W (.Tuple es x1 pos) (tDisp (fun ds => .fz (.tup ds)) ts) := PE.imp (pe_tup h) fun σ H Q q => by
  obtain ⟨HF, ρ, A, Kd, Ed, w, en, t, k, x⟩ := q
  refine ⟨HF, ρ, A, _, Ed, w, en, t, fun evs ρ1 q1 HF1 H1 A1 vs Av f1 w1 en1 r1 => ?_, x⟩
  dsimp only at q1
  split at q1
  · rename_i ds e
    have hl : vs.length = ds.length := (stored_ok (HG := grow HF1 H1 Av) (grow_ok (w1.perm List.perm_append_comm)).1 r1 e fun p hp => grow_in hp).length
    exact ⟨by rw [hl]; exact q1.1, disp_ok w1 en1 r1 e q1.2 (k.step f1) fun HG s rs p hp => ⟨_, _, _, rfl, New.tup s hp rs⟩⟩
  · exact q1.elim
theorem ae_lst (h : AA X W es ts) : AE X W (.List es pos) (tDisp (fun ds => .ls ds) ts) := PE.imp (pe_lst h) fun σ H Q q => by
  obtain ⟨HF, ρ, A, Kd, Ed, w, en, t, k, x⟩ := q
  refine ⟨HF, ρ, A, _, Ed, w, en, t, fun evs ρ1 q1 HF1 H1 A1 vs Av f1 w1 en1 r1 => ?_, x⟩
  dsimp only at q1
  split at q1
  · rename_i ds e
    have hl : vs.length = ds.length := (stored_ok (HG := grow HF1 H1 Av) (grow_ok (w1.perm List.perm_append_comm)).1 r1 e fun p hp => grow_in hp).length
    exact ⟨by rw [hl]; exact q1.1, disp_ok w1 en1 r1 e q1.2 (k.step f1) fun HG s rs p hp => ⟨_, _, _, rfl, New.lst s hp rs⟩⟩
  · exact q1.elim
end
end AE
/-! AE6: what is walked; for; list comprehensions. -/
namespace AE
open PySem L2

/-- the items of what is walked: known while the pure part and what is held at Av stand -/
def SrcR (K : PySem.W.Frag) (HF H : Hp) (items : List D) (Av : List Addr) (J : It) : Prop := ∃ G Y, Walk J items.length G Y ∧ (∀ HF2 H2, Same HF HF2 → Same HF2 H2 → (∀ p ∈ Av, H2 p = H p) → G H2) ∧
  ∀ i HF2 H2 x H3, Same HF HF2 → Same HF2 H2 → (∀ p ∈ Av, H2 p = H p) → i < items.length → Y i H2 x H3 → ∃ d HF3, items[i]? = some d ∧ Fr H2 H3 HF2 HF3 [] [] ∧ Same HF3 H3 ∧ Rep K HF3 d x
abbrev TId := Env → (List D → Env → Prop) → XC → Prop
def tAI (K : PySem.W.Frag) (W : WX) (t : TId) : TI := fun σ H R => ∃ HF ρ A Kd Ed, WR HF H A ∧ EnvR K HF H ρ σ A ∧ t ρ Kd Ed ∧
  (∀ items ρ', Kd items ρ' → ∀ HF' H' A' Av J, Fr H H' HF HF' A (A' ++ Av) → WR HF' H' (A' ++ Av) → (∀ p ∈ Av, ∃ o, H' p = some o) → EnvR K HF' H' ρ' σ A' → SrcR K HF' H' items Av J → R J H') ∧ XOk K σ H HF A Ed W
def AI (X : Cx) (W : WX) (tg iter : Expr) (t : TId) : Prop := PI X tg iter (tAI X.K W t)
theorem PI.imp {X : Cx} {tg iter : Expr} {t u : TI} (h : PI X tg iter t) (i : ∀ σ H R, u σ H R → t σ H R) : PI X tg iter u := ⟨fun pins s σ H R I q => h.run pins s σ H R I (i σ H R q)⟩

/-! ### the things that are walked -/
/-- a list or a tuple that a value shows -/
def tISeq (te : TD) : TId := fun ρ Kd Ed => te ρ (fun ev ρ1 => match ev with
  | .ow (.fz (.lst ds)) => Kd ds ρ1
  | .ow (.fz (.tup ds)) => Kd ds ρ1
  | .ow (.fz (.kt ds)) => Kd ds ρ1
  | .ow (.ls ds) => Kd ds ρ1
  | .ow (.fz (.str z)) => Kd (z.cps.toList.map fun c => .str ⟨#[c]⟩) ρ1
  | _ => False) Ed
section
variable {X : Cx} {W : WX} {tg l : Expr} {te : TD}
theorem src_at {K : PySem.W.Frag} {HF H : Hp} {ds : List D} {vs : List V} {Av : List Addr} {J : It} {G : Hp → Prop} (w : Walk J vs.length G (YAt vs)) (r : Reps K HF ds vs) (hG : ∀ HF2 H2, Same HF HF2 → Same HF2 H2 → (∀ p ∈ Av, H2 p = H p) → G H2) : SrcR K HF H ds Av J := by
  refine ⟨G, YAt vs, by rw [← r.length]; exact w, hG, fun i HF2 H2 x H3 s1 s2 k hi y => ?_⟩
  obtain ⟨rfl, hx⟩ := y
  obtain ⟨d, hd, rd⟩ := r.getV hx
  exact ⟨d, HF2, hd, Fr.refl, s2, Rep.mono s1 d rd⟩
/-- list, tuple or text -/
def iAny (K : PySem.W.Frag) (tl : TE) : TI := fun σ H R => tl σ H fun x H1 => (∃ a, x = .ref a ∧ (∃ xs, SqL K H1 a xs) ∧ R (Itl K a) H1) ∨ (∃ a, x = .ref a ∧ (∃ xs, SqT K H1 a xs) ∧ R (Itt K a) H1) ∨ ∃ z, x = .str z ∧ R (Its z) H1
theorem pi_any {tl : TE} (hl : PE X l tl) : PI X tg l (iAny X.K tl) := by
  refine ⟨fun pins s σ H R I h => ?_⟩
  refine thn (hl.run pins s σ H _ I h) fun v s1 ⟨x, H1, I1, r1, q1⟩ => ?_
  rcases q1 with ⟨a, e, ⟨xs, hq⟩, q⟩ | ⟨a, e, ⟨xs, hq⟩, q⟩ | ⟨z, e, q⟩
  · subst e
    cases r1
    obtain ⟨its, rv, p, hz⟩ := I1.list hq
    refine wpAny_pyIter_list p.isList ?_
    refine ⟨s1.heap.objs.size, [s1.heap.objs.size], _, _, H1, rfl, I1.kept (t' := s1.toks) fun b o e => Heap.get?_push_of_some _ e, turn_list a _, ⟨_, Heap.get?_push_size _ rfl, rfl, rfl⟩, fun b hb => ?_, q⟩
    have e : b = s1.heap.objs.size := by simpa using hb
    subst e
    exact I1.fpOk (Nat.le_refl _) (I1.hok.fresh (Nat.le_refl _))
  · subst e
    cases r1
    obtain ⟨its, rv, p, hz⟩ := I1.tuple hq
    refine wpAny_pyIter_tuple (show s1.heap.IsTuple a its.toArray from p) ?_
    refine ⟨s1.heap.objs.size, [s1.heap.objs.size], _, _, H1, rfl, I1.kept (t' := s1.toks) fun b o e => Heap.get?_push_of_some _ e, turn_tuple a _, ⟨_, Heap.get?_push_size _ rfl, rfl, rfl⟩, fun b hb => ?_, q⟩
    have e : b = s1.heap.objs.size := by simpa using hb
    subst e
    exact I1.fpOk (Nat.le_refl _) (I1.hok.fresh (Nat.le_refl _))
  · subst e
    obtain ⟨t, rfl⟩ := r1
    cases ha : z.cps.all (· < 128)
    · exact wpAny_pyIter_wide ha (pi_one (tk := s1.toks) I1 _ (turn_str _ z t "str_iterator" (.inr rfl)) ⟨_, Heap.get?_push_size _ rfl, rfl, rfl⟩ q)
    · exact wpAny_pyIter_ascii ha (pi_one (tk := s1.toks) I1 _ (turn_str _ z t "str_ascii_iterator" (.inl rfl)) ⟨_, Heap.get?_push_size _ rfl, rfl, rfl⟩ q)
theorem ai_seq (hl : AE X W l te) : AI X W tg l (tISeq te) := PI.imp (pi_any hl) fun σ H R q => by
  obtain ⟨HF, ρ, A, Kd, Ed, w, en, t, k, x⟩ := q
  refine ⟨HF, ρ, A, _, Ed, w, en, t, fun ev ρ1 q1 HF1 H1 A1 v Av f1 w1 en1 r1 => ?_, x⟩
  dsimp only at q1
  split at q1
  · obtain ⟨rfl, a, vs, rfl, h1, rs⟩ := r1
    refine .inl ⟨a, rfl, ⟨vs, SqL.of (w1.same _ _ h1)⟩, k _ ρ1 q1 HF1 H1 A1 [] _ f1 w1 (fun _ h => by cases h) en1 (src_at (walk_list (xs := vs)) rs fun HF2 H2 s1 s2 _ => SqL.of (s2 _ _ (s1 _ _ h1)))⟩
  · obtain ⟨rfl, a, vs, rfl, h1, rs⟩ := r1
    refine .inr (.inl ⟨a, rfl, ⟨vs, SqT.of (w1.same _ _ h1)⟩, k _ ρ1 q1 HF1 H1 A1 [] _ f1 w1 (fun _ h => by cases h) en1 (src_at (walk_tup (xs := vs)) rs fun HF2 H2 s1 s2 _ => SqT.of (s2 _ _ (s1 _ _ h1)))⟩)
  · obtain ⟨rfl, a, vs, rfl, h1, rs⟩ := r1
    refine .inr (.inl ⟨a, rfl, ⟨vs, SqT.mono h1 w1.same⟩, k _ ρ1 q1 HF1 H1 A1 [] _ f1 w1 (fun _ h => by cases h) en1 (src_at (walk_tup (xs := vs)) rs fun HF2 H2 s1 s2 _ => SqT.mono (SqT.mono h1 s1) s2)⟩)
  · obtain ⟨a, vs, rfl, rfl, h1, rs⟩ := r1
    refine .inl ⟨a, rfl, ⟨vs, SqL.of h1⟩, k _ ρ1 q1 HF1 H1 A1 [a] _ f1 w1 (fun p hp => by rw [List.mem_singleton.mp hp]; exact ⟨_, h1⟩) en1 (src_at (walk_list (xs := vs)) rs fun HF2 H2 s1 s2 k2 => SqL.of ((k2 a (by simp)).trans h1))⟩
  · obtain ⟨rfl, rfl⟩ := r1
    rename_i z
    refine .inr (.inr ⟨z, rfl, k _ ρ1 q1 HF1 H1 A1 [] _ f1 w1 (fun _ h => by cases h) en1 ⟨_, _, (by rw [List.length_map, Array.length_toList]; exact walk_str), fun _ _ _ _ _ => trivial, fun i HF2 H2 y H3 s1 s2 _ hi yy => ?_⟩⟩)
    obtain ⟨rfl, c, hc, rfl⟩ := yy
    refine ⟨.str ⟨#[c]⟩, HF2, ?_, Fr.refl, s2, rfl⟩
    rw [List.getElem?_map, Array.getElem?_toList, hc]; rfl
  · exact q1.elim

/-- the ints from lo on -/
def rngD (lo : Int) (n : Nat) : List D := (List.range n).map fun i => .int (lo + (i : Nat))
theorem rngD_len {lo : Int} {n : Nat} : (rngD lo n).length = n := by simp [rngD]
theorem src_range {K : PySem.W.Frag} {HF H : Hp} {Av : List Addr} {lo : Int} {n : Nat} : SrcR K HF H (rngD lo n) Av (Itr lo n) := by
  refine ⟨_, _, (by rw [rngD_len]; exact walk_range), fun _ _ _ _ _ => trivial, fun i HF2 H2 y H3 s1 s2 _ hi yy => ?_⟩
  obtain ⟨rfl, rfl⟩ := yy
  rw [rngD_len] at hi
  exact ⟨.int (lo + (i : Nat)), HF2, by simp [rngD, hi], Fr.refl, s2, rfl⟩
def tIRng1 (ts : TDs) : TId := fun ρ Kd Ed => ts ρ (fun evs ρ1 => match dsOf ρ1 evs with
  | some [.int j] => -(2 ^ 62) ≤ j ∧ j < 2 ^ 62 ∧ Kd (rngD 0 j.toNat) ρ1
  | _ => False) Ed
def tIRng2 (ts : TDs) : TId := fun ρ Kd Ed => ts ρ (fun evs ρ1 => match dsOf ρ1 evs with
  | some [.int i, .int j] => (-(2 ^ 62) ≤ i ∧ i < 2 ^ 62 ∧ -(2 ^ 62) ≤ j ∧ j < 2 ^ 62) ∧ Kd (rngD i (j - i).toNat) ρ1
  | _ => False) Ed
theorem Vws.one {K : PySem.W.Frag} {HF H : Hp} {d : D} {vs : List V} (h : Vws K HF H [d] vs) : ∃ v, vs = [v] ∧ Vw K HF H d v := by
  obtain ⟨v, ws, rfl, r, rfl⟩ := h
  exact ⟨v, rfl, r⟩
theorem Vws.two {K : PySem.W.Frag} {HF H : Hp} {d d' : D} {vs : List V} (h : Vws K HF H [d, d'] vs) : ∃ v v', vs = [v, v'] ∧ Vw K HF H d v ∧ Vw K HF H d' v' := by
  obtain ⟨v, ws, rfl, r, v', ws', rfl, r', rfl⟩ := h
  exact ⟨v, v', rfl, r, r'⟩
theorem ai_range1 {a : Expr} {ts : TDs} {p pos : Pos} (hg : Gl X "range") (hm : X.mg "range" = none) (ha : AA X W [a] ts) (hs : starEach [a] X.env = [(false, eval a X.env)] := by rfl) : AI X W tg (.Call (.Name "range" p) [a] [] pos) (tIRng1 ts) := PI.imp (pi_range1 hg hm ha hs) fun σ H R q => by
  obtain ⟨HF, ρ, A, Kd, Ed, w, en, t, k, x⟩ := q
  refine ⟨HF, ρ, A, _, Ed, w, en, t, fun evs ρ1 q1 HF1 H1 A1 vs Av f1 w1 en1 r1 => ?_, x⟩
  dsimp only at q1
  split at q1
  · rename_i j e
    obtain ⟨v, rfl, rv⟩ := (dsOf_ok w1.same en1 r1 e).one
    cases (show v = .int j from rv)
    exact ⟨j, rfl, q1.1, q1.2.1, k _ ρ1 q1.2.2 HF1 H1 A1 [] _ (f1.mono (fun _ h => h) fun p hp => .inl (List.mem_append_left _ (by simpa using hp))) (by rw [List.append_nil]; exact w1.left) (fun _ h => by cases h) en1 src_range⟩
  · exact q1.elim
theorem ai_range2 {a b : Expr} {ts : TDs} {p pos : Pos} (hg : Gl X "range") (hm : X.mg "range" = none) (ha : AA X W [a, b] ts) (hs : starEach [a, b] X.env = [(false, eval a X.env), (false, eval b X.env)] := by rfl) (hs2 : starEach [b] X.env = [(false, eval b X.env)] := by rfl) :
    AI X W tg (.Call (.Name "range" p) [a, b] [] pos) (tIRng2 ts) := PI.imp (pi_range2 hg hm ha hs hs2) fun σ H R q => by
  obtain ⟨HF, ρ, A, Kd, Ed, w, en, t, k, x⟩ := q
  refine ⟨HF, ρ, A, _, Ed, w, en, t, fun evs ρ1 q1 HF1 H1 A1 vs Av f1 w1 en1 r1 => ?_, x⟩
  dsimp only at q1
  split at q1
  · rename_i i j e
    obtain ⟨v, v', rfl, rv, rv'⟩ := (dsOf_ok w1.same en1 r1 e).two
    cases (show v = .int i from rv)
    cases (show v' = .int j from rv')
    exact ⟨i, j, rfl, q1.1, k _ ρ1 q1.2 HF1 H1 A1 [] _ (f1.mono (fun _ h => h) fun p hp => .inl (List.mem_append_left _ (by simpa using hp))) (by rw [List.append_nil]; exact w1.left) (fun _ h => by cases h) en1 src_range⟩
  · exact q1.elim

/-! ### for -/
/-- I: what holds between two turns -/
def tForD (ti : TId) (g : TGD) (tb : TSD) : TSD := fun E Ed ρ => ti ρ (fun items ρ1 => ∃ I : Nat → Env → Prop, I 0 ρ1 ∧
  (∀ i d ρ, items[i]? = some d → I i ρ → g (.fz d) ρ (fun ρ2 => tb { E with nx := I (i + 1), ct := I (i + 1), bk := E.nx } Ed ρ2)) ∧ ∀ ρ, I items.length ρ → E.nx ρ) Ed
theorem as_for {P : Prot} {iter : Expr} {body : List Stmt} {ti : TId} {g : TGD} {tb : TSD} {pos : Pos} (hp : PassesOwn (model X.prog X.w) X.A X.env X.xe) (hc : X.calm = true) (hi : AI X W tg iter ti) (hg : AG X P tg g) (hb : ASs X W P body tb)
    (hs : ∀ x, foldedSetIterable iter X.env x = pure x := by intro _; rfl) : AS X W P (.For tg iter body [] pos) (tForD ti g tb) := PS.imp (ps_for hp hc hi hg hb hs) fun D σ H q => by
  obtain ⟨HF, ρ, A, E, Ed, w, en, t, k, x⟩ := q
  refine ⟨HF, ρ, A, _, Ed, w, en, t, fun items ρ1 q1 HF1 H1 A1 Av J f1 w1 tv en1 src => ?_, x.x⟩
  obtain ⟨I, i0, turn, fin⟩ := q1
  obtain ⟨G, Y, wk, hG, hY⟩ := src
  have st : ∀ {HF2 H2 : Hp} {A2 : List Addr}, Fr H1 H2 HF1 HF2 A1 A2 → WR HF2 H2 A2 → WR HF2 H2 (A2 ++ Av) ∧ Fr H1 H2 HF1 HF2 (A1 ++ Av) (A2 ++ Av) ∧ ∀ p ∈ Av, H2 p = H1 p := fun {HF2 H2 A2} f2 w2 => by
    have := join (Ay := []) w1 tv (A2 := A2) (by rw [List.append_nil]; exact f2) (by rw [List.append_nil]; exact w2)
    simpa using this
  refine for_it wk (fun i σ2 H2 => ∃ HF2 ρ2 A2, Pr P σ σ2 ∧ Fr H1 H2 HF1 HF2 A1 A2 ∧ WR HF2 H2 A2 ∧ EnvR X.K HF2 H2 ρ2 σ2 A2 ∧ I i ρ2) ⟨HF1, ρ1, A1, .refl, .refl, w1.left, en1, i0⟩ ?_ ?_ ?_
  · rintro i σ2 H2 hi ⟨HF2, ρ2, A2, p2, f2, w2, en2, i2⟩
    exact hG HF2 H2 f2.same w2.same (st f2 w2).2.2
  · rintro i y σ2 H2 H3 hi ⟨HF2, ρ2, A2, p2, f2, w2, en2, i2⟩ yy
    obtain ⟨d, HF3, hd, f3, s3, rd⟩ := hY i HF2 H2 y H3 f2.same w2.same (st f2 w2).2.2 hi yy
    obtain ⟨k1, k2, k3⟩ := f3.frame (EnvR.there _ en2) (fun _ _ h => by cases h)
    have w3 : WR HF3 H3 A2 := ⟨s3, w2.nodup, fun a ha => k2 a ha (w2.out a ha)⟩
    have f23 : Fr H2 H3 HF2 HF3 A2 A2 := f3.mono (fun _ h => by cases h) fun p hp => .inr hp
    have f13 := f2.trans f23
    have fH : ∀ {H4 HF4 : Hp} {A4 : List Addr}, Fr H1 H4 HF1 HF4 A1 A4 → Fr H H4 HF HF4 A A4 := fun f => f1.trans (f.mono (fun p hp => List.mem_append_left _ hp) fun p hp => .inl hp)
    refine ⟨HF3, ρ2, A2, .fz d, [], _, by rw [List.append_nil]; exact w3, EnvR.keep f3.same _ en2 k1, ⟨rfl, rd⟩, turn i d ρ2 hd i2, fun ρ4 q4 HF4 H4 σ4 A4 p4 f4 w4 en4 => ?_⟩
    rw [List.append_nil] at f4
    have f14 := f13.trans f4
    refine ⟨HF4, ρ4, A4, _, Ed, w4, en4, q4, ⟨fun ρ5 n5 HF5 H5 σ5 A5 p5 f5 w5 en5 => ⟨HF5, ρ5, A5, (p2.trans p4).trans p5, f14.trans f5, w5, en5, n5⟩, ?_, ?_, fun ρ5 n5 HF5 H5 σ5 A5 p5 f5 w5 en5 => ⟨HF5, ρ5, A5, (p2.trans p4).trans p5, f14.trans f5, w5, en5, n5⟩⟩, ?_⟩
    · exact k.rt.step (p2.trans p4) (fH f14)
    · exact k.nx.step (p2.trans p4) (fH f14)
    · exact x.step (p2.trans p4) (fH f14)
  · rintro σ2 H2 ⟨HF2, ρ2, A2, p2, f2, w2, en2, i2⟩
    exact k.nx ρ2 (fin ρ2 i2) HF2 H2 σ2 A2 p2 (f1.trans (f2.mono (fun p hp => List.mem_append_left _ hp) fun p hp => .inl hp)) w2 en2

/-! ### while -/
def tWhileD (c : TDt) (tb : TSD) : TSD := fun E Ed ρ => ∃ I : Nat → Env → Prop, (∃ m, I m ρ) ∧ ∀ m ρ, I m ρ → c ρ (fun b ρ1 => if b = true then tb { E with nx := fun ρ' => ∃ m', m' < m ∧ I m' ρ', ct := fun ρ' => ∃ m', m' < m ∧ I m' ρ', bk := E.nx } Ed ρ1 else E.nx ρ1) Ed
theorem as_while {P : Prot} {c : Expr} {body : List Stmt} {tc : TDt} {tb : TSD} {pos : Pos} (hp : PassesOwn (model X.prog X.w) X.A X.env X.xe) (hc : AT X W c tc) (hb : ASs X W P body tb) : AS X W P (.While c body [] pos) (tWhileD tc tb) := PS.imp (ps_while hp hc hb) fun D σ H q => by
  obtain ⟨HF, ρ, A, E, Ed, w, en, t, k, x⟩ := q
  obtain ⟨I, ⟨m0, i0⟩, turn⟩ := t
  refine ⟨fun m σ2 H2 => ∃ HF2 ρ2 A2, Pr P σ σ2 ∧ Fr H H2 HF HF2 A A2 ∧ WR HF2 H2 A2 ∧ EnvR X.K HF2 H2 ρ2 σ2 A2 ∧ I m ρ2, ⟨m0, HF, ρ, A, .refl, .refl, w, en, i0⟩, ?_⟩
  rintro m σ2 H2 ⟨HF2, ρ2, A2, p2, f2, w2, en2, i2⟩
  refine ⟨HF2, ρ2, A2, _, Ed, w2, en2, turn m ρ2 i2, fun b ρ3 q3 HF3 H3 A3 f3 w3 en3 => ?_, (x.step p2 f2).x⟩
  have f13 := f2.trans f3
  cases b with
  | true =>
    simp only [↓reduceIte] at q3
    refine (if_pos rfl).mpr ⟨_, fun σ' H' z => z, HF3, ρ3, A3, _, Ed, w3, en3, q3, ⟨fun ρ5 n5 HF5 H5 σ5 A5 p5 f5 w5 en5 => ?_, k.rt.step p2 f13, k.nx.step p2 f13, fun ρ5 n5 HF5 H5 σ5 A5 p5 f5 w5 en5 => ?_⟩, x.step p2 f13⟩
    all_goals
      obtain ⟨m', hm, i5⟩ := n5
      exact ⟨m', hm, HF5, ρ5, A5, p2.trans p5, f13.trans f5, w5, en5, i5⟩
  | false => exact (if_neg (by simp)).mpr (k.nx ρ3 (by simpa using q3) HF3 H3 σ2 A3 p2 f13 w3 en3)
end

/-! ### list comprehensions (nothing is raised within) -/
def wipeD (ρ : Env) : List Nat → Env
  | [] => ρ
  | v :: vs => (wipeD ρ vs).set v none
/-- the slots of the comprehension's own names as they were -/
def backL (ρ0 ρ : Env) : List Nat → Env
  | [] => ρ
  | v :: vs => (backL ρ0 ρ vs).set v (match ρ0[v]? with | some x => x | none => none)
def WF : WX := fun _ _ _ _ => False
def NoX : XC := fun _ _ => False
/-- all slots but these -/
def butP (vs : List Nat) : Prot := fun j => !(vs.contains j)
def tLcD (ti : TId) (vs : List Nat) (g : TGD) (tt : TDt) (te : TD) : TD := fun ρ Kd Ed => ti ρ (fun items ρ1 => ∃ I : Nat → List D → Env → Prop, I 0 [] (wipeD ρ1 vs) ∧
  (∀ i d acc ρ, items[i]? = some d → I i acc ρ → g (.fz d) ρ (fun ρ2 => tt ρ2 (fun b ρ3 => if b = true then te ρ3 (fun ev ρ4 => match ev with
    | .ow o => acc.length < sizeLine ∧ I (i + 1) (acc ++ [frz o]) (wipeD ρ4 vs)
    | .pt _ => False) NoX else I (i + 1) acc (wipeD ρ3 vs)) NoX)) ∧
  ∀ acc ρ, I items.length acc ρ → Kd (.ow (.ls acc)) (backL ρ1 ρ vs)) Ed
theorem wipe_eq {σ σ2 : St} {vs : List Nat} (hl : σ2.length = σ.length) (h : ∀ j, vs.contains j = false → σ2[j]? = σ[j]?) : wipe σ2 vs = wipe σ vs := by
  have key : ∀ (l : List Nat) (j : Nat), (wipe σ2 l)[j]? = if l.contains j = true ∧ j < σ.length then some none else σ2[j]? := by
    intro l
    induction l with
    | nil => intro j; simp [wipe]
    | cons v l ih =>
      intro j
      show ((wipe σ2 l).set v none)[j]? = _
      by_cases hj : v = j
      · subst hj
        by_cases hv : v < σ.length
        · rw [List.getElem?_set_self (by rw [wipe_length, hl]; exact hv)]; simp [hv]
        · rw [List.getElem?_eq_none (by rw [List.length_set, wipe_length, hl]; omega)]; simp [hv]; omega
      · rw [List.getElem?_set_ne hj, ih j]
        have : (v :: l).contains j = l.contains j := by simp [List.contains_cons, Ne.symm hj]
        rw [this]
  have key' : ∀ (l : List Nat) (j : Nat), (wipe σ l)[j]? = if l.contains j = true ∧ j < σ.length then some none else σ[j]? := by
    intro l
    induction l with
    | nil => intro j; simp [wipe]
    | cons v l ih =>
      intro j
      show ((wipe σ l).set v none)[j]? = _
      by_cases hj : v = j
      · subst hj
        by_cases hv : v < σ.length
        · rw [List.getElem?_set_self (by rw [wipe_length]; exact hv)]; simp [hv]
        · rw [List.getElem?_eq_none (by rw [List.length_set, wipe_length]; omega)]; simp [hv]
      · rw [List.getElem?_set_ne hj, ih j]
        have : (v :: l).contains j = l.contains j := by simp [List.contains_cons, Ne.symm hj]
        rw [this]
  apply List.ext_getElem?
  intro j
  rw [key, key']
  by_cases hc : vs.contains j = true
  · by_cases hj : j < σ.length
    · rw [if_pos ⟨hc, hj⟩, if_pos ⟨hc, hj⟩]
    · have e1 : σ2[j]? = none := List.getElem?_eq_none (by omega)
      have e2 : σ[j]? = none := List.getElem?_eq_none (by omega)
      simp [hj, e1, e2]
  · have hc' : vs.contains j = false := by simpa using hc
    rw [h j hc']
end AE
/-! AE7: list comprehensions. -/
namespace AE
open PySem L2
section
variable {K : PySem.W.Frag} {HF H : Hp}
theorem EnvR.anyS : ∀ {ρ : Env} {σ : St} {A : List Addr} {v : Nat} {x : Option V}, EnvR K HF H ρ σ A → ρ[v]? = some none → EnvR K HF H ρ (σ.set v x) A
  | [], σ, A, v, x, h, e => by simp at e
  | none :: ρ, σ, A, 0, x, h, e => by obtain ⟨s', r, rfl, q⟩ := h; exact ⟨x, r, rfl, q⟩
  | some o :: ρ, σ, A, 0, x, h, e => by simp at e
  | none :: ρ, σ, A, v + 1, x, h, e => by obtain ⟨s', r, rfl, q⟩ := h; exact ⟨s', _, rfl, EnvR.anyS q (by simpa using e)⟩
  | some o :: ρ, σ, A, v + 1, x, h, e => by obtain ⟨w, r, A1, A2, rfl, rfl, q, t⟩ := h; exact ⟨w, _, A1, A2, rfl, rfl, q, EnvR.anyS t (by simpa using e)⟩
def atE (ρ : Env) (v : Nat) : Option O := match ρ[v]? with
  | some x => x
  | none => none
/-- one slot emptied, and filled again as it was -/
theorem hole1 {ρ : Env} {σ : St} {A : List Addr} {v : Nat} (en : EnvR K HF H ρ σ A) (hv : v < ρ.length) : ∃ C B, A.Perm (C ++ B) ∧ (∀ p ∈ B, ∃ o, H p = some o) ∧ EnvR K HF H (ρ.set v none) (σ.set v none) C ∧
    ∀ HF2 H2 ρ2 A2, Same HF HF2 → (∀ p ∈ B, H2 p = H p) → EnvR K HF2 H2 ρ2 (σ.set v none) A2 → ρ2[v]? = some none → ∃ A3, A3.Perm (A2 ++ B) ∧ EnvR K HF2 H2 (ρ2.set v (atE ρ v)) σ A3 := by
  have hσ : ∃ x, σ[v]? = some x := by
    have := en.length
    exact ⟨σ[v]'(by omega), by simp⟩
  obtain ⟨x, hx⟩ := hσ
  have back : (σ.set v none).set v x = σ := by rw [List.set_set, set_get hx]
  cases e : ρ[v]? with
  | none => exact absurd (List.getElem?_eq_none_iff.mp e) (by omega)
  | some oo =>
    cases oo with
    | none =>
      refine ⟨A, [], by simp, fun _ h => (by cases h), ?_, fun HF2 H2 ρ2 A2 s k en2 e2 => ⟨A2, by simp, ?_⟩⟩
      · rw [set_get e]; exact EnvR.anyS en e
      · have : atE ρ v = none := by unfold atE; rw [e]
        rw [this, set_get e2]
        have := EnvR.anyS (x := x) en2 e2
        rwa [back] at this
    | some o =>
      obtain ⟨w, B, C, h1, h2, h3, h4⟩ := en.get e
      refine ⟨C, B, h3.trans List.perm_append_comm, RepO.there o h2, EnvR.anyS h4 (by rw [List.getElem?_set_self hv]), fun HF2 H2 ρ2 A2 s k en2 e2 => ?_⟩
      have : atE ρ v = some o := by unfold atE; rw [e]
      rw [this]
      have hv2 : v < ρ2.length := (List.getElem?_eq_some_iff.mp e2).1
      obtain ⟨A3, pm, en3⟩ := EnvR.put (ρ := ρ2) (i := v) (o := o) (v := w) (by rw [set_get e2]; exact en2) hv2 (RepO.keep s o h2 k)
      refine ⟨A3, pm.trans List.perm_append_comm, ?_⟩
      rw [List.set_set, set_get h1] at en3
      exact en3
theorem wipeD_length (ρ : Env) : ∀ vs : List Nat, (wipeD ρ vs).length = ρ.length
  | [] => rfl
  | v :: vs => by show ((wipeD ρ vs).set v none).length = _; rw [List.length_set, wipeD_length ρ vs]
theorem wipeD_none (ρ : Env) : ∀ {vs : List Nat} {v : Nat}, v ∈ vs → v < ρ.length → (wipeD ρ vs)[v]? = some none
  | u :: vs, v, h, hl => by
    show ((wipeD ρ vs).set u none)[v]? = _
    by_cases e : u = v
    · subst e; rw [List.getElem?_set_self (by rw [wipeD_length]; exact hl)]
    · rw [List.getElem?_set_ne e]
      exact wipeD_none ρ ((List.mem_cons.mp h).resolve_left (Ne.symm e)) hl
theorem wipeD_out (ρ : Env) : ∀ {vs : List Nat} {v : Nat}, v ∉ vs → (wipeD ρ vs)[v]? = ρ[v]?
  | [], v, h => rfl
  | u :: vs, v, h => by
    show ((wipeD ρ vs).set u none)[v]? = _
    rw [List.getElem?_set_ne (fun e => h (by simp [e]))]
    exact wipeD_out ρ fun z => h (List.mem_cons_of_mem _ z)
theorem backL_out {ρ0 ρ : Env} : ∀ {vs : List Nat} {v : Nat}, v ∉ vs → (backL ρ0 ρ vs)[v]? = ρ[v]?
  | [], v, h => rfl
  | u :: vs, v, h => by
    show ((backL ρ0 ρ vs).set u _)[v]? = _
    rw [List.getElem?_set_ne (fun e => h (by simp [e]))]
    exact backL_out fun z => h (List.mem_cons_of_mem _ z)
/-- all of a comprehension's own slots -/
theorem holes {ρ : Env} {σ : St} {A : List Addr} (en : EnvR K HF H ρ σ A) : ∀ (vs : List Nat), vs.Nodup → (∀ v ∈ vs, v < ρ.length) → ∃ C B, A.Perm (C ++ B) ∧ (∀ p ∈ B, ∃ o, H p = some o) ∧ EnvR K HF H (wipeD ρ vs) (wipe σ vs) C ∧
    ∀ HF2 H2 ρ2 A2, Same HF HF2 → (∀ p ∈ B, H2 p = H p) → EnvR K HF2 H2 ρ2 (wipe σ vs) A2 → (∀ v ∈ vs, ρ2[v]? = some none) → ∃ A3, A3.Perm (A2 ++ B) ∧ EnvR K HF2 H2 (backL ρ ρ2 vs) σ A3
  | [], nd, hv => ⟨A, [], by simp, fun _ h => (by cases h), en, fun HF2 H2 ρ2 A2 s k en2 _ => ⟨A2, by simp, en2⟩⟩
  | v :: vs, nd, hv => by
    obtain ⟨C, B, pm, tB, en1, back1⟩ := holes en vs (List.nodup_cons.mp nd).2 fun u hu => hv u (List.mem_cons_of_mem _ hu)
    have hn : v ∉ vs := (List.nodup_cons.mp nd).1
    obtain ⟨C2, B2, pm2, tB2, en2, back2⟩ := hole1 (v := v) en1 (by rw [wipeD_length]; exact hv v (by simp))
    refine ⟨C2, B2 ++ B, ?_, fun p hp => (List.mem_append.mp hp).elim (tB2 p) (tB p), en2, fun HF2 H2 ρ2 A2 s k en3 e3 => ?_⟩
    · refine pm.trans ((List.Perm.append_right B pm2).trans ?_)
      rw [List.append_assoc]
    · obtain ⟨A3, pm3, en4⟩ := back2 HF2 H2 ρ2 A2 s (fun p hp => k p (List.mem_append_left _ hp)) en3 (e3 v (by simp))
      have at1 : atE (wipeD ρ vs) v = atE ρ v := by unfold atE; rw [wipeD_out ρ hn]
      rw [at1] at en4
      obtain ⟨A4, pm4, en5⟩ := back1 HF2 H2 (ρ2.set v (atE ρ v)) A3 s (fun p hp => k p (List.mem_append_right _ hp)) en4 fun u hu => by
        rw [List.getElem?_set_ne (show v ≠ u from fun e => hn (e ▸ hu))]
        exact e3 u (List.mem_cons_of_mem _ hu)
      have ee : ∀ (l : List Nat), v ∉ l → backL ρ (ρ2.set v (atE ρ v)) l = (backL ρ ρ2 l).set v (atE ρ v) := by
        intro l
        induction l with
        | nil => intro _; rfl
        | cons u l ih =>
          intro h
          show (backL ρ (ρ2.set v (atE ρ v)) l).set u _ = ((backL ρ ρ2 l).set u _).set v _
          rw [ih fun z => h (List.mem_cons_of_mem _ z)]
          exact List.set_comm _ _ (fun e => h (by simp [e]))
      rw [ee vs hn] at en5
      refine ⟨A4, pm4.trans ?_, en5⟩
      refine (List.Perm.append_right B pm3).trans ?_
      rw [List.append_assoc]
end
/-- a clause's tests -/
def ATs (X : Cx) (W : WX) (ifs : List Expr) (t : TDt) : Prop := PTs X ifs (tAt X.K W t)
theorem PTs.imp {X : Cx} {es : List Expr} {t u : TT} (h : PTs X es t) (i : ∀ σ H Q, u σ H Q → t σ H Q) : PTs X es u := ⟨fun pins s σ H Q I q => h.run pins s σ H Q I (i σ H Q q)⟩
def tYesD : TDt := fun ρ Kd _ => Kd true ρ
section
variable {X : Cx} {W : WX}
theorem ats_nil : ATs X W [] tYesD := PTs.imp pts_nil fun σ H Q q => by
  obtain ⟨HF, ρ, A, Kd, Ed, w, en, t, k, x⟩ := q
  exact k true ρ t HF H A .refl w en
theorem ats_one {c : Expr} {t : TDt} (h : AT X W c t) : ATs X W [c] t := pts_one h
theorem PE.impL {X : Cx} {e : Expr} {t u : TE} (h : PE X e t) (i : ∀ σ H Q, σ.length = X.N.length → u σ H Q → t σ H Q) : PE X e u := ⟨fun pins s σ H Q I q => h.run pins s σ H Q I (i σ H Q I.len q)⟩
/-- a thing at D held beside -/
theorem hold {H2 H6 HF2 HF6 : Hp} {A2 A6 : List Addr} {D : Addr} {u : HO} (w : WR HF2 H2 (A2 ++ [D])) (hD : H2 D = some u) (f : Fr H2 H6 HF2 HF6 A2 A6) (w6 : WR HF6 H6 A6) : H6 D = some u ∧ WR HF6 H6 (A6 ++ [D]) ∧ Fr H2 H6 HF2 HF6 (A2 ++ [D]) (A6 ++ [D]) := by
  have := join (Ay := []) (A2 := A6) w (fun p hp => by rw [List.mem_singleton.mp hp]; exact ⟨_, hD⟩) (by rw [List.append_nil]; exact f) (by rw [List.append_nil]; exact w6)
  simp only [List.append_nil] at this
  exact ⟨(this.2.2 D (by simp)).trans hD, this.1, this.2.1⟩
theorem putD {K : PySem.W.Frag} {H HF : Hp} {A : List Addr} {D : Addr} {u : HO} (w : WR HF H (A ++ [D])) : WR HF (upd H D u) (A ++ [D]) ∧ Fr H (upd H D u) HF HF (A ++ [D]) (A ++ [D]) ∧ ∀ ρ σ, EnvR K HF H ρ σ A → EnvR K HF (upd H D u) ρ σ A := by
  have hD : HF D = none := w.out D (by simp)
  have ne : ∀ p o, HF p = some o → p ≠ D := fun p o e z => by rw [z, hD] at e; cases e
  have nA : ∀ p ∈ A, p ≠ D := fun p hp z => w.disj p hp (by simp [z])
  refine ⟨⟨fun b o e => by rw [upd_ne (ne b o e)]; exact w.same b o e, w.nodup, w.out⟩, ⟨.refl _, fun p o e n => ?_, fun _ _ _ _ f => f, fun _ h => .inl h⟩, fun ρ σ en => EnvR.keep (.refl _) ρ en fun p hp => by rw [upd_ne (nA p hp)]⟩
  rw [upd_ne (fun z => n (by simp [z]))]; exact e
theorem ae_lc {elt tg iter : Expr} {ifs : List Expr} {scope : Scope} {own : List (Str × Nat)} {vs : List Nat} {pos : Pos} {ti : TId} {g : TGD} {tt : TDt} {te : TD} (hc : X.calm = true) (hN : X.N.Nodup) (hi : AI X W tg iter ti) (ok : BlkOk X.N X.env.scope scope own) (hvs : own.map (·.2) = vs) (nd : vs.Nodup) (hlt : ∀ v ∈ vs, v < X.N.length)
    (hg : ∀ (s : Shared) (H : Hp) (C : Addr) (cl : List (Str × Addr)) (fp : List Addr), AG (X.blk s H scope (compEnvC scope cl C X.env) fp) (butP vs) tg g) (ht : ∀ (s : Shared) (H : Hp) (C : Addr) (cl : List (Str × Addr)) (fp : List Addr), ATs (X.blk s H scope (compEnvC scope cl C X.env) fp) WF ifs tt)
    (he : ∀ (s : Shared) (H : Hp) (C : Addr) (cl : List (Str × Addr)) (fp : List Addr), AE (X.blk s H scope (compEnvC scope cl C X.env) fp) WF elt te) (hs : ∀ x, foldedSetIterable iter X.env x = pure x := by intro _; rfl) :
    AE X W (.ListComp elt [⟨tg, iter, ifs, 0⟩] scope pos) (tLcD ti vs g tt te) := by
  subst hvs
  generalize hvs : own.map (·.2) = vs at nd hlt hg ht he
  have base : PE X (.ListComp elt [⟨tg, iter, ifs, 0⟩] scope pos) (tLc (tAI X.K W ti) (tG X.K (butP vs) g) (tAt X.K WF tt) (tA X.K WF te) vs) := by
    have := pe_lc (own := own) (pos := pos) (g := tG X.K (butP vs) g) (tt := tAt X.K WF tt) (te := tA X.K WF te) hc hN hi ok hg ht he hs
    rw [hvs] at this
    exact this
  refine PE.impL base fun σ H Q hσ q => ?_
  obtain ⟨HF, ρ, A, Kd, Ed, w, en, t, k, x⟩ := q
  refine ⟨HF, ρ, A, _, Ed, w, en, t, fun items ρ1 q1 HF1 H1 A1 Av J f1 w1 tv en1 src => fun D hD => ?_, x⟩
  obtain ⟨I, i0, turn, fin⟩ := q1
  obtain ⟨G, Y, wk, hG, hY⟩ := src
  have hl1 : σ.length = ρ1.length := en1.length
  obtain ⟨C, B, pm, tB, enw, back⟩ := holes en1 vs nd fun v hv => by rw [← hl1, hσ]; exact hlt v hv
  -- the base: the new list at D
  have memC : ∀ p ∈ C, p ∈ A1 := fun p hp => pm.mem_iff.mpr (List.mem_append_left _ hp)
  have memB : ∀ p ∈ B, p ∈ A1 := fun p hp => pm.mem_iff.mpr (List.mem_append_right _ hp)
  have wCB : WR HF1 H1 (C ++ B) := w1.left.perm pm
  have tA1 := EnvR.there _ en1
  have nD : ∀ p o, H1 p = some o → p ≠ D := fun p o e z => by rw [z, hD] at e; cases e
  have w0 : WR HF1 (upd H1 D (.lst [])) (C ++ [D]) := by
    refine ⟨fun b o e => by rw [upd_ne (nD b o (w1.same b o e))]; exact w1.same b o e, List.nodup_append.mpr ⟨wCB.left.nodup, by simp, fun a ha b hb e => ?_⟩, fun a ha => ?_⟩
    · rw [List.mem_singleton.mp hb] at e
      obtain ⟨o, ho⟩ := tA1 a (memC a ha)
      exact nD a o ho e
    · rcases List.mem_append.mp ha with z | z
      · exact wCB.left.out a z
      · rw [List.mem_singleton.mp z]; exact w1.same.free hD
  have en0 : EnvR X.K HF1 (upd H1 D (.lst [])) (wipeD ρ1 vs) (wipe σ vs) C := EnvR.keep (.refl _) _ enw fun p hp => by
    obtain ⟨o, ho⟩ := tA1 p (memC p hp)
    rw [upd_ne (nD p o ho)]
  -- what lies beside is kept
  have side : ∀ {H2 HF2 : Hp} {A2 : List Addr}, Fr (upd H1 D (.lst [])) H2 HF1 HF2 (C ++ [D]) (A2 ++ [D]) → ∀ p, (p ∈ B ∨ p ∈ Av) → H2 p = H1 p ∧ (HF1 p = none → HF2 p = none) ∧ p ∉ A2 ++ [D] := fun {H2 HF2 A2} f p hp => by
    obtain ⟨o, ho, hn⟩ : ∃ o, H1 p = some o ∧ p ∉ C := by
      rcases hp with hp | hp
      · obtain ⟨o, ho⟩ := tB p hp
        exact ⟨o, ho, fun z => wCB.disj p z hp⟩
      · obtain ⟨o, ho⟩ := tv p hp
        exact ⟨o, ho, fun z => w1.disj p (memC p z) hp⟩
    have e0 : upd H1 D (.lst []) p = some o := by rw [upd_ne (nD p o ho)]; exact ho
    have n0 : p ∉ C ++ [D] := fun z => (List.mem_append.mp z).elim hn fun z => nD p o ho (List.mem_singleton.mp z)
    exact ⟨by rw [ho]; exact f.keep p o e0 n0, f.free p o e0 n0, fun z => (f.new p z).elim n0 fun q => by rw [e0] at q; cases q⟩
  refine lc_it wk (fun i H2 => ∃ HF2 ρ' A2 acc accv, Fr (upd H1 D (.lst [])) H2 HF1 HF2 (C ++ [D]) (A2 ++ [D]) ∧ WR HF2 H2 (A2 ++ [D]) ∧ EnvR X.K HF2 H2 (wipeD ρ' vs) (wipe σ vs) A2 ∧ H2 D = some (.lst accv) ∧ Reps X.K HF2 acc accv ∧ I i acc (wipeD ρ' vs) ∧ ρ'.length = ρ1.length)
    ⟨HF1, ρ1, C, [], [], .refl, w0, en0, upd_same, rfl, i0, rfl⟩ ?_ ?_ ?_
  · rintro i H2 hi ⟨HF2, ρ', A2, acc, accv, f2, w2, en2, hD2, ra, i2, hl2⟩
    exact hG HF2 H2 f2.same w2.same fun p hp => (side f2 p (.inr hp)).1
  · rintro i y H2 H3 hi ⟨HF2, ρ', A2, acc, accv, f2, w2, en2, hD2, ra, i2, hl2⟩ yy
    obtain ⟨d, HF3, hd, f3, s3, rd⟩ := hY i HF2 H2 y H3 f2.same w2.same (fun p hp => (side f2 p (.inr hp)).1) hi yy
    obtain ⟨k1, k2, k3⟩ := f3.frame (EnvR.there _ en2) (fun _ _ h => by cases h)
    have w3 : WR HF3 H3 A2 := ⟨s3, w2.left.nodup, fun a ha => k2 a ha (w2.left.out a ha)⟩
    have f23 : Fr H2 H3 HF2 HF3 A2 A2 := f3.mono (fun _ h => by cases h) fun p hp => .inr hp
    have en3 := EnvR.keep f3.same _ en2 k1
    -- a turn's end
    have fin1 : ∀ {H5 HF5 : Hp} {A5 : List Addr} {ρ5 : Env} {σ5 : St}, Fr H2 H5 HF2 HF5 A2 A5 → WR HF5 H5 A5 → EnvR X.K HF5 H5 ρ5 σ5 A5 → wipe σ5 vs = wipe σ vs → σ5.length = σ.length → ∃ A7, (∀ p ∈ A7, p ∈ A5) ∧ WR HF5 H5 (A7 ++ [D]) ∧ Fr (upd H1 D (.lst [])) H5 HF1 HF5 (C ++ [D]) (A7 ++ [D]) ∧ EnvR X.K HF5 H5 (wipeD ρ5 vs) (wipe σ vs) A7 ∧ H5 D = some (.lst accv) ∧ ρ5.length = ρ1.length := fun {H5 HF5 A5 ρ5 σ5} f5 w5 en5 e5 l5 => by
      obtain ⟨hD5, w5', f5'⟩ := hold w2 hD2 f5 w5
      have hl5 : σ5.length = ρ5.length := en5.length
      obtain ⟨C5, B5, pm5, _, enw5, _⟩ := holes en5 vs nd fun v hv => by rw [← hl5, l5, hσ]; exact hlt v hv
      rw [e5] at enw5
      have sub : ∀ p ∈ C5, p ∈ A5 := fun p hp => pm5.mem_iff.mpr (List.mem_append_left _ hp)
      have w7 : WR HF5 H5 (C5 ++ [D]) := by
        have : (A5 ++ [D]).Perm ((C5 ++ [D]) ++ B5) := (List.Perm.append_right [D] pm5).trans (by rw [List.append_assoc, List.append_assoc]; exact List.Perm.append_left C5 List.perm_append_comm)
        exact (w5'.perm this).left
      exact ⟨C5, sub, w7, (f2.trans f5').mono (fun _ h => h) fun p hp => .inl ((List.mem_append.mp hp).elim (fun z => List.mem_append_left _ (sub p z)) fun z => List.mem_append_right _ z), enw5, hD5, by rw [← hl5, l5, hl1]⟩
    refine ⟨HF3, wipeD ρ' vs, A2, .fz d, [], _, by rw [List.append_nil]; exact w3, en3, ⟨rfl, rd⟩, turn i d acc _ hd i2, fun ρ4 q4 HF4 H4 σ4 A4 p4 f4 w4 en4 => ?_⟩
    rw [List.append_nil] at f4
    have e4 : wipe σ4 vs = wipe σ vs := by
      have z : wipe σ4 vs = wipe (wipe σ vs) vs := wipe_eq p4.1 fun j hj => p4.2 j (by simp [butP]; simpa using hj)
      rw [z]
      exact wipe_eq (wipe_length _ _) fun j hj => wipe_out (by simpa using hj)
    have l4 : σ4.length = σ.length := by rw [p4.1, wipe_length]
    refine ⟨e4, HF4, ρ4, A4, _, NoX, w4, en4, q4, fun b ρ5 q5 HF5 H5 A5 f5 w5 en5 => ?_, fun _ _ z => z.elim⟩
    have f25 := (f23.trans f4).trans f5
    cases b with
    | false =>
      simp only [Bool.false_eq_true, ↓reduceIte] at q5 ⊢
      obtain ⟨A7, sub7, w7, f7, en7, hD7, l7⟩ := fin1 f25 w5 en5 e4 l4
      exact ⟨HF5, ρ5, A7, acc, accv, f7, w7, en7, hD7, Reps.mono f25.same _ ra, q5, l7⟩
    | true =>
      simp only [↓reduceIte] at q5 ⊢
      refine ⟨HF5, ρ5, A5, _, NoX, w5, en5, q5, fun ev ρ6 q6 HF6 H6 A6 y6 Ay f6 w6 en6 r6 => ?_, fun _ _ z => z.elim⟩
      cases ev with
      | pt j => exact q6.elim
      | ow o =>
        obtain ⟨hlen, i6⟩ := q6
        -- the element is made pure
        obtain ⟨sg, wg, fg⟩ := grow_ok (w6.perm List.perm_append_comm)
        have rg : Rep X.K (grow HF6 H6 Ay) (frz o) y6 := RepO.frz sg o r6 fun p hp => grow_in hp
        have f6' : Fr H5 H6 HF5 (grow HF6 H6 Ay) A5 A6 := f6.trans (fg.mono (fun p hp => (List.mem_append.mp hp).elim (fun z => List.mem_append_right _ z) (fun z => List.mem_append_left _ z)) fun p hp => .inl hp)
        have f26 := f25.trans f6'
        obtain ⟨A7, sub7, w7, f7, en7, hD7, l7⟩ := fin1 f26 wg (EnvR.keep sg _ en6 fun _ _ => rfl) e4 l4
        obtain ⟨w8, f8, k8⟩ := putD (K := X.K) (u := .lst (accv ++ [y6])) w7
        have ra6 := Reps.mono f26.same acc ra
        refine ⟨accv, hD7, by rw [ra.length]; exact hlen, grow HF6 H6 Ay, ρ6, A7, acc ++ [frz o], accv ++ [y6], f7.trans f8, w8, k8 _ _ en7, upd_same, ra6.append (Reps.one rg), i6, l7⟩
  · rintro H2 ⟨HF2, ρ', A2, acc, accv, f2, w2, en2, hD2, ra, i2, hl2⟩
    obtain ⟨A3, pm3, en3⟩ := back HF2 H2 (wipeD ρ' vs) A2 f2.same (fun p hp => (side f2 p (.inl hp)).1) en2 fun v hv => wipeD_none ρ' hv (by rw [hl2, ← hl1, hσ]; exact hlt v hv)
    have pm4 : (A3 ++ [D]).Perm ((A2 ++ [D]) ++ B) := (List.Perm.append_right [D] pm3).trans (by rw [List.append_assoc, List.append_assoc]; exact List.Perm.append_left A2 List.perm_append_comm)
    have w4 : WR HF2 H2 (A3 ++ [D]) := WR.perm (A := (A2 ++ [D]) ++ B) ⟨w2.same, List.nodup_append.mpr ⟨w2.nodup, wCB.right.nodup, fun a ha b hb e => (side f2 b (.inl hb)).2.2 (e ▸ ha)⟩, fun a ha => (List.mem_append.mp ha).elim (w2.out a) fun z => (side f2 a (.inl z)).2.1 (wCB.right.out a z)⟩ pm4.symm
    refine k _ _ (fin acc _ i2) HF2 H2 A3 (.ref D) [D] ?_ w4 en3 ⟨D, accv, rfl, rfl, hD2, ra⟩
    refine f1.trans ⟨f2.same, fun p o e n => ?_, fun p o e n fr => ?_, fun p hp => ?_⟩
    · have nd' := nD p o e
      exact f2.keep p o (by rw [upd_ne nd']; exact e) fun z => (List.mem_append.mp z).elim (fun z => n (List.mem_append_left _ (memC p z))) fun z => nd' (List.mem_singleton.mp z)
    · have nd' := nD p o e
      exact f2.free p o (by rw [upd_ne nd']; exact e) (fun z => (List.mem_append.mp z).elim (fun z => n (List.mem_append_left _ (memC p z))) fun z => nd' (List.mem_singleton.mp z)) fr
    · rcases List.mem_append.mp (pm4.mem_iff.mp hp) with z | z
      · rcases f2.new p z with z | z
        · rcases List.mem_append.mp z with z | z
          · exact .inl (List.mem_append_left _ (memC p z))
          · rw [List.mem_singleton.mp z]; exact .inr hD
        · refine .inr ?_
          by_cases hp' : p = D
          · rw [hp']; exact hD
          · rw [upd_ne hp'] at z; exact z
      · exact .inl (List.mem_append_left _ (memB p z))
end
end AE
/-! AE8: built-ins by name, == and in. -/
namespace AE
open PySem L2

theorem CallR.or {X : Cx} {f : Value} {r r' : List V → Hp → VK → Prop} (h : CallR X f r) (h' : CallR X f r') : CallR X f (fun xs H Q => r xs H Q ∨ r' xs H Q) := fun pins s σ H xs us Q I rx q => q.elim (h pins s σ H xs us Q I rx) (h' pins s σ H xs us Q I rx)
section
variable {X : Cx} {W : WX} {x : Str} {p pos : Pos} {e : Expr} {es : List Expr} {ts : TDs} {id T : String} {r : List V → Hp → VK → Prop} {f : Env → List EV → KD → Prop}
theorem callN (hp : Prim X.K r f) : ∀ σ H Q, tA X.K W (tN f ts) σ H Q → tCB r (tAs X.K W ts) σ H Q := fun σ H Q q => by
  obtain ⟨HF, ρ, A, Kd, Ed, w, en, t, k, x⟩ := q
  refine ⟨HF, ρ, A, _, Ed, w, en, t, fun evs ρ1 q1 HF1 H1 A1 vs Av f1 w1 en1 r1 => ?_, x⟩
  exact hp σ HF1 H1 ρ1 A1 Av evs vs Kd Q w1 en1 r1 q1 (k.step f1)
theorem ae_callB (hc : CallR X (.builtin id) r) (hp : Prim X.K r f) (hg : Gl X x) (hm : X.mg x = none) (hv : bootBuiltins x = some (.builtin id)) (ha : AA X W (e :: es) ts) (hn : x ≠ "__name__" := by decide) (hdb : (x == ("__debug__" : Str)) = false := by decide)
    (he : starEach (e :: es) X.env = (false, eval e X.env) :: starEach es X.env := by rfl) (hpl : (backTo pos (starEach es X.env)).any (·.1) = false := by rfl) : AE X W (.Call (.Name x p) (e :: es) [] pos) (tN f ts) :=
  PE.imp (pe_callB hc hg hm hv ha hn hdb he hpl) (callN hp)
theorem ae_callTy (hc : CallR X (.type T) r) (hp : Prim X.K r f) (hg : Gl X x) (hm : X.mg x = none) (hv : bootBuiltins x = some (.type T)) (ha : AA X W (e :: es) ts) (hn : x ≠ "__name__" := by decide) (hdb : (x == ("__debug__" : Str)) = false := by decide)
    (he : starEach (e :: es) X.env = (false, eval e X.env) :: starEach es X.env := by rfl) (hpl : (backTo pos (starEach es X.env)).any (·.1) = false := by rfl) : AE X W (.Call (.Name x p) (e :: es) [] pos) (tN f ts) :=
  PE.imp (pe_callTy hc hg hm hv ha hn hdb he hpl) (callN hp)
end

/-! ### len -/
def gLen : GN := fun ds P => match ds with
  | [.str z] => z.length ≤ sizeLine ∧ P (.fz (.int z.length))
  | [.lst xs] => P (.fz (.int xs.length))
  | [.tup xs] => P (.fz (.int xs.length))
  | [.scr xs] => P (.fz (.int xs.length))
  | [.dic xs] => P (.fz (.int xs.length))
  | _ => False
section
variable {X : Cx} {W : WX} {p pos : Pos} {e : Expr} {es : List Expr} {ts : TDs}
theorem RepKs.length {K : PySem.W.Frag} {HF : Hp} : ∀ {ds : List (Key × D)} {vs : List (Key × V)}, RepKs K HF ds vs → vs.length = ds.length
  | [], vs, h => by rw [show vs = [] from h]; rfl
  | d :: ds, vs, h => by obtain ⟨v, ws, rfl, _, r⟩ := h; simp [RepKs.length r]
theorem call_lenR : CallR X (.builtin "len") (fun xs H Q => ∃ a kvs, xs = [V.ref a] ∧ Rd H a (.dK kvs) ∧ Q (.int kvs.length) H) := by
  intro pins s σ H xs us Q I r h
  obtain ⟨a, kvs, rfl, ha, q⟩ := h
  obtain ⟨u, rfl, ru⟩ := vals1 r
  cases ru
  exact d_len I ha fun t s' I' => ⟨.int kvs.length, H, I', ⟨t, rfl⟩, q⟩
theorem do_len : DoN X.K (fun xs H Q => (∃ z, xs = [.str z] ∧ z.length ≤ sizeLine ∧ Q (.int z.length) H) ∨ (∃ p ys, xs = [.ref p] ∧ (SqL X.K H p ys ∨ SqT X.K H p ys) ∧ Q (.int ys.length) H) ∨ ∃ a kvs, xs = [V.ref a] ∧ Rd H a (.dK kvs) ∧ Q (.int kvs.length) H) gLen := fun HF H vs ds P Q s r g k => by
  unfold gLen at g
  split at g
  · obtain ⟨v, rfl, rv⟩ := r.one
    cases (show v = .str _ from rv)
    exact .inl ⟨_, rfl, g.1, k _ _ _ _ _ g.2 (New.imm s rfl)⟩
  · obtain ⟨v, rfl, rv⟩ := r.one
    obtain ⟨p, vs, rfl, h1, r1⟩ := rv
    exact .inr <| .inl ⟨p, vs, rfl, .inl (SqL.of h1), by rw [r1.length]; exact k _ _ _ _ _ g (New.imm s rfl)⟩
  · obtain ⟨v, rfl, rv⟩ := r.one
    obtain ⟨p, vs, rfl, h1, r1⟩ := rv
    exact .inr <| .inl ⟨p, vs, rfl, .inr (SqT.of (s _ _ h1)), by rw [r1.length]; exact k _ _ _ _ _ g (New.imm s rfl)⟩
  · obtain ⟨v, rfl, rv⟩ := r.one
    obtain ⟨p, rfl, h1⟩ := rv
    exact .inr <| .inl ⟨p, _, rfl, .inl (SqL.mono h1 s), by rw [List.length_map]; exact k _ _ _ _ _ g (New.imm s rfl)⟩
  · obtain ⟨v, rfl, rv⟩ := r.one
    obtain ⟨p, vs, rfl, h1, r1⟩ := rv
    exact .inr <| .inr ⟨p, vs, rfl, h1, by rw [r1.length]; exact k _ _ _ _ _ g (New.imm s rfl)⟩
  · exact g.elim
theorem ae_len (hg : Gl X "len") (hm : X.mg "len" = none) (ha : AA X W (e :: es) ts) (he : starEach (e :: es) X.env = (false, eval e X.env) :: starEach es X.env := by rfl) (hpl : (backTo pos (starEach es X.env)).any (·.1) = false := by rfl) :
    AE X W (.Call (.Name "len" p) (e :: es) [] pos) (tN (pN gLen) ts) := ae_callB (CallR.or call_len_str (CallR.or call_len_seq call_lenR)) (primN do_len) hg hm boot_len ha (by decide) (by decide) he hpl
/-! ### abs, int, bool -/
def gAbs : GN := fun ds P => match ds with
  | [.int i] => P (.fz (.int (if i < 0 then -i else i)))
  | _ => False
theorem ae_abs (hg : Gl X "abs") (hm : X.mg "abs" = none) (ha : AA X W (e :: es) ts) (he : starEach (e :: es) X.env = (false, eval e X.env) :: starEach es X.env := by rfl) (hpl : (backTo pos (starEach es X.env)).any (·.1) = false := by rfl) :
    AE X W (.Call (.Name "abs" p) (e :: es) [] pos) (tN (pN gAbs) ts) := ae_callB call_abs (primN fun HF H vs ds P Q s r g k => by
      unfold gAbs at g
      split at g
      · obtain ⟨v, rfl, rv⟩ := r.one
        cases (show v = .int _ from rv)
        exact ⟨_, rfl, k _ _ _ _ _ g (New.imm s rfl)⟩
      · exact g.elim) hg hm (by decide +kernel) ha (by decide) (by decide) he hpl
def gInt : GN := fun ds P => match ds with
  | [.int i] => P (.fz (.int i))
  | [.bl b] => P (.fz (.int (if b then 1 else 0)))
  | _ => False
theorem ae_int1 (hg : Gl X "int") (hm : X.mg "int" = none) (ha : AA X W (e :: es) ts) (he : starEach (e :: es) X.env = (false, eval e X.env) :: starEach es X.env := by rfl) (hpl : (backTo pos (starEach es X.env)).any (·.1) = false := by rfl) :
    AE X W (.Call (.Name "int" p) (e :: es) [] pos) (tN (pN gInt) ts) := ae_callTy call_int1 (primN fun HF H vs ds P Q s r g k => by
      unfold gInt at g
      split at g
      · obtain ⟨v, rfl, rv⟩ := r.one
        cases (show v = .int _ from rv)
        exact .inl ⟨_, rfl, k _ _ _ _ _ g (New.imm s rfl)⟩
      · obtain ⟨v, rfl, rv⟩ := r.one
        cases (show v = .bl _ from rv)
        exact .inr ⟨_, rfl, k _ _ _ _ _ g (New.imm s rfl)⟩
      · exact g.elim) hg hm (by decide +kernel) ha (by decide) (by decide) he hpl
/-! ### list, tuple -/
def gList : GN := fun ds P => match ds with
  | [.lst xs] => P (.ls xs)
  | [.tup xs] => P (.ls xs)
  | _ => False
theorem ae_list1 (hg : Gl X "list") (hm : X.mg "list" = none) (ha : AA X W (e :: es) ts) (he : starEach (e :: es) X.env = (false, eval e X.env) :: starEach es X.env := by rfl) (hpl : (backTo pos (starEach es X.env)).any (·.1) = false := by rfl) :
    AE X W (.Call (.Name "list" p) (e :: es) [] pos) (tN (pN gList) ts) := ae_callTy call_list_of (primN fun HF H vs ds P Q s r g k => by
      unfold gList at g
      split at g
      · obtain ⟨v, rfl, rv⟩ := r.one
        obtain ⟨p, vs, rfl, h1, r1⟩ := rv
        exact ⟨p, vs, rfl, .inl (SqL.of h1), fun l hl => k _ _ _ _ _ g (New.lst s hl r1)⟩
      · obtain ⟨v, rfl, rv⟩ := r.one
        obtain ⟨p, vs, rfl, h1, r1⟩ := rv
        exact ⟨p, vs, rfl, .inr (SqT.of (s _ _ h1)), fun l hl => k _ _ _ _ _ g (New.lst s hl r1)⟩
      · exact g.elim) hg hm (by decide +kernel) ha (by decide) (by decide) he hpl
def gTuple : GN := fun ds P => match ds with
  | [.lst xs] => P (.fz (.tup xs))
  | [.tup xs] => P (.fz (.tup xs))
  | _ => False
theorem ae_tuple1 (hg : Gl X "tuple") (hm : X.mg "tuple" = none) (ha : AA X W (e :: es) ts) (he : starEach (e :: es) X.env = (false, eval e X.env) :: starEach es X.env := by rfl) (hpl : (backTo pos (starEach es X.env)).any (·.1) = false := by rfl) :
    AE X W (.Call (.Name "tuple" p) (e :: es) [] pos) (tN (pN gTuple) ts) := ae_callTy call_tuple_of (primN fun HF H vs ds P Q s r g k => by
      unfold gTuple at g
      split at g
      · obtain ⟨v, rfl, rv⟩ := r.one
        obtain ⟨p, vs, rfl, h1, r1⟩ := rv
        exact ⟨p, vs, rfl, .inl ⟨SqL.of h1, fun l hl => k _ _ _ _ _ g (New.tup s hl r1)⟩⟩
      · obtain ⟨v, rfl, rv⟩ := r.one
        obtain ⟨p, vs, rfl, h1, r1⟩ := rv
        exact ⟨p, vs, rfl, .inr ⟨SqT.of (s _ _ h1), k _ _ _ _ _ g (New.imm s ⟨p, vs, rfl, h1, r1⟩)⟩⟩
      · exact g.elim) hg hm (by decide +kernel) ha (by decide) (by decide) he hpl
/-! ### all, any -/
theorem reps_bl {K : PySem.W.Frag} {HF : Hp} : ∀ {bs : List Bool} {vs : List V}, Reps K HF (bs.map D.bl) vs → vs = bs.map V.bl
  | [], vs, h => h
  | b :: bs, vs, h => by obtain ⟨v, ws, rfl, r, t⟩ := h; rw [show v = .bl b from r, reps_bl t]; rfl
def gAll : GN := fun ds P => match ds with
  | [.lst xs] => ∃ bs : List Bool, xs = bs.map D.bl ∧ P (.fz (.bl (bs.all id)))
  | _ => False
def gAny : GN := fun ds P => match ds with
  | [.lst xs] => ∃ bs : List Bool, xs = bs.map D.bl ∧ P (.fz (.bl (bs.any id)))
  | _ => False
theorem ae_all (hc : X.calm = true) (hg : Gl X "all") (hm : X.mg "all" = none) (ha : AA X W (e :: es) ts) (he : starEach (e :: es) X.env = (false, eval e X.env) :: starEach es X.env := by rfl) (hpl : (backTo pos (starEach es X.env)).any (·.1) = false := by rfl) :
    AE X W (.Call (.Name "all" p) (e :: es) [] pos) (tN (pN gAll) ts) := ae_callB (cr_all hc) (primN fun HF H vs ds P Q s r g k => by
      unfold gAll at g
      split at g
      · obtain ⟨v, rfl, rv⟩ := r.one
        obtain ⟨p, vs, rfl, h1, r1⟩ := rv
        obtain ⟨bs, rfl, q⟩ := g
        obtain rfl := reps_bl r1
        exact ⟨p, bs, rfl, SqL.of h1, k _ _ _ _ _ q (New.imm s rfl)⟩
      · exact g.elim) hg hm (by decide +kernel) ha (by decide) (by decide) he hpl
theorem ae_any (hc : X.calm = true) (hg : Gl X "any") (hm : X.mg "any" = none) (ha : AA X W (e :: es) ts) (he : starEach (e :: es) X.env = (false, eval e X.env) :: starEach es X.env := by rfl) (hpl : (backTo pos (starEach es X.env)).any (·.1) = false := by rfl) :
    AE X W (.Call (.Name "any" p) (e :: es) [] pos) (tN (pN gAny) ts) := ae_callB (cr_any hc) (primN fun HF H vs ds P Q s r g k => by
      unfold gAny at g
      split at g
      · obtain ⟨v, rfl, rv⟩ := r.one
        obtain ⟨p, vs, rfl, h1, r1⟩ := rv
        obtain ⟨bs, rfl, q⟩ := g
        obtain rfl := reps_bl r1
        exact ⟨p, bs, rfl, SqL.of h1, k _ _ _ _ _ q (New.imm s rfl)⟩
      · exact g.elim) hg hm (by decide +kernel) ha (by decide) (by decide) he hpl
end
end AE
/-! AE9: == and in. -/
namespace AE
open PySem L2
mutual
def dEq : D → D → Bool
  | .non, .non => true
  | .bl a, .bl b => a == b
  | .bl a, .int j => (if a then 1 else 0) == j
  | .int i, .bl b => i == (if b then 1 else 0)
  | .int i, .int j => i == j
  | .str x, .str y => x == y
  | .lst xs, .lst ys => dEqs xs ys
  | .tup xs, .tup ys => dEqs xs ys
  | .kt xs, .kt ys => dEqs xs ys
  | .tup xs, .kt ys => dEqs xs ys
  | .kt xs, .tup ys => dEqs xs ys
  | _, _ => false
def dEqs : List D → List D → Bool
  | [], [] => true
  | x :: xs, y :: ys => dEq x y && dEqs xs ys
  | _, _ => false
end
mutual
def toPy : D → PyData
  | .non => .none
  | .bl b => .bool b
  | .int i => .int i
  | .str x => .str x
  | .lst xs => .list (toPys xs)
  | .tup xs => .tuple (toPys xs)
  | .kt xs => .tuple (toPys xs)
  | _ => .none
def toPys : List D → List PyData
  | [] => []
  | x :: xs => toPy x :: toPys xs
end
mutual
/-- plain data: None, bools, ints, texts, lists and tuples of them -/
def pyOk : D → Bool
  | .non => true
  | .bl _ => true
  | .int _ => true
  | .str x => PyData.strOk x
  | .lst xs => pyOks xs
  | .tup xs => pyOks xs
  | .kt xs => pyOks xs
  | _ => false
def pyOks : List D → Bool
  | [] => true
  | x :: xs => pyOk x && pyOks xs
end
mutual
def dDep : D → Nat
  | .lst xs => dDeps xs + 1
  | .tup xs => dDeps xs + 1
  | .kt xs => dDeps xs + 1
  | _ => 1
def dDeps : List D → Nat
  | [] => 0
  | x :: xs => max (dDep x) (dDeps xs)
end
/-- data that == takes as data -/
def Shp (d : D) : Prop := pyOk d = true ∧ dDep d ≤ 60
mutual
theorem eqv_toPy : ∀ (d e : D), pyOk d = true → pyOk e = true → PyData.eqv (toPy d) (toPy e) = dEq d e
  | d, e, hd, he => by
    cases d <;> cases e <;> first
      | rfl
      | exact absurd (show false = true from hd) Bool.false_ne_true
      | exact absurd (show false = true from he) Bool.false_ne_true
      | exact eqvs_toPy _ _ hd he
theorem eqvs_toPy : ∀ (ds es : List D), pyOks ds = true → pyOks es = true → PyData.eqvAll (toPys ds) (toPys es) = dEqs ds es
  | [], [], _, _ => rfl
  | [], _ :: _, _, _ => rfl
  | _ :: _, [], _, _ => rfl
  | d :: ds, e :: es, hd, he => by
    have hd := Bool.and_eq_true_iff.mp hd
    have he := Bool.and_eq_true_iff.mp he
    show (PyData.eqv (toPy d) (toPy e) && PyData.eqvAll (toPys ds) (toPys es)) = (dEq d e && dEqs ds es)
    rw [eqv_toPy d e hd.1 he.1, eqvs_toPy ds es hd.2 he.2]
end
mutual
theorem canLay_toPy : ∀ d : D, pyOk d = true → (toPy d).canLay0 = true
  | d, h => by
    cases d <;> first
      | rfl
      | exact absurd (show false = true from h) Bool.false_ne_true
      | exact canLays_toPy _ h
      | exact h
theorem canLays_toPy : ∀ ds : List D, pyOks ds = true → PyData.canLayAll0 (toPys ds) = true
  | [], _ => rfl
  | d :: ds, h => by
    have h := Bool.and_eq_true_iff.mp h
    show ((toPy d).canLay0 && PyData.canLayAll0 (toPys ds)) = true
    rw [canLay_toPy d h.1, canLays_toPy ds h.2]; rfl
end
mutual
theorem depth_toPy : ∀ d : D, (toPy d).depth ≤ dDep d
  | .non => Nat.zero_le _
  | .bl _ => Nat.zero_le _
  | .int _ => Nat.zero_le _
  | .str _ => Nat.zero_le _
  | .dic _ => Nat.zero_le _
  | .dit _ => Nat.zero_le _
  | .ins _ _ => Nat.zero_le _
  | .cl _ => Nat.zero_le _
  | .ty _ => Nat.zero_le _
  | .scr _ => Nat.zero_le _
  | .exc _ _ _ _ => Nat.zero_le _
  | .xo _ _ => Nat.zero_le _
  | .lst ds => Nat.succ_le_succ (depths_toPy ds)
  | .tup ds => Nat.succ_le_succ (depths_toPy ds)
  | .kt ds => Nat.succ_le_succ (depths_toPy ds)
theorem depths_toPy : ∀ ds : List D, PyData.depthAll (toPys ds) ≤ dDeps ds
  | [] => Nat.le_refl _
  | d :: ds => by
    show max (toPy d).depth (PyData.depthAll (toPys ds)) ≤ max (dDep d) (dDeps ds)
    have := depth_toPy d
    have := depths_toPy ds
    omega
end
theorem Shp.shaped {d : D} (h : Shp d) : SeqAt.shaped (toPy d) = true := by
  unfold SeqAt.shaped
  rw [canLay_toPy d h.1, Bool.true_and, decide_eq_true_iff]
  have := depth_toPy d
  have := h.2
  omega
section
variable {K : PySem.W.Frag} {H : Hp}
mutual
theorem Rep.dp : ∀ (d : D) {v : V}, pyOk d = true → Rep K H d v → Dp K H v (toPy d)
  | .non, v, _, r => by rw [show v = .non from r]; exact .non
  | .bl b, v, _, r => by rw [show v = .bl b from r]; exact .bl b
  | .int i, v, _, r => by rw [show v = .int i from r]; exact .int i
  | .str x, v, _, r => by rw [show v = .str x from r]; exact .str x
  | .lst ds, v, h, r => by obtain ⟨a, vs, rfl, q, t⟩ := r; exact .lst (SqL.of q) (Reps.dp ds h t)
  | .tup ds, v, h, r => by obtain ⟨a, vs, rfl, q, t⟩ := r; exact .tup (SqT.of q) (Reps.dp ds h t)
  | .kt ds, v, h, r => by obtain ⟨a, vs, rfl, q, t⟩ := r; exact .tup q (Reps.dp ds h t)
  | .dic _, _, h, _ => absurd (show false = true from h) Bool.false_ne_true
  | .dit _, _, h, _ => absurd (show false = true from h) Bool.false_ne_true
  | .ins _ _, _, h, _ => absurd (show false = true from h) Bool.false_ne_true
  | .cl _, _, h, _ => absurd (show false = true from h) Bool.false_ne_true
  | .ty _, _, h, _ => absurd (show false = true from h) Bool.false_ne_true
  | .scr _, _, h, _ => absurd (show false = true from h) Bool.false_ne_true
  | .exc _ _ _ _, _, h, _ => absurd (show false = true from h) Bool.false_ne_true
  | .xo _ _, _, h, _ => absurd (show false = true from h) Bool.false_ne_true
theorem Reps.dp : ∀ (ds : List D) {vs : List V}, pyOks ds = true → Reps K H ds vs → DpAll K H vs (toPys ds)
  | [], vs, _, r => by rw [show vs = [] from r]; exact .nil
  | d :: ds, vs, h, r => by
    obtain ⟨v, ws, rfl, q, t⟩ := r
    have h := Bool.and_eq_true_iff.mp h
    exact .cons (Rep.dp d h.1 q) (Reps.dp ds h.2 t)
end
theorem Vw.rep {HF : Hp} {d : D} {v : V} (s : Same HF H) (r : Vw K HF H d v) : Rep K H d v := by
  cases d with
  | lst ds => obtain ⟨a, vs, e, q, t⟩ := r; exact ⟨a, vs, e, q, Reps.mono s ds t⟩
  | dic ds => obtain ⟨a, vs, e, q, t⟩ := r; exact ⟨a, vs, e, q, RepKs.mono s ds t⟩
  | dit ds => obtain ⟨a, vs, e, q, t⟩ := r; exact ⟨a, vs, e, q, RepTs.mono s ds t⟩
  | ins C ds => obtain ⟨a, dx, vs, e, q, t⟩ := r; exact ⟨a, dx, vs, e, q, RepFs.mono s ds t⟩
  | _ => exact Rep.mono s _ r
end
/-- two scalars that == tells apart as data does -/
def scalD : D → D → Bool
  | .non, .non => true | .non, .int _ => true | .int _, .non => true | .non, .bl _ => true | .bl _, .non => true | .non, .str _ => true | .str _, .non => true
  | .int _, .int _ => true | .bl _, .bl _ => true | .str _, .str _ => true
  | .int _, .str _ => true | .str _, .int _ => true | .bl _, .str _ => true | .str _, .bl _ => true
  | _, _ => false
def gEq : G2 := fun d d' P => (scalD d d' = true ∨ (Shp d ∧ Shp d')) ∧ P (.fz (.bl (dEq d d')))
def gNe : G2 := fun d d' P => (scalD d d' = true ∨ (Shp d ∧ Shp d')) ∧ P (.fz (.bl (!dEq d d')))
theorem scal_dec {K : PySem.W.Frag} {HF H : Hp} {d d' : D} {v v' : V} (h : scalD d d' = true) (r : Vw K HF H d v) (r' : Vw K HF H d' v') : scal v v' = true ∧ decide (v = v') = dEq d d' := by
  cases d <;> cases d' <;> first
    | exact absurd (show false = true from h) Bool.false_ne_true
    | (cases r; cases r'; refine ⟨rfl, ?_⟩; first
        | rfl
        | exact decide_eq_false (fun z => by cases z)
        | (rename_i a b; show decide (V.int a = V.int b) = (a == b); by_cases e : a = b
           · subst e; simp
           · rw [decide_eq_false (fun z => e (by injection z))]; exact (beq_eq_false_iff_ne.mpr e).symm)
        | (rename_i a b; show decide (V.bl a = V.bl b) = (a == b); cases a <;> cases b <;> rfl)
        | (rename_i a b; show decide (V.str a = V.str b) = (a == b); by_cases e : a = b
           · subst e; simp
           · rw [decide_eq_false (fun z => e (by injection z))]; exact (beq_eq_false_iff_ne.mpr e).symm))
section
variable {X : Cx} {W : WX} {a b : Expr} {ta tb : TD} {pos : Pos}
theorem ae_eq (hu : X.A.units + 64 < cLine) (ha : AE X W a ta) (hb : AE X W b tb) : AE X W (.Compare a [.Eq] [b] pos) (t2 (p2 gEq) ta tb) := by
  refine ae_cmp (OpR.or op_eq (op_eqD hu)) (prim2 fun HF H v v' d d' P Q s r r' g k => ?_) ha hb (nomark _)
  rcases g with ⟨h | ⟨h1, h2⟩, q⟩
  · obtain ⟨e1, e2⟩ := scal_dec h r r'
    exact .inl ⟨e1, by rw [e2]; exact k _ _ _ _ _ q (New.imm s rfl)⟩
  · exact .inr ⟨_, _, Rep.dp d h1.1 (r.rep s), Rep.dp d' h2.1 (r'.rep s), h1.shaped, h2.shaped, by rw [eqv_toPy d d' h1.1 h2.1]; exact k _ _ _ _ _ q (New.imm s rfl)⟩
theorem ae_ne (hu : X.A.units + 64 < cLine) (ha : AE X W a ta) (hb : AE X W b tb) : AE X W (.Compare a [.NotEq] [b] pos) (t2 (p2 gNe) ta tb) := by
  refine ae_cmp (OpR.or op_ne (op_neD hu)) (prim2 fun HF H v v' d d' P Q s r r' g k => ?_) ha hb (nomark _)
  rcases g with ⟨h | ⟨h1, h2⟩, q⟩
  · obtain ⟨e1, e2⟩ := scal_dec h r r'
    exact .inl ⟨e1, by rw [e2]; exact k _ _ _ _ _ q (New.imm s rfl)⟩
  · exact .inr ⟨_, _, Rep.dp d h1.1 (r.rep s), Rep.dp d' h2.1 (r'.rep s), h1.shaped, h2.shaped, by rw [eqv_toPy d d' h1.1 h2.1]; exact k _ _ _ _ _ q (New.imm s rfl)⟩
end
end AE
/-! AE10: in, is None, dicts read, lists changed. -/
namespace AE
open PySem L2
section
variable {X : Cx} {W : WX} {a b : Expr} {ta tb : TD} {pos : Pos}
/-! ### is None -/
def dNon : D → Bool
  | .non => true
  | _ => false
def gIsN (neg : Bool) : G2 := fun d d' P => match d' with
  | .non => P (.fz (.bl (if neg then !dNon d else dNon d)))
  | _ => False
theorem non_dec {K : PySem.W.Frag} {HF H : Hp} {d : D} {v : V} (r : Vw K HF H d v) : decide (v = .non) = dNon d := by
  cases d with
  | non => cases r; rfl
  | bl _ => cases r; rfl
  | int _ => cases r; rfl
  | str _ => cases r; rfl
  | cl _ => cases r; rfl
  | ty _ => cases r; rfl
  | lst _ => obtain ⟨a, vs, rfl, _⟩ := r; rfl
  | tup _ => obtain ⟨a, vs, rfl, _⟩ := r; rfl
  | kt _ => obtain ⟨a, vs, rfl, _⟩ := r; rfl
  | dic _ => obtain ⟨a, vs, rfl, _⟩ := r; rfl
  | dit _ => obtain ⟨a, vs, rfl, _⟩ := r; rfl
  | ins _ _ => obtain ⟨a, dx, vs, rfl, _⟩ := r; rfl
  | scr _ => obtain ⟨a, rfl, _⟩ := r; rfl
  | exc _ _ _ _ => obtain ⟨rfl, _⟩ := r; rfl
  | xo _ _ => obtain ⟨_, rfl, _⟩ := r; rfl
theorem ae_is (ha : AE X W a ta) (hb : AE X W b tb) : AE X W (.Compare a [.Is] [b] pos) (t2 (p2 (gIsN false)) ta tb) := ae_cmp op_isN (prim2 fun HF H v v' d d' P Q s r r' g k => by
  unfold gIsN at g
  split at g
  · cases (show v' = .non from r')
    exact ⟨rfl, by rw [non_dec r]; exact k _ _ _ _ _ g (New.imm s rfl)⟩
  · exact g.elim) ha hb (nomark _)
theorem ae_isnot (ha : AE X W a ta) (hb : AE X W b tb) : AE X W (.Compare a [.IsNot] [b] pos) (t2 (p2 (gIsN true)) ta tb) := ae_cmp op_notN (prim2 fun HF H v v' d d' P Q s r r' g k => by
  unfold gIsN at g
  split at g
  · cases (show v' = .non from r')
    exact ⟨rfl, by rw [non_dec r]; exact k _ _ _ _ _ g (New.imm s rfl)⟩
  · exact g.elim) ha hb (nomark _)

/-! ### dicts: keys and values -/
def keyD : D → Option Key
  | .int i => some (.inl i)
  | .str x => some (.inr x)
  | _ => none
def valD {κ : Type} [DecidableEq κ] (kvs : List (κ × D)) (k : κ) : Option D := (kvs.find? fun kv => decide (kv.1 = k)).map (·.2)
theorem keyD_ok {K : PySem.W.Frag} {HF H : Hp} {d : D} {k : Key} {v : V} (h : keyD d = some k) (r : Vw K HF H d v) : v = kV k := by
  cases d <;> first | cases h; done | (cases h; exact r)
theorem RepKs.val {K : PySem.W.Frag} {HF : Hp} {k : Key} : ∀ {ds : List (Key × D)} {vs : List (Key × V)}, RepKs K HF ds vs → (valD ds k = none ∧ valV vs k = none) ∨ ∃ d v, valD ds k = some d ∧ valV vs k = some v ∧ Rep K HF d v
  | [], vs, h => by rw [show vs = [] from h]; exact .inl ⟨rfl, rfl⟩
  | (k', d) :: ds, vs, h => by
    obtain ⟨⟨k2, v⟩, ws, rfl, ⟨hk, r⟩, t⟩ := h
    have hk : k2 = k' := hk
    subst hk
    by_cases e : k2 = k
    · subst e
      exact .inr ⟨d, v, by simp [valD], by simp [valV], r⟩
    · have e1 : valD ((k2, d) :: ds) k = valD ds k := by simp [valD, e]
      have e2 : valV ((k2, v) :: ws) k = valV ws k := by simp [valV, e]
      rw [e1, e2]
      exact RepKs.val t
/-! ### in -/
def flatD : D → Bool
  | .non => true
  | .bl _ => true
  | .int _ => true
  | .str _ => true
  | _ => false
def dIn (d : D) (ys : List D) : Bool := ys.any fun y => dEq y d
def xorB (neg b : Bool) : Bool := if neg then !b else b
def gIn (neg : Bool) : G2 := fun d d' P => match d' with
  | .lst ys => ((flatD d = true ∧ ys.all flatD = true) ∨ (Shp d ∧ Shp (.lst ys))) ∧ P (.fz (.bl (xorB neg (dIn d ys))))
  | .tup ys => (flatD d = true ∧ ys.all flatD = true) ∧ P (.fz (.bl (xorB neg (dIn d ys))))
  | .kt ys => (flatD d = true ∧ ys.all flatD = true) ∧ P (.fz (.bl (xorB neg (dIn d ys))))
  | .str z => (match d with
    | .str w => ∃ c, w = ⟨#[c]⟩ ∧ P (.fz (.bl (xorB neg (decide (c ∈ z.cps.toList)))))
    | _ => False)
  | .dic kvs => (match keyD d with
    | some k => P (.fz (.bl (xorB neg (valD kvs k).isSome)))
    | none => False)
  | _ => False
theorem eqV_dEq {K : PySem.W.Frag} {HF : Hp} {d e : D} {v u : V} (hd : flatD d = true) (he : flatD e = true) (r : Rep K HF d v) (q : Rep K HF e u) : flatV v = true ∧ eqV v u = dEq d e := by
  cases d <;> first
    | exact absurd (show false = true from hd) Bool.false_ne_true
    | (cases e <;> first
      | exact absurd (show false = true from he) Bool.false_ne_true
      | (cases r; cases q; exact ⟨rfl, rfl⟩))
theorem flat_vw {K : PySem.W.Frag} {HF H : Hp} {d : D} {v : V} (hd : flatD d = true) (r : Vw K HF H d v) : Rep K HF d v := by
  cases d <;> first
    | exact absurd (show false = true from hd) Bool.false_ne_true
    | exact r
theorem inV_dIn {K : PySem.W.Frag} {HF : Hp} {d : D} {v : V} (hd : flatD d = true) (r : Rep K HF d v) : ∀ {ys : List D} {us : List V}, ys.all flatD = true → Reps K HF ys us → us.all flatV = true ∧ inV v us = dIn d ys
  | [], us, _, q => by rw [show us = [] from q]; exact ⟨rfl, rfl⟩
  | y :: ys, us, h, q => by
    obtain ⟨u, ws, rfl, q1, q2⟩ := q
    have h := Bool.and_eq_true_iff.mp (by simpa using h : (flatD y && ys.all flatD) = true)
    obtain ⟨e1, e2⟩ := eqV_dEq h.1 hd q1 r
    obtain ⟨e3, e4⟩ := inV_dIn hd r (by simpa using h.2) q2
    refine ⟨by simp only [List.all_cons, e1, e3]; rfl, ?_⟩
    show (eqV u v || inV v ws) = (dEq y d || dIn d ys)
    rw [e2, e4]
theorem anyEqv {d : D} (hd : pyOk d = true) : ∀ {ys : List D}, pyOks ys = true → ((toPys ys).any fun z => PyData.eqv z (toPy d)) = dIn d ys
  | [], _ => rfl
  | y :: ys, h => by
    have h := Bool.and_eq_true_iff.mp h
    show (PyData.eqv (toPy y) (toPy d) || (toPys ys).any _) = (dEq y d || dIn d ys)
    rw [eqv_toPy y d h.1 hd, anyEqv hd h.2]
def rDin (neg : Bool) : R2 := fun x y H Q => ∃ a ov, y = .ref a ∧ DGet H a x ov ∧ Q (.bl (xorB neg ov.isSome)) H
theorem op_din (hu : X.A.units + 64 < cLine) : OpR X (compareOp .In) (rDin false) := fun pins s σ H x y v u Q I rx ry h => by
  obtain ⟨p, ov, rfl, g, q⟩ := h
  cases ry
  exact d_in (by omega) I g rx fun s' I' => ⟨.bl ov.isSome, H, I', rfl, q⟩
theorem op_dnotin (hu : X.A.units + 64 < cLine) : OpR X (compareOp .NotIn) (rDin true) := fun pins s σ H x y v u Q I rx ry h => by
  obtain ⟨p, ov, rfl, g, q⟩ := h
  cases ry
  exact d_notIn (by omega) I g rx fun s' I' => ⟨.bl (!ov.isSome), H, I', rfl, q⟩
def rInU (K : PySem.W.Frag) (neg : Bool) : R2 := fun x y H Q => rIn K neg x y H Q ∨ (∃ d ds, Dp K H x d ∧ Dp K H y (.list ds) ∧ SeqAt.shaped d = true ∧ SeqAt.shaped (.list ds) = true ∧ Q (.bl (xorB neg (ds.any fun z => PyData.eqv z d))) H) ∨
  (∃ (c : Nat) (z : Str), x = .str ⟨#[c]⟩ ∧ y = .str z ∧ Q (.bl (xorB neg (decide (c ∈ z.cps.toList)))) H) ∨ rDin neg x y H Q
theorem op_inU (hu : X.A.units + 65 < cLine) : OpR X (compareOp .In) (rInU X.K false) := OpR.or op_in_seq (OpR.or (op_inD hu) (OpR.or op_in_sign (op_din (by omega))))
theorem op_notInU (hu : X.A.units + 65 < cLine) : OpR X (compareOp .NotIn) (rInU X.K true) := OpR.or op_notIn_seq (OpR.or (op_notInD hu) (OpR.or op_notIn_sign (op_dnotin (by omega))))
theorem do_in {K : PySem.W.Frag} (neg : Bool) : Do2 K (rInU K neg) (gIn neg) := fun HF H v v' d d' P Q s r r' g k => by
  unfold gIn at g
  split at g
  · rename_i ys
    obtain ⟨p, vs, rfl, h1, r1⟩ := id r'
    rcases g with ⟨⟨h2, h3⟩ | ⟨h2, h3⟩, q⟩
    · obtain ⟨e1, e2⟩ := inV_dIn h2 (flat_vw h2 r) h3 r1
      refine .inl ⟨p, vs, rfl, .inl (SqL.of h1), (eqV_dEq h2 h2 (flat_vw h2 r) (flat_vw h2 r)).1, e1, ?_⟩
      rw [e2]; exact k _ _ _ _ _ q (New.imm s rfl)
    · refine .inr (.inl ⟨toPy d, toPys ys, Rep.dp d h2.1 (r.rep s), Rep.dp (.lst ys) h3.1 (r'.rep s), h2.shaped, h3.shaped, ?_⟩)
      rw [anyEqv h2.1 h3.1]; exact k _ _ _ _ _ q (New.imm s rfl)
  · obtain ⟨p, vs, rfl, h1, r1⟩ := r'
    obtain ⟨⟨h2, h3⟩, q⟩ := g
    obtain ⟨e1, e2⟩ := inV_dIn h2 (flat_vw h2 r) h3 r1
    refine .inl ⟨p, vs, rfl, .inr (SqT.of (s _ _ h1)), (eqV_dEq h2 h2 (flat_vw h2 r) (flat_vw h2 r)).1, e1, ?_⟩
    rw [e2]; exact k _ _ _ _ _ q (New.imm s rfl)
  · obtain ⟨p, vs, rfl, h1, r1⟩ := r'
    obtain ⟨⟨h2, h3⟩, q⟩ := g
    obtain ⟨e1, e2⟩ := inV_dIn h2 (flat_vw h2 r) h3 r1
    refine .inl ⟨p, vs, rfl, .inr (SqT.mono h1 s), (eqV_dEq h2 h2 (flat_vw h2 r) (flat_vw h2 r)).1, e1, ?_⟩
    rw [e2]; exact k _ _ _ _ _ q (New.imm s rfl)
  · split at g
    · obtain ⟨c, rfl, q⟩ := g
      cases (show v' = .str _ from r')
      cases (show v = .str _ from r)
      exact .inr (.inr (.inl ⟨c, _, rfl, rfl, k _ _ _ _ _ q (New.imm s rfl)⟩))
    · exact g.elim
  · split at g
    · rename_i key ek
      obtain ⟨p, vs, rfl, h1, r1⟩ := r'
      obtain rfl := keyD_ok ek r
      refine .inr (.inr (.inr ⟨p, valV vs key, rfl, .inl ⟨vs, key, h1, rfl, rfl⟩, ?_⟩))
      rcases RepKs.val (k := key) r1 with ⟨e1, e2⟩ | ⟨d1, v1, e1, e2, _⟩
      · rw [e2]; rw [e1] at g; exact k _ _ _ _ _ g (New.imm s rfl)
      · rw [e2]; rw [e1] at g; exact k _ _ _ _ _ g (New.imm s rfl)
    · exact g.elim
  · exact g.elim
theorem ae_in (hu : X.A.units + 65 < cLine) (ha : AE X W a ta) (hb : AE X W b tb) (hm : behindInMarks .In b = false) : AE X W (.Compare a [.In] [b] pos) (t2 (p2 (gIn false)) ta tb) := ae_cmp (op_inU hu) (prim2 (do_in false)) ha hb hm
theorem ae_notin (hu : X.A.units + 65 < cLine) (ha : AE X W a ta) (hb : AE X W b tb) (hm : behindInMarks .NotIn b = false) : AE X W (.Compare a [.NotIn] [b] pos) (t2 (p2 (gIn true)) ta tb) := ae_cmp (op_notInU hu) (prim2 (do_in true)) ha hb hm
end
end AE
/-! AE11: subscripts of dicts; lists and dicts that a slot owns, changed. -/
namespace AE
open PySem L2
section
variable {X : Cx} {W : WX} {a b : Expr} {ta tb : TD} {pos : Pos}
def rIxD : R2 := fun x y H Q => ∃ a v, x = .ref a ∧ DGet H a y (some v) ∧ Q v H
theorem ix_dict (hu : X.A.units + 64 < cLine) : IxR X rIxD := by
  intro value slice pins s σ H x y o i Q I rx ry h hs
  obtain ⟨p, v, rfl, g, q⟩ := h
  cases rx
  have hT := dict_typeIs I g
  have h₂ : wpAny (model X.prog X.w) X.A (getItem (.ref p) i) (EP X pins σ Q) X.xe s := d_getItem (by omega) I g ry fun w' s3 I3 rw' => ⟨v, H, I3, rw', q⟩
  unfold PyProof.Rows.subscriptTail
  refine wpAny_bind ?_
  rw [getitemInPython_of_ne hT.not_modules]
  refine wpAny_bind (wpAny_specialOf hT PySem.F.slot_dict_getitem.lookup ?_)
  have fin : wpAny (model X.prog X.w) X.A (subscripted slice false (.ref p) i) (fun r s₃ => wpAny (model X.prog X.w) X.A (letTemporaryGo value (.ref p) r >>= fun _ => pure r) (EP X pins σ Q) X.xe s₃) X.xe s := by
    rw [hs]
    exact wpAny_operating (wpAny_mono h₂ (fun r s₃ h₃ => wpAny_bind (wpAny_letTemporaryGo (wpAny_pure h₃))) fun _ _ x => x)
  first
    | exact wpAny_pure (wpAny_bind fin)
    | exact wpAny_bind (wpAny_pure (wpAny_bind fin))
    | exact wpAny_bind fin
def gIxD : G2 := fun d d' P => match d with
  | .dic kvs => (match keyD d' with
    | some k => ∃ v, valD kvs k = some v ∧ P (.fz v)
    | none => False)
  | _ => gIx d d' P
theorem do_ixD {K : PySem.W.Frag} : Do2 K (fun x y H Q => rIx K x y H Q ∨ rIxD x y H Q) gIxD := fun HF H v v' d d' P Q s r r' g k => by
  unfold gIxD at g
  split at g
  · split at g
    · rename_i key ek
      obtain ⟨p, vs, rfl, h1, r1⟩ := r
      obtain rfl := keyD_ok ek r'
      obtain ⟨dv, e1, q⟩ := g
      rcases RepKs.val (k := key) r1 with ⟨e2, _⟩ | ⟨d1, v1, e2, e3, rv⟩
      · rw [e1] at e2; cases e2
      · rw [e1] at e2; cases e2
        exact .inr ⟨p, v1, rfl, .inl ⟨vs, key, h1, rfl, e3.symm⟩, k _ _ _ _ _ q (New.imm s rv)⟩
    · exact g.elim
  · exact .inl (do_ix HF H v v' _ d' P Q s r r' g k)
theorem ae_at (hu : X.A.units + 64 < cLine) (ha : AE X W a ta) (hb : AE X W b tb) (hs : PlainIx b := by intro _ _; rfl) : AE X W (.Subscript a b pos) (t2 (p2 gIxD) ta tb) := ae_ix (IxR.or ix_seq (ix_dict hu)) (prim2 do_ixD) ha hb hs
end

/-! ### what a slot owns, changed -/
/-- one flat object -/
def One (o : O) : Prop := match o with
  | .ls _ => True
  | .dc _ => True
  | .dt _ => True
  | _ => False
theorem One.at {K : PySem.W.Frag} {HF H : Hp} {o : O} {v : V} {B : List Addr} (h : One o) (r : RepO K HF H o v B) : ∃ a, v = .ref a ∧ B = [a] := by
  cases o with
  | ls _ => obtain ⟨a, vs, e, ea, _⟩ := r; exact ⟨a, e, ea⟩
  | dc _ => obtain ⟨a, vs, e, ea, _⟩ := r; exact ⟨a, e, ea⟩
  | dt _ => obtain ⟨a, vs, e, ea, _⟩ := r; exact ⟨a, e, ea⟩
  | _ => exact h.elim
theorem slot_one {K : PySem.W.Frag} {σ : St} {HF H : Hp} {ρ : Env} {A : List Addr} {i : Nat} {o : O} (en : EnvR K HF H ρ σ A) (e : ρ[i]? = some (some o)) (h1 : One o) :
    ∃ a, σ[i]? = some (some (.ref a)) ∧ RepO K HF H o (.ref a) [a] ∧ ∀ HG u o', Same HF HG → WR HG H A → RepO K HG (upd H a u) o' (.ref a) [a] → ∃ A', WR HG (upd H a u) A' ∧ Fr H (upd H a u) HG HG A A' ∧ EnvR K HG (upd H a u) (ρ.set i (some o')) σ A' := by
  obtain ⟨v, B, C, s1, r, pm, en1⟩ := en.get e
  obtain ⟨a, rfl, rfl⟩ := h1.at r
  refine ⟨a, s1, r, fun HG u o' s w r' => ?_⟩
  have w1 : WR HG H (C ++ [a]) := w.perm (pm.trans List.perm_append_comm)
  obtain ⟨w2, f2, k2⟩ := putD (K := K) (u := u) w1
  have en2 := k2 _ _ (EnvR.keep s _ en1 fun _ _ => rfl)
  have hi : i < ρ.length := (List.getElem?_eq_some_iff.mp e).1
  obtain ⟨A', pm', en3⟩ := EnvR.put en2 hi r'
  rw [set_get s1] at en3
  have p3 : (C ++ [a]).Perm A' := List.perm_append_comm.trans pm'.symm
  have p4 : A.Perm (C ++ [a]) := pm.trans List.perm_append_comm
  exact ⟨A', w2.perm p3, f2.mono (fun p hp => p4.mem_iff.mpr hp) fun p hp => .inl (p3.mem_iff.mpr hp), en3⟩
/-- x.m(..): the receiver, then the arguments, then what is done -/
def isL (ρ : Env) (e : EV) : Prop := match deref ρ e with
  | some (.ls _) => True
  | some (.nl _) => True
  | some (.fz (.lst _)) => True
  | _ => False
theorem isL_ty {K : PySem.W.Frag} {HF H : Hp} {ρ : Env} {σ : St} {A Av : List Addr} {ev : EV} {v : V} (s : Same HF H) (en : EnvR K HF H ρ σ A) (r : EVR K HF H σ ev v Av) (h : isL ρ ev) : tyV K "list" v H := by
  have key : ∀ {o : O} {B : List Addr}, RepO K HF H o v B → (match some o with | some (.ls _) => True | some (.nl _) => True | some (.fz (.lst _)) => True | _ => False) → tyV K "list" v H := fun {o B} ro z => by
    cases o with
    | ls ds => obtain ⟨a, vs, rfl, _, q, _⟩ := ro; exact .inl ⟨rfl, vs, SqL.of q⟩
    | nl ds => obtain ⟨a, vs, _, rfl, _, q, _⟩ := ro; exact .inl ⟨rfl, vs, SqL.of q⟩
    | fz d =>
      cases d with
      | lst ds => obtain ⟨_, a, vs, rfl, q, _⟩ := ro; exact .inl ⟨rfl, vs, SqL.of (s _ _ q)⟩
      | _ => exact z.elim
    | _ => exact z.elim
  cases ev with
  | ow o => exact key r h
  | pt i =>
    have h : (match (match ρ[i]? with | some (some o) => some o | _ => none : Option O) with | some (.ls _) => True | some (.nl _) => True | some (.fz (.lst _)) => True | _ => False) := h
    cases e' : ρ[i]? with
    | none => rw [e'] at h; exact h.elim
    | some oo =>
      cases oo with
      | none => rw [e'] at h; exact h.elim
      | some o =>
        rw [e'] at h
        obtain ⟨v', B, C, h1, h2, _⟩ := en.get e'
        have : v = v' := by
          have q := r.2
          rw [h1] at q
          exact (Option.some.inj (Option.some.inj q)).symm
        subst this
        exact key h2 h
def tMtL (f : Env → List EV → KD → Prop) (ta : TD) (ts : TDs) : TD := fun ρ Kd Ed => ta ρ (fun e1 ρ1 => isL ρ1 e1 ∧ ts ρ1 (fun es ρ2 => f ρ2 (e1 :: es) Kd) Ed) Ed
def rML (r : V → List V → Hp → VK → Prop) : List V → Hp → VK → Prop
  | x :: xs => r x xs
  | _ => fun _ _ => False
section
variable {X : Cx} {W : WX} {o e : Expr} {es : List Expr} {to : TD} {ts : TDs} {name : Str} {apos cpos : Pos} {id : String} {r : V → List V → Hp → VK → Prop} {f : Env → List EV → KD → Prop}
theorem mt_red (hp : Prim X.K (rML r) f) : ∀ σ H Q, tA X.K W (tMtL f to ts) σ H Q → tBM X.K "list" r (tA X.K W to) (tAs X.K W ts) σ H Q := fun σ H Q q => by
  obtain ⟨HF, ρ, A, Kd, Ed, w, en, t, k, x⟩ := q
  refine ⟨HF, ρ, A, _, Ed, w, en, t, fun e1 ρ1 q1 HF1 H1 A1 v1 Av1 f1 w1 en1 r1 => ⟨isL_ty w1.same en1 r1 q1.1, ?_⟩, x⟩
  have x1 : XOk X.K σ H1 HF1 A1 Ed W := (x.step f1).step (Fr.drop fun p hp => List.mem_append_left _ hp)
  refine ⟨HF1, ρ1, A1, _, Ed, w1.left, en1, q1.2, fun es2 ρ2 q2 HF2 H2 A2 vs2 Av2 f2 w2 en2 r2 => ?_, x1⟩
  obtain ⟨w3, f3, k3⟩ := join w1 (EVR.there r1) f2 w2
  exact hp σ HF2 H2 ρ2 A2 (Av1 ++ Av2) (e1 :: es2) (v1 :: vs2) Kd Q w3 en2 ⟨v1, vs2, Av1, Av2, rfl, rfl, EVR.keep f2.same r1 k3, r2⟩ q2 ((k.step f1).step f3)
theorem ae_mtL (slot : Slot "list" name id) (hty : typeOf (.builtin id) = pure (.type "method_descriptor")) (hm : MtR X id r) (hp : Prim X.K (rML r) f) (ho : AE X W o to) (ha : AA X W (e :: es) ts)
    (hbase : attributeBase o name X.env (eval o X.env) = eval o X.env := by rfl)
    (hfew : ((backTo cpos (starEach (e :: es) X.env)).all (fun x => !x.1) && (backToKw cpos (keywordEach [] X.env)).all (fun x => x.1.isSome)
      && decide ((e :: es).length + ([] : List Keyword).length + (if ([] : List Keyword).isEmpty then 0 else 1) < 30)) = true := by rfl)
    (hline : (apos.endLine == cpos.line) = true := by rfl) (hs : starEach (e :: es) X.env = (false, eval e X.env) :: starEach es X.env := by rfl) (hplain : (backTo cpos (starEach es X.env)).any (·.1) = false := by rfl) :
    AE X W (.Call (.Attribute o name apos) (e :: es) [] cpos) (tMtL f to ts) := PE.imp (pe_bm PySem.F.plainAttrs_list slot hty hm ho ha hbase hfew hline hs hplain) (mt_red hp)
def tMtL0 (f : Env → List EV → KD → Prop) (ta : TD) : TD := fun ρ Kd Ed => ta ρ (fun e1 ρ1 => isL ρ1 e1 ∧ f ρ1 [e1] Kd) Ed
theorem ae_mtL0 (slot : Slot "list" name id) (hty : typeOf (.builtin id) = pure (.type "method_descriptor")) (hm : MtR X id r) (hp : Prim X.K (rML r) f) (ho : AE X W o to)
    (hbase : attributeBase o name X.env (eval o X.env) = eval o X.env := by rfl) (hline : (apos.endLine == cpos.line) = true := by rfl) :
    AE X W (.Call (.Attribute o name apos) [] [] cpos) (tMtL0 f to) := PE.imp (pe_bm0 PySem.F.plainAttrs_list slot hty hm ho hbase hline) fun σ H Q q => by
  obtain ⟨HF, ρ, A, Kd, Ed, w, en, t, k, x⟩ := q
  refine ⟨HF, ρ, A, _, Ed, w, en, t, fun e1 ρ1 q1 HF1 H1 A1 v1 Av1 f1 w1 en1 r1 => ⟨isL_ty w1.same en1 r1 q1.1, ?_⟩, x⟩
  exact hp σ HF1 H1 ρ1 A1 Av1 [e1] [v1] Kd Q w1 en1 ⟨v1, [], Av1, [], rfl, by simp, r1, rfl, rfl⟩ q1.2 (k.step f1)
/-! ### append, pop, extend, clear -/
def fApp : Env → List EV → KD → Prop := fun ρ es Kd => match es with
  | [.pt i, .ow o] => (match ρ[i]? with
    | some (some (.ls xs)) => xs.length < sizeLine ∧ Kd (.ow (.fz .non)) (ρ.set i (some (.ls (xs ++ [frz o]))))
    | _ => False)
  | _ => False
theorem prim_app {K : PySem.W.Frag} : Prim K (rML rAppend) fApp := fun σ HF H ρ A Av evs vs Kd Q w en r q k => by
  unfold fApp at q
  split at q
  · rename_i i o
    split at q
    · rename_i xs e
      obtain ⟨v, ws, A1, A2, rfl, rfl, r1, v2, ws2, A3, A4, rfl, rfl, r2, rfl, rfl⟩ := r
      obtain ⟨rfl, hv⟩ := r1
      obtain ⟨a, s1, ro, upd1⟩ := slot_one en e trivial
      rw [hv] at s1
      obtain rfl := Option.some.inj (Option.some.inj s1)
      simp only [List.nil_append, List.append_nil] at w k
      obtain ⟨sg, wg, fg⟩ := grow_ok (w.perm List.perm_append_comm)
      have rg : Rep K (grow HF H A3) (frz o) v2 := RepO.frz sg o r2 fun p hp => grow_in hp
      obtain ⟨a', us, e1, e2, hH, rs⟩ := ro
      cases e1
      obtain ⟨A', w', f', en'⟩ := upd1 (grow HF H A3) (.lst (us ++ [v2])) (.ls (xs ++ [frz o])) sg wg ⟨a, _, rfl, rfl, upd_same, (Reps.mono sg xs rs).append (Reps.one rg)⟩
      refine ⟨a, us, v2, rfl, rfl, hH, by rw [rs.length]; exact q.1, ?_⟩
      have ff : Fr H (upd H a (.lst (us ++ [v2]))) HF (grow HF H A3) (A ++ A3) A' := (fg.mono (fun p hp => (List.mem_append.mp hp).elim (fun z => List.mem_append_right _ z) (fun z => List.mem_append_left _ z)) fun p hp => .inl hp).trans f'
      exact k _ _ q.2 _ _ A' .non [] (by rw [List.append_nil]; exact ff) (by rw [List.append_nil]; exact w') en' ⟨rfl, rfl⟩
    · exact q.elim
  · exact q.elim
theorem ae_append (ho : AE X W o to) (ha : AA X W [e] ts) (hbase : attributeBase o "append" X.env (eval o X.env) = eval o X.env := by rfl)
    (hfew : ((backTo cpos (starEach [e] X.env)).all (fun x => !x.1) && (backToKw cpos (keywordEach [] X.env)).all (fun x => x.1.isSome)
      && decide (([e] : List Expr).length + ([] : List Keyword).length + (if ([] : List Keyword).isEmpty then 0 else 1) < 30)) = true := by rfl)
    (hline : (apos.endLine == cpos.line) = true := by rfl) (hs : starEach [e] X.env = (false, eval e X.env) :: starEach [] X.env := by rfl) :
    AE X W (.Call (.Attribute o "append" apos) [e] [] cpos) (tMtL fApp to ts) := ae_mtL PySem.F.slot_list_append PySem.F.type_list_append mt_append prim_app ho ha hbase hfew hline hs rfl
end
end AE
/-! AE12: x[i] = e, d[k] = e. -/
namespace AE
open PySem L2
def putDk {κ : Type} [DecidableEq κ] (kvs : List (κ × D)) (k : κ) (v : D) : List (κ × D) :=
  if (kvs.any fun kv => decide (kv.1 = k)) = true then kvs.map (fun kv => if kv.1 = k then (kv.1, v) else kv) else kvs ++ [(k, v)]
section
variable {K : PySem.W.Frag} {HF : Hp}
theorem RepKs.any {k : Key} : ∀ {ds : List (Key × D)} {vs : List (Key × V)}, RepKs K HF ds vs → (vs.any fun kv => decide (kv.1 = k)) = (ds.any fun kv => decide (kv.1 = k))
  | [], vs, h => by rw [show vs = [] from h]; rfl
  | (k', d) :: ds, vs, h => by
    obtain ⟨⟨k2, v⟩, ws, rfl, ⟨hk, r⟩, t⟩ := h
    have hk : k2 = k' := hk
    subst hk
    simp only [List.any_cons, RepKs.any t]
theorem RepKs.mapPut {k : Key} {d : D} {v : V} (r : Rep K HF d v) : ∀ {ds : List (Key × D)} {vs : List (Key × V)}, RepKs K HF ds vs → RepKs K HF (ds.map fun kv => if kv.1 = k then (kv.1, d) else kv) (vs.map fun kv => if kv.1 = k then (kv.1, v) else kv)
  | [], vs, h => by rw [show vs = [] from h]; exact rfl
  | (k', d') :: ds, vs, h => by
    obtain ⟨⟨k2, v2⟩, ws, rfl, ⟨hk, r2⟩, t⟩ := h
    have hk : k2 = k' := hk
    subst hk
    refine ⟨_, _, rfl, ?_, RepKs.mapPut r t⟩
    by_cases e : k2 = k
    · simp only [e, if_true]; exact ⟨rfl, r⟩
    · simp only [e, if_false]; exact ⟨rfl, r2⟩
theorem RepKs.append : ∀ {ds es : List (Key × D)} {vs ws : List (Key × V)}, RepKs K HF ds vs → RepKs K HF es ws → RepKs K HF (ds ++ es) (vs ++ ws)
  | [], es, vs, ws, h, q => by rw [show vs = [] from h]; exact q
  | d :: ds, es, vs, ws, h, q => by obtain ⟨v, us, rfl, r, t⟩ := h; exact ⟨v, us ++ ws, rfl, r, RepKs.append t q⟩
theorem RepKs.put {k : Key} {d : D} {v : V} (r : Rep K HF d v) {ds : List (Key × D)} {vs : List (Key × V)} (h : RepKs K HF ds vs) : RepKs K HF (putDk ds k d) (putK vs k v) := by
  unfold putDk putK
  rw [h.any]
  split
  · exact RepKs.mapPut r h
  · exact h.append ⟨(k, v), [], rfl, ⟨rfl, r⟩, rfl⟩
theorem Reps.set {d : D} {v : V} (r : Rep K HF d v) : ∀ {ds : List D} {vs : List V} (n : Nat), Reps K HF ds vs → Reps K HF (ds.set n d) (vs.set n v)
  | [], vs, n, h => by rw [show vs = [] from h]; exact rfl
  | d' :: ds, vs, 0, h => by obtain ⟨v', ws, rfl, q, t⟩ := h; exact ⟨v, ws, rfl, r, t⟩
  | d' :: ds, vs, n + 1, h => by obtain ⟨v', ws, rfl, q, t⟩ := h; exact ⟨v', _, rfl, q, Reps.set r n t⟩
end
section
variable {X : Cx} {P : Prot} {o i : Expr} {to ti : TD} {pos : Pos}
theorem PSet.or {t t' : TSet} (h : PSet X t) (h' : PSet X t') : PSet X (fun o i v H Q => t o i v H Q ∨ t' o i v H Q) := fun pins s σ H o i v ov iv u Q I ro ri rv q => q.elim (h pins s σ H o i v ov iv u Q I ro ri rv) (h' pins s σ H o i v ov iv u Q I ro ri rv)
def rSetD : TSet := fun o i v H Q => ∃ a H', o = .ref a ∧ DPut H a i v H' ∧ Q H'
theorem set_dict (hu : X.A.units + 64 < cLine) : PSet X rSetD := fun pins s σ H o i v ov iv u Q I ro ri rv q => by
  obtain ⟨a, H', rfl, g, q⟩ := q
  cases ro
  exact d_setItem (by omega) I g ri rv fun s' I' => ⟨H', I', q⟩
/-- x[i] = ..: x a name whose thing its slot owns -/
def gSubD (to ti : TD) : TGD := fun o ρ N => to ρ (fun e1 ρ1 => ti ρ1 (fun e2 ρ2 => match e1 with
  | .pt j => (match ρ2[j]? with
    | some (some (.ls xs)) => (match dOf ρ2 e2 with
      | some (.int k) => ∃ n, ixN xs.length k = some n ∧ N (ρ2.set j (some (.ls (xs.set n (frz o)))))
      | _ => False)
    | some (some (.dc kvs)) => (match dOf ρ2 e2 with
      | some d => (match keyD d with
        | some k => kvs.length < sizeLine ∧ N (ρ2.set j (some (.dc (putDk kvs k (frz o)))))
        | none => False)
      | none => False)
    | _ => False)
  | _ => False) NoX) NoX
theorem ag_sub (hu : X.A.units + 64 < cLine) (ho : AE X WF o to) (hi : AE X WF i ti)
    (ha : ∀ v, assign (.Subscript o i pos) X.env v = (do
      let ov ← holding [v] (eval o X.env)
      let iv ← holding [v, ov] (eval i X.env)
      standAt pos
      holding [v, ov, iv] (setItem ov iv v)
      release [v, ov, iv] []) := by intro _; rfl) : AG X P (.Subscript o i pos) (gSubD to ti) :=
  PG.imp (pg_sub ho hi (PSet.or set_list (set_dict hu)) ha) fun v σ H Q q => by
    obtain ⟨HF, ρ, A, ov, B, N, w, en, r, g, k⟩ := q
    have tB := RepO.there ov r
    refine ⟨HF, ρ, A, _, NoX, w.left, en, g, fun e1 ρ1 q1 HF1 H1 A1 v1 Av1 f1 w1 en1 r1 => ?_, fun _ _ z => z.elim⟩
    obtain ⟨w1B, f1B, k1B⟩ := join w tB f1 w1
    have f1' : Fr H H1 HF HF1 A A1 := f1.mono (fun _ h => h) fun p hp => .inl (List.mem_append_left _ hp)
    have wA1 : WR HF1 H1 (A1 ++ B) := w1B.sub (by rw [← List.append_assoc]; exact List.sublist_append_left _ _)
    have fA1 : Fr H H1 HF HF1 (A ++ B) (A1 ++ B) := f1B.mono (fun _ h => h) fun p hp => .inl (by rw [← List.append_assoc]; exact List.mem_append_left _ hp)
    have rB1 : RepO X.K HF1 H1 ov v B := RepO.keep f1.same ov r k1B
    refine ⟨HF1, ρ1, A1, _, NoX, w1.left, en1, q1, fun e2 ρ2 q2 HF2 H2 A2 v2 Av2 f2 w2 en2 r2 => ?_, fun _ _ z => z.elim⟩
    obtain ⟨w2B, f2B, k2B⟩ := join wA1 (fun p hp => by rw [k1B p hp]; exact tB p hp) f2 w2
    have wA2 : WR HF2 H2 (A2 ++ B) := w2B.sub (by rw [← List.append_assoc]; exact List.sublist_append_left _ _)
    have fA2 : Fr H H2 HF HF2 (A ++ B) (A2 ++ B) := fA1.trans (f2B.mono (fun _ h => h) fun p hp => .inl (by rw [← List.append_assoc]; exact List.mem_append_left _ hp))
    have rB2 : RepO X.K HF2 H2 ov v B := RepO.keep f2.same ov rB1 k2B
    obtain ⟨sg, wg, fg⟩ := grow_ok (wA2.perm List.perm_append_comm)
    have rg : Rep X.K (grow HF2 H2 B) (frz ov) v := RepO.frz sg ov rB2 fun p hp => grow_in hp
    have fg' : Fr H H2 HF (grow HF2 H2 B) (A ++ B) A2 := fA2.trans (fg.mono (fun p hp => (List.mem_append.mp hp).elim (fun z => List.mem_append_right _ z) (fun z => List.mem_append_left _ z)) fun p hp => .inl hp)
    dsimp only at q2
    split at q2
    · rename_i j
      split at q2
      · rename_i xs e
        split at q2
        · rename_i kk e3
          obtain ⟨n, hn, q⟩ := q2
          cases (show v2 = .int kk from Vw.ev w2.same en2 r2 e3)
          obtain ⟨a, s1, ro, upd1⟩ := slot_one en2 e trivial
          have hv := r1.2
          rw [s1] at hv
          obtain rfl := Option.some.inj (Option.some.inj hv)
          obtain ⟨a', us, ee, _, hH, rs⟩ := ro
          cases ee
          obtain ⟨A', w', f', en'⟩ := upd1 (grow HF2 H2 B) (.lst (us.set n v)) (.ls (xs.set n (frz ov))) sg wg ⟨a, _, rfl, rfl, upd_same, Reps.set rg n (Reps.mono sg xs rs)⟩
          exact .inl ⟨a, us, kk, n, rfl, rfl, hH, by rw [rs.length]; exact hn, k _ q _ _ σ A' .refl (fg'.trans f') w' en'⟩
        · exact q2.elim
      · rename_i kvs e
        split at q2
        · rename_i d e3
          split at q2
          · rename_i key ek
            obtain ⟨hl, q⟩ := q2
            obtain rfl := keyD_ok ek (Vw.ev w2.same en2 r2 e3)
            obtain ⟨a, s1, ro, upd1⟩ := slot_one en2 e trivial
            have hv := r1.2
            rw [s1] at hv
            obtain rfl := Option.some.inj (Option.some.inj hv)
            obtain ⟨a', us, ee, _, hH, rs⟩ := ro
            cases ee
            obtain ⟨A', w', f', en'⟩ := upd1 (grow HF2 H2 B) (.dK (putK us key v)) (.dc (putDk kvs key (frz ov))) sg wg ⟨a, _, rfl, rfl, upd_same, RepKs.put rg (RepKs.mono sg kvs rs)⟩
            exact .inr ⟨a, _, rfl, DPut.k hH (by rw [rs.length]; exact hl), k _ q _ _ σ A' .refl (fg'.trans f') w' en'⟩
          · exact q2.elim
        · exact q2.elim
      · exact q2.elim
    · exact q2.elim
end
end AE
/-! AE13: comparisons as tests; stars; globals; fields. -/
namespace AE
open PySem L2
theorem room64 {k : Nat} {A : Around} (r : Room k A) : A.units + 64 < cLine := r.units
theorem room65 {k : Nat} {A : Around} (r : Room k A) : A.units + 65 < cLine := by have := r.un; omega
theorem takesF {X : Cx} : L2N.Takes X WF := fun _ _ ⟨_, _, _, _, _, _, _, _, _, _, _, _, _, _, _, _, w⟩ => w.elim
/-- a comparison by values, and what it does with data -/
structure CR (X : Cx) (op : CmpOp) (f : Env → List EV → KD → Prop) : Prop where
  ex : ∃ r, OpR X (compareOp op) r ∧ Prim X.K (r2L r) f
section
variable {X : Cx} {W : WX} {a b c : Expr} {ta tb tc : TD} {pos : Pos} {op op' : CmpOp} {f f' : Env → List EV → KD → Prop}
theorem ae_c (h : CR X op f) (ha : AE X W a ta) (hb : AE X W b tb) (hm : behindInMarks op b = false := by first | exact nobehind _ (by decide) (by decide) | rfl) : AE X W (.Compare a [op] [b] pos) (t2 f ta tb) := let ⟨_, ho, hp⟩ := h.ex; ae_cmp ho hp ha hb hm
theorem at_c (h : CR X op f) (ha : AE X W a ta) (hb : AE X W b tb) (hm : behindInMarks op b = false := by first | exact nobehind _ (by decide) (by decide) | rfl) : AT X W (.Compare a [op] [b] pos) (tVal (t2 f ta tb)) := by
  obtain ⟨r, ho, hp⟩ := h.ex
  refine PT.imp (pt_cmpR ho ha hb hm) fun σ H Q q => ?_
  obtain ⟨HF, ρ, A, Kd, Ed, w, en, t, k, x⟩ := q
  refine two hp σ H _ ⟨HF, ρ, A, _, Ed, w, en, t, fun e1 ρ1 q1 HF1 H1 A1 v1 Av1 f1 w1 en1 r1 => ?_, x⟩
  dsimp only at q1
  split at q1
  · rename_i b e2
    have r2 : Vw X.K HF1 H1 (.bl b) v1 := Vw.ev w1.same en1 r1 e2
    exact ⟨b, r2, k b ρ1 q1 HF1 H1 A1 (f1.mono (fun _ hp => hp) fun p hp => .inl (List.mem_append_left _ hp)) w1.left en1⟩
  · exact q1.elim
theorem c_lt : CR X .Lt (p2 (gI0 fun i j => .bl (decide (i < j)))) := ⟨_, op_lt, prim2 (do2_int0 fun _ _ _ _ => rfl)⟩
theorem c_le : CR X .LtE (p2 (gI0 fun i j => .bl (decide (i ≤ j)))) := ⟨_, op_le, prim2 (do2_int0 fun _ _ _ _ => rfl)⟩
theorem c_gt : CR X .Gt (p2 (gI0 fun i j => .bl (decide (j < i)))) := ⟨_, op_gt, prim2 (do2_int0 fun _ _ _ _ => rfl)⟩
theorem c_ge : CR X .GtE (p2 (gI0 fun i j => .bl (decide (j ≤ i)))) := ⟨_, op_ge, prim2 (do2_int0 fun _ _ _ _ => rfl)⟩
theorem do_eq {K : PySem.W.Frag} : Do2 K (fun x y H Q => rEq x y H Q ∨ rEqD K x y H Q) gEq := fun HF H v v' d d' P Q s r r' g k => by
  rcases g with ⟨h | ⟨h1, h2⟩, q⟩
  · obtain ⟨e1, e2⟩ := scal_dec h r r'
    exact .inl ⟨e1, by rw [e2]; exact k _ _ _ _ _ q (New.imm s rfl)⟩
  · exact .inr ⟨_, _, Rep.dp d h1.1 (r.rep s), Rep.dp d' h2.1 (r'.rep s), h1.shaped, h2.shaped, by rw [eqv_toPy d d' h1.1 h2.1]; exact k _ _ _ _ _ q (New.imm s rfl)⟩
theorem do_ne {K : PySem.W.Frag} : Do2 K (fun x y H Q => rNe x y H Q ∨ rNeD K x y H Q) gNe := fun HF H v v' d d' P Q s r r' g k => by
  rcases g with ⟨h | ⟨h1, h2⟩, q⟩
  · obtain ⟨e1, e2⟩ := scal_dec h r r'
    exact .inl ⟨e1, by rw [e2]; exact k _ _ _ _ _ q (New.imm s rfl)⟩
  · exact .inr ⟨_, _, Rep.dp d h1.1 (r.rep s), Rep.dp d' h2.1 (r'.rep s), h1.shaped, h2.shaped, by rw [eqv_toPy d d' h1.1 h2.1]; exact k _ _ _ _ _ q (New.imm s rfl)⟩
theorem c_eq (hu : X.A.units + 64 < cLine) : CR X .Eq (p2 gEq) := ⟨_, OpR.or op_eq (op_eqD hu), prim2 do_eq⟩
theorem c_ne (hu : X.A.units + 64 < cLine) : CR X .NotEq (p2 gNe) := ⟨_, OpR.or op_ne (op_neD hu), prim2 do_ne⟩
theorem c_in (hu : X.A.units + 65 < cLine) : CR X .In (p2 (gIn false)) := ⟨_, op_inU hu, prim2 (do_in false)⟩
theorem c_notin (hu : X.A.units + 65 < cLine) : CR X .NotIn (p2 (gIn true)) := ⟨_, op_notInU hu, prim2 (do_in true)⟩
theorem do_is {K : PySem.W.Frag} : Do2 K (fun x y H Q => y = V.non ∧ Q (.bl (decide (x = .non))) H) (gIsN false) := fun HF H v v' d d' P Q s r r' g k => by
  unfold gIsN at g
  split at g
  · cases (show v' = .non from r')
    exact ⟨rfl, by rw [non_dec r]; exact k _ _ _ _ _ g (New.imm s rfl)⟩
  · exact g.elim
theorem do_isnot {K : PySem.W.Frag} : Do2 K (fun x y H Q => y = V.non ∧ Q (.bl (!decide (x = .non))) H) (gIsN true) := fun HF H v v' d d' P Q s r r' g k => by
  unfold gIsN at g
  split at g
  · cases (show v' = .non from r')
    exact ⟨rfl, by rw [non_dec r]; exact k _ _ _ _ _ g (New.imm s rfl)⟩
  · exact g.elim
theorem c_is : CR X .Is (p2 (gIsN false)) := ⟨_, op_isN, prim2 do_is⟩
theorem c_isnot : CR X .IsNot (p2 (gIsN true)) := ⟨_, op_notN, prim2 do_isnot⟩

/-! ### stars -/
def tStarD (t : TD) (ts : TDs) : TDs := fun ρ Kd Ed => t ρ (fun e ρ1 => match dOf ρ1 e with
  | some (.lst xs) => ts ρ1 (fun es ρ2 => Kd (xs.map (fun d => EV.ow (.fz d)) ++ es) ρ2) Ed
  | some (.tup xs) => ts ρ1 (fun es ρ2 => Kd (xs.map (fun d => EV.ow (.fz d)) ++ es) ρ2) Ed
  | _ => False) Ed
theorem evrs_of {K : PySem.W.Frag} {HF H : Hp} {σ : St} : ∀ {ds : List D} {vs : List V}, Reps K HF ds vs → EVRs K HF H σ (ds.map fun d => EV.ow (.fz d)) vs []
  | [], vs, h => ⟨h, rfl⟩
  | d :: ds, vs, h => by obtain ⟨v, ws, rfl, r, t⟩ := h; exact ⟨v, ws, [], [], rfl, rfl, ⟨rfl, r⟩, evrs_of t⟩
theorem EVRs.append {K : PySem.W.Frag} {HF H : Hp} {σ : St} : ∀ {es es' : List EV} {vs vs' : List V} {A A' : List Addr}, EVRs K HF H σ es vs A → EVRs K HF H σ es' vs' A' → EVRs K HF H σ (es ++ es') (vs ++ vs') (A ++ A')
  | [], es', vs, vs', A, A', h, q => by obtain ⟨rfl, rfl⟩ := h; exact q
  | e :: es, es', vs, vs', A, A', h, q => by
    obtain ⟨v, ws, A1, A2, rfl, rfl, r, t⟩ := h
    exact ⟨v, ws ++ vs', A1, A2 ++ A', rfl, by rw [List.append_assoc], r, EVRs.append t q⟩
theorem aa_star {e : Expr} {es : List Expr} {t : TD} {ts : TDs} {p : Pos} (he : AE X W e t) (hr : AA X W es ts) (hs : starEach (.Starred e p :: es) X.env = (true, eval e X.env) :: starEach es X.env := by rfl) : AA X W (.Starred e p :: es) (tStarD t ts) := PA.imp (StX.pa_star he hr hs) fun σ H Q q => by
  obtain ⟨HF, ρ, A, Kd, Ed, w, en, t, k, x⟩ := q
  refine ⟨HF, ρ, A, _, Ed, w, en, t, fun e1 ρ1 q1 HF1 H1 A1 v1 Av1 f1 w1 en1 r1 => ?_, x⟩
  have x1 : XOk X.K σ H1 HF1 A1 Ed W := (x.step f1).step (Fr.drop fun p hp => List.mem_append_left _ hp)
  have fd : Fr H H1 HF HF1 A A1 := f1.mono (fun _ h => h) fun p hp => .inl (List.mem_append_left _ hp)
  dsimp only at q1
  split at q1
  · rename_i xs e
    obtain ⟨p, vs, rfl, h1, rs⟩ := Vw.ev w1.same en1 r1 e
    refine ⟨p, vs, rfl, .inr (SqL.of h1), HF1, ρ1, A1, _, Ed, w1.left, en1, q1, fun es2 ρ2 q2 HF2 H2 A2 vs2 Av2 f2 w2 en2 r2 => ?_, x1⟩
    exact (k.step fd) _ ρ2 q2 HF2 H2 A2 (vs ++ vs2) Av2 f2 w2 en2 (by simpa using (evrs_of (Reps.mono f2.same xs rs)).append r2)
  · rename_i xs e
    obtain ⟨p, vs, rfl, h1, rs⟩ := Vw.ev w1.same en1 r1 e
    refine ⟨p, vs, rfl, .inl (SqT.of (w1.same _ _ h1)), HF1, ρ1, A1, _, Ed, w1.left, en1, q1, fun es2 ρ2 q2 HF2 H2 A2 vs2 Av2 f2 w2 en2 r2 => ?_, x1⟩
    exact (k.step fd) _ ρ2 q2 HF2 H2 A2 (vs ++ vs2) Av2 f2 w2 en2 (by simpa using (evrs_of (Reps.mono f2.same xs rs)).append r2)
  · exact q1.elim

/-! ### globals -/
/-- a module's constant -/
def GlobD (K : PySem.W.Frag) (mg : Str → Option Value) (x : Str) (d : D) : Prop := ∃ u v, mg x = some u ∧ RelV v u ∧ ∀ H, Rep K H d v
theorem ae_glob {x : Str} {d : D} (h : GlobD X.K X.mg x d) (hg : Gl X x) (hd : (x == ("__debug__" : Str)) = false := by decide) : AE X W (.Name x pos) (tK d) := by
  obtain ⟨u, v, hm, rv, r⟩ := h
  refine PE.imp (pe_glob hg hm rv hd) fun σ H Q q => ?_
  obtain ⟨HF, ρ, A, Kd, Ed, w, en, t, k, x⟩ := q
  exact k _ _ t HF H A v [] (by rw [List.append_nil]; exact Fr.refl) (by rw [List.append_nil]; exact w) en ⟨rfl, r _⟩

/-! ### fields -/
structure FldOk (K : PySem.W.Frag) (C : Addr) (f : Str) : Prop where
  cl : Cls K C
  no : NoAttr K C f
def tFldD (K : PySem.W.Frag) (f : Str) (ta : TD) : TD := fun ρ Kd Ed => ta ρ (fun e ρ1 => match deref ρ1 e with
  | some (.fz (.ins C fs)) => FldOk K C f ∧ ∃ d, fs.lookup f = some d ∧ Kd (.ow (.fz d)) ρ1
  | some (.ob C fs) => FldOk K C f ∧ ∃ d, fs.lookup f = some (.fz d) ∧ Kd (.ow (.fz d)) ρ1
  | _ => False) Ed
theorem RepFs.look {K : PySem.W.Frag} {HF : Hp} {f : Str} {d : D} : ∀ {fs : List (Str × D)} {vs : List (Str × V)}, RepFs K HF fs vs → fs.lookup f = some d → ∃ v, vs.lookup f = some v ∧ Rep K HF d v
  | [], vs, h, e => by cases e
  | (g, d') :: fs, vs, h, e => by
    obtain ⟨⟨g2, v⟩, ws, rfl, ⟨hk, r⟩, t⟩ := h
    have hk : g2 = g := hk
    subst hk
    by_cases hg : f == g2
    · simp only [List.lookup_cons, hg] at e ⊢
      cases e
      exact ⟨v, rfl, r⟩
    · simp only [List.lookup_cons, hg] at e ⊢
      exact RepFs.look t e
theorem RepOFs.look {K : PySem.W.Frag} {HF H : Hp} {f : Str} {o : O} : ∀ {fs : List (Str × O)} {vs : List (Str × V)} {A : List Addr}, RepOFs K HF H fs vs A → fs.lookup f = some o → ∃ v B, vs.lookup f = some v ∧ RepO K HF H o v B
  | [], vs, A, h, e => by cases e
  | (g, d') :: fs, vs, A, h, e => by
    obtain ⟨⟨g2, v⟩, ws, A1, A2, rfl, rfl, ⟨hk, r⟩, t⟩ := h
    have hk : g2 = g := hk
    subst hk
    by_cases hg : f == g2
    · simp only [List.lookup_cons, hg] at e ⊢
      cases e
      exact ⟨v, A1, rfl, r⟩
    · simp only [List.lookup_cons, hg] at e ⊢
      exact RepOFs.look t e
theorem deref_ok {K : PySem.W.Frag} {HF H : Hp} {ρ : Env} {σ : St} {A Av : List Addr} {ev : EV} {v : V} {o : O} (en : EnvR K HF H ρ σ A) (r : EVR K HF H σ ev v Av) (h : deref ρ ev = some o) : ∃ B, RepO K HF H o v B := by
  cases ev with
  | ow o' => cases h; exact ⟨Av, r⟩
  | pt i =>
    have h : (match ρ[i]? with | some (some o) => some o | _ => none : Option O) = some o := h
    cases e' : ρ[i]? with
    | none => rw [e'] at h; cases h
    | some oo =>
      cases oo with
      | none => rw [e'] at h; cases h
      | some o' =>
        rw [e'] at h
        cases h
        obtain ⟨v', B, C, h1, h2, _⟩ := en.get e'
        have : v = v' := by
          have q := r.2
          rw [h1] at q
          exact (Option.some.inj (Option.some.inj q)).symm
        subst this
        exact ⟨B, h2⟩
theorem ae_fld {f : Str} (ha : AE X W a ta) (hb : attributeBase a f X.env (eval a X.env) = eval a X.env := by rfl) : AE X W (.Attribute a f pos) (tFldD X.K f ta) := PE.imp (pe_fld ha hb) fun σ H Q q => by
  obtain ⟨HF, ρ, A, Kd, Ed, w, en, t, k, x⟩ := q
  refine ⟨HF, ρ, A, _, Ed, w, en, t, fun e1 ρ1 q1 HF1 H1 A1 v1 Av1 f1 w1 en1 r1 => ?_, x⟩
  have fin : ∀ {d : D} {v : V}, Kd (.ow (.fz d)) ρ1 → Rep X.K HF1 d v → Q v H1 := fun {d v} q r => k _ ρ1 q HF1 H1 A1 v [] (by rw [List.append_nil]; exact f1.mono (fun _ h => h) fun p hp => .inl (List.mem_append_left _ hp)) (by rw [List.append_nil]; exact w1.left) en1 ⟨rfl, r⟩
  dsimp only at q1
  split at q1
  · rename_i C fs e
    obtain ⟨fo, d, hd, q⟩ := q1
    obtain ⟨B, _, a', dx, vs, rfl, hH, rs⟩ := deref_ok en1 r1 e
    obtain ⟨v, hv, rv⟩ := rs.look hd
    exact ⟨a', C, dx, vs, v, rfl, w1.same _ _ hH, fo.cl, fo.no, hv, fin q rv⟩
  · rename_i C fs e
    obtain ⟨fo, d, hd, q⟩ := q1
    obtain ⟨B, a', dx, vs, B', rfl, _, hH, rs⟩ := deref_ok en1 r1 e
    obtain ⟨v, B2, hv, rv⟩ := rs.look hd
    exact ⟨a', C, dx, vs, v, rfl, hH, fo.cl, fo.no, hv, fin q rv.2⟩
  · exact q1.elim
end
end AE
/-! AE14: own exceptions raised: without attributes, with one attribute. -/
namespace AE
open PySem L2
/-- an own exception class without an __init__ of its own -/
structure XPlain (K : PySem.W.Frag) (mg : Str → Option Value) (x : Str) (C : Addr) : Prop where
  mgC : mg x = some (.ref C)
  exc : PySem.W.excIn K C PySem.HandSPX.veTail "ValueError.__new__" = true
  keep : PySem.W.keepIn K (.ref C) = true
  sub : PySem.W.subIn K (.ref C) (.type "BaseException") = some true
  typ : PySem.W.typeIn K (.ref C) = some (.type "type")
section
variable {X : Cx} {W : WX} {P : Prot} {x : Str} {C : Addr} {p pos pos2 : Pos}
theorem pmk0 (h : XPlain X.K X.mg x C) (hg : Gl X x) (hdb : (x == ("__debug__" : Str)) = false := by decide) : L2N.PMk X (.Call (.Name x p) [] [] pos) (fun _ H Q => Q (.ref C) none H) := by
  intro pins s σ H Q I q
  refine wpAny_Call_Name_kw (ld_glob I hg h.mgC ?_ hdb)
  refine PySem.W.callWith_K0 I.kIn h.keep ?_
  show wpAny _ _ (call (.ref C) []) _ _ _
  obtain ⟨bm, N, nm, qn, bs, hdct, sn, sub, ab, col, dd, k0, k1, k2, k3, k5, mN, hC, hN, hni, T⟩ := exc_obj I.kIn h.exc
  refine wpAny_call_exc_subT PySem.F.excBase_ValueError T hC hN hni (fun h' e hm => ?_) (by show 0 ≤ sizeLine; exact Nat.zero_le _)
  exact L2N.mk_of I hm (raises_own h.sub h.typ) q (I.hok.gone hm.new)
def tRaise0 (C : Addr) : TSD := fun _ Ed ρ => Ed ⟨.ref C, []⟩ ρ
theorem as_raise0 (hc : X.calm = true) (tk : L2N.Takes X W) (h : XPlain X.K X.mg x C) (hg : Gl X x) (hdb : (x == ("__debug__" : Str)) = false := by decide) : AS X W P (.Raise (some (.Call (.Name x p) [] [] pos)) none pos2) (tRaise0 C) := PS.imp (L2N.ps_raise hc tk (pmk0 h hg hdb)) fun D σ H q => by
  obtain ⟨HF, ρ, A, E, Ed, w, en, t, k, x⟩ := q
  exact x _ ρ t HF H σ A _ none .refl .refl w en ⟨rfl, rfl⟩
end

/-! ### with one attribute: def __init__(self, f): self.f = f -/
def spXI (C : Addr) (f : Str) : Sp := fun vs H Q _ => ∃ a v, vs = [.ref a, v] ∧ H a = some (exo a C none) ∧ ∀ dx, H dx = none → dx ≠ a → Q .non (upd (upd H dx (exd dx [(f, v)])) a (exo a C (some dx)))
/-- an own exception class whose __init__ stores its one argument -/
structure XOne (P : Program) (w : World) (K : PySem.W.Frag) (mg : Str → Option Value) (base : Heap) (x : Str) (C : Addr) (f pn : Str) : Prop where
  mgC : mg x = some (.ref C)
  oex : OexC K C
  ex : ∃ fI fd, PySem.W.findIn K (.ref C) "__init__" = some (some (.ref fI)) ∧ PySem.W.typeIn K (.ref fI) = some (.type "function") ∧ Binds K fd ["self", pn] [] ∧ FnOk P w K mg base (L2N.CX P w) 1 fI fd ["self", pn] (spXI C f)
section
variable {X : Cx} {x : Str} {C : Addr} {e : Expr} {es : List Expr} {ta : TA} {p pos : Pos}
theorem pmk_oexN {CX : CXT} {fI : Addr} {k : Nat} {fd : FuncData} {ps : List Str} {sp : Sp} {ds : List Value} {dvs : List V} (T : OexC X.K C) (iC : PySem.W.findIn X.K (.ref C) "__init__" = some (some (.ref fI))) (tI : PySem.W.typeIn X.K (.ref fI) = some (.type "function"))
    (F1 : FnOk X.prog X.w X.K X.mg X.base CX k fI fd ps sp) (hr : Room (k + 1) X.A) (hb : Binds X.K fd ps ds) (hd : Vals dvs ds) (hx : Passes CX X (fun _ _ _ => False)) (hg : Gl X x) (hm : X.mg x = some (.ref C)) (ha : PA X (e :: es) ta)
    (hdb : (x == ("__debug__" : Str)) = false := by decide) (he : starEach (e :: es) X.env = (false, eval e X.env) :: starEach es X.env := by rfl) (hpl : (backTo pos (starEach es X.env)).any (·.1) = false := by rfl) :
    L2N.PMk X (.Call (.Name x p) (e :: es) [] pos) (tMkO C sp dvs ta) := by
  intro pins s σ H Q I h
  obtain ⟨nm, q, N, bs, bm, sn, sub, ab, col, dd, k0, k1, k2, k3, k5, hC, hbm⟩ := T.cls
  refine wpAny_Call_Name_kw (ld_glob I hg hm ?_ hdb)
  refine PySem.W.callWith_K (h₀ := X.base) I.ok.mod.kin T.kC (thn (ha.run pos pins s σ H _ I h) fun us s1 ⟨vs, H1, I1, r1, hz, q1⟩ => ⟨I1.kIn, ?_⟩) he hpl
  show wpAny _ _ (call (.ref C) us) _ _ _
  obtain ⟨hp, g, dr, tk, os⟩ := s1
  have hsz : hp.objs.size ≤ hp.objs.size + 1 := Nat.le_succ _
  have hn : H1 (hp.objs.size + 1) = none := I1.hok.fresh hsz
  have hq := q1 (hp.objs.size + 1) hn
  have kk : ∀ b o, hp.get? b = some o → ((hp.push (PySem.W.kdv_tup us)).push (PySem.HandSPX.excO C hp.objs.size)).get? b = some o := fun b o e => Heap.get?_push_of_some _ (Heap.get?_push_of_some _ e)
  have hget : ((hp.push (PySem.W.kdv_tup us)).push (PySem.HandSPX.excO C hp.objs.size)).get? (hp.objs.size + 1) = some (PySem.HandSPX.excO C hp.objs.size) := by heap_get
  have I2 : Inv X pins σ (upd H1 (hp.objs.size + 1) (exo (hp.objs.size + 1) C none)) ⟨(hp.push (PySem.W.kdv_tup us)).push (PySem.HandSPX.excO C hp.objs.size), g, dr, tk, os⟩ :=
    I1.laid (t' := tk) (a := hp.objs.size + 1) (o := exo (hp.objs.size + 1) C none) (h' := (hp.push (PySem.W.kdv_tup us)).push (PySem.HandSPX.excO C hp.objs.size)) kk hsz (exo_ok hget)
  have r2 : Vals (V.ref (hp.objs.size + 1) :: (vs ++ dvs)) (Value.ref (hp.objs.size + 1) :: (us ++ ds)) := .cons rfl (r1.append hd)
  have hl : (Value.ref (hp.objs.size + 1) :: us ++ ds).length = ps.length := by
    have e := r2.length
    rw [F1.len _ _ _ _ hq] at e
    exact e.symm
  have hus : us.length ≤ sizeLine := by
    rw [← Paired.length r1, sizeLine_eq]
    omega
  refine wpAny_call (PySem.HandSPX.call_own PySem.F.excBase_ValueError (fun Y => PySem.HandSPX.refsVE_contains Y bm hbm) (I1.kIn _ _ hC) (PySem.W.looks_findIn I1.kIn iC) (fun self => PySem.W.bind_fn I1.kIn self tI) hus
    (codeAny_mono (F1.run _ X.stack _ _ ⟨Value.ref (hp.objs.size + 1) :: us, []⟩ (Value.ref (hp.objs.size + 1) :: (us ++ ds)) _ _ (fun _ _ _ => False) (hr.make C us []) (I2.env0.make C us []) (hb _ (Value.ref (hp.objs.size + 1) :: us) I2.kIn hl) r2 hq) fun r s' hq' => ?_))
  cases r with
  | error er => exact hx pins σ _ _ er s' I2 hq'
  | ok fl =>
    cases fl with
    | ret u =>
      obtain ⟨v, H2, os2, bare2, un2, hok2, rv, ev, d, fs, ea, ed, hd1, q2⟩ := hq'
      subst ev
      obtain ⟨h2, g2, d2, t2, os'⟩ := s'
      refine ⟨rv, ?_⟩
      obtain ⟨t0, G, J, kG, ge, hoe, na⟩ := mk_end0 (d2 := d2) (t2 := t2) I1 hsz kk un2 hok2 os2 bare2 ea ed hd1
      exact ⟨_, _, _, ⟨G, g2, d2, t2, os'⟩, _, .ref C, some d, rfl, J, kG, ge, hoe, ⟨rfl, rfl, fun vs e => by cases e; rfl⟩, rfl, rfl, na, rfl, bare2, raises_own T.exC T.tyC, q2⟩
    | next => exact False.elim hq'
    | brk => exact False.elim hq'
    | cont => exact False.elim hq'
end
section
variable {X : Cx} {W : WX} {P : Prot} {x : Str} {C : Addr} {f pn : Str} {e : Expr} {te : TD} {p pos pos2 : Pos} {k : Nat}
theorem passE0N {X : Cx} : Passes (L2N.CX X.prog X.w) X (fun _ _ _ => False) := fun _ _ _ _ _ _ _ h => by
  obtain ⟨_, _, _, _, _, _, _, _, _, _, _, _, z⟩ := h
  exact z.elim
def tRaise1 (C : Addr) (f : Str) (te : TD) : TSD := fun _ Ed ρ => te ρ (fun ev ρ1 => match ev with
  | .ow o => Ed ⟨.ref C, [(f, frz o)]⟩ ρ1
  | .pt _ => False) Ed
theorem as_raise1 (hc : X.calm = true) (tk : L2N.Takes X W) (h : XOne X.prog X.w X.K X.mg X.base x C f pn) (hr : Room (k + 2) X.A) (hg : Gl X x) (he : AE X W e te) (hs : starEach [e] X.env = (false, eval e X.env) :: starEach [] X.env := by rfl) (hdb : (x == ("__debug__" : Str)) = false := by decide) :
    AS X W P (.Raise (some (.Call (.Name x p) [e] [] pos)) none pos2) (tRaise1 C f te) := by
  obtain ⟨fI, fd, iC, tI, hb, F1⟩ := h.ex
  refine PS.imp (L2N.ps_raise hc tk (pmk_oexN h.oex iC tI F1 (hr.mono (by omega)) hb .nil passE0N hg h.mgC (pa_cons he pa_nil hs) hdb hs rfl)) fun D σ H q => ?_
  obtain ⟨HF, ρ, A, E, Ed, w, en, t, k, x⟩ := q
  refine ⟨HF, ρ, A, _, Ed, w, en, t, fun ev ρ1 q1 HF1 H1 A1 v Av f1 w1 en1 r1 => ?_, x.x⟩
  cases ev with
  | pt j => exact q1.elim
  | ow o =>
    refine ⟨by show 1 ≤ 1000; omega, fun a ha => ⟨a, v, rfl, upd_same, fun dx hdx hne => ⟨rfl, dx, [(f, v)], upd_same, ?_, ?_, ?_⟩⟩⟩
    · rw [upd_ne hne, upd_same]
    · rw [upd_ne hne] at hdx; exact hdx
    · have hdx1 : H1 dx = none := by rw [upd_ne hne] at hdx; exact hdx
      obtain ⟨sg, wg, fg⟩ := grow_ok (w1.perm List.perm_append_comm)
      have rg : Rep X.K (grow HF1 H1 Av) (frz o) v := RepO.frz sg o r1 fun p hp => grow_in hp
      have eH : upd (del (upd (upd (upd H1 a (exo a C none)) dx (exd dx [(f, v)])) a (exo a C (some dx))) a) dx (.xd [(f, v)]) = upd H1 dx (.xd [(f, v)]) := by
        funext b
        by_cases hb1 : b = dx
        · subst hb1; rw [upd_same, upd_same]
        · rw [upd_ne hb1, upd_ne hb1]
          by_cases hb2 : b = a
          · subst hb2; rw [del_same, ha]
          · rw [del_ne hb2, upd_ne hb2, upd_ne hb1, upd_ne hb2]
      rw [eH]
      have n := New.pure (K := X.K) (HF := grow HF1 H1 Av) (H := H1) (d := .cl dx) (p := dx) (u := .xd [(f, v)]) wg.same hdx1 rfl
      obtain ⟨k1, k2, k3⟩ := n.fr.frame (EnvR.there _ en1) (fun _ _ h => by cases h)
      have s2 : Same (grow HF1 H1 Av) (upd (grow HF1 H1 Av) dx (.xd [(f, v)])) := n.fr.same
      have ff : Fr H (upd H1 dx (.xd [(f, v)])) HF (upd (grow HF1 H1 Av) dx (.xd [(f, v)])) A A1 := (f1.trans (fg.mono (fun p hp => (List.mem_append.mp hp).elim (fun z => List.mem_append_right _ z) (fun z => List.mem_append_left _ z)) fun p hp => .inl hp)).trans (n.fr.mono (fun _ h => by cases h) fun p hp => .inr hp)
      refine x _ ρ1 q1 (upd (grow HF1 H1 Av) dx (.xd [(f, v)])) _ σ A1 (.ref C) (some dx) .refl ff ⟨n.wr.same, wg.nodup, fun a ha => k2 a ha (wg.out a ha)⟩ (EnvR.keep (sg.trans s2) _ en1 k1) ⟨rfl, [(f, v)], upd_same, (f, v), [], rfl, ⟨rfl, Rep.mono s2 _ rg⟩, rfl⟩
/-- the __init__ itself -/
theorem ok_xinit {P : Program} {w : World} {K : PySem.W.Frag} {mg : Str → Option Value} {base : Heap} {C fI : Addr} {fd : FuncData} {qual f pn : Str} {st : Stmt} {p1 p2 p3 p4 : Pos} (Fn : L2.Fun K "__init__" qual st fI fd) (S : FnScope ["self", pn] ["self", pn] (defScope st))
    (hb : defBody st = [.Assign [.Attribute (.Name "self" p1) f p2] (.Name pn p3) p4]) (hp : (pn == ("__debug__" : Str)) = false) (hp' : (pn == ("__classdict__" : Str)) = false) (T : OexC K C) (no : PySem.W.findIn K (.ref C) f = some none)
    (v0 : Vis (defScope st) "self") (v1 : Vis (defScope st) pn) : FnOk P w K mg base (L2N.CX P w) 1 fI fd ["self", pn] (spXI C f) := by
  obtain ⟨oc, od, kV, doc, pm, an, cdv, ct, osl, rfl, lk, hcd⟩ := Fn.ex
  refine fn_of (k := 0) lk hcd S (fun vs H Q E h => ?_) (fun A outer s H vs Q E hr h => ?_)
  · obtain ⟨a, v, rfl, _⟩ := h
    rfl
  · obtain ⟨a, v, rfl, hH, k⟩ := h
    rw [hb]
    refine ⟨_, pss_one (ps_ost (pe_var (i := 0) rfl v0 (by decide) (by decide)) (pe_var (i := 1) rfl v1 hp hp') rfl), ?_⟩
    exact ⟨v, rfl, .ref a, rfl, a, C, rfl, T, no, .inl ⟨hH, fun dx h1 h2 => k dx h1 h2⟩⟩
end
end AE
/-! AE15: try with several clauses «except C as n». -/
namespace AE
open PySem L2
/-- a clause: the class it names, the slot of its name, what its suite reads -/
structure Cl where
  c : Value
  i : Nat
  ts : Addr → Value → Option Addr → TS
/-- a suite's ends: its name is gone -/
def endsAt (i : Nat) (D : Ends) : Ends := { nx := fun σ H => D.nx (σ.set i none) H, rt := D.rt, bk := fun σ H => D.bk (σ.set i none) H, ct := fun σ H => D.ct (σ.set i none) H }
/-- what the clauses wish of an exception, one after the other -/
def wCls (K : PySem.W.Frag) (Wo : WX) (D : Ends) : List Cl → WX
  | [] => Wo
  | k :: r => fun cls d σ H => ∃ b, PySem.W.exmOne K cls k.c = some b ∧ (b = true → ∀ a, H a = none → k.ts a cls d (endsAt k.i D) (σ.set k.i (some (.ref a))) H) ∧ (b = false → wCls K Wo D r cls d σ H)
inductive ClOk (X : Cx) : List ExceptHandler → List Cl → Prop
  | nil : ClOk X [] []
  | cons {x n : Str} {k : Cl} {b₀ : Stmt} {su : List Stmt} {np pos : Pos} {hs : List ExceptHandler} {l : List Cl} (hx : Names X x k.c) (hi : X.N[k.i]? = some n) (hl : X.env.kindOf n = some .local)
      (hsu : ∀ (a : Addr) (oe : Obj) (cls : Value) (d : Option Addr) (pn : List (Addr × Obj)), L2N.Zn cls d oe → (∃ vs, oe.data = .fields vs) → PSs (X.suite a ((a, oe) :: pn)) (b₀ :: su) (k.ts a cls d)) (r : ClOk X hs l) :
      ClOk X (.ExceptHandler (some (.Name x np)) (some n) (b₀ :: su) pos :: hs) (k :: l)
/-- an exception of ours on its way: where it came from, how it lies now -/
structure Fly (X : Cx) (pins : List (Addr × Obj)) (σ : St) (H : Hp) (a : Addr) (cls : Value) (d : Option Addr) (B : Heap) (s0 s : Shared) : Prop where
  inv : Inv X pins σ H s0
  nb : ∀ b o, s0.heap.get? b = some o → b ∉ frs X.stack → B.get? b = some o
  up : s0.heap.UpToSlots s.heap
  fly : HandSPX.FlyingZ B (X.env :: X.outer) a (L2N.Zn cls d) s.heap
  na : H a = none
  os : s.os = s0.os
  ag : PyProof.Rows.AllBare s.gens
section
variable {X : Cx} {pins : List (Addr × Obj)} {σ : St} {H : Hp} {a : Addr} {cls : Value} {d : Option Addr} {B : Heap} {s0 s : Shared}
theorem Fly.now (F : Fly X pins σ H a cls d B s0 s) : Inv X pins σ H s := F.inv.landed F.nb F.fly.1 F.up F.os F.ag
theorem Fly.out (F : Fly X pins σ H a cls d B s0 s) (hf : X.env.frame = some X.env.locals) : a ≠ X.env.locals ∧ a ∉ X.fs := by
  obtain ⟨oe, vs, he, _, hd⟩ := F.fly.there
  have no : a ∉ frs (X.env :: X.outer) := fun z => by
    obtain ⟨_, o2, e2, nn⟩ := F.fly.2.2.1.mem z
    rw [he] at e2
    cases e2
    exact nn _ hd
  constructor
  · intro z
    apply no
    unfold frs
    rw [List.filterMap_cons, hf, z]
    exact List.mem_cons_self
  · intro z
    apply no
    have z : a ∈ frs X.outer := z
    unfold frs at z ⊢
    rw [List.filterMap_cons, hf]
    exact List.mem_cons_of_mem _ z
/-- no clause is left: it flies on -/
theorem Fly.on (F : Fly X pins σ H a cls d B s0 s) (hs : X.stack = X.env :: X.outer) (hf : X.env.frame = some X.env.locals) {Wo : WX} (tk : L2N.Takes X Wo) (D : Ends) (w : Wo cls d σ H) : wpAny (model X.prog X.w) X.A (handleBy (.ref a) X.env []) (SP X pins D) X.xe s := by
  apply wpAny_handleBy_nil
  have fl := F.fly
  obtain ⟨_, _, _, oe, vs, T, _, _, he, _, hd, h1, _⟩ := fl
  unfold PySem.passOn
  apply wpAny_bind
  apply wpAny_field he hd h1
  rw [if_neg (by simp : ¬ ((Value.ref T == Value.none) = true))]
  have go : wpAny (model X.prog X.w) X.A (setFlight (.ref a) X.env.frame) (fun _ s' => wpAny (model X.prog X.w) X.A (throw (.ref a) : Sem Flow) (SP X pins D) X.xe s') X.xe s := by
    rw [hf]
    apply HandSPX.setFlight_upZ F.fly
    intro h' fl' up'
    apply wpAny_throw
    apply tk
    exact ⟨a, B, s0, pins, σ, H, cls, d, rfl, F.inv, F.nb, F.up.trans up', Or.inr (Or.inr (hs ▸ fl')), F.na, F.os, F.ag, w⟩
  first
    | exact wpAny_bind (wpAny_pure (wpAny_bind go))
    | exact wpAny_bind go
/-- the clauses, one after the other -/
theorem Fly.caught (hs : X.stack = X.env :: X.outer) (hf : X.env.frame = some X.env.locals) (hN : X.N.Nodup) {Wo : WX} (tk : L2N.Takes X Wo) (D : Ends) : ∀ {hds : List ExceptHandler} {l : List Cl}, ClOk X hds l → ∀ {s : Shared}, Fly X pins σ H a cls d B s0 s → wCls X.K Wo D l cls d σ H →
    wpAny (model X.prog X.w) X.A (handleBy (.ref a) X.env hds) (SP X pins D) X.xe s := by
  intro hds l ok
  induction ok with
  | nil => intro s F w; exact F.on hs hf tk D w
  | @cons x n k b₀ su np pos hs' l' hx hi hl hsu r ih =>
    intro s F w
    obtain ⟨b, hb, yes, no⟩ := w
    obtain ⟨nL, nF⟩ := F.out hf
    obtain ⟨oe, vs, he, hz, hd⟩ := F.fly.there
    have S := F.now.suite he hd F.na nL nF
    apply wpAny_handleBy_cons _ (by intro q; cases q)
    apply codeAny_handlers_test
    have ty : PySem.W.Looks (model X.prog X.w) s.heap (typeOf (.ref a)) cls := by
      intro A' Q' E' s' kp q'
      exact wpAny_typeOf_ref (kp _ _ he) (by rw [hz.1]; exact q')
    have look := PySem.W.exm_one (M := model X.prog X.w) F.now.kIn ty hb
    have name : ∀ {Q : Value → Shared → Prop} {E : Value → Shared → Prop}, Q k.c s → wpAny (model X.prog X.w) (X.A.mark (some (.ref a))) (eval (.Name x np) X.env) Q E s := by
      intro Q E q
      obtain ⟨g1, g2, g3⟩ := hx
      cases g3 with
      | inl m => exact ld_glob (X := X.suite a ((a, oe) :: (X.pn ++ pins))) S g1 m q g2
      | inr m => exact ld_blt (X := X.suite a ((a, oe) :: (X.pn ++ pins))) S g1 m.1 m.2.1 q m.2.2 g2
    apply name
    apply look.here
    cases b with
    | false => exact ih F (no rfl)
    | true =>
      apply codeAny_handlers_suite_as
      apply HandSPX.lands_againZ F.fly
      intro h4 fl4 up4
      have F4 : Fly X pins σ H a cls d B s0 { s with heap := h4 } := ⟨F.inv, F.nb, F.up.trans up4, fl4, F.na, F.os, F.ag⟩
      obtain ⟨oe4, vs4, he4, hz4, hd4⟩ := F4.fly.there
      have S4 := F4.now.suite he4 hd4 F.na nL nF
      apply store_ok (X := X.suite a ((a, oe4) :: (X.pn ++ pins))) (v := .ref a) S4 hN hi (.inl hl) rfl _ (.inr hl)
      intro s5 S5
      have body := (hsu a oe4 cls d (X.pn ++ pins) hz4 ⟨_, hd4⟩).run [] s5 _ H _ S5 (yes rfl a F.na)
      apply wpAny_mono body _ (fun _ _ z => z.elim)
      intro fl s6 sp
      have gone : ∀ {σ6 : St} {H6 : Hp} {Q : Shared → Prop}, Inv (X.suite a ((a, oe4) :: (X.pn ++ pins))) [] σ6 H6 s6 → (∀ s7, Inv X pins (σ6.set k.i none) H6 s7 → Q s7) → wpAny (model X.prog X.w) X.A (do bindName X.env n .none; unbindBehindTheSuite X.env n pos) (fun _ s7 => Q s7) X.xe s6 := by
        intro σ6 H6 Q S6 q
        exact gone_ok (S6.unsuite F.inv.ok) hN hi hl q
      cases fl with
      | next => obtain ⟨σ6, H6, S6, q6⟩ := sp; exact gone S6 fun s7 J => ⟨_, _, J, q6⟩
      | brk => obtain ⟨σ6, H6, S6, q6⟩ := sp; exact gone S6 fun s7 J => ⟨_, _, J, q6⟩
      | cont => obtain ⟨σ6, H6, S6, q6⟩ := sp; exact gone S6 fun s7 J => ⟨_, _, J, q6⟩
      | ret u => obtain ⟨v6, σ6, H6, S6, r6, q6⟩ := sp; exact gone S6 fun s7 J => ⟨_, _, _, J, r6, q6⟩
end
theorem ps_tryCls {X : Cx} {body : List Stmt} {h₀ : ExceptHandler} {hds : List ExceptHandler} {l : List Cl} {pos : Pos} {tb : WX → TS} {Wo : WX} (hs : X.stack = X.env :: X.outer) (hf : X.env.frame = some X.env.locals) (hN : X.N.Nodup) (tk : L2N.Takes X Wo)
    (hb : ∀ (W : WX) (pn : List (Addr × Obj)) (xe : Value → Shared → Prop), L2N.Takes (X.tr pn xe) W → PassesOwn (model X.prog X.w) X.A X.env xe → PSs (X.tr pn xe) body (tb W))
    (ok : ClOk X (h₀ :: hds) l) : PS X (.Try body (h₀ :: hds) [] [] pos) (fun D σ H => tb (wCls X.K Wo D l) D σ H) := by
  constructor
  intro pins s σ H D I t
  have kk := I.ok
  have fr : X.A.frames = some (X.env :: X.outer) := kk.frames.trans (congrArg some hs)
  apply wpAny_Try_except
  apply wpAny_mono ((hb (wCls X.K Wo D l) (X.pn ++ pins) _ _ PassesOwn.looking).run [] s σ H D (I.toTry _) t)
  · intro f s1 sp
    cases f with
    | next => obtain ⟨σ', H', J, q⟩ := sp; exact wpAny_execs_nil ⟨σ', H', J.ofTry kk, q⟩
    | brk => obtain ⟨σ', H', J, q⟩ := sp; exact ⟨σ', H', J.ofTry kk, q⟩
    | cont => obtain ⟨σ', H', J, q⟩ := sp; exact ⟨σ', H', J.ofTry kk, q⟩
    | ret u => obtain ⟨v, σ', H', J, r, q⟩ := sp; exact ⟨v, σ', H', J.ofTry kk, r, q⟩
  · intro e s1 z
    exact z
  · intro u s' xx
    obtain ⟨a, B, sI, pins', σ', H', cls, d, rfl, J, nb, up, sky, na, os, ag, w⟩ := xx
    show wpAny (model X.prog X.w) X.A (noteFrame (.ref a) X.env) _ _ _
    apply L2N.Sky.land L2N.Zn.steady fr hf (hs ▸ sky)
    intro h3 fl3 up3
    exact Fly.caught hs hf hN tk D ok (s := { s' with heap := h3 }) ⟨J.ofTry kk, nb, up.trans up3, fl3, na, os, ag⟩ w
end AE
/-! AE16: try over trees. -/
namespace AE
open PySem L2
/-- a clause over trees -/
structure ClD where
  c : Value
  i : Nat
  ts : Addr → Value → Option Addr → TSD
def dropAt (i : Nat) (N : Env → Prop) : Env → Prop := fun ρ => N (ρ.set i none)
def endsD (i : Nat) (E : EndsD) : EndsD := { nx := dropAt i E.nx, rt := E.rt, bk := dropAt i E.bk, ct := dropAt i E.ct }
/-- what the clauses do with an exception -/
def wClD (K : PySem.W.Frag) (E : EndsD) (Ed : XC) : List ClD → XC
  | [] => Ed
  | k :: r => fun x ρ => ∃ b, PySem.W.exmOne K x.cls k.c = some b ∧ (b = true → k.i < ρ.length ∧ ∀ a d, k.ts a x.cls d (endsD k.i E) NoX (ρ.set k.i (some (.fz (.exc a x.cls d x.fs))))) ∧ (b = false → wClD K E Ed r x ρ)
def tTryD (K : PySem.W.Frag) (tb : TSD) (l : List ClD) : TSD := fun E Ed ρ => tb E (wClD K E Ed l) ρ
def toCl (K : PySem.W.Frag) (P : Prot) (k : ClD) : Cl := ⟨k.c, k.i, fun a cls d => tS K WF P (k.ts a cls d)⟩
inductive AcOk (X : Cx) (P : Prot) : List ExceptHandler → List ClD → Prop
  | nil : AcOk X P [] []
  | cons {x n : Str} {k : ClD} {b₀ : Stmt} {su : List Stmt} {np pos : Pos} {hs : List ExceptHandler} {l : List ClD} (hx : Names X x k.c) (hi : X.N[k.i]? = some n) (hl : X.env.kindOf n = some .local) (hp : P k.i = false)
      (hsu : ∀ (a : Addr) (oe : Obj) (cls : Value) (d : Option Addr) (pn : List (Addr × Obj)), L2N.Zn cls d oe → (∃ vs, oe.data = .fields vs) → ASs (X.suite a ((a, oe) :: pn)) WF P (b₀ :: su) (k.ts a cls d)) (r : AcOk X P hs l) :
      AcOk X P (.ExceptHandler (some (.Name x np)) (some n) (b₀ :: su) pos :: hs) (k :: l)
section
variable {X : Cx} {W : WX} {P : Prot}
theorem AcOk.cl : ∀ {hs : List ExceptHandler} {l : List ClD}, AcOk X P hs l → ClOk X hs (l.map (toCl X.K P)) ∧ ∀ k ∈ l, P k.i = false
  | _, _, .nil => ⟨.nil, fun _ h => by cases h⟩
  | _, _, .cons hx hi hl hp hsu r => ⟨.cons hx hi hl hsu (AcOk.cl r).1, fun k hk => (List.mem_cons.mp hk).elim (fun e => e ▸ hp) ((AcOk.cl r).2 k)⟩
theorem pr_set {P : Prot} {σ σ' : St} {i : Nat} {x : Option V} (h : Pr P σ σ') (hp : P i = false) : Pr P σ (σ'.set i x) := by
  refine ⟨by rw [List.length_set]; exact h.1, fun j hj => ?_⟩
  rw [List.getElem?_set_ne (fun e => by rw [e, hj] at hp; cases hp)]
  exact h.2 j hj
/-- an emptied slot -/
theorem EnvR.gone {K : PySem.W.Frag} {HF H : Hp} {ρ : Env} {σ : St} {A : List Addr} {i : Nat} (en : EnvR K HF H ρ σ A) : ∃ C, C.Sublist A ∧ EnvR K HF H (ρ.set i none) (σ.set i none) C := by
  obtain ⟨C, hs, e1⟩ := en.forget (i := i)
  by_cases hi : i < ρ.length
  · exact ⟨C, hs, EnvR.anyS e1 (by rw [List.getElem?_set_self hi])⟩
  · have h1 : ρ.set i none = ρ := List.set_eq_of_length_le (by omega)
    have h2 : σ.set i none = σ := List.set_eq_of_length_le (by rw [en.length]; omega)
    exact ⟨A, .refl _, by rw [h1, h2]; exact en⟩
theorem drop_ok {K : PySem.W.Frag} {σ : St} {H HF : Hp} {A : List Addr} {N : Env → Prop} {Q : St → Hp → Prop} {i : Nat} (k : NOk K P σ H HF A N Q) (hp : P i = false) : NOk K P σ H HF A (dropAt i N) (fun σ' H' => Q (σ'.set i none) H') := fun ρ n HF' H' σ' A' p f w en => by
  obtain ⟨C, hs, e1⟩ := en.gone (i := i)
  exact k _ n HF' H' _ C (pr_set p hp) (f.mono (fun _ h => h) fun p hp => .inl (hs.subset hp)) (w.sub hs) e1
theorem cls_ok {K : PySem.W.Frag} {D : Ends} {E : EndsD} {Ed : XC} {Wo : WX} {σ : St} {H HF : Hp} {A : List Addr} (k : SOk K P σ H HF A E D) (x : XSOk K P σ H HF A Ed Wo) : ∀ {l : List ClD}, (∀ c ∈ l, P c.i = false) → XSOk K P σ H HF A (wClD K E Ed l) (wCls K Wo D (l.map (toCl K P)))
  | [], _ => x
  | c :: l, hP => fun xd ρ w HF' H' σ' A' cls d p f wr en r => by
    obtain ⟨b, hb, yes, no⟩ := w
    obtain ⟨e1, e2⟩ := id r
    have hp : P c.i = false := hP c (by simp)
    refine ⟨b, by rw [← e1]; exact hb, fun hb1 a na => ?_, fun hb1 => cls_ok k x (fun c' hc => hP c' (List.mem_cons_of_mem _ hc)) xd ρ (no hb1) HF' H' σ' A' cls d p f wr en r⟩
    obtain ⟨hl, ys⟩ := yes hb1
    have rx : Rep K HF' (.exc a xd.cls d xd.fs) (.ref a) := by
      refine ⟨rfl, ?_⟩
      cases d with
      | none => exact .inl ⟨rfl, e2⟩
      | some q => obtain ⟨fvs, h1, h2⟩ := e2; exact .inr ⟨q, fvs, rfl, h1, h2⟩
    obtain ⟨A2, w2, f2, en2⟩ := EnvR.store (B := []) (o := .fz (.exc a xd.cls d xd.fs)) (v := .ref a) (by rw [List.append_nil]; exact wr) en ⟨rfl, rx⟩ hl
    have p2 : Pr P σ (σ'.set c.i (some (.ref a))) := pr_set p hp
    have ff : Fr H H' HF HF' A A2 := f.mono (fun _ h => h) fun p hp => .inl (by simpa using f2 p hp)
    refine ⟨HF', _, A2, endsD c.i E, NoX, w2, en2, by rw [← e1]; exact ys a d, ⟨drop_ok (k.nx.step p2 ff) hp, k.rt.step p2 ff, drop_ok (k.bk.step p2 ff) hp, drop_ok (k.ct.step p2 ff) hp⟩, fun _ _ z => z.elim⟩
theorem as_try {body : List Stmt} {h₀ : ExceptHandler} {hds : List ExceptHandler} {l : List ClD} {pos : Pos} {tb : TSD} (hs : X.stack = X.env :: X.outer) (hf : X.env.frame = some X.env.locals) (hN : X.N.Nodup) (tk : L2N.Takes X W)
    (hb : ∀ (W' : WX) (pn : List (Addr × Obj)) (xe : Value → Shared → Prop), L2N.Takes (X.tr pn xe) W' → PassesOwn (model X.prog X.w) X.A X.env xe → ASs (X.tr pn xe) W' P body tb) (ok : AcOk X P (h₀ :: hds) l) : AS X W P (.Try body (h₀ :: hds) [] [] pos) (tTryD X.K tb l) := by
  obtain ⟨cl, hP⟩ := ok.cl
  refine PS.imp (ps_tryCls (tb := fun W' => tS X.K W' P tb) hs hf hN tk hb cl) fun D σ H q => ?_
  obtain ⟨HF, ρ, A, E, Ed, w, en, t, k, x⟩ := q
  exact ⟨HF, ρ, A, E, _, w, en, t, k, cls_ok k x hP⟩
/-! ### n.f in a suite -/
structure XfD (K : PySem.W.Frag) (C : Addr) (f : Str) : Prop where
  xf : XfC K C
  no : PySem.W.findIn K (.ref C) f = some none
def tXfD (K : PySem.W.Frag) (a : Addr) (cls : Value) (d : Option Addr) (C : Addr) (f : Str) (te : TD) : TD := fun ρ Kd Ed => te ρ (fun e ρ1 => match dOf ρ1 e with
  | some (.exc a' _ d' fs) => a' = a ∧ cls = .ref C ∧ d' = d ∧ ∃ v, fs.lookup f = some v ∧ Kd (.ow (.fz v)) ρ1
  | _ => False) Ed
theorem ae_xf {a C : Addr} {oe : Obj} {cls : Value} {d : Option Addr} {pn : List (Addr × Obj)} {e : Expr} {te : TD} {pos : Pos} {f : Str} {W' : WX} (T : XfD X.K C f) (hz : L2N.Zn cls d oe) (hf : ∃ vs, oe.data = .fields vs) (he : AE (X.suite a ((a, oe) :: pn)) W' e te)
    (hb : attributeBase e f X.env (eval e X.env) = eval e X.env := by rfl) : AE (X.suite a ((a, oe) :: pn)) W' (.Attribute e f pos) (tXfD X.K a cls d C f te) := PE.imp (pe_xf T.xf T.no hz.zc hf he hb) fun σ H Q q => by
  obtain ⟨HF, ρ, A, Kd, Ed, w, en, t, k, x⟩ := q
  refine ⟨HF, ρ, A, _, Ed, w, en, t, fun e1 ρ1 q1 HF1 H1 A1 v1 Av1 f1 w1 en1 r1 => ?_, x⟩
  dsimp only at q1
  split at q1
  · rename_i a' cls' d' fs e2
    obtain ⟨rfl, ec, rfl, v, hv, q⟩ := q1
    obtain ⟨rfl, rx⟩ := Vw.ev w1.same en1 r1 e2
    rcases rx with ⟨rfl, rfl⟩ | ⟨p, fvs, rfl, hp, rs⟩
    · cases hv
    · obtain ⟨u, hu, ru⟩ := rs.look hv
      exact ⟨rfl, ec, p, fvs, u, rfl, w1.same _ _ hp, hu, k _ ρ1 q HF1 H1 A1 u [] (by rw [List.append_nil]; exact f1.mono (fun _ h => h) fun p hp => .inl (List.mem_append_left _ hp)) (by rw [List.append_nil]; exact w1.left) en1 ⟨rfl, ru⟩⟩
  · exact q1.elim
end
end AE
/-! AE17: own classes: made, their methods called, self.f = e. -/
namespace AE
open PySem L2
/-- a new instance, its __init__ run; what is raised goes to the caller's slots -/
theorem make_at {X : Cx} {CX : CXT} {k : Nat} {C f : Addr} {fd : FuncData} {ps : List Str} {sp : Sp} {E : XK} {pins : List (Addr × Obj)} {σ : St} {H : Hp} {s : Shared} {Q : VK} {us : List Value} {vs : List V} (M : Mk X.K C f) (F : FnOk X.prog X.w X.K X.mg X.base CX k f fd ps sp) (hr : Room (k + 1) X.A)
    (hb : Binds X.K fd ps []) (hx : PassesAt CX X σ E) (I : Inv X pins σ H s) (r : Vals vs us)
    (h : ∀ x dx, H x = none → H dx = none → dx ≠ x → sp (.ref x :: vs) (upd (upd H dx (.own x)) x (.ins C dx [])) (fun v H2 => v = .non ∧ Q (.ref x) H2) E) : wpAny (model X.prog X.w) X.A (call (.ref C) us) (EP X pins σ Q) X.xe s := by
  have J := Inv.made (C := C) I
  have new := h (s.heap.objs.size + 1) s.heap.objs.size (I.hok.fresh (Nat.le_succ _)) (I.hok.fresh (Nat.le_refl _)) (Nat.ne_of_lt (Nat.lt_succ_self _))
  have rr : Vals (V.ref (s.heap.objs.size + 1) :: vs) (Value.ref (s.heap.objs.size + 1) :: us) := .cons rfl r
  have ln : (Value.ref (s.heap.objs.size + 1) :: us).length = ps.length := rr.length.symm.trans (F.len _ _ _ _ new)
  have bd := hb _ (Value.ref (s.heap.objs.size + 1) :: us) J.kIn (by rw [List.append_nil]; exact ln)
  rw [List.append_nil] at bd
  apply wpAny_call
  apply make_map (f := f) I.kIn M.makes M.init (beq_iff_eq.mp M.fn)
  apply codeAny_mono (F.run _ X.stack _ _ _ _ _ _ E (hr.make C us []) (J.env0.make C us []) bd rr new)
  intro res s' q
  cases res with
  | error e => exact hx pins _ _ e s' J q
  | ok fl =>
    cases fl with
    | ret u =>
      obtain ⟨v, H', J', rv, ev, q'⟩ := J.after q
      subst ev
      exact ⟨rv, .ref (s.heap.objs.size + 1), H', J', rfl, q'⟩
    | next => exact q.elim
    | brk => exact q.elim
    | cont => exact q.elim
/-- a class by its module's name, and what its __init__ does -/
structure Mak (P : Program) (w : World) (K : PySem.W.Frag) (mg : Str → Option Value) (base : Heap) (lv : Nat) (x : Str) (C : Addr) (ps : List Str) (F : AFn) : Prop where
  mgC : mg x = some (.ref C)
  ex : ∃ f fd, Mk K C f ∧ Binds K fd ps [] ∧ FnOk P w K mg base (L2N.CX P w) lv f fd ps (spA K ps.length F)
  len : ∀ os Kd Ed, F os Kd Ed → os.length = ps.length
def tMakeA (C : Addr) (F : AFn) (ts : TDs) : TD := fun ρ Kd Ed => ts ρ (fun es ρ1 => match takeD ρ1 es with
  | some (os, ρ2) => F (.ob C [] :: os) (fun r ρx => match r, ρx with
    | .fz .non, some o :: ρy => Kd (.ow o) (backD ρ2 es ρy)
    | _, _ => False) (fun x ρx => Ed x (backD ρ2 es ρx.tail))
  | none => False) Ed
theorem ros_cons {o : O} {os : List O} : ros (o :: os) = some o :: ros os := rfl
theorem svs_cons {v : V} {vs : List V} : svs (v :: vs) = some v :: svs vs := rfl
section
variable {X : Cx} {W : WX} {lv : Nat} {x : Str} {C : Addr} {ps : List Str} {F : AFn} {p pos : Pos} {e : Expr} {es : List Expr} {ts : TDs}
theorem ae_make (M : Mak X.prog X.w X.K X.mg X.base lv x C ps F) (hr : Room (lv + 1) X.A) (tk : L2N.Takes X W) (hg : Gl X x) (ha : AA X W (e :: es) ts) (hdb : (x == ("__debug__" : Str)) = false := by decide)
    (he : starEach (e :: es) X.env = (false, eval e X.env) :: starEach es X.env := by rfl) (hpl : (backTo pos (starEach es X.env)).any (·.1) = false := by rfl) : AE X W (.Call (.Name x p) (e :: es) [] pos) (tMakeA C F ts) := by
  obtain ⟨f, fd, mk, hb, G⟩ := M.ex
  constructor
  intro pins s σ H Q I q
  obtain ⟨HF, ρ, A, Kd, Ed, w, en, t, k, x⟩ := q
  apply wpAny_Call_Name_kw
  apply ld_glob I hg M.mgC _ hdb
  refine PySem.W.callWith_K (h₀ := X.base) I.ok.mod.kin mk.kp ?_ he hpl
  refine thn (ha.run pos pins s σ H (fun vs H1 => ∀ x dx, H1 x = none → H1 dx = none → dx ≠ x → spA X.K ps.length F (.ref x :: vs) (upd (upd H1 dx (.own x)) x (.ins C dx [])) (fun v H2 => v = .non ∧ Q (.ref x) H2) (WE W σ)) I ⟨HF, ρ, A, _, Ed, w, en, t, fun es1 ρ1 q1 HF1 H1 A1 vs Av f1 w1 en1 r1 => ?_, x⟩) fun us s1 ⟨vs, H1, I1, r, q1⟩ => ⟨I1.kIn, make_at mk G hr hb (L2N.passAt tk σ) I1 r q1⟩
  intro y dy hy hdy hne
  dsimp only at q1
  split at q1
  · rename_i os ρ2 e1
    obtain ⟨A2, B, pm, en2, ex⟩ := takeD_ok en1 r1 e1
    have w2 := w1.perm pm
    -- the heap with the new instance
    have s1 : Same H1 (upd (upd H1 dy (.own y)) y (.ins C dy [])) := (Same.new hdy).trans (Same.new (by rw [upd_ne (Ne.symm hne)]; exact hy))
    have kp : ∀ p o, H1 p = some o → upd (upd H1 dy (.own y)) y (.ins C dy []) p = some o := fun p o e => s1 p o e
    have tB := EnvR.there _ ex
    have tA2 := EnvR.there _ en2
    have ny : y ∉ A2 ++ B := fun z => by
      rcases List.mem_append.mp z with z | z
      · obtain ⟨o, ho⟩ := tA2 y z; rw [hy] at ho; cases ho
      · obtain ⟨o, ho⟩ := tB y z; rw [hy] at ho; cases ho
    have wB : WR HF1 (upd (upd H1 dy (.own y)) y (.ins C dy [])) (y :: B) := ⟨w2.same.trans s1, List.nodup_cons.mpr ⟨fun z => ny (List.mem_append_right _ z), w2.right.nodup⟩, fun a ha => (List.mem_cons.mp ha).elim (fun z => by rw [z]; exact w2.same.free hy) (w2.right.out a)⟩
    have ex' : EnvR X.K HF1 (upd (upd H1 dy (.own y)) y (.ins C dy [])) (ros (.ob C [] :: os)) (svs (.ref y :: vs)) (y :: B) := ⟨.ref y, svs vs, [y], B, rfl, rfl, ⟨y, dy, [], [], rfl, rfl, upd_same, rfl, rfl⟩, EnvR.keep (.refl _) _ ex fun p hp => by obtain ⟨o, ho⟩ := tB p hp; rw [kp p o ho, ho]⟩
    have base : Fr H1 (upd (upd H1 dy (.own y)) y (.ins C dy [])) HF1 HF1 (A1 ++ Av) (A2 ++ (y :: B)) := ⟨.refl _, fun p o e _ => kp p o e, fun _ _ _ _ h => h, fun p hp => by
      rcases List.mem_append.mp hp with z | z
      · exact .inl (pm.mem_iff.mpr (List.mem_append_left _ z))
      · rcases List.mem_cons.mp z with z | z
        · rw [z]; exact .inr hy
        · exact .inl (pm.mem_iff.mpr (List.mem_append_right _ z))⟩
    have back : ∀ {HF' H' : Hp} {A' : List Addr}, Fr (upd (upd H1 dy (.own y)) y (.ins C dy [])) H' HF1 HF' (y :: B) A' → (∀ p ∈ A2, H' p = H1 p) ∧ (∀ p ∈ A2, HF' p = none) ∧ (∀ p ∈ A2, p ∉ A') := fun {HF' H' A'} f => by
      have tt : ∀ p ∈ A2, ∃ o, upd (upd H1 dy (.own y)) y (.ins C dy []) p = some o := fun p hp => by obtain ⟨o, ho⟩ := tA2 p hp; exact ⟨o, kp p o ho⟩
      obtain ⟨k1, k2, k3⟩ := f.frame tt fun p hp z => (List.mem_cons.mp z).elim (fun z => ny (List.mem_append_left _ (z ▸ hp))) (w2.disj p hp)
      refine ⟨fun p hp => ?_, fun p hp => k2 p hp (w2.left.out p hp), k3⟩
      obtain ⟨o, ho⟩ := tA2 p hp
      rw [k1 p hp, kp p o ho, ho]
    refine ⟨HF1, .ob C [] :: os, y :: B, _, _, ?_, wB, ex', q1, fun o ρx q HF' H' A' v Av' f w' en' ro => ?_, fun xd ρx q HF' H' A' cls d f w' en' rx => ?_⟩
    · have := ex'.length
      simp [ros, svs] at this
      have l2 := M.len _ _ _ q1
      simp at l2 ⊢
      omega
    · split at q
      · rename_i o1 ρy
        obtain ⟨v1, r1', B1, B2, e3, rfl, ro1, en4⟩ := en'
        have e3 : some (V.ref y) :: svs vs = some v1 :: r1' := e3
        injection e3 with e4 e5
        injection e4 with e4
        subst e4 e5
        obtain ⟨rfl, rfl⟩ := ro
        rw [List.append_nil] at f w'
        refine ⟨rfl, ?_⟩
        obtain ⟨k1, k2, k3⟩ := back f
        obtain ⟨C2, R, pm2, en5⟩ := backD_ok (es := es1) (EnvR.keep f.same _ en2 k1) en4 r1.pts
        have big : WR HF' H' (A2 ++ (B1 ++ B2)) := ⟨w'.same, List.nodup_append.mpr ⟨w2.left.nodup, w'.nodup, fun a ha b hb e => k3 a ha (e ▸ hb)⟩, fun a ha => (List.mem_append.mp ha).elim (k2 a) (w'.out a)⟩
        have pm3 : (A2 ++ (B1 ++ B2)).Perm ((C2 ++ B1) ++ R) := (List.perm_append_comm_assoc A2 B1 B2).trans ((List.Perm.append_left B1 pm2).trans (by rw [← List.append_assoc]; exact List.Perm.append_right R List.perm_append_comm))
        refine (k.step f1) _ _ q HF' H' C2 (.ref y) B1 ?_ ((big.perm pm3).left) en5 ro1
        refine base.trans (f.mono (fun p hp => List.mem_append_right _ hp) fun p hp => ?_)
        rcases List.mem_append.mp (pm3.mem_iff.mpr (List.mem_append_left _ hp)) with z | z
        · exact .inr (List.mem_append_left _ z)
        · exact .inl z
      · exact q.elim
    · obtain ⟨k1, k2, k3⟩ := back f
      have hx' : ∃ B2, B2.Sublist A' ∧ EnvR X.K HF' H' ρx.tail (svs vs) B2 := by
        cases ρx with
        | nil => obtain ⟨e3, _⟩ := en'; cases e3
        | cons o1 ρy =>
          cases o1 with
          | none =>
            obtain ⟨s', r', e3, t'⟩ := en'
            have e3 : some (V.ref y) :: svs vs = s' :: r' := e3
            injection e3 with e4 e5
            subst e5
            exact ⟨A', .refl _, t'⟩
          | some o1 =>
            obtain ⟨v1, r', B1, B2, e3, rfl, ro1, t'⟩ := en'
            have e3 : some (V.ref y) :: svs vs = some v1 :: r' := e3
            injection e3 with e4 e5
            subst e5
            exact ⟨B2, List.sublist_append_right _ _, t'⟩
      obtain ⟨B2, sub2, en4⟩ := hx'
      obtain ⟨C2, R, pm2, en5⟩ := backD_ok (es := es1) (EnvR.keep f.same _ en2 k1) en4 r1.pts
      have big : WR HF' H' (A2 ++ B2) := ⟨w'.same, List.nodup_append.mpr ⟨w2.left.nodup, w'.nodup.sublist sub2, fun a ha b hb e => k3 a ha (e ▸ sub2.subset hb)⟩, fun a ha => (List.mem_append.mp ha).elim (k2 a) fun z => w'.out a (sub2.subset z)⟩
      refine (x.step f1) xd _ q HF' H' C2 cls d ?_ ((big.perm pm2).left) en5 rx
      refine base.trans (f.mono (fun p hp => List.mem_append_right _ hp) fun p hp => ?_)
      rcases List.mem_append.mp (pm2.mem_iff.mpr (List.mem_append_left _ hp)) with z | z
      · exact .inr (List.mem_append_left _ z)
      · exact .inl (sub2.subset z)
  · exact q1.elim
end
end AE
/-! AE18: own exceptions made with keywords. -/
namespace AE
open PySem PySem.Spec PySem.Calls PyProof.Rows PySem.W PySem.HandSPX
/-- what stands in the heap for an own exception class over ValueError -/
structure XCls (h : Heap) (C : Addr) : Prop where
  ex : ∃ (nm q : Str) (N : Addr) (bs bm : List Value) (hd : Bool) (sn : List Str) (sub : List Value) (ab : Bool) (col : Option Bool) (dd : Option Addr) (k0 k1 k2 k3 k5 : Option Value),
    h.get? C = some (excClassObj nm q C N bs bm hd sn sub ab col dd k0 k1 k2 k3 k5 "ValueError.__new__") ∧ refsVE bm = true
section
variable {prog : Program} {w : World} {A : Around} {E : Value → Shared → Prop} {h : Heap} {g : Array GenState} {d : Drawn} {t : Nat} {os : OsState} {C : Addr} {kw : List (Str × Value)}
abbrev VEF := PySem.F.excBase_ValueError
theorem xk_new_ok {Q : Unit → Shared → Prop} (hx : XCls h C) (hq : Q () ⟨h, g, d, t, os⟩) : wpAny (model prog w) A (checkBuiltinCall "ValueError.__new__" ⟨[.ref C], kw⟩) Q E ⟨h, g, d, t, os⟩ := by
  obtain ⟨nm, q, N, bs, bm, hd, sn, sub, ab, col, dd, k0, k1, k2, k3, k5, hC, hb⟩ := hx.ex
  have sb : (Value.ref C :: bm).contains (.type "ValueError") = true := by
    rw [List.contains_cons, refsVE_contains "ValueError" bm hb, show veTail.contains (Value.type "ValueError") = true by decide +kernel, Bool.or_true]
  have ns := VEF.noStar
  simp only [checkBuiltinCall, VEF.newKind, VEF.newSplit, VEF.newRow]
  repeat (first
    | refine wpAny_loadPart_at hC ?_
    | (refine wpAny_isSubtype_exc hC ?_; rw [sb])
    | refine wpAny_staticBase_exc hC ?_
    | refine wpAny_madeBy_exc hC ?_
    | simp only [bne_self_eq_false, Bool.false_eq_true, if_false]
    | wp_step)
  exact hq
/-- the object that BaseException.__new__ lays: an empty tuple, then the exception -/
abbrev xkHeap (h : Heap) (C : Addr) : Heap := (h.push (kdv_tup [])).push (excO C h.objs.size)
theorem xk_made {R : Result → Shared → Prop} (hx : XCls h C) (hq : R (.ok (.ret (.ref (h.objs.size + 1)))) ⟨xkHeap h C, g, d, t, os⟩) : codeAny (model prog w) A (.builtin "ValueError.__new__" ⟨[.ref C], kw⟩) R ⟨h, g, d, t, os⟩ := by
  obtain ⟨nm, q, N, bs, bm, hd, sn, sub, ab, col, dd, k0, k1, k2, k3, k5, hC, hb⟩ := hx.ex
  have has : ∀ T : String, (Value.ref C :: bm).contains (.type T) = veTail.contains (.type T) := fun T => by
    rw [List.contains_cons, refsVE_contains T bm hb]
    rfl
  have en := VEF.ends
  have s1 := (has "ValueError").trans (by decide +kernel : veTail.contains (Value.type "ValueError") = true)
  have s2 := (has "AttributeError").trans (by decide +kernel : veTail.contains (Value.type "AttributeError") = false)
  have s3 := (has "NameError").trans (by decide +kernel : veTail.contains (Value.type "NameError") = false)
  apply codeAny_builtinAt VEF.entry
  unfold Builtin.«BaseException.__new__»
  apply PySem.wpAt_bind
  show PySem.wpAt _ _ _ (stack >>= _) _ _ _
  apply PySem.wpAt_bind
  apply PySem.wpAt_stack
  intro p below
  apply PySem.wpAt_of_wpAny
  wp_walk
  apply PySem.wpAt_of_wpAny
  rw [VEF.owner]
  repeat (first
    | with_reducible refine wpAny_madeHere_exc VEF.canon hC ?_
    | with_reducible refine wpAny_loadPart_at hC ?_
    | (with_reducible refine wpAny_isSubtype_exc hC ?_; first | rw [s1] | rw [s2] | rw [s3])
    | wp_step)
  show R _ _
  rw [Heap.size_push]
  exact hq
theorem xk_type {fI : Addr} {Q : Fin → Shared → Prop} (hx : XCls h C) (hi : Looks (model prog w) h (typeLookup (.ref C) "__init__") (some (.ref fI))) (hb : ∀ self, Looks (model prog w) h (bindSpecial (.ref fI) self) (.ref fI, [self]))
    (hq : codeAny (model prog w) A (.call (.ref fI) ⟨[.ref (h.objs.size + 1)], kw⟩) (fun r s' => match r with
      | .ok (.ret v) => v = .none ∧ Q (.done (.ret (.ref (h.objs.size + 1)))) s'
      | .ok _ => False
      | .error e => E e s') ⟨xkHeap h C, g, d, t, os⟩) : wpAny (model prog w) A (Builtin.«type.__call__» ⟨[.ref C], kw⟩) Q E ⟨h, g, d, t, os⟩ := by
  obtain ⟨nm, q, N, bs, bm, hd, sn, sub, ab, col, dd, k0, k1, k2, k3, k5, hC, hm⟩ := id hx.ex
  repeat (first
    | with_reducible refine wpAny_loadPart_at hC ?_
    | with_reducible refine wpAny_madeBy_exc hC ?_
    | wp_step)
  refine codeAny_call_builtin_code (Code.quiet_builtin _ VEF.quiet) (xk_new_ok hx (xk_made hx ?_))
  show wpAny _ _ _ _ _ _
  have kp : ∀ b o, h.get? b = some o → (xkHeap h C).get? b = some o := fun b o z => Heap.get?_push_of_some _ (Heap.get?_push_of_some _ z)
  have me : (xkHeap h C).get? (h.objs.size + 1) = some (excO C h.objs.size) := by heap_get
  have self : (Value.ref C :: bm).contains (.ref C) = true := by simp
  have hC' := kp _ _ hC
  unfold isInstance
  repeat (first
    | with_reducible refine wpAny_loadPart_at me ?_
    | (with_reducible refine wpAny_isSubtype_exc hC' ?_; rw [self])
    | wp_step)
  show wpAny _ _ (typeLookup (.ref C) _) _ _ _
  refine (hi.keeps kp).at (wpAny_holding (wpAny_bind (((hb _).keeps kp).at (wpAny_bind (wpAny_call (codeAny_mono hq ?_))))))
  intro r s' z
  match r, z with
  | .error e, z => exact z
  | .ok (.ret v), ⟨e, z⟩ =>
    subst e
    first
      | exact wpAny_pure (wpAny_pure z)
      | (wp_walk; exact z)
/-- C(k = v, ..) of an own exception class with an own __init__ -/
theorem xk_call {R : Result → Shared → Prop} {fI : Addr} (hx : XCls h C) (hi : Looks (model prog w) h (typeLookup (.ref C) "__init__") (some (.ref fI))) (hb : ∀ self, Looks (model prog w) h (bindSpecial (.ref fI) self) (.ref fI, [self]))
    (hq : codeAny (model prog w) (A.under (.builtin "type.__call__" ⟨[.ref C], kw⟩)) (.call (.ref fI) ⟨[.ref (h.objs.size + 1)], kw⟩) (InitBack (h.objs.size + 1) R) ⟨xkHeap h C, g, d, t, os⟩) : codeAny (model prog w) A (.call (.ref C) ⟨[], kw⟩) R ⟨h, g, d, t, os⟩ := by
  obtain ⟨nm, q, N, bs, bm, hd, sn, sub, ab, col, dd, k0, k1, k2, k3, k5, hC, hm⟩ := id hx.ex
  have f1 := tc_lookup
  have f2 := tc_bind (.ref C)
  have f3 := tc_sub
  have ty : (⟨h, g, d, t, os⟩ : Shared).TypeIs (.ref C) "type" := ⟨_, hC, rfl⟩
  apply codeAny_of_tree
  show wpAny _ _ (callAny (.ref C) _) _ _ _
  repeat (any_goals (first
    | assumption
    | with_reducible refine wpAny_loadPart_at hC ?_
    | wp_step))
  refine ⟨rfl, ?_⟩
  refine codeAny_call_builtin_at (Code.quiet_builtin _ (by decide +kernel)) entry_typeCall ?_
  have chk : ∀ {Q : Unit → Shared → Prop} {A : Around} {E : Value → Shared → Prop}, Q () ⟨h, g, d, t, os⟩ → wpAny (model prog w) A (checkBuiltinCall "type.__call__" ⟨[.ref C], kw⟩) Q E ⟨h, g, d, t, os⟩ := fun {Q A E} hq => by
    simp only [checkBuiltinCall, tc_kind, tc_split]
    repeat (any_goals (first
      | assumption
      | with_reducible refine wpAny_loadPart_at hC ?_
      | with_reducible refine wpAny_onRaise ?_
      | with_reducible refine wpAny_map ?_
      | wp_step))
  refine chk (xk_type hx hi hb (codeAny_mono hq ?_))
  intro r s' z
  match r, z with
  | .error e, z => exact z
  | .ok (.ret v), z => exact z
  | .ok .next, z => exact z
  | .ok .brk, z => exact z
  | .ok .cont, z => exact z
end
end AE
/-! AE19: exceptions held as values: made, asked for their class, their fields read. -/
namespace AE
open PySem L2
section
variable {X : Cx} {C fI : Addr} {fd : FuncData} {f pn : Str} {pins : List (Addr × Obj)} {σ : St} {H : Hp} {s : Shared} {Q : VK} {us : List Value} {kw : List (Str × Value)} {u : Value} {v : V}
/-- the heap behind BaseException.__new__ -/
abbrev xHeap (h : Heap) (C : Addr) (us : List Value) : Heap := (h.push (PySem.W.kdv_tup us)).push (PySem.HandSPX.excO C h.objs.size)
theorem x_at (T : OexC X.K C) (F : FnOk X.prog X.w X.K X.mg X.base (L2N.CX X.prog X.w) 1 fI fd ["self", pn] (spXI C f)) (hr : Room 2 X.A) (I : Inv X pins σ H s) (rv : RelV v u) (bd : ∀ (s : Shared) (a : Addr), X.K.In s.heap → BindsTo s fd ⟨.ref a :: us, kw⟩ ((["self", pn] : List Str).zip [.ref a, u]))
    (hc : ∀ R, codeAny (model X.prog X.w) (X.A.under (.builtin "type.__call__" ⟨.ref C :: us, kw⟩)) (.call (.ref fI) ⟨.ref (s.heap.objs.size + 1) :: us, kw⟩) (PySem.W.InitBack (s.heap.objs.size + 1) R) ⟨xHeap s.heap C us, s.gens, s.drawn, s.toks, s.os⟩ → codeAny (model X.prog X.w) X.A (.call (.ref C) ⟨us, kw⟩) R s)
    (h : ∀ a p, H a = none → H p = none → p ≠ a → Q (.ref a) (upd (upd H p (exd p [(f, v)])) a (exv a (.ref C) (some p)))) : wpAny (model X.prog X.w) X.A (call (.ref C) us kw) (EP X pins σ Q) X.xe s := by
  apply wpAny_call
  apply hc
  have new : s.heap.objs.size ≤ s.heap.objs.size + 1 := Nat.le_succ _
  have na : H (s.heap.objs.size + 1) = none := I.hok.fresh new
  have kp : ∀ b o, s.heap.get? b = some o → (xHeap s.heap C us).get? b = some o := fun b o z => Heap.get?_push_of_some _ (Heap.get?_push_of_some _ z)
  have me : (xHeap s.heap C us).get? (s.heap.objs.size + 1) = some (PySem.HandSPX.excO C s.heap.objs.size) := by heap_get
  have J := I.laid (t' := s.toks) (a := s.heap.objs.size + 1) (o := exo (s.heap.objs.size + 1) C none) (h' := xHeap s.heap C us) kp new (exo_ok me)
  have sp : spXI C f [.ref (s.heap.objs.size + 1), v] (upd H (s.heap.objs.size + 1) (exo (s.heap.objs.size + 1) C none)) (fun z H2 => z = .non ∧ Q (.ref (s.heap.objs.size + 1)) H2) (fun _ _ _ => False) := by
    refine ⟨_, v, rfl, upd_same, fun p hp ne => ⟨rfl, ?_⟩⟩
    have hp' : H p = none := by rw [upd_ne ne] at hp; exact hp
    have q := h _ p na hp' ne
    have e : upd (upd (upd H (s.heap.objs.size + 1) (exo (s.heap.objs.size + 1) C none)) p (exd p [(f, v)])) (s.heap.objs.size + 1) (exo (s.heap.objs.size + 1) C (some p)) = upd (upd H p (exd p [(f, v)])) (s.heap.objs.size + 1) (exv (s.heap.objs.size + 1) (.ref C) (some p)) := by
      funext b
      by_cases b1 : b = s.heap.objs.size + 1
      · subst b1; rw [upd_same, upd_same]; rfl
      · rw [upd_ne b1, upd_ne b1]
        by_cases b2 : b = p
        · subst b2; rw [upd_same, upd_same]
        · rw [upd_ne b2, upd_ne b2, upd_ne b1]
    rw [e]
    exact q
  apply codeAny_mono (F.run _ X.stack _ _ ⟨.ref (s.heap.objs.size + 1) :: us, kw⟩ [.ref (s.heap.objs.size + 1), u] [.ref (s.heap.objs.size + 1), v] _ _ (hr.make C us kw) (J.env0.make C us kw) (bd _ _ J.kIn) (.cons rfl (.cons rv .nil)) sp)
  intro res s' q
  match res, q with
  | .error e, q => exact passE0N pins σ _ _ e s' J q
  | .ok (.ret u), q =>
    obtain ⟨z, H2, J2, rz, e, q2⟩ := J.after q
    subst e
    exact ⟨rz, .ref (s.heap.objs.size + 1), H2, J2, rfl, q2⟩
  | .ok .next, q => exact q.elim
  | .ok .brk, q => exact q.elim
  | .ok .cont, q => exact q.elim
theorem OexC.heap {K : PySem.W.Frag} {h : Heap} {C : Addr} (T : OexC K C) (I : K.In h) : XCls h C := by
  obtain ⟨nm, q, N, bs, bm, sn, sub, ab, col, dd, k0, k1, k2, k3, k5, e, r⟩ := T.cls
  exact ⟨nm, q, N, bs, bm, true, sn, sub, ab, col, dd, k0, k1, k2, k3, k5, I _ _ e, r⟩
end
/-- what a new exception value is -/
theorem New.exv1 {K : PySem.W.Frag} {HF H : Hp} {a p : Addr} {cls : Value} {f : Str} {d : D} {v : V} (s : Same HF H) (ha : H a = none) (hp : H p = none) (ne : p ≠ a) (r : Rep K HF d v) :
    New K HF H (upd (upd HF p (exd p [(f, v)])) a (exv a cls (some p))) (upd (upd H p (exd p [(f, v)])) a (exv a cls (some p))) (.fz (.xo cls [(f, d)])) (.ref a) [] := by
  have ha' : upd H p (exd p [(f, v)]) a = none := by rw [upd_ne (Ne.symm ne)]; exact ha
  have s1 : Same (upd HF p (exd p [(f, v)])) (upd H p (exd p [(f, v)])) := Same.up s hp
  have g1 : Same HF (upd HF p (exd p [(f, v)])) := Same.new (s.free hp)
  have g2 : Same (upd HF p (exd p [(f, v)])) (upd (upd HF p (exd p [(f, v)])) a (exv a cls (some p))) := Same.new (s1.free ha')
  refine ⟨⟨g1.trans g2, fun q o e _ => upd_eq ha' (upd_eq hp e), fun q o e _ z => ?_, fun _ z => by cases z⟩, ⟨Same.up s1 ha', List.nodup_nil, fun _ z => by cases z⟩, rfl, a, rfl, .inr ⟨p, [(f, v)], upd_same, ?_, (f, v), [], rfl, ⟨rfl, Rep.mono (g1.trans g2) d r⟩, rfl⟩⟩
  · rw [upd_ne (ne_of_none e ha), upd_ne (ne_of_none e hp)]; exact z
  · rw [upd_ne ne, upd_same]
theorem New.exv0 {K : PySem.W.Frag} {HF H : Hp} {a : Addr} {cls : Value} (s : Same HF H) (ha : H a = none) : New K HF H (upd HF a (exv a cls none)) (upd H a (exv a cls none)) (.fz (.xo cls [])) (.ref a) [] :=
  New.pure s ha ⟨a, rfl, .inl ⟨rfl, upd_same⟩⟩
section
variable {X : Cx} {W : WX} {x : Str} {C : Addr} {p pos kp : Pos} {f pn : Str} {e : Expr} {te : TD}
def tX0 (cls : Value) : TD := fun ρ Kd _ => Kd (.ow (.fz (.xo cls []))) ρ
theorem exv_ok {P : Program} {w : World} {H : Hp} {h : Heap} {a t1 : Addr} {cls : Value} {d : Option Addr} (he : h.get? a = some ({ cls := cls, dict := d, data := .fields #[.ref t1, .none, .none, .none, .bool false, .none] } : Obj)) : ObjOk P w H h a (exv a cls d) :=
  ⟨⟨t1, he⟩, ⟨_, he⟩, fun _ _ ⟨z, q⟩ k => ⟨z, k _ q⟩⟩
/-- C(), a class without attributes -/
theorem ae_x0 (h : XPlain X.K X.mg x C) (hg : Gl X x) (hdb : (x == ("__debug__" : Str)) = false := by decide) : AE X W (.Call (.Name x p) [] [] pos) (tX0 (.ref C)) := by
  constructor
  intro pins s σ H Q I q
  obtain ⟨HF, ρ, A, Kd, Ed, w, en, t, k, x⟩ := q
  apply wpAny_Call_Name_kw
  apply ld_glob I hg h.mgC _ hdb
  refine PySem.W.callWith_K0 I.kIn h.keep ?_
  show wpAny _ _ (call (.ref C) []) _ _ _
  obtain ⟨bm, N, nm, qn, bs, hdct, sn, sub, ab, col, dd, k0, k1, k2, k3, k5, mN, hC, hN, hni, T⟩ := exc_obj I.kIn h.exc
  apply wpAny_call_exc_subT PySem.F.excBase_ValueError T hC hN hni _ (by show 0 ≤ sizeLine; exact Nat.zero_le _)
  intro h' a hm
  have hn : H a = none := I.hok.gone hm.new
  obtain ⟨tu, ht, _, _⟩ := hm.there
  refine ⟨.ref a, upd H a (exv a (.ref C) none), I.laidN hm.keeps hm.new hn (exv_ok ht), rfl, ?_⟩
  refine KOk.new (A := A) (Av := []) (by rw [List.append_nil]; exact k) (by rw [List.append_nil]; exact w) en t (New.exv0 w.same hn)
def tX1 (C : Addr) (f : Str) (te : TD) : TD := fun ρ Kd Ed => te ρ (fun ev ρ1 => match ev with
  | .ow o => Kd (.ow (.fz (.xo (.ref C) [(f, frz o)]))) ρ1
  | .pt _ => False) Ed
theorem x1_ok {σ : St} {H H1 HF HF1 : Hp} {A A1 Av : List Addr} {Kd : KD} {Q : VK} {ρ1 : Env} {o : O} {v : V} (k : KOk X.K σ H HF A Kd Q) (f1 : Fr H H1 HF HF1 A (A1 ++ Av)) (w1 : WR HF1 H1 (A1 ++ Av)) (en1 : EnvR X.K HF1 H1 ρ1 σ A1) (r1 : RepO X.K HF1 H1 o v Av) (q1 : Kd (.ow (.fz (.xo (.ref C) [(f, frz o)]))) ρ1) :
    ∀ a p, H1 a = none → H1 p = none → p ≠ a → Q (.ref a) (upd (upd H1 p (exd p [(f, v)])) a (exv a (.ref C) (some p))) := fun a p ha hp ne => by
  obtain ⟨sg, wg, fg⟩ := grow_ok (w1.perm List.perm_append_comm)
  have rg : Rep X.K (grow HF1 H1 Av) (frz o) v := RepO.frz sg o r1 fun p hp => grow_in hp
  have k2 := (k.step f1).step (fg.mono (B := A1 ++ Av) (B' := A1) (fun p hp => (List.mem_append.mp hp).elim (fun z => List.mem_append_right _ z) (fun z => List.mem_append_left _ z)) fun p hp => .inl hp)
  exact KOk.new (A := A1) (Av := []) (by rw [List.append_nil]; exact k2) (by rw [List.append_nil]; exact wg) (EnvR.keep sg _ en1 fun _ _ => rfl) q1 (New.exv1 wg.same ha hp ne rg)
/-- C(e), a class with one attribute -/
theorem ae_x1 (h : XOne X.prog X.w X.K X.mg X.base x C f pn) (hr : Room 2 X.A) (hg : Gl X x) (he : AE X W e te) (hs : starEach [e] X.env = (false, eval e X.env) :: starEach [] X.env := by rfl) (hdb : (x == ("__debug__" : Str)) = false := by decide) : AE X W (.Call (.Name x p) [e] [] pos) (tX1 C f te) := by
  obtain ⟨fI, fd, iC, tI, hb, F1⟩ := h.ex
  constructor
  intro pins s σ H Q I q
  obtain ⟨HF, ρ, A, Kd, Ed, w, en, t, k, x⟩ := q
  apply wpAny_Call_Name_kw
  apply ld_glob I hg h.mgC _ hdb
  refine PySem.W.callWith_K (h₀ := X.base) I.ok.mod.kin h.oex.kC (thn ((pa_cons he pa_nil hs).run pos pins s σ H (fun vs H1 => ∃ v, vs = [v] ∧ ∀ a p, H1 a = none → H1 p = none → p ≠ a → Q (.ref a) (upd (upd H1 p (exd p [(f, v)])) a (exv a (.ref C) (some p)))) I ⟨HF, ρ, A, _, Ed, w, en, t, fun ev ρ1 q1 HF1 H1 A1 v Av f1 w1 en1 r1 => ?_, x⟩) fun us s1 ⟨vs, H1, I1, r, v, ev, q1⟩ => ⟨I1.kIn, ?_⟩) hs rfl
  · cases ev with
    | pt j => exact q1.elim
    | ow o => exact ⟨v, rfl, x1_ok k f1 w1 en1 r1 q1⟩
  · subst ev
    obtain ⟨u, rfl, ru⟩ := vals1 r
    obtain ⟨nm, q, N, bs, bm, sn, sub, ab, col, dd, k0, k1, k2, k3, k5, hC, hbm⟩ := h.oex.cls
    refine x_at (us := [u]) (kw := []) h.oex F1 hr I1 ru (fun s a hk => hb s [.ref a, u] hk rfl) (fun R z => ?_) q1
    exact PySem.HandSPX.call_own PySem.F.excBase_ValueError (fun Y => PySem.HandSPX.refsVE_contains Y bm hbm) (I1.kIn _ _ hC) (PySem.W.looks_findIn I1.kIn iC) (fun self => PySem.W.bind_fn I1.kIn self tI) (by rw [sizeLine_eq]; show 1 ≤ _; omega) z
end
end AE
/-! AE20: keywords; exceptions as values: C(k = e), ValueError(), isinstance, e.f. -/
namespace AE
open PySem L2
def AK (X : Cx) (W : WX) (ks : List Keyword) (t : TDs) : Prop := PK X ks (tAs X.K W t)
theorem PK.imp {X : Cx} {ks : List Keyword} {t u : TA} (h : PK X ks t) (i : ∀ σ H Q, u σ H Q → t σ H Q) : PK X ks u := ⟨fun pos pins s σ H Q I q => h.run pos pins s σ H Q I (i σ H Q q)⟩
section
variable {X : Cx} {W : WX}
theorem ak_nil : AK X W [] tNilD := PK.imp pk_nil fun σ H Q q => by
  obtain ⟨HF, ρ, A, Kd, Ed, w, en, t, k, x⟩ := q
  exact k [] ρ t HF H A [] [] (by rw [List.append_nil]; exact Fr.refl) (by rw [List.append_nil]; exact w) en ⟨rfl, rfl⟩
theorem ak_cons {e : Expr} {ks : List Keyword} {nm : Option Str} {kp : Pos} {t : TD} {ts : TDs} (ha : AE X W e t) (hr : AK X W ks ts) : AK X W (⟨nm, e, kp⟩ :: ks) (tConsD t ts) := PK.imp (pk_cons ha hr) fun σ H Q q => by
  obtain ⟨HF, ρ, A, Kd, Ed, w, en, t, k, x⟩ := q
  refine ⟨HF, ρ, A, _, Ed, w, en, t, fun e1 ρ1 q1 HF1 H1 A1 v1 Av1 f1 w1 en1 r1 => ?_, x⟩
  refine ⟨HF1, ρ1, A1, _, Ed, w1.left, en1, q1, fun es2 ρ2 q2 HF2 H2 A2 vs2 Av2 f2 w2 en2 r2 => ?_, (x.step f1).step (Fr.drop fun p hp => List.mem_append_left _ hp)⟩
  obtain ⟨w3, f3, k3⟩ := join w1 (EVR.there r1) f2 w2
  exact (k.step f1).step f3 (e1 :: es2) ρ2 q2 HF2 H2 A2 (v1 :: vs2) (Av1 ++ Av2) Fr.refl w3 en2 ⟨v1, vs2, Av1, Av2, rfl, rfl, EVR.keep f2.same r1 k3, r2⟩
/-- as XOne, by a keyword too -/
structure XOneK (P : Program) (w : World) (K : PySem.W.Frag) (mg : Str → Option Value) (base : Heap) (x : Str) (C : Addr) (f pn : Str) : Prop where
  mgC : mg x = some (.ref C)
  oex : OexC K C
  ex : ∃ fI fd, PySem.W.findIn K (.ref C) "__init__" = some (some (.ref fI)) ∧ PySem.W.typeIn K (.ref fI) = some (.type "function") ∧ Binds K fd ["self", pn] [] ∧ (∀ (s : Shared) (a u : Value), BindsTo s fd ⟨[a], [(pn, u)]⟩ [("self", a), (pn, u)]) ∧ FnOk P w K mg base (L2N.CX P w) 1 fI fd ["self", pn] (spXI C f)
theorem XOneK.one {P : Program} {w : World} {K : PySem.W.Frag} {mg : Str → Option Value} {base : Heap} {x : Str} {C : Addr} {f pn : Str} (h : XOneK P w K mg base x C f pn) : XOne P w K mg base x C f pn :=
  ⟨h.mgC, h.oex, let ⟨fI, fd, a, b, c, _, e⟩ := h.ex; ⟨fI, fd, a, b, c, e⟩⟩
variable {x : Str} {C : Addr} {p pos kp : Pos} {f pn : Str} {e : Expr} {te : TD}
/-- C(n = e), a class with one attribute -/
theorem ae_x1k (h : XOneK X.prog X.w X.K X.mg X.base x C f pn) (hr : Room 2 X.A) (hg : Gl X x) (he : AE X W e te) (hdb : (x == ("__debug__" : Str)) = false := by decide) : AE X W (.Call (.Name x p) [] [⟨some pn, e, kp⟩] pos) (tX1 C f te) := by
  obtain ⟨fI, fd, iC, tI, _, hk, F1⟩ := h.ex
  constructor
  intro pins s σ H Q I q
  obtain ⟨HF, ρ, A, Kd, Ed, w, en, t, k, x⟩ := q
  apply wpAny_Call_Name_kw
  apply ld_glob I hg h.mgC _ hdb
  refine PySem.W.callWith_KW0 (h₀ := X.base) I.ok.mod.kin h.oex.kC rfl (thn ((pk_cons he pk_nil).run pos pins s σ H (fun vs H1 => ∃ v, vs = [v] ∧ ∀ a p, H1 a = none → H1 p = none → p ≠ a → Q (.ref a) (upd (upd H1 p (exd p [(f, v)])) a (exv a (.ref C) (some p)))) I ⟨HF, ρ, A, _, Ed, w, en, t, fun ev ρ1 q1 HF1 H1 A1 v Av f1 w1 en1 r1 => ?_, x⟩) fun us s1 ⟨vs, H1, I1, r, v, ev, q1⟩ => ⟨I1.kIn, ?_⟩) rfl
  · cases ev with
    | pt j => exact q1.elim
    | ow o => exact ⟨v, rfl, x1_ok k f1 w1 en1 r1 q1⟩
  · subst ev
    obtain ⟨u, rfl, ru⟩ := vals1 r
    refine x_at (us := []) (kw := [(pn, u)]) h.oex F1 hr I1 ru (fun s a _ => hk s (.ref a) u) (fun R z => ?_) q1
    exact xk_call (OexC.heap h.oex I1.kIn) (PySem.W.looks_findIn I1.kIn iC) (fun self => PySem.W.bind_fn I1.kIn self tI) z
/-- ValueError() -/
theorem ae_xve {T N I : String} (F : ExcB T N I) (hg : Gl X x) (hm : X.mg x = none) (hv : bootBuiltins x = some (.type T)) (hn : x ≠ "__name__" := by decide) (hdb : (x == ("__debug__" : Str)) = false := by decide) : AE X W (.Call (.Name x p) [] [] pos) (tX0 (.type T)) := by
  constructor
  intro pins s σ H Q J q
  obtain ⟨HF, ρ, A, Kd, Ed, w, en, t, k, x⟩ := q
  apply wpAny_Call_Name_kw
  apply ld_blt J hg hm hv _ hn hdb
  obtain ⟨hp1, g1, d1, tk1, os1⟩ := s
  apply PyProof.Rows.callWith_type0
  refine wpAny_call_exc F.call (fun h' a mk => ?_) (Nat.zero_le _)
  have hn : H a = none := J.hok.gone mk.new
  obtain ⟨tu, ht, _, _⟩ := (PySem.Heap.MadeExc.of mk).there
  exact ⟨.ref a, upd H a (exv a (.type T) none), J.laidN mk.keeps mk.new hn (exv_ok ht), rfl, KOk.new (A := A) (Av := []) (by rw [List.append_nil]; exact k) (by rw [List.append_nil]; exact w) en t (New.exv0 w.same hn)⟩
/-! ### isinstance -/
/-- what the class must say, so that isinstance asks its exceptions rightly -/
structure XIs (K : PySem.W.Frag) (C : Addr) : Prop where
  cl : (PySem.W.clsIn K C).isSome = true
  ga : PySem.W.findIn K (.ref C) "__getattribute__" = some (some (.builtin "BaseException.__getattribute__"))
  gg : PySem.W.findIn K (.ref C) "__getattr__" = some none
  sb : PySem.W.subIn K (.ref C) (.type "BaseException") = some true
  ca : PySem.W.findIn K (.ref C) "__class__" = some (some (.builtin "object.__class__"))
  sg : PySem.W.specialIn K (.builtin "object.__class__") "__get__" = some (some (.builtin "getset_descriptor.__get__"))
  tk : PySem.W.takesIn K (.builtin "object.__class__") = some true
  mo : PySem.W.mroIn K C (.type "object") = some true
structure InsIs (K : PySem.W.Frag) (C : Addr) : Prop where
  cl : Cls K C
  ca : PySem.W.findIn K (.ref C) "__class__" = some (some (.builtin "object.__class__"))
  sg : PySem.W.specialIn K (.builtin "object.__class__") "__get__" = some (some (.builtin "getset_descriptor.__get__"))
  tk : PySem.W.takesIn K (.builtin "object.__class__") = some true
  mo : PySem.W.mroIn K C (.type "object") = some true
/-- a datum's type -/
def tyD (K : PySem.W.Frag) : D → Value → Prop
  | .non, t => t = .type "NoneType"
  | .bl _, t => t = .type "bool"
  | .int _, t => t = .type "int"
  | .str _, t => t = .type "str"
  | .lst _, t => t = .type "list"
  | .tup _, t => t = .type "tuple"
  | .dic _, t => t = .type "dict"
  | .ins C _, t => t = .ref C ∧ InsIs K C
  | .xo cls _, t => t = cls ∧ (cls = .type "ValueError" ∨ ∃ C, cls = .ref C ∧ XIs K C)
  | _, _ => False
def clsD : D → Option Value
  | .cl a => some (.ref a)
  | .ty n => some (.type n)
  | _ => none
def clsDs : List D → Option (List Value)
  | [] => some []
  | d :: ds => match clsD d, clsDs ds with
    | some c, some cs => some (c :: cs)
    | _, _ => none
/-- v is of the type t, as the library's isinstance asks -/
def KitV (X : Cx) (H : Hp) (v : V) (t : Value) : Prop := ∀ pins σ s u, Inv X pins σ H s → RelV v u → ∃ P : Heap → Prop, PySem.W.KitX X.K u t P ∧ P s.heap ∧ u ≠ .builtin "__main__.__loader__#opaque"
theorem KitV.of {H : Hp} {v : V} {t : Value} (h : TyX X.K H v t) : KitV X H v t := fun pins σ s u I r => kit_of I r h
theorem KitV.xo {H : Hp} {a : Addr} {C : Addr} {d : Option Addr} {fvs : List (Str × V)} (z : XIs X.K C) (ha : H a = some (exv a (.ref C) d)) (hd : ∀ p, d = some p → H p = some (exd p fvs)) : KitV X H (.ref a) (.ref C) := fun pins σ s u I r => by
  obtain rfl : u = Value.ref a := r
  obtain ⟨⟨tu, h1⟩, _, _⟩ := I.hok a _ ha
  cases d with
  | none => exact ⟨_, PySem.W.kitx_exc (od := none) z.cl z.ga z.gg z.sb z.ca z.sg z.tk z.mo, ⟨h1, rfl, rfl, trivial⟩, fun y => nomatch y⟩
  | some p =>
    obtain ⟨⟨mA, hns, _⟩, _, _⟩ := I.hok p _ (hd p rfl)
    obtain ⟨od, ho, _⟩ := lookIn_ns hns
    exact ⟨_, PySem.W.kitx_exc (od := some od) z.cl z.ga z.gg z.sb z.ca z.sg z.tk z.mo, ⟨h1, rfl, rfl, ho⟩, fun y => nomatch y⟩
theorem KitV.ve {H : Hp} {a : Addr} {d : Option Addr} (ha : H a = some (exv a (.type "ValueError") d)) : KitV X H (.ref a) (.type "ValueError") := fun pins σ s u I r => by
  obtain rfl : u = Value.ref a := r
  obtain ⟨⟨tu, h1⟩, _, _⟩ := I.hok a _ ha
  exact ⟨_, PySem.W.kitx_bexc PySem.F.excAttr_ValueError PySem.F.lkClass_ValueError PySem.F.soClass_ValueError (by decide +kernel), ⟨_, h1, rfl⟩, fun y => nomatch y⟩
def rIsiV (X : Cx) : List V → Hp → VK → Prop := fun xs H Q => ∃ (x c : V) (t u : Value) (b : Bool), xs = [x, c] ∧ ClsV c u ∧ KitV X H x t ∧ PySem.W.kitOne X.K t u = some b ∧ Q (.bl b) H
theorem call_isiV : CallR X (.builtin "isinstance") (rIsiV X) := fun pins s σ H xs us Q I r h => by
  obtain ⟨x, c, t, u, b, rfl, k, kv, e, q⟩ := h
  obtain ⟨u1, u2, rfl, r1, r2⟩ := vals2 r
  obtain rfl := k.eq r2
  obtain ⟨P, Z, p, hx⟩ := kv pins σ s u1 I r1
  exact PySem.W.kia_one Z I.kIn p e hx fun tk => ⟨.bl b, H, I.tok tk, rfl, q⟩
def rIsiVT (X : Cx) : List V → Hp → VK → Prop := fun xs H Q => ∃ (x : V) (tp : Addr) (cs : List V) (t : Value) (us : List Value) (b : Bool), xs = [x, .ref tp] ∧ H tp = some (.tup cs) ∧ Paired ClsV cs us ∧ KitV X H x t ∧ PySem.W.kitAny X.K t us = some b ∧ Q (.bl b) H
theorem call_isiVT : CallR X (.builtin "isinstance") (rIsiVT X) := fun pins s σ H xs us Q I r h => by
  obtain ⟨x, tp, cs, t, ws, b, rfl, hT, k, kv, e, q⟩ := h
  obtain ⟨u1, u2, rfl, r1, r2⟩ := vals2 r
  obtain rfl : u2 = Value.ref tp := r2
  obtain ⟨P, Z, p, hx⟩ := kv pins σ s u1 I r1
  obtain ⟨_, its, rv, ⟨oc, od, dt, sl⟩, h1, h2, n, h3⟩ := (show ObjOk X.prog X.w H s.heap tp (.tup cs) from I.hok tp _ hT)
  obtain rfl := ClsV.all k rv
  dsimp only at h2 h3
  subst h2 h3
  exact PySem.W.kia_tup Z I.kIn p h1 e hx fun tk => ⟨.bl b, H, I.tok tk, rfl, q⟩
def gIsi (K : PySem.W.Frag) : GN := fun ds P => match ds with
  | [d, .tup cs] => ∃ t us b, tyD K d t ∧ clsDs cs = some us ∧ PySem.W.kitAny K t us = some b ∧ P (.fz (.bl b))
  | [d, c] => ∃ t u b, tyD K d t ∧ clsD c = some u ∧ PySem.W.kitOne K t u = some b ∧ P (.fz (.bl b))
  | _ => False
theorem clsD_ok {K : PySem.W.Frag} {HF : Hp} {d : D} {v : V} {u : Value} (h : clsD d = some u) (r : Rep K HF d v) : ClsV v u := by
  unfold clsD at h
  split at h
  · cases h; obtain rfl := r; exact .own _
  · cases h; obtain rfl := r; exact .ty _
  · cases h
theorem clsDs_ok {K : PySem.W.Frag} {HF : Hp} : ∀ {ds : List D} {vs : List V} {us : List Value}, clsDs ds = some us → Reps K HF ds vs → Paired ClsV vs us
  | [], vs, us, h, r => by cases h; rw [show vs = [] from r]; exact .nil
  | d :: ds, vs, us, h, r => by
    obtain ⟨v, ws, rfl, r1, r2⟩ := r
    unfold clsDs at h
    split at h
    · rename_i c cs e1 e2
      cases h
      exact .cons (clsD_ok e1 r1) (clsDs_ok e2 r2)
    · cases h
theorem Vw.ofC {K : PySem.W.Frag} {HF H : Hp} {d : D} {v : V} {u : Value} (h : clsD d = some u) (r : Vw K HF H d v) : Rep K HF d v := by
  unfold clsD at h
  split at h
  · exact r
  · exact r
  · cases h
theorem tyD_ok {HF H : Hp} {d : D} {v : V} {t : Value} (s : Same HF H) (h : tyD X.K d t) (r : Vw X.K HF H d v) : KitV X H v t := by
  cases d with
  | non => obtain rfl := h; obtain rfl := r; exact .of (.base .non)
  | bl b => obtain rfl := h; obtain rfl := r; exact .of (.base (.bl _))
  | int i => obtain rfl := h; obtain rfl := r; exact .of (.base (.int _))
  | str x => obtain rfl := h; obtain rfl := r; exact .of (.base (.str _))
  | lst xs => obtain rfl := h; obtain ⟨a, vs, rfl, e, _⟩ := r; exact .of (.base (.lst e))
  | tup xs => obtain rfl := h; obtain ⟨a, vs, rfl, e, _⟩ := r; exact .of (.base (.tup (s _ _ e)))
  | dic xs =>
    obtain rfl := h
    obtain ⟨a, vs, rfl, e, _⟩ := r
    rcases e with e | ⟨o, e⟩
    · exact .of (.base (.dK e))
    · exact .of (.fDict e)
  | ins C fs =>
    obtain ⟨rfl, z⟩ := h
    obtain ⟨a, dx, vs, rfl, e, _⟩ := r
    exact .of (.base (.ins e z.cl z.ca z.sg z.tk z.mo))
  | xo cls fs =>
    obtain ⟨rfl, z⟩ := h
    obtain ⟨a, rfl, y⟩ := r
    rcases z with rfl | ⟨C, rfl, z⟩
    · rcases y with ⟨_, e⟩ | ⟨p, fvs, e, _, _⟩
      · exact KitV.ve (s _ _ e)
      · exact KitV.ve (s _ _ e)
    · rcases y with ⟨_, e⟩ | ⟨p, fvs, e, e2, _⟩
      · exact KitV.xo (fvs := []) z (s _ _ e) fun _ q => by cases q
      · exact KitV.xo z (s _ _ e) fun _ q => by cases q; exact s _ _ e2
  | _ => exact h.elim
theorem do_isi : DoN X.K (fun xs H Q => rIsiV X xs H Q ∨ rIsiVT X xs H Q) (gIsi X.K) := fun HF H vs ds P Q s r g k => by
  unfold gIsi at g
  split at g
  · obtain ⟨v, v', rfl, r1, r2⟩ := r.two
    obtain ⟨t, us, b, ty, hc, e, q⟩ := g
    obtain ⟨tp, cs, rfl, ht, rs⟩ := r2
    exact .inr ⟨v, tp, cs, t, us, b, rfl, s _ _ ht, clsDs_ok hc rs, tyD_ok s ty r1, e, k _ _ _ _ _ q (New.imm s rfl)⟩
  · obtain ⟨v, v', rfl, r1, r2⟩ := r.two
    obtain ⟨t, u, b, ty, hc, e, q⟩ := g
    exact .inl ⟨v, v', t, u, b, rfl, clsD_ok hc (Vw.ofC hc r2), tyD_ok s ty r1, e, k _ _ _ _ _ q (New.imm s rfl)⟩
  · exact g.elim
theorem ae_isi {es : List Expr} {ts : TDs} (hg : Gl X "isinstance") (hm : X.mg "isinstance" = none) (ha : AA X W (e :: es) ts) (he : starEach (e :: es) X.env = (false, eval e X.env) :: starEach es X.env := by rfl) (hpl : (backTo pos (starEach es X.env)).any (·.1) = false := by rfl) :
    AE X W (.Call (.Name "isinstance" p) (e :: es) [] pos) (tN (pN (gIsi X.K)) ts) := ae_callB (CallR.or call_isiV call_isiVT) (primN do_isi) hg hm (by decide +kernel) ha (by decide) (by decide) he hpl
/-! ### e.f of an exception value -/
def gXf (K : PySem.W.Frag) (f : Str) : G1 := fun d P => match d with
  | .xo (.ref C) fs => XfD K C f ∧ ∃ v, fs.lookup f = some v ∧ P (.fz v)
  | _ => False
def tXo (K : PySem.W.Frag) (f : Str) (te : TD) : TD := fun ρ Kd Ed => te ρ (fun e ρ1 => match dOf ρ1 e with
  | some (.xo (.ref C) fs) => XfD K C f ∧ ∃ v, fs.lookup f = some v ∧ Kd (.ow (.fz v)) ρ1
  | _ => False) Ed
theorem ae_xo (he : AE X W e te) (hb : attributeBase e f X.env (eval e X.env) = eval e X.env := by rfl) : AE X W (.Attribute e f pos) (tXo X.K f te) := by
  constructor
  intro pins s σ H Q I q
  obtain ⟨HF, ρ, A, Kd, Ed, w, en, t, k, x⟩ := q
  refine attr_of hb (thn (he.run pins s σ H (fun v H1 => ∃ a C p fvs v1, v = .ref a ∧ XfD X.K C f ∧ H1 a = some (exv a (.ref C) (some p)) ∧ H1 p = some (exd p fvs) ∧ fvs.lookup f = some v1 ∧ Q v1 H1) I ⟨HF, ρ, A, _, Ed, w, en, t, fun e1 ρ1 q1 HF1 H1 A1 v1 Av1 f1 w1 en1 r1 => ?_, x⟩) fun u s1 ⟨v, H1, I1, ru, a, C, p, fvs, v1, ev, T, ha, hp, hl, q⟩ => ?_)
  · dsimp only at q1
    split at q1
    · rename_i C fs e2
      obtain ⟨T, v, hv, q⟩ := q1
      obtain ⟨a, rfl, rx⟩ := Vw.ev w1.same en1 r1 e2
      rcases rx with ⟨rfl, _⟩ | ⟨p, fvs, h1, h2, rs⟩
      · cases hv
      · obtain ⟨u, hu, ru⟩ := rs.look hv
        exact ⟨a, C, p, fvs, u, rfl, T, w1.same _ _ h1, w1.same _ _ h2, hu, k _ ρ1 q HF1 H1 A1 u [] (by rw [List.append_nil]; exact f1.mono (fun _ h => h) fun p hp => .inl (List.mem_append_left _ hp)) (by rw [List.append_nil]; exact w1.left) en1 ⟨rfl, ru⟩⟩
    · exact q1.elim
  · subst ev
    obtain rfl : u = Value.ref a := ru
    obtain ⟨⟨tu, h1⟩, _, _⟩ := I1.hok a _ ha
    obtain ⟨⟨mA, hns, hr⟩, _, _⟩ := I1.hok p _ hp
    obtain ⟨od, ho, hl2⟩ := lookIn_ns hns
    obtain ⟨u2, hu, ru2⟩ := RelO.some_of (v := v1) (o := mA f) (by rw [← hl]; exact hr f)
    exact HandSPX.exc_get I1.kIn (⟨h1, rfl, rfl, ho⟩ : PySem.W.InstAt s1.heap a _ C (some od)) T.xf.ga T.xf.gg T.xf.exC (PySem.W.findObj_own T.xf.hdC T.no rfl (by rw [hl2, hu])) (handed_of ru2) ⟨v1, H1, I1.tok _, ru2, q⟩
end
end AE
/-! AE21: sums of truth values; a text times a number. -/
namespace AE
open PySem PySem.Spec PyProof.Rows L2
/-- how many of the first i are true -/
def cntB (v : Nat → Bool) : Nat → Int
  | 0 => 0
  | i + 1 => cntB v i + (if v i then 1 else 0)
theorem cntB_le (v : Nat → Bool) : ∀ i : Nat, 0 ≤ cntB v i ∧ cntB v i ≤ i
  | 0 => ⟨Int.le_refl _, Int.le_refl _⟩
  | i + 1 => by
    have ⟨h1, h2⟩ := cntB_le v i
    unfold cntB
    split <;> omega
section
variable {prog : Program} {w : World} {A : Around} {E : Value → Shared → Prop} {R : Result → Shared → Prop} {I : Addr} {fp wr : List Addr} {G : Array GenState → Array GenState → Prop} {n : Nat} {P : Nat → Value → Prop} {St : Nat → Shared → Prop}
theorem bsum_loop (Wk : WalksS prog w A.in1 I fp wr G n P St) (v : Nat → Bool) (hv : ∀ i u, P i u → u = .bool (v i)) (hn : n ≤ 1000000) (T : Addr) (hT : T ∉ fp) : ∀ (k i : Nat) (s : Shared) (ta : Tok) (c : Nat), i + k = n → St i s →
    s.heap.get? T = some { cls := .type "list", dict := none, data := .seq #[.int (cntB v i) ta] c, slots := #[] } → (∀ s' t', Moved (T :: wr) G s s' → R (.ok (.ret (.int (cntB v n) t'))) s') → codeAny (model prog w) A (.builtin "sum.loop" ⟨[.ref I, .ref T, rawInt 0, rawInt 0], []⟩) R s
  | 0, i, s, ta, c, e, st, hS, hR => by
    obtain rfl : i = n := by omega
    apply codeAny_builtin F.entry_sum_loop
    rw [Around.under_plainId F.plain_sum_loop _]
    show wpAny _ A.in1 (seqItems? (.ref T) >>= _) _ _ s
    apply wpAny_bind
    apply wpAny_seqItems hS rfl
    show wpAny _ A.in1 (tryCatch (pyNext (.ref I)) _ >>= _) _ _ s
    apply wpAny_bind
    apply wpAny_tryCatch
    exact Wk.done s _ _ st fun s' hm => wpAny_pure (hR s' ta (hm.mono fun b hb => List.mem_cons_of_mem _ hb))
  | k + 1, i, s, ta, c, e, st, hS, hR => by
    have hi : i < n := by omega
    have nw : T ∉ wr := fun z => hT (Wk.sub _ z)
    apply codeAny_builtin F.entry_sum_loop
    rw [Around.under_plainId F.plain_sum_loop _]
    show wpAny _ A.in1 (seqItems? (.ref T) >>= _) _ _ s
    apply wpAny_bind
    apply wpAny_seqItems hS rfl
    show wpAny _ A.in1 (tryCatch (pyNext (.ref I)) _ >>= _) _ _ s
    apply wpAny_bind
    apply wpAny_tryCatch
    refine Wk.item i s _ _ hi st fun u s' pu st' hm => ?_
    obtain rfl := hv i u pu
    have hS' := hm.heap T _ nw hS
    obtain ⟨b1, b2⟩ := cntB_le v i
    have fits : ((decide (-(2 ^ 63) ≤ (if v i then (1 : Int) else 0)) && decide ((if v i then (1 : Int) else 0) < 2 ^ 63)) && (decide (-(2 ^ 63) ≤ cntB v i + (if v i then (1 : Int) else 0)) && decide (cntB v i + (if v i then (1 : Int) else 0) < 2 ^ 63))) = true := by
      simp only [Bool.and_eq_true, decide_eq_true_eq]
      split <;> omega
    show wpAny _ A.in1 (if (_ : Bool) = true then (mkInt (cntB v i + (if v i then (1 : Int) else 0)) >>= _) else _) _ _ _
    have ec : cntB v (i + 1) = cntB v i + (if v i then (1 : Int) else 0) := rfl
    generalize (if v i then (1 : Int) else 0) = b at fits ec ⊢
    split
    · apply wpAny_bind
      apply wpAny_mkInt
      show wpAny _ A.in1 (updateSeq T (fun _ => #[.int (cntB v i + b) s'.toks]) >>= _) _ _ _
      rw [← ec]
      apply wpAny_bind
      refine wpAny_updateSeq hS' rfl (wpAny_pure ⟨plainId_quiet F.plain_sum_loop _, bsum_loop Wk v hv hn T hT k (i + 1) _ s'.toks _ (by omega) (Wk.frame _ s' _ _ st' (by first | exact Nat.le_refl _ | exact Nat.le_succ _ | omega) fun b hb o z => ?_) (Heap.get?_update_self _ hS' rfl) fun s2 t2 m2 => ?_⟩)
      · exact (Heap.get?_update_other _ _ (fun q : T = b => hT (q ▸ hb))).trans z
      · refine hR s2 t2 (Moved.trans Wk.gtrans ((hm.mono fun b hb => List.mem_cons_of_mem _ hb).then_heap (by first | exact Nat.le_refl _ | exact Nat.le_succ _ | omega) fun b o hb z => ?_) m2)
        exact (Heap.get?_update_other _ _ (fun q : T = b => hb (q ▸ List.mem_cons_self))).trans z
    · rename_i no
      exact absurd fits no
end
theorem cntB_get : ∀ (bs : List Bool) (n : Nat), n ≤ bs.length → cntB (fun i => bs.getD i false) n = (((bs.take n).filter id).length : Int)
  | bs, 0, _ => rfl
  | bs, n + 1, h => by
    have h1 : n < bs.length := h
    have e : bs.take (n + 1) = bs.take n ++ [bs[n]] := by rw [List.take_succ, List.getElem?_eq_getElem h1]; rfl
    have e2 : bs.getD n false = bs[n] := by rw [List.getD_eq_getElem?_getD, List.getElem?_eq_getElem h1]; rfl
    unfold cntB
    rw [cntB_get bs n (Nat.le_of_lt h1), e, List.filter_append, List.length_append]
    show _ + (if bs.getD n false = true then (1 : Int) else 0) = _
    rw [e2]
    cases bs[n] <;> simp
section
variable {X : Cx}
theorem cr_sumB (hc : X.calm = true) : CallR X (.builtin "sum") (fun vs H Q => ∃ (a : Addr) (bs : List Bool), vs = [V.ref a] ∧ SqL X.K H a (bs.map V.bl) ∧ bs.length ≤ 1000000 ∧ Q (.int ((bs.filter id).length : Int)) H) := by
  intro pins s σ H vs us Q I r h
  obtain ⟨a, bs, rfl, hs, hn, q⟩ := h
  obtain ⟨its, rv, hl, _⟩ := I.list hs
  rw [Vals.ref1 r]
  have hb := rv.bls
  have hz : its.toArray.size = bs.length := by
    have := rv.length
    simpa using this.symm
  apply call_function_tree F.kind_sum F.plain_sum F.entry_sum (F.args_sum1 _)
  unfold Builtin.«sum»
  simp only [List.length_cons, List.length_nil]
  rw [if_neg (by decide)]
  apply wpAny_bind
  apply wpAny_of_eq (show Builtin.Builtins.bindParams "sum" ["start"] 0 { } = pure [none] from rfl)
  apply wpAny_bind
  refine PySem.W.iter_listW (A := X.A.in1) (I.ok.hd hc) hl.isList fun s₂ e2 Wk st hfp hnew kp => ?_
  subst e2
  apply wpAny_bind
  apply wpAny_mkInt
  apply wpAny_bind
  apply wpAny_pure
  simp only [List.forIn_cons, List.forIn_nil]
  refine wpAny_bind (wpAny_bind (wpAny_bind (wpAny_isInstance (T := "int") (b := false) (typeIs_int _ _ _) PySem.sub_int_str ?_)))
  simp only [Bool.false_eq_true, if_false]
  refine wpAny_pure (wpAny_bind (wpAny_bind (wpAny_isInstance (T := "int") (b := false) (typeIs_int _ _ _) PySem.sub_int_bytes ?_)))
  simp only [Bool.false_eq_true, if_false]
  refine wpAny_pure (wpAny_bind (wpAny_bind (wpAny_isInstance (T := "int") (b := false) (typeIs_int _ _ _) PySem.sub_int_bytearray ?_)))
  simp only [Bool.false_eq_true, if_false]
  apply wpAny_pure
  apply wpAny_pure
  apply wpAny_bind
  refine wpAny_newObj_type ?_
  apply wpAny_pure
  refine ⟨plainId_quiet F.plain_sum_loop _, bsum_loop Wk (fun i => bs.getD i false) (fun i u z => ?_) (by rw [hz]; exact hn) _ (fun z => Nat.lt_irrefl _ (hfp _ z)) _ 0 _ _ 0 (Nat.zero_add _) (Wk.frame 0 _ _ _ st (Nat.le_refl _) fun b _ o e => Heap.get?_push_of_some _ e) (Heap.get?_push_size _ rfl) fun s' t' hm => ?_⟩
  · rw [hb, List.getElem?_toArray, List.getElem?_map] at z
    cases e : bs[i]? with
    | none => rw [e] at z; cases z
    | some b =>
      rw [e] at z
      have z2 : some (Value.bool b) = some u := z
      rw [← Option.some.inj z2, List.getD_eq_getElem?_getD, e]
      rfl
  · have e := cntB_get bs bs.length (Nat.le_refl _)
    rw [List.take_length] at e
    rw [hz, e]
    have m2 := hm.drop_new (Nat.le_succ _)
    rw [Moved.eq_with m2]
    exact ⟨.int _, H, I.kept fun b o eo => m2.heap b o (hnew b o eo) (kp b o eo), ⟨_, rfl⟩, q⟩
variable {W : WX} {p pos : Pos} {e : Expr} {es : List Expr} {ts : TDs} {a b : Expr} {ta tb : TD}
def gSum : GN := fun ds P => match ds with
  | [.lst xs] => ∃ bs : List Bool, xs = bs.map D.bl ∧ bs.length ≤ 1000000 ∧ P (.fz (.int ((bs.filter id).length : Int)))
  | _ => False
theorem ae_sum (hc : X.calm = true) (hg : Gl X "sum") (hm : X.mg "sum" = none) (ha : AA X W (e :: es) ts) (he : starEach (e :: es) X.env = (false, eval e X.env) :: starEach es X.env := by rfl) (hpl : (backTo pos (starEach es X.env)).any (·.1) = false := by rfl) :
    AE X W (.Call (.Name "sum" p) (e :: es) [] pos) (tN (pN gSum) ts) := ae_callB (cr_sumB hc) (primN fun HF H vs ds P Q s r g k => by
      unfold gSum at g
      split at g
      · obtain ⟨v, rfl, rv⟩ := r.one
        obtain ⟨p, vs, rfl, h1, r1⟩ := rv
        obtain ⟨bs, rfl, hn, q⟩ := g
        obtain rfl := reps_bl r1
        exact ⟨p, bs, rfl, SqL.of h1, hn, k _ _ _ _ _ q (New.imm s rfl)⟩
      · exact g.elim) hg hm (by decide +kernel) ha (by decide) (by decide) he hpl
/-! ### a text times a number -/
def repS (x : Str) (n : Int) : Str := ⟨(List.replicate n.toNat x.cps).foldl (· ++ ·) #[]⟩
theorem foldl_nil : ∀ n : Nat, (List.replicate n (#[] : Array Nat)).foldl (· ++ ·) #[] = #[]
  | 0 => rfl
  | n + 1 => by rw [List.replicate_succ, List.foldl_cons]; exact foldl_nil n
theorem foldl_size (a : Array Nat) : ∀ (n : Nat) (z : Array Nat), ((List.replicate n a).foldl (· ++ ·) z).size = z.size + n * a.size
  | 0, z => by simp
  | n + 1, z => by rw [List.replicate_succ, List.foldl_cons, foldl_size a n, Array.size_append, Nat.succ_mul]; omega
def rMulS : R2 := fun x y H Q => ∃ z n, x = .str z ∧ y = .int n ∧ -1000000 ≤ n ∧ n ≤ 1000000 ∧ z.length ≤ 16 ∧ Q (.str (repS z n)) H
theorem op_mulS : OpR X (binaryOp .Mult) rMulS := by
  intro pins s σ H x y v u Q I rx ry h
  obtain ⟨z, n, rfl, rfl, h1, h2, h3, q⟩ := h
  obtain ⟨t, rfl⟩ := rx
  obtain ⟨t2, rfl⟩ := ry
  refine PySem.P.mul_str ?_ ?_ ?_ ?_
  · rw [decide_eq_false (by omega), decide_eq_false (by omega)]; rfl
  · intro a1 a2 a3
    have : (16 : Int) ≤ (2 ^ 63 - 1) / n := by
      rw [Int.le_ediv_iff_mul_le (by omega)]
      omega
    omega
  · intro a1 a2
    have : z.length * n.toNat ≤ 16 * 1000000 := Nat.mul_le_mul h3 (by omega)
    unfold Builtin.Str.tooLong
    rw [sizeLine_eq]
    simp only [gt_iff_lt, decide_eq_false_iff_not]
    omega
  · split
    · rename_i c
      have e : repS z n = Str.empty := by unfold repS; rw [show n.toNat = 0 by omega]; rfl
      rw [e] at q
      exact ⟨by decide, .str Str.empty, H, I.tok _, ⟨_, rfl⟩, q⟩
    · split
      · rename_i c d
        have e : repS z n = z := by
          unfold repS
          simp only [Bool.or_eq_true, beq_iff_eq] at d
          rcases d with d | d
          · rw [d]; simp
          · have e0 : z.cps = #[] := Array.eq_empty_of_size_eq_zero d
            rw [e0, foldl_nil]
            cases z; simp at e0; rw [e0]
        rw [e] at q
        exact ⟨.str z, H, I, ⟨_, rfl⟩, q⟩
      · have lz : (repS z n).length ≤ 16 * 1000000 := by
          show ((List.replicate n.toNat z.cps).foldl (· ++ ·) #[]).size ≤ _
          rw [foldl_size]
          have : n.toNat * z.cps.size ≤ 1000000 * 16 := Nat.mul_le_mul (by omega) h3
          show 0 + _ ≤ _
          omega
        have lw : (repS z n).length ≤ sizeLine := by rw [sizeLine_eq]; omega
        exact ⟨lw, .str (repS z n), H, I.tok _, ⟨_, rfl⟩, q⟩
def gMulS : G2 := fun d d' P => match d, d' with
  | .str z, .int n => -1000000 ≤ n ∧ n ≤ 1000000 ∧ z.length ≤ 16 ∧ P (.fz (.str (repS z n)))
  | _, _ => False
theorem ae_mulS (ha : AE X W a ta) (hb : AE X W b tb) : AE X W (.BinOp a .Mult b pos) (t2 (p2 gMulS) ta tb) := ae_op op_mulS (prim2 fun HF H v v' d d' P Q s r r' g k => by
  unfold gMulS at g
  split at g
  · obtain rfl := r
    obtain rfl := r'
    obtain ⟨h1, h2, h3, q⟩ := g
    exact ⟨_, _, rfl, rfl, h1, h2, h3, k _ _ _ _ _ q (New.imm s rfl)⟩
  · exact g.elim) ha hb
end
end AE
/-! AH1: a head that checks one Bool of one's own over the written part, and the defs. -/
namespace AH
open PySem L2
def seeB (n : Nat) (chk : PySem.W.Frag → Bool) (fn : List He.DefD) (g : Addr → Option Obj) : Bool × He.AlD :=
  let K := He.frG g (He.asD g n)
  (chk K, He.obsD [] fn K)
def SaysB (chk : PySem.W.Frag → Bool) (fn : List He.DefD) (K : PySem.W.Frag) : Prop := chk K = true ∧ He.SaysD [] fn K
def hookB (n : Nat) (chk : PySem.W.Frag → Bool) (fn : List He.DefD) : PySem.W.Hook where
  α := Bool × He.AlD
  obs := fun s => seeB n chk fn s.heap.get?
  val := fun _ => (true, He.valD fn)
  says := fun _ h => ∃ K : PySem.W.Frag, K.In h ∧ SaysB chk fn K
  of := fun _ _ e => ⟨_, He.frG_in, congrArg Prod.fst e, congrArg Prod.snd e⟩
  keeps := fun _ _ _ ⟨K, hK, c⟩ k => ⟨K, PySem.W.Frag.In.keeps hK k, c⟩
theorem seeB_eq {n : Nat} {chk : PySem.W.Frag → Bool} {fn : List He.DefD} (s : PySem.W.SharedT) : seeB n chk fn (HandSHeadRun.getT s) = (hookB n chk fn).obs s.abs := by
  have e : HandSHeadRun.getT s = s.abs.heap.get? := funext (HandSHeadRun.getT_eq s)
  rw [e]
  rfl
end AH
/-! AH2: what the head tells, as Bools over the written part. -/
namespace AH
open PySem L2 AE
theorem fun_of {K : PySem.W.Frag} {x qual : Str} {st : Stmt} {f : Addr} {fd : FuncData} (F : FunD K x qual (defArgs st) (defBody st) (defScope st) [] [] f fd) : L2.Fun K x qual st f fd := by
  obtain ⟨oc, od, dV, kV, doc, pm, an, cdv, ct, osl, e, lk, hc, hD, _⟩ := F.ex
  rcases hD with ⟨_, rfl⟩ | ⟨z, _⟩
  · exact ⟨⟨oc, od, kV, doc, pm, an, cdv, ct, osl, e, lk, hc⟩, F.kp⟩
  · exact absurd rfl z
theorem andB {a b : Bool} (h : (a && b) = true) : a = true ∧ b = true := Bool.and_eq_true_iff.mp h
abbrev C (K : PySem.W.Frag) (x : Str) : Addr := He.ga K x
/-- the module's name x stands for an object -/
def gloB (K : PySem.W.Frag) (x : Str) : Bool := decide (PySem.W.nsIn K mainGlobals x = some (some (.ref (C K x))))
def freeB (K : PySem.W.Frag) (x : Str) : Bool := decide (PySem.W.nsIn K mainGlobals x = some none)
section
variable {K : PySem.W.Frag} {h : Heap} {mg : Str → Option Value} {x : Str}
theorem gloB_ok (X : K.In h) (G : h.Ns mainGlobals mg) (c : gloB K x = true) : mg x = some (.ref (C K x)) := PySem.W.mg_of X G (of_decide_eq_true c)
theorem freeB_ok (X : K.In h) (G : h.Ns mainGlobals mg) (c : freeB K x = true) : mg x = none := PySem.W.mg_none_of X G (of_decide_eq_true c)
end
/-! ### exception classes -/
/-- the class object's own form: over ValueError, made by ValueError.__new__ -/
def xobjB (K : PySem.W.Frag) (C : Addr) : Bool := match K.lookup C with
  | some o => (match o.cls, o.data, o.slots.toList with
    | .type t, .cls cd, [_, _, _, _, some (.builtin n), _] => (match cd.mro with
      | .ref C' :: bm => t == "type" && (C' == C && (n == "ValueError.__new__" && (!cd.hasDel && (cd.hasDict && PySem.HandSPX.refsVE bm))))
      | _ => false)
    | _, _, _ => false)
  | none => false
theorem xobjB_ok {K : PySem.W.Frag} {C : Addr} (c : xobjB K C = true) : ∃ nm q N bs bm sn sub ab col dd k0 k1 k2 k3 k5, K.lookup C = some (excClassObj nm q C N bs bm true sn sub ab col dd k0 k1 k2 k3 k5 "ValueError.__new__") ∧ PySem.HandSPX.refsVE bm = true := by
  unfold xobjB at c
  split at c
  · rename_i o lk
    obtain ⟨oc, od, dt, sl⟩ := o
    dsimp only at c
    split at c
    · rename_i t cd k0 k1 k2 k3 n k5 e1
      split at c
      · rename_i C' bm em
        obtain ⟨c1, c⟩ := andB c
        obtain ⟨c2, c⟩ := andB c
        obtain ⟨c3, c⟩ := andB c
        obtain ⟨c4, c⟩ := andB c
        obtain ⟨c5, c6⟩ := andB c
        obtain rfl : t = "type" := beq_iff_eq.mp c1
        obtain rfl : C' = C := beq_iff_eq.mp c2
        obtain rfl : n = "ValueError.__new__" := beq_iff_eq.mp c3
        obtain ⟨nm, bs, mro, ns, qn, hd, sn, sub, ab, col, del⟩ := cd
        dsimp only at em c4 c5
        subst em
        obtain rfl : hd = true := c5
        obtain rfl : del = false := by simpa using c4
        have es : sl = #[k0, k1, k2, k3, some (.builtin "ValueError.__new__"), k5] := by
          apply Array.toList_inj.mp
          exact e1
        subst es
        exact ⟨nm, qn, ns, bs, bm, sn, sub, ab, col, od, k0, k1, k2, k3, k5, lk, c6⟩
      · cases c
    · cases c
  · cases c
/-- an exception class that is raised, asked and read -/
def excB (K : PySem.W.Frag) (C : Addr) : Bool := xobjB K C && (decide (PySem.W.findIn K (.ref C) "__setattr__" = some (some (.builtin "object.__setattr__"))) && (decide (PySem.W.subIn K (.ref C) (.type "BaseException") = some true) && (decide (PySem.W.typeIn K (.ref C) = some (.type "type")) && (PySem.W.keepIn K (.ref C) &&
  (decide (PySem.W.findIn K (.ref C) "__getattribute__" = some (some (.builtin "BaseException.__getattribute__"))) && (decide (PySem.W.findIn K (.ref C) "__getattr__" = some none) && (PySem.W.hasDictIn K C && ((PySem.W.clsIn K C).isSome &&
  (decide (PySem.W.findIn K (.ref C) "__class__" = some (some (.builtin "object.__class__"))) && (decide (PySem.W.specialIn K (.builtin "object.__class__") "__get__" = some (some (.builtin "getset_descriptor.__get__"))) && (decide (PySem.W.takesIn K (.builtin "object.__class__") = some true) && decide (PySem.W.mroIn K C (.type "object") = some true))))))))))))
structure ExcOk (K : PySem.W.Frag) (C : Addr) : Prop where
  oex : OexC K C
  xf : XfC K C
  xi : XIs K C
theorem excB_ok {K : PySem.W.Frag} {C : Addr} (c : excB K C = true) : ExcOk K C := by
  obtain ⟨c1, c⟩ := andB c
  obtain ⟨c2, c⟩ := andB c
  obtain ⟨c3, c⟩ := andB c
  obtain ⟨c4, c⟩ := andB c
  obtain ⟨c5, c⟩ := andB c
  obtain ⟨c6, c⟩ := andB c
  obtain ⟨c7, c⟩ := andB c
  obtain ⟨c8, c⟩ := andB c
  obtain ⟨c9, c⟩ := andB c
  obtain ⟨d1, c⟩ := andB c
  obtain ⟨d2, c⟩ := andB c
  obtain ⟨d3, d4⟩ := andB c
  have c2 := of_decide_eq_true c2
  have c3 := of_decide_eq_true c3
  have c4 := of_decide_eq_true c4
  have c6 := of_decide_eq_true c6
  have c7 := of_decide_eq_true c7
  exact ⟨⟨xobjB_ok c1, c2, c3, c4, c5⟩, ⟨c6, c7, c3, c8⟩, ⟨c9, c6, c7, c3, of_decide_eq_true d1, of_decide_eq_true d2, of_decide_eq_true d3, of_decide_eq_true d4⟩⟩
/-- a class without an __init__ of its own -/
def plainB (K : PySem.W.Frag) (C : Addr) : Bool := PySem.W.excIn K C PySem.HandSPX.veTail "ValueError.__new__"
theorem plain_ok {K : PySem.W.Frag} {h : Heap} {mg : Str → Option Value} {x : Str} (X : K.In h) (G : h.Ns mainGlobals mg) (g : gloB K x = true) (e : ExcOk K (C K x)) (p : plainB K (C K x) = true) : XPlain K mg x (C K x) :=
  ⟨gloB_ok X G g, p, e.oex.kC, e.oex.exC, e.oex.tyC⟩
/-- a class with an __init__(self, n): self.f = n -/
def oneB (K : PySem.W.Frag) (C : Addr) (f : Str) : Bool := decide (PySem.W.findIn K (.ref C) "__init__" = some (some (.ref (He.ma K C "__init__")))) && (decide (PySem.W.typeIn K (.ref (He.ma K C "__init__")) = some (.type "function")) && decide (PySem.W.findIn K (.ref C) f = some none))
theorem one_ok {P : Program} {w : World} {K : PySem.W.Frag} {base h : Heap} {mg : Str → Option Value} {x : Str} {st : Stmt} {qual f pn : Str} {fd : FuncData} {p1 p2 p3 p4 : Pos} (X : K.In h) (G : h.Ns mainGlobals mg) (g : gloB K x = true) (e : ExcOk K (C K x)) (o : oneB K (C K x) f = true)
    (Fn : L2.Fun K "__init__" qual st (He.ma K (C K x) "__init__") fd) (S : FnScope ["self", pn] ["self", pn] (defScope st)) (hb : defBody st = [.Assign [.Attribute (.Name "self" p1) f p2] (.Name pn p3) p4]) (hp : (pn == ("__debug__" : Str)) = false) (hp' : (pn == ("__classdict__" : Str)) = false) (v0 : Vis (defScope st) "self") (v1 : Vis (defScope st) pn)
    (b1 : Binds K fd ["self", pn] []) (b2 : ∀ (s : Shared) (a u : Value), BindsTo s fd ⟨[a], [(pn, u)]⟩ [("self", a), (pn, u)]) : XOneK P w K mg base x (C K x) f pn ∧ XfD K (C K x) f := by
  obtain ⟨o1, o⟩ := andB o
  obtain ⟨o2, o3⟩ := andB o
  exact ⟨⟨gloB_ok X G g, e.oex, _, fd, of_decide_eq_true o1, of_decide_eq_true o2, b1, b2, ok_xinit Fn S hb hp hp' e.oex (of_decide_eq_true o3) v0 v1⟩, e.xf, of_decide_eq_true o3⟩
end AH
/-! AE22: names for readings; a def's contract by its own reading. -/
namespace AE
open PySem L2
section
variable {X : Cx} {W : WX} {pos : Pos}
theorem ae_ty {x : Str} {T : String} (hg : Gl X x) (hm : X.mg x = none) (hv : bootBuiltins x = some (.type T)) (hn : x ≠ "__name__" := by decide) (hd : (x == ("__debug__" : Str)) = false := by decide) : AE X W (.Name x pos) (tK (.ty T)) := ae_const (pe_bltn (v := .ty T) hg hm hv rfl hn hd) fun _ _ => rfl
end
abbrev gSub : G2 := gI0 fun i j => .int (i - j)
abbrev gMod : G2 := gI (fun _ j => 0 < j) fun i j => .int (i % j)
abbrev gDiv : G2 := gI CDivW fun i j => .int (i / j)
abbrev gMul : G2 := gI CMulW fun i j => .int (i * j)
abbrev gPow : G2 := gI CPowW fun i j => .int (i ^ j.toNat)
abbrev gXor : G2 := gI0 fun i j => .int (Builtin.bitXor i j)
abbrev gLt : G2 := gI0 fun i j => .bl (decide (i < j))
abbrev gLe : G2 := gI0 fun i j => .bl (decide (i ≤ j))
abbrev gGt : G2 := gI0 fun i j => .bl (decide (j < i))
abbrev gGe : G2 := gI0 fun i j => .bl (decide (j ≤ i))
abbrev mkT : List D → O := fun ds => .fz (.tup ds)
abbrev mkL : List D → O := fun ds => .ls ds
/-- what a def does, by its body's reading -/
def mkF (pr : Prot) (n m : Nat) (t : TSD) : AFn := fun os Kd Ed => os.length = n ∧ t { nx := fun ρ => Kd (.fz .non) (leftD pr 0 os ρ), rt := fun o ρ => Kd o (leftD pr 0 os ρ) } (fun x ρ => Ed x (leftD pr 0 os ρ)) (startD m os)
theorem mkF_len {pr : Prot} {n m : Nat} {t : TSD} {os : List O} {Kd : O → Env → Prop} {Ed : XD → Env → Prop} (h : mkF pr n m t os Kd Ed) : os.length = n := h.1
end AE
namespace AE
open PySem L2
abbrev KO := O → Env → Prop
abbrev KXc := XD → Env → Prop
theorem iteB {b : Bool} {P Q : Prop} (h1 : b = true → P) (h2 : b = false → Q) : (if b = true then P else Q) := by
  cases b
  · exact h2 rfl
  · exact h1 rfl
theorem bits_le {x : Int} {n : Nat} (h : x.natAbs < 2 ^ n) : Builtin.Int.intBits x ≤ n := by
  unfold Builtin.Int.intBits
  split
  · exact Nat.zero_le _
  · rename_i hx
    have hx : x ≠ 0 := fun e => hx (by rw [e]; rfl)
    have : x.natAbs ≠ 0 := fun e => hx (Int.natAbs_eq_zero.mp e)
    have := (Nat.log2_lt this).mpr h
    omega
theorem log_lt {x : Int} {n : Nat} (hn : 0 < n) (h : x.natAbs < 2 ^ n) : x.natAbs.log2 < n := by
  by_cases e : x.natAbs = 0
  · rw [e]; simpa using hn
  · exact (Nat.log2_lt e).mpr h
theorem mulW {i j : Int} (hi : i.natAbs < 2 ^ 200) (hj : j.natAbs < 2 ^ 200) : CMulW i j := by
  have a := log_lt (by decide) hi
  have b := log_lt (by decide) hj
  show i.natAbs.log2 + j.natAbs.log2 < 1000000
  omega
end AE
namespace AE
open PySem L2
theorem szB {n : Nat} (h : Nat.ble n sizeLine = true) : n ≤ sizeLine := Nat.le_of_ble_eq_true h
theorem powW {i j : Int} (h0 : 0 ≤ j) (h1 : j ≤ 1000) (hi : i.natAbs < 2 ^ 200) : CPowW i j := by
  have b := bits_le hi
  refine ⟨h0, ?_⟩
  have : (Builtin.Int.intBits i : Int) * j ≤ 200 * 1000 := Int.mul_le_mul (by omega) h1 h0 (by omega)
  omega
theorem divW {i j : Int} (h : 0 < j) (hj : j.natAbs < 2 ^ 200) : CDivW i j := ⟨h, by have := log_lt (by decide) hj; omega⟩
theorem atI_lt {α : Type} {xs : List α} {k : Int} (h0 : 0 ≤ k) (h1 : k < xs.length) : ∃ x, x ∈ xs ∧ atI xs k = some x := by
  have hk : k.toNat < xs.length := by omega
  refine ⟨xs[k.toNat], List.getElem_mem _, ?_⟩
  unfold atI ixN
  rw [if_pos h0, if_pos h1]
  simp [hk]
end AE
namespace AE
open PySem L2
/-- the slots written out, then k -/
def force : Env → (Env → Prop) → Prop
  | [], k => k []
  | x :: xs, k => force xs (fun ys => k (x :: ys))
theorem force_eq : ∀ (ρ : Env) (k : Env → Prop), force ρ k = k ρ
  | [], k => rfl
  | x :: xs, k => force_eq xs (fun ys => k (x :: ys))
def tSeqF (t u : TSD) : TSD := fun E Ed ρ => t { E with nx := fun ρ1 => force ρ1 (fun ρ => u E Ed ρ) } Ed ρ
theorem tSeqF_eq (t u : TSD) : tSeqF t u = tSeqD t u := by
  funext E Ed ρ
  unfold tSeqF tSeqD
  simp only [force_eq]
theorem ass_consF {X : Cx} {W : WX} {P : Prot} {st : Stmt} {rest : List Stmt} {t u : TSD} (h1 : AS X W P st t) (h2 : ASs X W P rest u) : ASs X W P (st :: rest) (tSeqF t u) := by
  rw [tSeqF_eq]; exact ass_cons h1 h2
end AE
namespace AE
open PySem L2
/-- the name's thing made pure; what is pure already stays as it is written -/
def tNameF (i : Nat) : TD := fun ρ Kd _ => match ρ[i]? with
  | some (some (.fz d)) => Kd (.ow (.fz d)) ρ
  | some (some o) => Kd (.ow (.fz (frz o))) (ρ.set i (some (.fz (frz o))))
  | _ => False
theorem ae_nameF {X : Cx} {W : WX} {e : Expr} {i : Nat} (h : PE X e (tVar i)) : AE X W e (tNameF i) := PE.imp (ae_nameZ (W := W) h) fun σ H Q q => by
  obtain ⟨HF, ρ, A, Kd, Ed, w, en, t, k, x⟩ := q
  refine ⟨HF, ρ, A, Kd, Ed, w, en, ?_, k, x⟩
  unfold tNameF at t
  unfold tNameZ
  split at t
  · rename_i d e1
    rw [e1]
    dsimp only [frz]
    rw [set_get e1]
    exact t
  · rename_i o _ e1
    rw [e1]
    exact t
  · exact t.elim
end AE
/-! AH3: the end of a law. -/
namespace AH
open PySem PySem.Spec PyProof.Rows L2
theorem walk_ofW {l : PySem.W.OpenLaw} {n k : Nat} {q : Program} {loose : List Str} {XP : (Str → Option Value) → Heap → Prop} {YP : World → Heap → Prop} {d : DefRec} {CX : World → CXT} {x : Str}
    (hn : l.most = some n) (hn2 : n ≤ sizeLine) (hdf : d.params.defaults = []) (hr : Room k callerA)
    (F : ∀ (w : World) (mg : Str → Option Value) (fa : Addr) (h : Heap), YP w h → h.Ns mainGlobals mg → mg d.name = some (.ref fa) →
      ∃ (K : PySem.W.Frag) (fd : FuncData) (sp : Sp), K.In h ∧ (∀ (s : Shared) (u : Value), BindsTo s fd ⟨[u], []⟩ [(x, u)]) ∧
        (∀ (H : Hp) (a : Addr) (ns : List Int), ns.length ≤ n → Only H → SqL K H a (ns.map V.int) → sp [.ref a] H (fun v _ => v = .bl true) fun _ _ _ => False) ∧
        ∀ base : Heap, K.In base → base.Ns mainGlobals mg → FnOk l.prog w K mg base (CX w) k fa fd [x] sp)
    (hCX : ∀ (w : World) (H : Hp) (s : Shared) (e : Value) (s' : Shared), CX w [] H s (fun _ _ _ => False) e s' → False) :
    PySem.W.WalkO q loose XP YP l.row.toRowW d [] (fun f vs => PySem.call f vs) := by
  refine Att.attach_call hn hdf fun w s₀ s₁ mg mb fa o pm cd doc a vs ns G Y ho hd hcd hmg hobj hints hlen hg => ?_
  obtain ⟨K, fd, sp, KX, hb, hsp, hF⟩ := F w mg fa _ Y G.T.g hmg
  exact law_call KX G.T.g G.T.b G.T.builtins G.T.nolimit hg hobj hints (Nat.le_trans hlen hn2) hr hF hb (fun H hO hS => hsp H a ns hlen hO hS) fun H e s' => hCX w H s₁ e s'
theorem noCX {P : Program} {w : World} {H : Hp} {s : Shared} {e : Value} {s' : Shared} (z : L2N.CX P w [] H s (fun _ _ _ => False) e s') : False := by
  obtain ⟨_, _, _, _, _, _, _, _, _, _, _, _, z⟩ := z
  exact z
/-- one positional value, one keyword -/
theorem bindsK {K : PySem.W.Frag} {x qual : Str} {params : Arguments} {body : List Stmt} {scope : Scope} {kws : List (Str × V)} {f : Addr} {fd : FuncData} {pn : Str} (F : FunD K x qual params body scope [] kws f fd)
    (h : ∀ (kV doc pm : Value) (an : Option Addr) (cdv ct a u : Value), bindArgs (PySem.W.fnOf x qual params body scope .none kV doc pm an cdv ct) ⟨[a], [(pn, u)]⟩ = pure ([("self", a), (pn, u)] : List (Str × Value))) (s : Shared) (a u : Value) : BindsTo s fd ⟨[a], [(pn, u)]⟩ [("self", a), (pn, u)] := by
  obtain ⟨oc, od, dV, kV, doc, pm, an, cdv, ct, osl, rfl, lk, hcd, hD, hK⟩ := F.ex
  rcases hD with ⟨_, rfl⟩ | ⟨e, _⟩
  · exact .of_eq (h kV doc pm an cdv ct a u)
  · exact absurd rfl e
open AE in
theorem spLaw {K : PySem.W.Frag} {n : Nat} {F : AFn} (pure_ : ∀ ns : List Int, ns.length ≤ n → F [.fz (.scr ns)] (fun o _ => o = .fz (.bl true)) (fun _ _ => False)) (H : Hp) (a : Addr) (ns : List Int) (hl : ns.length ≤ n) (hS : SqL K H a (ns.map V.int)) : spA K 1 F [.ref a] H (fun v _ => v = .bl true) fun _ _ _ => False := by
  refine ⟨H, [.fz (.scr ns)], [], _, _, rfl, ⟨.refl _, List.nodup_nil, fun _ h => by cases h⟩, ⟨.ref a, [], [], [], rfl, rfl, ⟨rfl, a, rfl, hS⟩, rfl, rfl⟩, pure_ ns hl, fun o ρ q HF' H' A' v Av f w en r => ?_, fun x ρ q => q.elim⟩
  subst q
  exact r.2
end AH
namespace T
open PySem L2 AE AH
def pr__law_kinds : Prot := fun i => i == 0
def t__law_kinds (K : PySem.W.Frag) : TSD :=
  (tSeqF (tAsgD (tDisp mkL (tConsD (tN (pN (gIsi K)) (tConsD (tName 0) (tConsD (tK (.cl (C K "BadBook"))) tNilD))) (tConsD (tN (pN (gIsi K)) (tConsD (tName 0) (tConsD (tK (.cl (C K "BadName"))) tNilD))) (tConsD (tN (pN (gIsi K)) (tConsD (tName 0) (tConsD (tK (.cl (C K "Repeated"))) tNilD))) (tConsD (tN (pN (gIsi K)) (tConsD (tName 0) (tConsD (tK (.cl (C K "BadPair"))) tNilD))) tNilD))))) (gNameD 1))
    (tSeqF (tAsgD (tDisp mkL (tConsD (tN (pN (gIsi K)) (tConsD (tName 0) (tConsD (tK (.cl (C K "BadMove"))) tNilD))) (tConsD (tN (pN (gIsi K)) (tConsD (tName 0) (tConsD (tK (.cl (C K "BadText"))) tNilD))) (tConsD (tN (pN (gIsi K)) (tConsD (tName 0) (tConsD (tK (.cl (C K "UnlikeBooks"))) tNilD))) (tConsD (tN (pN (gIsi K)) (tConsD (tName 0) (tConsD (tK (.cl (C K "BadChange"))) tNilD))) tNilD))))) (gNameD 2))
    (tSeqF (tAsgD (tDisp mkL (tConsD (tN (pN (gIsi K)) (tConsD (tName 0) (tConsD (tK (.cl (C K "BadKind"))) tNilD))) (tConsD (tN (pN (gIsi K)) (tConsD (tName 0) (tConsD (tK (.cl (C K "Clash"))) tNilD))) (tConsD (tN (pN (gIsi K)) (tConsD (tName 0) (tConsD (tK (.cl (C K "BadStates"))) tNilD))) (tConsD (tN (pN (gIsi K)) (tConsD (tName 0) (tConsD (tK (.cl (C K "BadTable"))) tNilD))) tNilD))))) (gNameD 3))
    (tSeqF (tAsgD (tDisp mkL (tConsD (tN (pN (gIsi K)) (tConsD (tName 0) (tConsD (tK (.cl (C K "NoState"))) tNilD))) (tConsD (tN (pN (gIsi K)) (tConsD (tName 0) (tConsD (tK (.cl (C K "TakenState"))) tNilD))) (tConsD (tN (pN (gIsi K)) (tConsD (tName 0) (tConsD (tK (.cl (C K "Refused"))) tNilD))) (tConsD (tN (pN (gIsi K)) (tConsD (tName 0) (tConsD (tK (.cl (C K "BadLine"))) tNilD))) tNilD))))) (gNameD 4))
    (tSeqF (tAsgD (tDisp mkL (tConsD (tN (pN (gIsi K)) (tConsD (tName 0) (tConsD (tK (.cl (C K "BadProgram"))) tNilD))) (tConsD (tN (pN (gIsi K)) (tConsD (tName 0) (tConsD (tK (.cl (C K "BadMark"))) tNilD))) (tConsD (tN (pN (gIsi K)) (tConsD (tName 0) (tConsD (tK (.cl (C K "BadPath"))) tNilD))) (tConsD (tN (pN (gIsi K)) (tConsD (tName 0) (tConsD (tK (.cl (C K "Broken"))) tNilD))) tNilD))))) (gNameD 5))
    (tSeqF (tAsgD (t2 (p2 gAdd) (t2 (p2 gAdd) (tN (pN gSum) (tConsD (tName 1) tNilD)) (tN (pN gSum) (tConsD (tName 2) tNilD))) (tN (pN gSum) (tConsD (tName 3) tNilD))) (gNameD 6))
    (tRetD (t2 (p2 gAdd) (t2 (p2 gAdd) (t2 (p2 gAdd) (tName 6) (tN (pN gSum) (tConsD (tName 4) tNilD))) (tN (pN gSum) (tConsD (tName 5) tNilD))) (tN (pN gInt) (tConsD (tN (pN (gIsi K)) (tConsD (tName 0) (tConsD (tK (.cl (C K "NothingToUndo"))) tNilD))) tNilD))))))))))
@[irreducible] def F__law_kinds (K : PySem.W.Frag) : AFn := mkF pr__law_kinds 1 7 (t__law_kinds K)

def pr__law_take : Prot := fun i => i == 0 || i == 1
def t__law_take (K : PySem.W.Frag) : TSD :=
  (tSeqF (tIfSD (tVal (t2 (p2 gGe) (t2 (p2 gIxD) (tName 0) (tK (.int 0))) (t2 (p2 gPow) (tK (.int 10)) (tK (.int 18))))) (tSeqF (tAsgD (t2 (p2 gMod) (tN (pN gInt) (tConsD (t2 (p2 gIxD) (tName 0) (tK (.int 0))) tNilD)) (tName 1)) (gNameD 2))
    (tSeqF (tAsgD (t2 (p2 gDiv) (t2 (p2 gIxD) (tName 0) (tK (.int 0))) (tName 1)) (gSubD (tName 0) (tK (.int 0))))
    (tRetD (tName 2)))) tNextD)
    (tSeqF (tAsgD (t2 (p2 gAdd) (t2 (p2 gIxD) (tName 0) (tK (.int 1))) (tK (.int 1))) (gSubD (tName 0) (tK (.int 1))))
    (tSeqF (tAsgD (t2 (p2 gMod) (t2 (p2 gPow) (tN (pN gInt) (tConsD (t2 (p2 gAdd) (t2 (p2 gAdd) (t2 (p2 gMul) (t2 (p2 gAdd) (t2 (p2 gIxD) (tName 0) (tK (.int 0))) (tK (.int 7))) (tK (.int 69069))) (t2 (p2 gMul) (t2 (p2 gIxD) (tName 0) (tK (.int 1))) (tK (.int 40692)))) (t2 (p2 gIxD) (tName 0) (tK (.int 2)))) tNilD)) (tK (.int 3))) (tK (.int 2147483647))) (gNameD 3))
    (tSeqF (tAsgD (t2 (p2 gMod) (t2 (p2 gPow) (tN (pN gInt) (tConsD (t2 (p2 gAdd) (tName 3) (t2 (p2 gMul) (t2 (p2 gIxD) (tName 0) (tK (.int 1))) (tK (.int 17389)))) tNilD)) (tK (.int 3))) (tK (.int 2147483399))) (gNameD 3))
    (tRetD (t2 (p2 gMod) (tN (pN gInt) (tConsD (t2 (p2 gDiv) (tName 3) (tK (.int 64))) tNilD)) (tName 1)))))))
@[irreducible] def F__law_take (K : PySem.W.Frag) : AFn := mkF pr__law_take 2 4 (t__law_take K)

def pr__law_value : Prot := fun i => i == 0
def t__law_value (K : PySem.W.Frag) : TSD :=
  (tSeqF (tAsgD (tCallA (F__law_take K) (tConsD (tName 0) (tConsD (tK (.int 5)) tNilD))) (gNameD 1))
    (tSeqF (tAsgD (t2 (p2 gSub) (tCallA (F__law_take K) (tConsD (tName 0) (tConsD (tK (.int 1000)) tNilD))) (tK (.int 500))) (gNameD 2))
    (tRetD (t2 (p2 gIxD) (tDisp mkL (tConsD (tNameF 2) (tConsD (t2 (p2 gMulS) (tK (.str "x")) (t2 (p2 gMod) (tName 2) (tK (.int 7)))) (tConsD (tDisp mkL (tConsD (tNameF 2) (tConsD (tK (.str "a")) tNilD))) (tConsD (tK (.non)) (tConsD (tDisp mkT (tConsD (tK (.int 1)) (tConsD (tNameF 2) tNilD))) tNilD)))))) (tName 1)))))
@[irreducible] def F__law_value (K : PySem.W.Frag) : AFn := mkF pr__law_value 1 3 (t__law_value K)

def pr__law_cell : Prot := fun i => i == 0 || i == 1
def t__law_cell (K : PySem.W.Frag) : TSD :=
  (tRetD (tIfD (tVal (t2 (p2 gLt) (tName 1) (tN (pN gLen) (tConsD (tName 0) tNilD)))) (t2 (p2 gIxD) (tName 0) (tName 1)) (tK (.int 0))))
@[irreducible] def F__law_cell (K : PySem.W.Frag) : AFn := mkF pr__law_cell 2 2 (t__law_cell K)

def pr__law_box : Prot := fun i => i == 0 || i == 1
def t__law_box (K : PySem.W.Frag) : TSD :=
  (tRetD (tDisp mkL (tConsD (tN (pN gAbs) (tConsD (tN (pN gInt) (tConsD (tCallA (F__law_cell K) (tConsD (tName 0) (tConsD (tName 1) tNilD))) tNilD)) tNilD)) (tConsD (tK (.int 0)) (tConsD (t2 (p2 gAdd) (t2 (p2 gMul) (tK (.int 40503)) (tName 1)) (tK (.int 911))) tNilD)))))
@[irreducible] def F__law_box (K : PySem.W.Frag) : AFn := mkF pr__law_box 2 2 (t__law_box K)

def pr_law : Prot := fun i => i == 0
def t_law (K : PySem.W.Frag) : TSD :=
  (tSeqF (tAsgD (tCallA (F__law_box K) (tConsD (tName 0) (tConsD (tK (.int 0)) tNilD))) (gNameD 1))
    (tSeqF (tAsgD (tCallA (F__law_value K) (tConsD (tName 1) tNilD)) (gNameD 2))
    (tSeqF (tAsgD (tCallA (F__law_value K) (tConsD (tName 1) tNilD)) (gNameD 3))
    (tSeqF (tAsgD (tDisp mkL (tConsD (tX0 (.ref (C K "BadBook"))) (tConsD (tX0 (.ref (C K "BadText"))) (tConsD (tX0 (.ref (C K "UnlikeBooks"))) (tConsD (tX0 (.ref (C K "Clash"))) (tConsD (tX0 (.ref (C K "NothingToUndo"))) tNilD)))))) (gNameD 4))
    (tSeqF (tAsgD (tDisp mkL (tConsD (tX1 (C K "BadName") "name" (tNameF 2)) (tConsD (tX1 (C K "Repeated") "name" (tNameF 3)) (tConsD (tX1 (C K "BadPair") "pair" (tNameF 2)) (tConsD (tX1 (C K "BadMove") "move" (tNameF 3)) (tConsD (tX1 (C K "BadChange") "at" (tNameF 2)) (tConsD (tX1 (C K "BadKind") "kind" (tNameF 3)) (tConsD (tX1 (C K "BadStates") "states" (tNameF 2)) (tConsD (tX1 (C K "BadTable") "step" (tNameF 3)) tNilD))))))))) (gNameD 5))
    (tSeqF (tAsgD (t2 (p2 gAdd) (tName 5) (tDisp mkL (tConsD (tX1 (C K "NoState") "state" (tNameF 2)) (tConsD (tX1 (C K "TakenState") "state" (tNameF 3)) (tConsD (tX1 (C K "Refused") "at" (tNameF 2)) (tConsD (tX1 (C K "BadLine") "line" (tNameF 3)) (tConsD (tX1 (C K "BadProgram") "column" (tNameF 2)) (tConsD (tX1 (C K "BadMark") "mark" (tNameF 3)) tNilD)))))))) (gNameD 5))
    (tSeqF (tAsgD (t2 (p2 gAdd) (tName 5) (tDisp mkL (tConsD (tX1 (C K "BadPath") "path" (tNameF 2)) (tConsD (tX1 (C K "Broken") "paper" (tNameF 3)) tNilD)))) (gNameD 5))
    (tSeqF (tForD (tISeq (t2 (p2 gAdd) (tName 4) (tName 5))) (gNameD 6) (tIfSD (tOrT (tNotT (tVal (tN (pN (gIsi K)) (tConsD (tName 6) (tConsD (tK (.cl (C K "StepError"))) tNilD))))) (tOrT (tNotT (tVal (tN (pN (gIsi K)) (tConsD (tName 6) (tConsD (tK (.ty "ValueError")) tNilD))))) (tVal (t2 (p2 gNe) (tCallA (F__law_kinds K) (tConsD (tName 6) tNilD)) (tK (.int 1)))))) (tRetD (tK (.bl false))) tNextD))
    (tSeqF (tAsgD (tDisp mkL (tConsD (tXo K "name" (tX1 (C K "BadName") "name" (tNameF 2))) (tConsD (tXo K "name" (tX1 (C K "Repeated") "name" (tNameF 3))) (tConsD (tXo K "pair" (tX1 (C K "BadPair") "pair" (tNameF 2))) (tConsD (tXo K "move" (tX1 (C K "BadMove") "move" (tNameF 3))) tNilD))))) (gNameD 7))
    (tSeqF (tAsgD (t2 (p2 gAdd) (tName 7) (tDisp mkL (tConsD (tXo K "at" (tX1 (C K "BadChange") "at" (tNameF 2))) (tConsD (tXo K "kind" (tX1 (C K "BadKind") "kind" (tNameF 3))) (tConsD (tXo K "states" (tX1 (C K "BadStates") "states" (tNameF 2))) (tConsD (tXo K "step" (tX1 (C K "BadTable") "step" (tNameF 3))) tNilD)))))) (gNameD 7))
    (tSeqF (tAsgD (t2 (p2 gAdd) (tName 7) (tDisp mkL (tConsD (tXo K "state" (tX1 (C K "NoState") "state" (tNameF 2))) (tConsD (tXo K "state" (tX1 (C K "TakenState") "state" (tNameF 3))) (tConsD (tXo K "at" (tX1 (C K "Refused") "at" (tNameF 2))) (tConsD (tXo K "line" (tX1 (C K "BadLine") "line" (tNameF 3))) tNilD)))))) (gNameD 7))
    (tSeqF (tAsgD (t2 (p2 gAdd) (tName 7) (tDisp mkL (tConsD (tXo K "column" (tX1 (C K "BadProgram") "column" (tNameF 2))) (tConsD (tXo K "mark" (tX1 (C K "BadMark") "mark" (tNameF 3))) (tConsD (tXo K "path" (tX1 (C K "BadPath") "path" (tNameF 2))) (tConsD (tXo K "paper" (tX1 (C K "Broken") "paper" (tNameF 3))) tNilD)))))) (gNameD 7))
    (tSeqF (tAsgD (tDisp mkL (tConsD (tXo K "name" (t2 (p2 gIxD) (tName 5) (tK (.int 0)))) (tConsD (tXo K "name" (t2 (p2 gIxD) (tName 5) (tK (.int 1)))) (tConsD (tXo K "pair" (t2 (p2 gIxD) (tName 5) (tK (.int 2)))) (tConsD (tXo K "move" (t2 (p2 gIxD) (tName 5) (tK (.int 3)))) (tConsD (tXo K "at" (t2 (p2 gIxD) (tName 5) (tK (.int 4)))) (tConsD (tXo K "kind" (t2 (p2 gIxD) (tName 5) (tK (.int 5)))) (tConsD (tXo K "states" (t2 (p2 gIxD) (tName 5) (tK (.int 6)))) tNilD)))))))) (gNameD 8))
    (tSeqF (tAsgD (t2 (p2 gAdd) (tName 8) (tDisp mkL (tConsD (tXo K "step" (t2 (p2 gIxD) (tName 5) (tK (.int 7)))) (tConsD (tXo K "state" (t2 (p2 gIxD) (tName 5) (tK (.int 8)))) (tConsD (tXo K "state" (t2 (p2 gIxD) (tName 5) (tK (.int 9)))) (tConsD (tXo K "at" (t2 (p2 gIxD) (tName 5) (tK (.int 10)))) (tConsD (tXo K "line" (t2 (p2 gIxD) (tName 5) (tK (.int 11)))) (tConsD (tXo K "column" (t2 (p2 gIxD) (tName 5) (tK (.int 12)))) tNilD)))))))) (gNameD 8))
    (tSeqF (tAsgD (t2 (p2 gAdd) (tName 8) (tDisp mkL (tConsD (tXo K "mark" (t2 (p2 gIxD) (tName 5) (tK (.int 13)))) (tConsD (tXo K "path" (t2 (p2 gIxD) (tName 5) (tK (.int 14)))) (tConsD (tXo K "paper" (t2 (p2 gIxD) (tName 5) (tK (.int 15)))) tNilD))))) (gNameD 8))
    (tSeqF (tAsgD (tDisp mkL (tConsD (tNameF 2) (tConsD (tNameF 3) (tConsD (tNameF 2) (tConsD (tNameF 3) (tConsD (tNameF 2) (tConsD (tNameF 3) (tConsD (tNameF 2) (tConsD (tNameF 3) (tConsD (tNameF 2) (tConsD (tNameF 3) (tConsD (tNameF 2) (tConsD (tNameF 3) (tConsD (tNameF 2) (tConsD (tNameF 3) (tConsD (tNameF 2) (tConsD (tNameF 3) tNilD))))))))))))))))) (gNameD 9))
    (tRetD (tAndE (t2 (p2 gEq) (tName 7) (tName 9)) (tAndE (t2 (p2 gEq) (tName 8) (tName 9)) (t2 (p2 gEq) (t2 (p2 gAdd) (tCallA (F__law_kinds K) (tConsD (tX0 (.type "ValueError")) tNilD)) (tCallA (F__law_kinds K) (tConsD (tX0 (.ref (C K "StepError"))) tNilD))) (tK (.int 0))))))))))))))))))))))
@[irreducible] def F_law (K : PySem.W.Frag) : AFn := mkF pr_law 1 10 (t_law K)
end T
namespace T
open PySem L2 AE AH
def top (i : Nat) : Stmt := PySem.Challenge.pw_stephulls_k03_errors.main.body.getD i (.Pass ⟨0, 0, 0, 0⟩)
structure Blt (mg : Str → Option Value) : Prop where
  ValueError_ : mg "ValueError" = none
  abs_ : mg "abs" = none
  int_ : mg "int" = none
  isinstance_ : mg "isinstance" = none
  len_ : mg "len" = none
  sum_ : mg "sum" = none
abbrev s__law_kinds : Stmt := top 27
theorem sc__law_kinds : FnScope ["_law_e", "_law_first", "_law_second", "_law_third", "_law_fourth", "_law_fifth", "_law_total"] ["_law_e"] (defScope s__law_kinds) := ⟨rfl, rfl, rfl, by decide +kernel, rfl, by decide +kernel, by decide +kernel⟩
theorem ok__law_kinds {P : Program} {w : World} {K : PySem.W.Frag} {mg : Str → Option Value} {base : Heap} {f : Addr} {fd : FuncData} (B : Blt mg) (G_NothingToUndo : GlobD K mg "NothingToUndo" (.cl (C K "NothingToUndo")))
    (G_Broken : GlobD K mg "Broken" (.cl (C K "Broken")))
    (G_BadPath : GlobD K mg "BadPath" (.cl (C K "BadPath")))
    (G_BadMark : GlobD K mg "BadMark" (.cl (C K "BadMark")))
    (G_BadProgram : GlobD K mg "BadProgram" (.cl (C K "BadProgram")))
    (G_BadLine : GlobD K mg "BadLine" (.cl (C K "BadLine")))
    (G_Refused : GlobD K mg "Refused" (.cl (C K "Refused")))
    (G_TakenState : GlobD K mg "TakenState" (.cl (C K "TakenState")))
    (G_NoState : GlobD K mg "NoState" (.cl (C K "NoState")))
    (G_BadTable : GlobD K mg "BadTable" (.cl (C K "BadTable")))
    (G_BadStates : GlobD K mg "BadStates" (.cl (C K "BadStates")))
    (G_Clash : GlobD K mg "Clash" (.cl (C K "Clash")))
    (G_BadKind : GlobD K mg "BadKind" (.cl (C K "BadKind")))
    (G_BadChange : GlobD K mg "BadChange" (.cl (C K "BadChange")))
    (G_UnlikeBooks : GlobD K mg "UnlikeBooks" (.cl (C K "UnlikeBooks")))
    (G_BadText : GlobD K mg "BadText" (.cl (C K "BadText")))
    (G_BadMove : GlobD K mg "BadMove" (.cl (C K "BadMove")))
    (G_BadPair : GlobD K mg "BadPair" (.cl (C K "BadPair")))
    (G_Repeated : GlobD K mg "Repeated" (.cl (C K "Repeated")))
    (G_BadName : GlobD K mg "BadName" (.cl (C K "BadName")))
    (G_BadBook : GlobD K mg "BadBook" (.cl (C K "BadBook")))
    (Fn : L2.Fun K "_law_kinds" "_law_kinds" s__law_kinds f fd) : FnOk P w K mg base (L2N.CX P w) 1 f fd ["_law_e"] (spA K 1 (F__law_kinds K)) :=
  Fun.okA Fn sc__law_kinds pr__law_kinds fun cdv A outer s H E hr => ⟨t__law_kinds K,
    (ass_consF (as_asg (ae_lst (aa_cons (ae_isi rfl B.isinstance_ (aa_cons (ae_name (pv 0)) (aa_cons (ae_glob G_BadBook rfl) aa_nil))) (aa_cons (ae_isi rfl B.isinstance_ (aa_cons (ae_name (pv 0)) (aa_cons (ae_glob G_BadName rfl) aa_nil))) (aa_cons (ae_isi rfl B.isinstance_ (aa_cons (ae_name (pv 0)) (aa_cons (ae_glob G_Repeated rfl) aa_nil))) (aa_cons (ae_isi rfl B.isinstance_ (aa_cons (ae_name (pv 0)) (aa_cons (ae_glob G_BadPair rfl) aa_nil))) aa_nil))))) (ag_name (i := 1) sc__law_kinds.nd rfl (by first | exact .inl rfl | exact .inr rfl) rfl))
    (ass_consF (as_asg (ae_lst (aa_cons (ae_isi rfl B.isinstance_ (aa_cons (ae_name (pv 0)) (aa_cons (ae_glob G_BadMove rfl) aa_nil))) (aa_cons (ae_isi rfl B.isinstance_ (aa_cons (ae_name (pv 0)) (aa_cons (ae_glob G_BadText rfl) aa_nil))) (aa_cons (ae_isi rfl B.isinstance_ (aa_cons (ae_name (pv 0)) (aa_cons (ae_glob G_UnlikeBooks rfl) aa_nil))) (aa_cons (ae_isi rfl B.isinstance_ (aa_cons (ae_name (pv 0)) (aa_cons (ae_glob G_BadChange rfl) aa_nil))) aa_nil))))) (ag_name (i := 2) sc__law_kinds.nd rfl (by first | exact .inl rfl | exact .inr rfl) rfl))
    (ass_consF (as_asg (ae_lst (aa_cons (ae_isi rfl B.isinstance_ (aa_cons (ae_name (pv 0)) (aa_cons (ae_glob G_BadKind rfl) aa_nil))) (aa_cons (ae_isi rfl B.isinstance_ (aa_cons (ae_name (pv 0)) (aa_cons (ae_glob G_Clash rfl) aa_nil))) (aa_cons (ae_isi rfl B.isinstance_ (aa_cons (ae_name (pv 0)) (aa_cons (ae_glob G_BadStates rfl) aa_nil))) (aa_cons (ae_isi rfl B.isinstance_ (aa_cons (ae_name (pv 0)) (aa_cons (ae_glob G_BadTable rfl) aa_nil))) aa_nil))))) (ag_name (i := 3) sc__law_kinds.nd rfl (by first | exact .inl rfl | exact .inr rfl) rfl))
    (ass_consF (as_asg (ae_lst (aa_cons (ae_isi rfl B.isinstance_ (aa_cons (ae_name (pv 0)) (aa_cons (ae_glob G_NoState rfl) aa_nil))) (aa_cons (ae_isi rfl B.isinstance_ (aa_cons (ae_name (pv 0)) (aa_cons (ae_glob G_TakenState rfl) aa_nil))) (aa_cons (ae_isi rfl B.isinstance_ (aa_cons (ae_name (pv 0)) (aa_cons (ae_glob G_Refused rfl) aa_nil))) (aa_cons (ae_isi rfl B.isinstance_ (aa_cons (ae_name (pv 0)) (aa_cons (ae_glob G_BadLine rfl) aa_nil))) aa_nil))))) (ag_name (i := 4) sc__law_kinds.nd rfl (by first | exact .inl rfl | exact .inr rfl) rfl))
    (ass_consF (as_asg (ae_lst (aa_cons (ae_isi rfl B.isinstance_ (aa_cons (ae_name (pv 0)) (aa_cons (ae_glob G_BadProgram rfl) aa_nil))) (aa_cons (ae_isi rfl B.isinstance_ (aa_cons (ae_name (pv 0)) (aa_cons (ae_glob G_BadMark rfl) aa_nil))) (aa_cons (ae_isi rfl B.isinstance_ (aa_cons (ae_name (pv 0)) (aa_cons (ae_glob G_BadPath rfl) aa_nil))) (aa_cons (ae_isi rfl B.isinstance_ (aa_cons (ae_name (pv 0)) (aa_cons (ae_glob G_Broken rfl) aa_nil))) aa_nil))))) (ag_name (i := 5) sc__law_kinds.nd rfl (by first | exact .inl rfl | exact .inr rfl) rfl))
    (ass_consF (as_asg (ae_add (ae_add (ae_sum rfl rfl B.sum_ (aa_cons (ae_name (pv 1)) aa_nil)) (ae_sum rfl rfl B.sum_ (aa_cons (ae_name (pv 2)) aa_nil))) (ae_sum rfl rfl B.sum_ (aa_cons (ae_name (pv 3)) aa_nil))) (ag_name (i := 6) sc__law_kinds.nd rfl (by first | exact .inl rfl | exact .inr rfl) rfl))
    (ass_one (as_ret (ae_add (ae_add (ae_add (ae_name (pv 6)) (ae_sum rfl rfl B.sum_ (aa_cons (ae_name (pv 4)) aa_nil))) (ae_sum rfl rfl B.sum_ (aa_cons (ae_name (pv 5)) aa_nil))) (ae_int1 rfl B.int_ (aa_cons (ae_isi rfl B.isinstance_ (aa_cons (ae_name (pv 0)) (aa_cons (ae_glob G_NothingToUndo rfl) aa_nil))) aa_nil))))))))))),
    fun os Kd Ed _ h => by unfold F__law_kinds at h; exact h.2⟩
abbrev s__law_take : Stmt := top 26
theorem sc__law_take : FnScope ["_law_box_here", "_law_many", "_law_digit", "_law_mixed"] ["_law_box_here", "_law_many"] (defScope s__law_take) := ⟨rfl, rfl, rfl, by decide +kernel, rfl, by decide +kernel, by decide +kernel⟩
theorem ok__law_take {P : Program} {w : World} {K : PySem.W.Frag} {mg : Str → Option Value} {base : Heap} {f : Addr} {fd : FuncData} (B : Blt mg) 
    (Fn : L2.Fun K "_law_take" "_law_take" s__law_take f fd) : FnOk P w K mg base (L2N.CX P w) 1 f fd ["_law_box_here", "_law_many"] (spA K 2 (F__law_take K)) :=
  Fun.okA Fn sc__law_take pr__law_take fun cdv A outer s H E hr => ⟨t__law_take K,
    (ass_consF (as_if (at_c c_ge (ae_at (room64 hr) (ae_name (pv 0)) ae_int) (ae_pow ae_int ae_int)) (ass_consF (as_asg (ae_mod (ae_int1 rfl B.int_ (aa_cons (ae_at (room64 hr) (ae_name (pv 0)) ae_int) aa_nil)) (ae_name (pv 1))) (ag_name (i := 2) sc__law_take.nd rfl (by first | exact .inl rfl | exact .inr rfl) rfl))
    (ass_consF (as_asg (ae_fdiv (ae_at (room64 hr) (ae_name (pv 0)) ae_int) (ae_name (pv 1))) (ag_sub (room64 hr) (ae_name (pv 0)) ae_int))
    (ass_one (as_ret (ae_name (pv 2)))))) ass_nil)
    (ass_consF (as_asg (ae_add (ae_at (room64 hr) (ae_name (pv 0)) ae_int) ae_int) (ag_sub (room64 hr) (ae_name (pv 0)) ae_int))
    (ass_consF (as_asg (ae_mod (ae_pow (ae_int1 rfl B.int_ (aa_cons (ae_add (ae_add (ae_mul (ae_add (ae_at (room64 hr) (ae_name (pv 0)) ae_int) ae_int) ae_int) (ae_mul (ae_at (room64 hr) (ae_name (pv 0)) ae_int) ae_int)) (ae_at (room64 hr) (ae_name (pv 0)) ae_int)) aa_nil)) ae_int) ae_int) (ag_name (i := 3) sc__law_take.nd rfl (by first | exact .inl rfl | exact .inr rfl) rfl))
    (ass_consF (as_asg (ae_mod (ae_pow (ae_int1 rfl B.int_ (aa_cons (ae_add (ae_name (pv 3)) (ae_mul (ae_at (room64 hr) (ae_name (pv 0)) ae_int) ae_int)) aa_nil)) ae_int) ae_int) (ag_name (i := 3) sc__law_take.nd rfl (by first | exact .inl rfl | exact .inr rfl) rfl))
    (ass_one (as_ret (ae_mod (ae_int1 rfl B.int_ (aa_cons (ae_fdiv (ae_name (pv 3)) ae_int) aa_nil)) (ae_name (pv 1))))))))),
    fun os Kd Ed _ h => by unfold F__law_take at h; exact h.2⟩
abbrev s__law_value : Stmt := top 28
theorem sc__law_value : FnScope ["_law_box_here", "_law_way", "_law_number"] ["_law_box_here"] (defScope s__law_value) := ⟨rfl, rfl, rfl, by decide +kernel, rfl, by decide +kernel, by decide +kernel⟩
theorem ok__law_value {P : Program} {w : World} {K : PySem.W.Frag} {mg : Str → Option Value} {base : Heap} {f : Addr} {fd : FuncData} (B : Blt mg) (C__law_take : Cal P w K mg base 1 "_law_take" ["_law_box_here", "_law_many"] (F__law_take K))
    (Fn : L2.Fun K "_law_value" "_law_value" s__law_value f fd) : FnOk P w K mg base (L2N.CX P w) 2 f fd ["_law_box_here"] (spA K 1 (F__law_value K)) :=
  Fun.okA Fn sc__law_value pr__law_value fun cdv A outer s H E hr => ⟨t__law_value K,
    (ass_consF (as_asg (ae_call C__law_take (hr.mono (by decide)) (L2N.takes_of rfl rfl rfl rfl) rfl (aa_cons (ae_name (pv 0)) (aa_cons ae_int aa_nil))) (ag_name (i := 1) sc__law_value.nd rfl (by first | exact .inl rfl | exact .inr rfl) rfl))
    (ass_consF (as_asg (ae_sub (ae_call C__law_take (hr.mono (by decide)) (L2N.takes_of rfl rfl rfl rfl) rfl (aa_cons (ae_name (pv 0)) (aa_cons ae_int aa_nil))) ae_int) (ag_name (i := 2) sc__law_value.nd rfl (by first | exact .inl rfl | exact .inr rfl) rfl))
    (ass_one (as_ret (ae_at (room64 hr) (ae_lst (aa_cons (ae_nameF (pv 2)) (aa_cons (ae_mulS ae_str (ae_mod (ae_name (pv 2)) ae_int)) (aa_cons (ae_lst (aa_cons (ae_nameF (pv 2)) (aa_cons ae_str aa_nil))) (aa_cons ae_non (aa_cons (ae_tup (aa_cons ae_int (aa_cons (ae_nameF (pv 2)) aa_nil))) aa_nil)))))) (ae_name (pv 1))))))),
    fun os Kd Ed _ h => by unfold F__law_value at h; exact h.2⟩
abbrev s__law_cell : Stmt := top 24
theorem sc__law_cell : FnScope ["_law_script", "_law_k"] ["_law_script", "_law_k"] (defScope s__law_cell) := ⟨rfl, rfl, rfl, by decide +kernel, rfl, by decide +kernel, by decide +kernel⟩
theorem ok__law_cell {P : Program} {w : World} {K : PySem.W.Frag} {mg : Str → Option Value} {base : Heap} {f : Addr} {fd : FuncData} (B : Blt mg) 
    (Fn : L2.Fun K "_law_cell" "_law_cell" s__law_cell f fd) : FnOk P w K mg base (L2N.CX P w) 1 f fd ["_law_script", "_law_k"] (spA K 2 (F__law_cell K)) :=
  Fun.okA Fn sc__law_cell pr__law_cell fun cdv A outer s H E hr => ⟨t__law_cell K,
    (ass_one (as_ret (ae_if (at_c c_lt (ae_name (pv 1)) (ae_len rfl B.len_ (aa_cons (ae_name (pv 0)) aa_nil))) (ae_at (room64 hr) (ae_name (pv 0)) (ae_name (pv 1))) ae_int))),
    fun os Kd Ed _ h => by unfold F__law_cell at h; exact h.2⟩
abbrev s__law_box : Stmt := top 25
theorem sc__law_box : FnScope ["_law_script", "_law_k"] ["_law_script", "_law_k"] (defScope s__law_box) := ⟨rfl, rfl, rfl, by decide +kernel, rfl, by decide +kernel, by decide +kernel⟩
theorem ok__law_box {P : Program} {w : World} {K : PySem.W.Frag} {mg : Str → Option Value} {base : Heap} {f : Addr} {fd : FuncData} (B : Blt mg) (C__law_cell : Cal P w K mg base 1 "_law_cell" ["_law_script", "_law_k"] (F__law_cell K))
    (Fn : L2.Fun K "_law_box" "_law_box" s__law_box f fd) : FnOk P w K mg base (L2N.CX P w) 2 f fd ["_law_script", "_law_k"] (spA K 2 (F__law_box K)) :=
  Fun.okA Fn sc__law_box pr__law_box fun cdv A outer s H E hr => ⟨t__law_box K,
    (ass_one (as_ret (ae_lst (aa_cons (ae_abs rfl B.abs_ (aa_cons (ae_int1 rfl B.int_ (aa_cons (ae_call C__law_cell (hr.mono (by decide)) (L2N.takes_of rfl rfl rfl rfl) rfl (aa_cons (ae_name (pv 0)) (aa_cons (ae_name (pv 1)) aa_nil))) aa_nil)) aa_nil)) (aa_cons ae_int (aa_cons (ae_add (ae_mul ae_int (ae_name (pv 1))) ae_int) aa_nil)))))),
    fun os Kd Ed _ h => by unfold F__law_box at h; exact h.2⟩
abbrev s_law : Stmt := top 29
theorem sc_law : FnScope ["_law_script", "_law_box_here", "_law_a", "_law_b", "_law_bare", "_law_made", "_law_e", "_law_told", "_law_more", "_law_due"] ["_law_script"] (defScope s_law) := ⟨rfl, rfl, rfl, by decide +kernel, rfl, by decide +kernel, by decide +kernel⟩
theorem ok_law {P : Program} {w : World} {K : PySem.W.Frag} {mg : Str → Option Value} {base : Heap} {f : Addr} {fd : FuncData} (B : Blt mg) (C__law_kinds : Cal P w K mg base 1 "_law_kinds" ["_law_e"] (F__law_kinds K))
    (X_StepError : XPlain K mg "StepError" (C K "StepError"))
    (X_Broken : XOneK P w K mg base "Broken" (C K "Broken") "paper" "paper")
    (X_BadPath : XOneK P w K mg base "BadPath" (C K "BadPath") "path" "path")
    (X_BadMark : XOneK P w K mg base "BadMark" (C K "BadMark") "mark" "mark")
    (X_BadProgram : XOneK P w K mg base "BadProgram" (C K "BadProgram") "column" "column")
    (X_BadLine : XOneK P w K mg base "BadLine" (C K "BadLine") "line" "line")
    (X_Refused : XOneK P w K mg base "Refused" (C K "Refused") "at" "at")
    (X_TakenState : XOneK P w K mg base "TakenState" (C K "TakenState") "state" "state")
    (X_NoState : XOneK P w K mg base "NoState" (C K "NoState") "state" "state")
    (X_BadTable : XOneK P w K mg base "BadTable" (C K "BadTable") "step" "step")
    (X_BadStates : XOneK P w K mg base "BadStates" (C K "BadStates") "states" "states")
    (X_BadKind : XOneK P w K mg base "BadKind" (C K "BadKind") "kind" "kind")
    (X_BadChange : XOneK P w K mg base "BadChange" (C K "BadChange") "at" "at")
    (X_BadMove : XOneK P w K mg base "BadMove" (C K "BadMove") "move" "move")
    (X_BadPair : XOneK P w K mg base "BadPair" (C K "BadPair") "pair" "pair")
    (X_Repeated : XOneK P w K mg base "Repeated" (C K "Repeated") "name" "name")
    (X_BadName : XOneK P w K mg base "BadName" (C K "BadName") "name" "name")
    (G_StepError : GlobD K mg "StepError" (.cl (C K "StepError")))
    (X_NothingToUndo : XPlain K mg "NothingToUndo" (C K "NothingToUndo"))
    (X_Clash : XPlain K mg "Clash" (C K "Clash"))
    (X_UnlikeBooks : XPlain K mg "UnlikeBooks" (C K "UnlikeBooks"))
    (X_BadText : XPlain K mg "BadText" (C K "BadText"))
    (X_BadBook : XPlain K mg "BadBook" (C K "BadBook"))
    (C__law_value : Cal P w K mg base 2 "_law_value" ["_law_box_here"] (F__law_value K))
    (C__law_box : Cal P w K mg base 2 "_law_box" ["_law_script", "_law_k"] (F__law_box K))
    (Fn : L2.Fun K "law" "law" s_law f fd) : FnOk P w K mg base (L2N.CX P w) 3 f fd ["_law_script"] (spA K 1 (F_law K)) :=
  Fun.okA Fn sc_law pr_law fun cdv A outer s H E hr => ⟨t_law K,
    (ass_consF (as_asg (ae_call C__law_box (hr.mono (by decide)) (L2N.takes_of rfl rfl rfl rfl) rfl (aa_cons (ae_name (pv 0)) (aa_cons ae_int aa_nil))) (ag_name (i := 1) sc_law.nd rfl (by first | exact .inl rfl | exact .inr rfl) rfl))
    (ass_consF (as_asg (ae_call C__law_value (hr.mono (by decide)) (L2N.takes_of rfl rfl rfl rfl) rfl (aa_cons (ae_name (pv 1)) aa_nil)) (ag_name (i := 2) sc_law.nd rfl (by first | exact .inl rfl | exact .inr rfl) rfl))
    (ass_consF (as_asg (ae_call C__law_value (hr.mono (by decide)) (L2N.takes_of rfl rfl rfl rfl) rfl (aa_cons (ae_name (pv 1)) aa_nil)) (ag_name (i := 3) sc_law.nd rfl (by first | exact .inl rfl | exact .inr rfl) rfl))
    (ass_consF (as_asg (ae_lst (aa_cons (ae_x0 X_BadBook rfl) (aa_cons (ae_x0 X_BadText rfl) (aa_cons (ae_x0 X_UnlikeBooks rfl) (aa_cons (ae_x0 X_Clash rfl) (aa_cons (ae_x0 X_NothingToUndo rfl) aa_nil)))))) (ag_name (i := 4) sc_law.nd rfl (by first | exact .inl rfl | exact .inr rfl) rfl))
    (ass_consF (as_asg (ae_lst (aa_cons (ae_x1 X_BadName.one (hr.mono (by decide)) rfl (ae_nameF (pv 2))) (aa_cons (ae_x1 X_Repeated.one (hr.mono (by decide)) rfl (ae_nameF (pv 3))) (aa_cons (ae_x1 X_BadPair.one (hr.mono (by decide)) rfl (ae_nameF (pv 2))) (aa_cons (ae_x1 X_BadMove.one (hr.mono (by decide)) rfl (ae_nameF (pv 3))) (aa_cons (ae_x1 X_BadChange.one (hr.mono (by decide)) rfl (ae_nameF (pv 2))) (aa_cons (ae_x1 X_BadKind.one (hr.mono (by decide)) rfl (ae_nameF (pv 3))) (aa_cons (ae_x1 X_BadStates.one (hr.mono (by decide)) rfl (ae_nameF (pv 2))) (aa_cons (ae_x1 X_BadTable.one (hr.mono (by decide)) rfl (ae_nameF (pv 3))) aa_nil))))))))) (ag_name (i := 5) sc_law.nd rfl (by first | exact .inl rfl | exact .inr rfl) rfl))
    (ass_consF (as_asg (ae_add (ae_name (pv 5)) (ae_lst (aa_cons (ae_x1 X_NoState.one (hr.mono (by decide)) rfl (ae_nameF (pv 2))) (aa_cons (ae_x1 X_TakenState.one (hr.mono (by decide)) rfl (ae_nameF (pv 3))) (aa_cons (ae_x1 X_Refused.one (hr.mono (by decide)) rfl (ae_nameF (pv 2))) (aa_cons (ae_x1 X_BadLine.one (hr.mono (by decide)) rfl (ae_nameF (pv 3))) (aa_cons (ae_x1 X_BadProgram.one (hr.mono (by decide)) rfl (ae_nameF (pv 2))) (aa_cons (ae_x1 X_BadMark.one (hr.mono (by decide)) rfl (ae_nameF (pv 3))) aa_nil)))))))) (ag_name (i := 5) sc_law.nd rfl (by first | exact .inl rfl | exact .inr rfl) rfl))
    (ass_consF (as_asg (ae_add (ae_name (pv 5)) (ae_lst (aa_cons (ae_x1 X_BadPath.one (hr.mono (by decide)) rfl (ae_nameF (pv 2))) (aa_cons (ae_x1 X_Broken.one (hr.mono (by decide)) rfl (ae_nameF (pv 3))) aa_nil)))) (ag_name (i := 5) sc_law.nd rfl (by first | exact .inl rfl | exact .inr rfl) rfl))
    (ass_consF (as_for (passes_of rfl) rfl (ai_seq (ae_add (ae_name (pv 4)) (ae_name (pv 5)))) (ag_name (i := 6) sc_law.nd rfl (by first | exact .inl rfl | exact .inr rfl) rfl) (ass_one (as_if (AW.at (aw_or (at_not (at_val (ae_isi rfl B.isinstance_ (aa_cons (ae_name (pv 6)) (aa_cons (ae_glob G_StepError rfl) aa_nil))))) (aw_or (at_not (at_val (ae_isi rfl B.isinstance_ (aa_cons (ae_name (pv 6)) (aa_cons (ae_ty (T := "ValueError") rfl B.ValueError_ (by decide +kernel)) aa_nil))))) (aw_or1 (at_c (c_ne (room64 hr)) (ae_call C__law_kinds (hr.mono (by decide)) (L2N.takes_of rfl rfl rfl rfl) rfl (aa_cons (ae_name (pv 6)) aa_nil)) ae_int))))) (ass_one (as_ret ae_bl)) ass_nil)))
    (ass_consF (as_asg (ae_lst (aa_cons (ae_xo (ae_x1k X_BadName (hr.mono (by decide)) rfl (ae_nameF (pv 2)))) (aa_cons (ae_xo (ae_x1k X_Repeated (hr.mono (by decide)) rfl (ae_nameF (pv 3)))) (aa_cons (ae_xo (ae_x1k X_BadPair (hr.mono (by decide)) rfl (ae_nameF (pv 2)))) (aa_cons (ae_xo (ae_x1k X_BadMove (hr.mono (by decide)) rfl (ae_nameF (pv 3)))) aa_nil))))) (ag_name (i := 7) sc_law.nd rfl (by first | exact .inl rfl | exact .inr rfl) rfl))
    (ass_consF (as_asg (ae_add (ae_name (pv 7)) (ae_lst (aa_cons (ae_xo (ae_x1k X_BadChange (hr.mono (by decide)) rfl (ae_nameF (pv 2)))) (aa_cons (ae_xo (ae_x1k X_BadKind (hr.mono (by decide)) rfl (ae_nameF (pv 3)))) (aa_cons (ae_xo (ae_x1k X_BadStates (hr.mono (by decide)) rfl (ae_nameF (pv 2)))) (aa_cons (ae_xo (ae_x1k X_BadTable (hr.mono (by decide)) rfl (ae_nameF (pv 3)))) aa_nil)))))) (ag_name (i := 7) sc_law.nd rfl (by first | exact .inl rfl | exact .inr rfl) rfl))
    (ass_consF (as_asg (ae_add (ae_name (pv 7)) (ae_lst (aa_cons (ae_xo (ae_x1k X_NoState (hr.mono (by decide)) rfl (ae_nameF (pv 2)))) (aa_cons (ae_xo (ae_x1k X_TakenState (hr.mono (by decide)) rfl (ae_nameF (pv 3)))) (aa_cons (ae_xo (ae_x1k X_Refused (hr.mono (by decide)) rfl (ae_nameF (pv 2)))) (aa_cons (ae_xo (ae_x1k X_BadLine (hr.mono (by decide)) rfl (ae_nameF (pv 3)))) aa_nil)))))) (ag_name (i := 7) sc_law.nd rfl (by first | exact .inl rfl | exact .inr rfl) rfl))
    (ass_consF (as_asg (ae_add (ae_name (pv 7)) (ae_lst (aa_cons (ae_xo (ae_x1k X_BadProgram (hr.mono (by decide)) rfl (ae_nameF (pv 2)))) (aa_cons (ae_xo (ae_x1k X_BadMark (hr.mono (by decide)) rfl (ae_nameF (pv 3)))) (aa_cons (ae_xo (ae_x1k X_BadPath (hr.mono (by decide)) rfl (ae_nameF (pv 2)))) (aa_cons (ae_xo (ae_x1k X_Broken (hr.mono (by decide)) rfl (ae_nameF (pv 3)))) aa_nil)))))) (ag_name (i := 7) sc_law.nd rfl (by first | exact .inl rfl | exact .inr rfl) rfl))
    (ass_consF (as_asg (ae_lst (aa_cons (ae_xo (ae_at (room64 hr) (ae_name (pv 5)) ae_int)) (aa_cons (ae_xo (ae_at (room64 hr) (ae_name (pv 5)) ae_int)) (aa_cons (ae_xo (ae_at (room64 hr) (ae_name (pv 5)) ae_int)) (aa_cons (ae_xo (ae_at (room64 hr) (ae_name (pv 5)) ae_int)) (aa_cons (ae_xo (ae_at (room64 hr) (ae_name (pv 5)) ae_int)) (aa_cons (ae_xo (ae_at (room64 hr) (ae_name (pv 5)) ae_int)) (aa_cons (ae_xo (ae_at (room64 hr) (ae_name (pv 5)) ae_int)) aa_nil)))))))) (ag_name (i := 8) sc_law.nd rfl (by first | exact .inl rfl | exact .inr rfl) rfl))
    (ass_consF (as_asg (ae_add (ae_name (pv 8)) (ae_lst (aa_cons (ae_xo (ae_at (room64 hr) (ae_name (pv 5)) ae_int)) (aa_cons (ae_xo (ae_at (room64 hr) (ae_name (pv 5)) ae_int)) (aa_cons (ae_xo (ae_at (room64 hr) (ae_name (pv 5)) ae_int)) (aa_cons (ae_xo (ae_at (room64 hr) (ae_name (pv 5)) ae_int)) (aa_cons (ae_xo (ae_at (room64 hr) (ae_name (pv 5)) ae_int)) (aa_cons (ae_xo (ae_at (room64 hr) (ae_name (pv 5)) ae_int)) aa_nil)))))))) (ag_name (i := 8) sc_law.nd rfl (by first | exact .inl rfl | exact .inr rfl) rfl))
    (ass_consF (as_asg (ae_add (ae_name (pv 8)) (ae_lst (aa_cons (ae_xo (ae_at (room64 hr) (ae_name (pv 5)) ae_int)) (aa_cons (ae_xo (ae_at (room64 hr) (ae_name (pv 5)) ae_int)) (aa_cons (ae_xo (ae_at (room64 hr) (ae_name (pv 5)) ae_int)) aa_nil))))) (ag_name (i := 8) sc_law.nd rfl (by first | exact .inl rfl | exact .inr rfl) rfl))
    (ass_consF (as_asg (ae_lst (aa_cons (ae_nameF (pv 2)) (aa_cons (ae_nameF (pv 3)) (aa_cons (ae_nameF (pv 2)) (aa_cons (ae_nameF (pv 3)) (aa_cons (ae_nameF (pv 2)) (aa_cons (ae_nameF (pv 3)) (aa_cons (ae_nameF (pv 2)) (aa_cons (ae_nameF (pv 3)) (aa_cons (ae_nameF (pv 2)) (aa_cons (ae_nameF (pv 3)) (aa_cons (ae_nameF (pv 2)) (aa_cons (ae_nameF (pv 3)) (aa_cons (ae_nameF (pv 2)) (aa_cons (ae_nameF (pv 3)) (aa_cons (ae_nameF (pv 2)) (aa_cons (ae_nameF (pv 3)) aa_nil))))))))))))))))) (ag_name (i := 9) sc_law.nd rfl (by first | exact .inl rfl | exact .inr rfl) rfl))
    (ass_one (as_ret (ae_and (ae_c (c_eq (room64 hr)) (ae_name (pv 7)) (ae_name (pv 9))) (ae_and (ae_c (c_eq (room64 hr)) (ae_name (pv 8)) (ae_name (pv 9))) (ae_one (ae_c (c_eq (room64 hr)) (ae_add (ae_call C__law_kinds (hr.mono (by decide)) (L2N.takes_of rfl rfl rfl rfl) rfl (aa_cons (ae_xve exb_ValueError rfl B.ValueError_ (by decide +kernel)) aa_nil)) (ae_call C__law_kinds (hr.mono (by decide)) (L2N.takes_of rfl rfl rfl rfl) rfl (aa_cons (ae_x0 X_StepError rfl) aa_nil))) ae_int)))))))))))))))))))))),
    fun os Kd Ed _ h => by unfold F_law at h; exact h.2⟩
end T
namespace T
open PySem L2 AE AH
def df__law_kinds : He.DefD := ⟨("_law_kinds", none), "_law_kinds", "_law_kinds", defArgs s__law_kinds, defBody s__law_kinds, defScope s__law_kinds, [], []⟩
def df__law_take : He.DefD := ⟨("_law_take", none), "_law_take", "_law_take", defArgs s__law_take, defBody s__law_take, defScope s__law_take, [], []⟩
def df__law_value : He.DefD := ⟨("_law_value", none), "_law_value", "_law_value", defArgs s__law_value, defBody s__law_value, defScope s__law_value, [], []⟩
def df__law_cell : He.DefD := ⟨("_law_cell", none), "_law_cell", "_law_cell", defArgs s__law_cell, defBody s__law_cell, defScope s__law_cell, [], []⟩
def df__law_box : He.DefD := ⟨("_law_box", none), "_law_box", "_law_box", defArgs s__law_box, defBody s__law_box, defScope s__law_box, [], []⟩
def df_law : He.DefD := ⟨("law", none), "law", "law", defArgs s_law, defBody s_law, defScope s_law, [], []⟩
abbrev s_BadName : Stmt := inClass (top 3) 0
def df_BadName : He.DefD := ⟨("BadName", some "__init__"), "__init__", "BadName.__init__", defArgs s_BadName, defBody s_BadName, defScope s_BadName, [], []⟩
abbrev s_Repeated : Stmt := inClass (top 4) 0
def df_Repeated : He.DefD := ⟨("Repeated", some "__init__"), "__init__", "Repeated.__init__", defArgs s_Repeated, defBody s_Repeated, defScope s_Repeated, [], []⟩
abbrev s_BadPair : Stmt := inClass (top 5) 0
def df_BadPair : He.DefD := ⟨("BadPair", some "__init__"), "__init__", "BadPair.__init__", defArgs s_BadPair, defBody s_BadPair, defScope s_BadPair, [], []⟩
abbrev s_BadMove : Stmt := inClass (top 6) 0
def df_BadMove : He.DefD := ⟨("BadMove", some "__init__"), "__init__", "BadMove.__init__", defArgs s_BadMove, defBody s_BadMove, defScope s_BadMove, [], []⟩
abbrev s_BadChange : Stmt := inClass (top 9) 0
def df_BadChange : He.DefD := ⟨("BadChange", some "__init__"), "__init__", "BadChange.__init__", defArgs s_BadChange, defBody s_BadChange, defScope s_BadChange, [], []⟩
abbrev s_BadKind : Stmt := inClass (top 10) 0
def df_BadKind : He.DefD := ⟨("BadKind", some "__init__"), "__init__", "BadKind.__init__", defArgs s_BadKind, defBody s_BadKind, defScope s_BadKind, [], []⟩
abbrev s_BadStates : Stmt := inClass (top 12) 0
def df_BadStates : He.DefD := ⟨("BadStates", some "__init__"), "__init__", "BadStates.__init__", defArgs s_BadStates, defBody s_BadStates, defScope s_BadStates, [], []⟩
abbrev s_BadTable : Stmt := inClass (top 13) 0
def df_BadTable : He.DefD := ⟨("BadTable", some "__init__"), "__init__", "BadTable.__init__", defArgs s_BadTable, defBody s_BadTable, defScope s_BadTable, [], []⟩
abbrev s_NoState : Stmt := inClass (top 14) 0
def df_NoState : He.DefD := ⟨("NoState", some "__init__"), "__init__", "NoState.__init__", defArgs s_NoState, defBody s_NoState, defScope s_NoState, [], []⟩
abbrev s_TakenState : Stmt := inClass (top 15) 0
def df_TakenState : He.DefD := ⟨("TakenState", some "__init__"), "__init__", "TakenState.__init__", defArgs s_TakenState, defBody s_TakenState, defScope s_TakenState, [], []⟩
abbrev s_Refused : Stmt := inClass (top 16) 0
def df_Refused : He.DefD := ⟨("Refused", some "__init__"), "__init__", "Refused.__init__", defArgs s_Refused, defBody s_Refused, defScope s_Refused, [], []⟩
abbrev s_BadLine : Stmt := inClass (top 17) 0
def df_BadLine : He.DefD := ⟨("BadLine", some "__init__"), "__init__", "BadLine.__init__", defArgs s_BadLine, defBody s_BadLine, defScope s_BadLine, [], []⟩
abbrev s_BadProgram : Stmt := inClass (top 18) 0
def df_BadProgram : He.DefD := ⟨("BadProgram", some "__init__"), "__init__", "BadProgram.__init__", defArgs s_BadProgram, defBody s_BadProgram, defScope s_BadProgram, [], []⟩
abbrev s_BadMark : Stmt := inClass (top 19) 0
def df_BadMark : He.DefD := ⟨("BadMark", some "__init__"), "__init__", "BadMark.__init__", defArgs s_BadMark, defBody s_BadMark, defScope s_BadMark, [], []⟩
abbrev s_BadPath : Stmt := inClass (top 20) 0
def df_BadPath : He.DefD := ⟨("BadPath", some "__init__"), "__init__", "BadPath.__init__", defArgs s_BadPath, defBody s_BadPath, defScope s_BadPath, [], []⟩
abbrev s_Broken : Stmt := inClass (top 21) 0
def df_Broken : He.DefD := ⟨("Broken", some "__init__"), "__init__", "Broken.__init__", defArgs s_Broken, defBody s_Broken, defScope s_Broken, [], []⟩
def fn : List He.DefD := [df__law_kinds, df__law_take, df__law_value, df__law_cell, df__law_box, df_law, df_BadName, df_Repeated, df_BadPair, df_BadMove, df_BadChange, df_BadKind, df_BadStates, df_BadTable, df_NoState, df_TakenState, df_Refused, df_BadLine, df_BadProgram, df_BadMark, df_BadPath, df_Broken]
def frees : List Str := ["ValueError", "abs", "int", "isinstance", "len", "sum"]
def glos : List Str := ["_law_kinds", "_law_take", "_law_value", "_law_cell", "_law_box", "law"]
def plains : List Str := ["StepError", "BadBook", "BadText", "UnlikeBooks", "Clash", "NothingToUndo"]
def onesL : List (Str × Str) := [("BadName", "name"), ("Repeated", "name"), ("BadPair", "pair"), ("BadMove", "move"), ("BadChange", "at"), ("BadKind", "kind"), ("BadStates", "states"), ("BadTable", "step"), ("NoState", "state"), ("TakenState", "state"), ("Refused", "at"), ("BadLine", "line"), ("BadProgram", "column"), ("BadMark", "mark"), ("BadPath", "path"), ("Broken", "paper")]
def classes : List Str := plains ++ onesL.map (·.1)
def own (y : Str) : Bool := y != "StepError"
def kit (K : PySem.W.Frag) : Bool := (classes.all fun x => (classes.all fun y => decide (PySem.W.kitOne K (.ref (C K x)) (.ref (C K y)) = some (x == y || y == "StepError"))) && (decide (PySem.W.kitOne K (.ref (C K x)) (.type "ValueError") = some true) && decide (PySem.W.kitOne K (.type "ValueError") (.ref (C K x)) = some false)))
def chk (K : PySem.W.Frag) : Bool := frees.all (freeB K) && (glos.all (gloB K) && (plains.all (fun x => gloB K x && (excB K (C K x) && plainB K (C K x))) && (onesL.all (fun p => gloB K p.1 && (excB K (C K p.1) && oneB K (C K p.1) p.2)) && kit K)))
def lo0 : List Str := ["StepError", "BadBook", "BadName", "Repeated", "BadPair", "BadMove", "BadText", "UnlikeBooks", "BadChange", "BadKind", "Clash", "BadStates", "BadTable", "NoState", "TakenState", "Refused", "BadLine", "BadProgram", "BadMark", "BadPath", "Broken", "NothingToUndo", "_law_cell", "_law_box", "_law_take", "_law_kinds", "_law_value"]
def lo : List Str := lo0
abbrev R : PySem.W.OpenRow := PySem.W.OpenLaw.row PySem.Challenge.rw_stephulls_k03_errors
abbrev hk : PySem.W.Hook := AH.hookB 5 chk fn
def ob (s : PySem.W.SharedT) : Bool × He.AlD := AH.seeB 5 chk fn (HandSHeadRun.getT s)
set_option maxHeartbeats 0 in
theorem run (w : World) : HandSHeadRun.RunEq R (PySem.W.view R.prog [29]) hk ob 6000 lo w := by
  intro os
  kernel_rfl
theorem facts {P : Program} {w : World} {K : PySem.W.Frag} {h : Heap} {mg : Str → Option Value} {fa : Addr} (X : K.In h) (G : h.Ns mainGlobals mg) (hfa : mg ("law" : Str) = some (.ref fa)) (c0 : AH.SaysB chk fn K) :
    ∃ fd : FuncData, (∀ (s : Shared) (v : Value), BindsTo s fd ⟨[v], []⟩ [("_law_script", v)]) ∧ ∀ base : Heap, K.In base → base.Ns mainGlobals mg → FnOk P w K mg base (L2N.CX P w) 3 fa fd ["_law_script"] (spA K 1 (F_law K)) := by
  obtain ⟨ck, c⟩ := c0
  obtain ⟨c1, ck⟩ := andB ck
  obtain ⟨c2, ck⟩ := andB ck
  obtain ⟨c3, ck⟩ := andB ck
  obtain ⟨c4, ck⟩ := andB ck
  have fr : ∀ x ∈ frees, mg x = none := fun x hx => freeB_ok X G (List.all_eq_true.mp c1 x hx)
  have gl : ∀ x ∈ glos, mg x = some (.ref (C K x)) := fun x hx => gloB_ok X G (List.all_eq_true.mp c2 x hx)
  have B : Blt mg := ⟨fr "ValueError" (by decide), fr "abs" (by decide), fr "int" (by decide), fr "isinstance" (by decide), fr "len" (by decide), fr "sum" (by decide)⟩
  obtain ⟨fd__law_kinds, D__law_kinds⟩ := c.def_ 0 (d := df__law_kinds) rfl
  obtain ⟨fd__law_take, D__law_take⟩ := c.def_ 1 (d := df__law_take) rfl
  obtain ⟨fd__law_value, D__law_value⟩ := c.def_ 2 (d := df__law_value) rfl
  obtain ⟨fd__law_cell, D__law_cell⟩ := c.def_ 3 (d := df__law_cell) rfl
  obtain ⟨fd__law_box, D__law_box⟩ := c.def_ 4 (d := df__law_box) rfl
  obtain ⟨fd_law, D_law⟩ := c.def_ 5 (d := df_law) rfl
  obtain ⟨fd_BadName, D_BadName⟩ := c.def_ 6 (d := df_BadName) rfl
  obtain ⟨fd_Repeated, D_Repeated⟩ := c.def_ 7 (d := df_Repeated) rfl
  obtain ⟨fd_BadPair, D_BadPair⟩ := c.def_ 8 (d := df_BadPair) rfl
  obtain ⟨fd_BadMove, D_BadMove⟩ := c.def_ 9 (d := df_BadMove) rfl
  obtain ⟨fd_BadChange, D_BadChange⟩ := c.def_ 10 (d := df_BadChange) rfl
  obtain ⟨fd_BadKind, D_BadKind⟩ := c.def_ 11 (d := df_BadKind) rfl
  obtain ⟨fd_BadStates, D_BadStates⟩ := c.def_ 12 (d := df_BadStates) rfl
  obtain ⟨fd_BadTable, D_BadTable⟩ := c.def_ 13 (d := df_BadTable) rfl
  obtain ⟨fd_NoState, D_NoState⟩ := c.def_ 14 (d := df_NoState) rfl
  obtain ⟨fd_TakenState, D_TakenState⟩ := c.def_ 15 (d := df_TakenState) rfl
  obtain ⟨fd_Refused, D_Refused⟩ := c.def_ 16 (d := df_Refused) rfl
  obtain ⟨fd_BadLine, D_BadLine⟩ := c.def_ 17 (d := df_BadLine) rfl
  obtain ⟨fd_BadProgram, D_BadProgram⟩ := c.def_ 18 (d := df_BadProgram) rfl
  obtain ⟨fd_BadMark, D_BadMark⟩ := c.def_ 19 (d := df_BadMark) rfl
  obtain ⟨fd_BadPath, D_BadPath⟩ := c.def_ 20 (d := df_BadPath) rfl
  obtain ⟨fd_Broken, D_Broken⟩ := c.def_ 21 (d := df_Broken) rfl
  obtain rfl : C K "law" = fa := by have e := (gl "law" (by decide)).symm.trans hfa; injection e with e; injection e with e
  refine ⟨fd_law, fun s v => FunD.bindsA (ps := ["_law_script"]) D_law (fun _ _ _ _ _ _ us hl => match us, hl with | [_], _ => rfl) s [v] rfl, fun base _ _ => ?_⟩
  have X_StepError : XPlain K mg "StepError" (C K "StepError") := by
    have z := List.all_eq_true.mp c3 "StepError" (by decide)
    obtain ⟨z1, z⟩ := andB z
    obtain ⟨z2, z3⟩ := andB z
    exact plain_ok X G z1 (excB_ok z2) z3
  have X_BadBook : XPlain K mg "BadBook" (C K "BadBook") := by
    have z := List.all_eq_true.mp c3 "BadBook" (by decide)
    obtain ⟨z1, z⟩ := andB z
    obtain ⟨z2, z3⟩ := andB z
    exact plain_ok X G z1 (excB_ok z2) z3
  have X_BadText : XPlain K mg "BadText" (C K "BadText") := by
    have z := List.all_eq_true.mp c3 "BadText" (by decide)
    obtain ⟨z1, z⟩ := andB z
    obtain ⟨z2, z3⟩ := andB z
    exact plain_ok X G z1 (excB_ok z2) z3
  have X_UnlikeBooks : XPlain K mg "UnlikeBooks" (C K "UnlikeBooks") := by
    have z := List.all_eq_true.mp c3 "UnlikeBooks" (by decide)
    obtain ⟨z1, z⟩ := andB z
    obtain ⟨z2, z3⟩ := andB z
    exact plain_ok X G z1 (excB_ok z2) z3
  have X_Clash : XPlain K mg "Clash" (C K "Clash") := by
    have z := List.all_eq_true.mp c3 "Clash" (by decide)
    obtain ⟨z1, z⟩ := andB z
    obtain ⟨z2, z3⟩ := andB z
    exact plain_ok X G z1 (excB_ok z2) z3
  have X_NothingToUndo : XPlain K mg "NothingToUndo" (C K "NothingToUndo") := by
    have z := List.all_eq_true.mp c3 "NothingToUndo" (by decide)
    obtain ⟨z1, z⟩ := andB z
    obtain ⟨z2, z3⟩ := andB z
    exact plain_ok X G z1 (excB_ok z2) z3
  have X_BadName : XOneK P w K mg base "BadName" (C K "BadName") "name" "name" := by
    have z := List.all_eq_true.mp c4 ("BadName", "name") (by decide)
    obtain ⟨z1, z⟩ := andB z
    obtain ⟨z2, z3⟩ := andB z
    exact (one_ok X G z1 (excB_ok z2) z3 (fun_of (st := s_BadName) D_BadName) ⟨rfl, rfl, rfl, by decide +kernel, rfl, by decide +kernel, by decide +kernel⟩ rfl (by decide) (by decide) (by first | exact .inl rfl | exact .inr rfl) (by first | exact .inl rfl | exact .inr rfl) (FunD.bindsN (ps := ["self", "name"]) D_BadName fun _ _ _ _ _ _ us hl => match us, hl with | [_, _], _ => rfl) (bindsK D_BadName fun _ _ _ _ _ _ a u => rfl)).1
  have X_Repeated : XOneK P w K mg base "Repeated" (C K "Repeated") "name" "name" := by
    have z := List.all_eq_true.mp c4 ("Repeated", "name") (by decide)
    obtain ⟨z1, z⟩ := andB z
    obtain ⟨z2, z3⟩ := andB z
    exact (one_ok X G z1 (excB_ok z2) z3 (fun_of (st := s_Repeated) D_Repeated) ⟨rfl, rfl, rfl, by decide +kernel, rfl, by decide +kernel, by decide +kernel⟩ rfl (by decide) (by decide) (by first | exact .inl rfl | exact .inr rfl) (by first | exact .inl rfl | exact .inr rfl) (FunD.bindsN (ps := ["self", "name"]) D_Repeated fun _ _ _ _ _ _ us hl => match us, hl with | [_, _], _ => rfl) (bindsK D_Repeated fun _ _ _ _ _ _ a u => rfl)).1
  have X_BadPair : XOneK P w K mg base "BadPair" (C K "BadPair") "pair" "pair" := by
    have z := List.all_eq_true.mp c4 ("BadPair", "pair") (by decide)
    obtain ⟨z1, z⟩ := andB z
    obtain ⟨z2, z3⟩ := andB z
    exact (one_ok X G z1 (excB_ok z2) z3 (fun_of (st := s_BadPair) D_BadPair) ⟨rfl, rfl, rfl, by decide +kernel, rfl, by decide +kernel, by decide +kernel⟩ rfl (by decide) (by decide) (by first | exact .inl rfl | exact .inr rfl) (by first | exact .inl rfl | exact .inr rfl) (FunD.bindsN (ps := ["self", "pair"]) D_BadPair fun _ _ _ _ _ _ us hl => match us, hl with | [_, _], _ => rfl) (bindsK D_BadPair fun _ _ _ _ _ _ a u => rfl)).1
  have X_BadMove : XOneK P w K mg base "BadMove" (C K "BadMove") "move" "move" := by
    have z := List.all_eq_true.mp c4 ("BadMove", "move") (by decide)
    obtain ⟨z1, z⟩ := andB z
    obtain ⟨z2, z3⟩ := andB z
    exact (one_ok X G z1 (excB_ok z2) z3 (fun_of (st := s_BadMove) D_BadMove) ⟨rfl, rfl, rfl, by decide +kernel, rfl, by decide +kernel, by decide +kernel⟩ rfl (by decide) (by decide) (by first | exact .inl rfl | exact .inr rfl) (by first | exact .inl rfl | exact .inr rfl) (FunD.bindsN (ps := ["self", "move"]) D_BadMove fun _ _ _ _ _ _ us hl => match us, hl with | [_, _], _ => rfl) (bindsK D_BadMove fun _ _ _ _ _ _ a u => rfl)).1
  have X_BadChange : XOneK P w K mg base "BadChange" (C K "BadChange") "at" "at" := by
    have z := List.all_eq_true.mp c4 ("BadChange", "at") (by decide)
    obtain ⟨z1, z⟩ := andB z
    obtain ⟨z2, z3⟩ := andB z
    exact (one_ok X G z1 (excB_ok z2) z3 (fun_of (st := s_BadChange) D_BadChange) ⟨rfl, rfl, rfl, by decide +kernel, rfl, by decide +kernel, by decide +kernel⟩ rfl (by decide) (by decide) (by first | exact .inl rfl | exact .inr rfl) (by first | exact .inl rfl | exact .inr rfl) (FunD.bindsN (ps := ["self", "at"]) D_BadChange fun _ _ _ _ _ _ us hl => match us, hl with | [_, _], _ => rfl) (bindsK D_BadChange fun _ _ _ _ _ _ a u => rfl)).1
  have X_BadKind : XOneK P w K mg base "BadKind" (C K "BadKind") "kind" "kind" := by
    have z := List.all_eq_true.mp c4 ("BadKind", "kind") (by decide)
    obtain ⟨z1, z⟩ := andB z
    obtain ⟨z2, z3⟩ := andB z
    exact (one_ok X G z1 (excB_ok z2) z3 (fun_of (st := s_BadKind) D_BadKind) ⟨rfl, rfl, rfl, by decide +kernel, rfl, by decide +kernel, by decide +kernel⟩ rfl (by decide) (by decide) (by first | exact .inl rfl | exact .inr rfl) (by first | exact .inl rfl | exact .inr rfl) (FunD.bindsN (ps := ["self", "kind"]) D_BadKind fun _ _ _ _ _ _ us hl => match us, hl with | [_, _], _ => rfl) (bindsK D_BadKind fun _ _ _ _ _ _ a u => rfl)).1
  have X_BadStates : XOneK P w K mg base "BadStates" (C K "BadStates") "states" "states" := by
    have z := List.all_eq_true.mp c4 ("BadStates", "states") (by decide)
    obtain ⟨z1, z⟩ := andB z
    obtain ⟨z2, z3⟩ := andB z
    exact (one_ok X G z1 (excB_ok z2) z3 (fun_of (st := s_BadStates) D_BadStates) ⟨rfl, rfl, rfl, by decide +kernel, rfl, by decide +kernel, by decide +kernel⟩ rfl (by decide) (by decide) (by first | exact .inl rfl | exact .inr rfl) (by first | exact .inl rfl | exact .inr rfl) (FunD.bindsN (ps := ["self", "states"]) D_BadStates fun _ _ _ _ _ _ us hl => match us, hl with | [_, _], _ => rfl) (bindsK D_BadStates fun _ _ _ _ _ _ a u => rfl)).1
  have X_BadTable : XOneK P w K mg base "BadTable" (C K "BadTable") "step" "step" := by
    have z := List.all_eq_true.mp c4 ("BadTable", "step") (by decide)
    obtain ⟨z1, z⟩ := andB z
    obtain ⟨z2, z3⟩ := andB z
    exact (one_ok X G z1 (excB_ok z2) z3 (fun_of (st := s_BadTable) D_BadTable) ⟨rfl, rfl, rfl, by decide +kernel, rfl, by decide +kernel, by decide +kernel⟩ rfl (by decide) (by decide) (by first | exact .inl rfl | exact .inr rfl) (by first | exact .inl rfl | exact .inr rfl) (FunD.bindsN (ps := ["self", "step"]) D_BadTable fun _ _ _ _ _ _ us hl => match us, hl with | [_, _], _ => rfl) (bindsK D_BadTable fun _ _ _ _ _ _ a u => rfl)).1
  have X_NoState : XOneK P w K mg base "NoState" (C K "NoState") "state" "state" := by
    have z := List.all_eq_true.mp c4 ("NoState", "state") (by decide)
    obtain ⟨z1, z⟩ := andB z
    obtain ⟨z2, z3⟩ := andB z
    exact (one_ok X G z1 (excB_ok z2) z3 (fun_of (st := s_NoState) D_NoState) ⟨rfl, rfl, rfl, by decide +kernel, rfl, by decide +kernel, by decide +kernel⟩ rfl (by decide) (by decide) (by first | exact .inl rfl | exact .inr rfl) (by first | exact .inl rfl | exact .inr rfl) (FunD.bindsN (ps := ["self", "state"]) D_NoState fun _ _ _ _ _ _ us hl => match us, hl with | [_, _], _ => rfl) (bindsK D_NoState fun _ _ _ _ _ _ a u => rfl)).1
  have X_TakenState : XOneK P w K mg base "TakenState" (C K "TakenState") "state" "state" := by
    have z := List.all_eq_true.mp c4 ("TakenState", "state") (by decide)
    obtain ⟨z1, z⟩ := andB z
    obtain ⟨z2, z3⟩ := andB z
    exact (one_ok X G z1 (excB_ok z2) z3 (fun_of (st := s_TakenState) D_TakenState) ⟨rfl, rfl, rfl, by decide +kernel, rfl, by decide +kernel, by decide +kernel⟩ rfl (by decide) (by decide) (by first | exact .inl rfl | exact .inr rfl) (by first | exact .inl rfl | exact .inr rfl) (FunD.bindsN (ps := ["self", "state"]) D_TakenState fun _ _ _ _ _ _ us hl => match us, hl with | [_, _], _ => rfl) (bindsK D_TakenState fun _ _ _ _ _ _ a u => rfl)).1
  have X_Refused : XOneK P w K mg base "Refused" (C K "Refused") "at" "at" := by
    have z := List.all_eq_true.mp c4 ("Refused", "at") (by decide)
    obtain ⟨z1, z⟩ := andB z
    obtain ⟨z2, z3⟩ := andB z
    exact (one_ok X G z1 (excB_ok z2) z3 (fun_of (st := s_Refused) D_Refused) ⟨rfl, rfl, rfl, by decide +kernel, rfl, by decide +kernel, by decide +kernel⟩ rfl (by decide) (by decide) (by first | exact .inl rfl | exact .inr rfl) (by first | exact .inl rfl | exact .inr rfl) (FunD.bindsN (ps := ["self", "at"]) D_Refused fun _ _ _ _ _ _ us hl => match us, hl with | [_, _], _ => rfl) (bindsK D_Refused fun _ _ _ _ _ _ a u => rfl)).1
  have X_BadLine : XOneK P w K mg base "BadLine" (C K "BadLine") "line" "line" := by
    have z := List.all_eq_true.mp c4 ("BadLine", "line") (by decide)
    obtain ⟨z1, z⟩ := andB z
    obtain ⟨z2, z3⟩ := andB z
    exact (one_ok X G z1 (excB_ok z2) z3 (fun_of (st := s_BadLine) D_BadLine) ⟨rfl, rfl, rfl, by decide +kernel, rfl, by decide +kernel, by decide +kernel⟩ rfl (by decide) (by decide) (by first | exact .inl rfl | exact .inr rfl) (by first | exact .inl rfl | exact .inr rfl) (FunD.bindsN (ps := ["self", "line"]) D_BadLine fun _ _ _ _ _ _ us hl => match us, hl with | [_, _], _ => rfl) (bindsK D_BadLine fun _ _ _ _ _ _ a u => rfl)).1
  have X_BadProgram : XOneK P w K mg base "BadProgram" (C K "BadProgram") "column" "column" := by
    have z := List.all_eq_true.mp c4 ("BadProgram", "column") (by decide)
    obtain ⟨z1, z⟩ := andB z
    obtain ⟨z2, z3⟩ := andB z
    exact (one_ok X G z1 (excB_ok z2) z3 (fun_of (st := s_BadProgram) D_BadProgram) ⟨rfl, rfl, rfl, by decide +kernel, rfl, by decide +kernel, by decide +kernel⟩ rfl (by decide) (by decide) (by first | exact .inl rfl | exact .inr rfl) (by first | exact .inl rfl | exact .inr rfl) (FunD.bindsN (ps := ["self", "column"]) D_BadProgram fun _ _ _ _ _ _ us hl => match us, hl with | [_, _], _ => rfl) (bindsK D_BadProgram fun _ _ _ _ _ _ a u => rfl)).1
  have X_BadMark : XOneK P w K mg base "BadMark" (C K "BadMark") "mark" "mark" := by
    have z := List.all_eq_true.mp c4 ("BadMark", "mark") (by decide)
    obtain ⟨z1, z⟩ := andB z
    obtain ⟨z2, z3⟩ := andB z
    exact (one_ok X G z1 (excB_ok z2) z3 (fun_of (st := s_BadMark) D_BadMark) ⟨rfl, rfl, rfl, by decide +kernel, rfl, by decide +kernel, by decide +kernel⟩ rfl (by decide) (by decide) (by first | exact .inl rfl | exact .inr rfl) (by first | exact .inl rfl | exact .inr rfl) (FunD.bindsN (ps := ["self", "mark"]) D_BadMark fun _ _ _ _ _ _ us hl => match us, hl with | [_, _], _ => rfl) (bindsK D_BadMark fun _ _ _ _ _ _ a u => rfl)).1
  have X_BadPath : XOneK P w K mg base "BadPath" (C K "BadPath") "path" "path" := by
    have z := List.all_eq_true.mp c4 ("BadPath", "path") (by decide)
    obtain ⟨z1, z⟩ := andB z
    obtain ⟨z2, z3⟩ := andB z
    exact (one_ok X G z1 (excB_ok z2) z3 (fun_of (st := s_BadPath) D_BadPath) ⟨rfl, rfl, rfl, by decide +kernel, rfl, by decide +kernel, by decide +kernel⟩ rfl (by decide) (by decide) (by first | exact .inl rfl | exact .inr rfl) (by first | exact .inl rfl | exact .inr rfl) (FunD.bindsN (ps := ["self", "path"]) D_BadPath fun _ _ _ _ _ _ us hl => match us, hl with | [_, _], _ => rfl) (bindsK D_BadPath fun _ _ _ _ _ _ a u => rfl)).1
  have X_Broken : XOneK P w K mg base "Broken" (C K "Broken") "paper" "paper" := by
    have z := List.all_eq_true.mp c4 ("Broken", "paper") (by decide)
    obtain ⟨z1, z⟩ := andB z
    obtain ⟨z2, z3⟩ := andB z
    exact (one_ok X G z1 (excB_ok z2) z3 (fun_of (st := s_Broken) D_Broken) ⟨rfl, rfl, rfl, by decide +kernel, rfl, by decide +kernel, by decide +kernel⟩ rfl (by decide) (by decide) (by first | exact .inl rfl | exact .inr rfl) (by first | exact .inl rfl | exact .inr rfl) (FunD.bindsN (ps := ["self", "paper"]) D_Broken fun _ _ _ _ _ _ us hl => match us, hl with | [_, _], _ => rfl) (bindsK D_Broken fun _ _ _ _ _ _ a u => rfl)).1
  have G_StepError : GlobD K mg "StepError" (.cl (C K "StepError")) := ⟨_, .ref _, X_StepError.mgC, rfl, fun _ => rfl⟩
  have G_BadBook : GlobD K mg "BadBook" (.cl (C K "BadBook")) := ⟨_, .ref _, X_BadBook.mgC, rfl, fun _ => rfl⟩
  have G_BadText : GlobD K mg "BadText" (.cl (C K "BadText")) := ⟨_, .ref _, X_BadText.mgC, rfl, fun _ => rfl⟩
  have G_UnlikeBooks : GlobD K mg "UnlikeBooks" (.cl (C K "UnlikeBooks")) := ⟨_, .ref _, X_UnlikeBooks.mgC, rfl, fun _ => rfl⟩
  have G_Clash : GlobD K mg "Clash" (.cl (C K "Clash")) := ⟨_, .ref _, X_Clash.mgC, rfl, fun _ => rfl⟩
  have G_NothingToUndo : GlobD K mg "NothingToUndo" (.cl (C K "NothingToUndo")) := ⟨_, .ref _, X_NothingToUndo.mgC, rfl, fun _ => rfl⟩
  have G_BadName : GlobD K mg "BadName" (.cl (C K "BadName")) := ⟨_, .ref _, X_BadName.mgC, rfl, fun _ => rfl⟩
  have G_Repeated : GlobD K mg "Repeated" (.cl (C K "Repeated")) := ⟨_, .ref _, X_Repeated.mgC, rfl, fun _ => rfl⟩
  have G_BadPair : GlobD K mg "BadPair" (.cl (C K "BadPair")) := ⟨_, .ref _, X_BadPair.mgC, rfl, fun _ => rfl⟩
  have G_BadMove : GlobD K mg "BadMove" (.cl (C K "BadMove")) := ⟨_, .ref _, X_BadMove.mgC, rfl, fun _ => rfl⟩
  have G_BadChange : GlobD K mg "BadChange" (.cl (C K "BadChange")) := ⟨_, .ref _, X_BadChange.mgC, rfl, fun _ => rfl⟩
  have G_BadKind : GlobD K mg "BadKind" (.cl (C K "BadKind")) := ⟨_, .ref _, X_BadKind.mgC, rfl, fun _ => rfl⟩
  have G_BadStates : GlobD K mg "BadStates" (.cl (C K "BadStates")) := ⟨_, .ref _, X_BadStates.mgC, rfl, fun _ => rfl⟩
  have G_BadTable : GlobD K mg "BadTable" (.cl (C K "BadTable")) := ⟨_, .ref _, X_BadTable.mgC, rfl, fun _ => rfl⟩
  have G_NoState : GlobD K mg "NoState" (.cl (C K "NoState")) := ⟨_, .ref _, X_NoState.mgC, rfl, fun _ => rfl⟩
  have G_TakenState : GlobD K mg "TakenState" (.cl (C K "TakenState")) := ⟨_, .ref _, X_TakenState.mgC, rfl, fun _ => rfl⟩
  have G_Refused : GlobD K mg "Refused" (.cl (C K "Refused")) := ⟨_, .ref _, X_Refused.mgC, rfl, fun _ => rfl⟩
  have G_BadLine : GlobD K mg "BadLine" (.cl (C K "BadLine")) := ⟨_, .ref _, X_BadLine.mgC, rfl, fun _ => rfl⟩
  have G_BadProgram : GlobD K mg "BadProgram" (.cl (C K "BadProgram")) := ⟨_, .ref _, X_BadProgram.mgC, rfl, fun _ => rfl⟩
  have G_BadMark : GlobD K mg "BadMark" (.cl (C K "BadMark")) := ⟨_, .ref _, X_BadMark.mgC, rfl, fun _ => rfl⟩
  have G_BadPath : GlobD K mg "BadPath" (.cl (C K "BadPath")) := ⟨_, .ref _, X_BadPath.mgC, rfl, fun _ => rfl⟩
  have G_Broken : GlobD K mg "Broken" (.cl (C K "Broken")) := ⟨_, .ref _, X_Broken.mgC, rfl, fun _ => rfl⟩
  have O__law_kinds := ok__law_kinds (P := P) (w := w) (base := base) B G_NothingToUndo G_Broken G_BadPath G_BadMark G_BadProgram G_BadLine G_Refused G_TakenState G_NoState G_BadTable G_BadStates G_Clash G_BadKind G_BadChange G_UnlikeBooks G_BadText G_BadMove G_BadPair G_Repeated G_BadName G_BadBook (fun_of (st := s__law_kinds) D__law_kinds)
  have C__law_kinds : Cal P w K mg base 1 "_law_kinds" ["_law_e"] (F__law_kinds K) := ⟨⟨_, _, gl "_law_kinds" (by decide), D__law_kinds.kp, FunD.bindsN (ps := ["_law_e"]) D__law_kinds fun _ _ _ _ _ _ us hl => match us, hl with | [_], _ => rfl, O__law_kinds⟩, fun _ _ _ h => by unfold F__law_kinds at h; exact h.1⟩
  have O__law_take := ok__law_take (P := P) (w := w) (base := base) B  (fun_of (st := s__law_take) D__law_take)
  have C__law_take : Cal P w K mg base 1 "_law_take" ["_law_box_here", "_law_many"] (F__law_take K) := ⟨⟨_, _, gl "_law_take" (by decide), D__law_take.kp, FunD.bindsN (ps := ["_law_box_here", "_law_many"]) D__law_take fun _ _ _ _ _ _ us hl => match us, hl with | [_, _], _ => rfl, O__law_take⟩, fun _ _ _ h => by unfold F__law_take at h; exact h.1⟩
  have O__law_value := ok__law_value (P := P) (w := w) (base := base) B C__law_take (fun_of (st := s__law_value) D__law_value)
  have C__law_value : Cal P w K mg base 2 "_law_value" ["_law_box_here"] (F__law_value K) := ⟨⟨_, _, gl "_law_value" (by decide), D__law_value.kp, FunD.bindsN (ps := ["_law_box_here"]) D__law_value fun _ _ _ _ _ _ us hl => match us, hl with | [_], _ => rfl, O__law_value⟩, fun _ _ _ h => by unfold F__law_value at h; exact h.1⟩
  have O__law_cell := ok__law_cell (P := P) (w := w) (base := base) B  (fun_of (st := s__law_cell) D__law_cell)
  have C__law_cell : Cal P w K mg base 1 "_law_cell" ["_law_script", "_law_k"] (F__law_cell K) := ⟨⟨_, _, gl "_law_cell" (by decide), D__law_cell.kp, FunD.bindsN (ps := ["_law_script", "_law_k"]) D__law_cell fun _ _ _ _ _ _ us hl => match us, hl with | [_, _], _ => rfl, O__law_cell⟩, fun _ _ _ h => by unfold F__law_cell at h; exact h.1⟩
  have O__law_box := ok__law_box (P := P) (w := w) (base := base) B C__law_cell (fun_of (st := s__law_box) D__law_box)
  have C__law_box : Cal P w K mg base 2 "_law_box" ["_law_script", "_law_k"] (F__law_box K) := ⟨⟨_, _, gl "_law_box" (by decide), D__law_box.kp, FunD.bindsN (ps := ["_law_script", "_law_k"]) D__law_box fun _ _ _ _ _ _ us hl => match us, hl with | [_, _], _ => rfl, O__law_box⟩, fun _ _ _ h => by unfold F__law_box at h; exact h.1⟩
  have O_law := ok_law (P := P) (w := w) (base := base) B C__law_kinds X_StepError X_Broken X_BadPath X_BadMark X_BadProgram X_BadLine X_Refused X_TakenState X_NoState X_BadTable X_BadStates X_BadKind X_BadChange X_BadMove X_BadPair X_Repeated X_BadName G_StepError X_NothingToUndo X_Clash X_UnlikeBooks X_BadText X_BadBook C__law_value C__law_box (fun_of (st := s_law) D_law)
  exact O_law
end T
namespace T
open PySem L2 AE AH
theorem cell_spec {K : PySem.W.Frag} {ns : List Int} {k : Int} {Kd : KO} {Ed : KXc} (hk : 0 ≤ k) (h : ∀ c : Int, Kd (.fz (.int c)) [some (.fz (.scr ns)), some (.fz (.int k))]) : F__law_cell K [.fz (.scr ns), .fz (.int k)] Kd Ed := by
  unfold F__law_cell
  refine ⟨rfl, ?_⟩
  unfold t__law_cell
  refine iteB (fun e => ?_) (fun e => ?_)
  · obtain ⟨x, _, hx⟩ := atI_lt hk (of_decide_eq_true e)
    exact ⟨x, hx, h x⟩
  · exact h 0
theorem box_spec {K : PySem.W.Frag} {ns : List Int} {k : Int} {Kd : KO} {Ed : KXc} (hk : 0 ≤ k) (hk2 : k ≤ 1000) (h : ∀ c : Int, 0 ≤ c → Kd (.ls [.int c, .int 0, .int (40503 * k + 911)]) [some (.fz (.scr ns)), some (.fz (.int k))]) : F__law_box K [.fz (.scr ns), .fz (.int k)] Kd Ed := by
  unfold F__law_box
  refine ⟨rfl, ?_⟩
  unfold t__law_box
  refine cell_spec hk fun c => ?_
  refine ⟨mulW (by decide) (by omega), ?_⟩
  refine ⟨szB rfl, ?_⟩
  refine h (if c < 0 then -c else c) ?_
  split <;> omega
theorem take_spec {K : PySem.W.Frag} {b0 b1 b2 n : Int} {m : Nat} {Kd : KO} {Ed : KXc} (h0 : 0 ≤ b0) (h1 : 0 ≤ b1) (hm : b1 ≤ m) (hm2 : m < 10 ^ 9) (h2 : 0 ≤ b2) (h3 : b2 ≤ 10 ^ 9) (hn : 0 < n) (hn2 : n ≤ 10 ^ 9)
    (h : ∀ v c0 c1 : Int, 0 ≤ v → v < n → 0 ≤ c0 → 0 ≤ c1 → c1 ≤ (m + 1 : Nat) → Kd (.fz (.int v)) [some (.ls [.int c0, .int c1, .int b2]), some (.fz (.int n))]) : F__law_take K [.ls [.int b0, .int b1, .int b2], .fz (.int n)] Kd Ed := by
  unfold F__law_take
  refine ⟨rfl, ?_⟩
  unfold t__law_take
  refine ⟨_, rfl, powW (by omega) (by omega) (by decide), ?_⟩
  refine iteB (fun e => ?_) (fun e => ?_)
  · refine ⟨_, rfl, hn, _, rfl, divW hn (by omega), _, rfl, ?_⟩
    exact h _ _ _ (Int.emod_nonneg _ (by omega)) (Int.emod_lt_of_pos _ hn) (Int.ediv_nonneg h0 (by omega)) h1 (by omega)
  · have hb : b0 < 10 ^ 18 := by have := of_decide_eq_false e; simp only [Int.reduceToNat] at this; omega
    refine ⟨_, rfl, _, rfl, _, rfl, mulW (by omega) (by decide), _, rfl, mulW (by omega) (by decide), _, rfl, powW (by omega) (by omega) (by omega), by omega, ?_⟩
    generalize hg : ((b0 + 7) * 69069 + (b1 + 1) * 40692 + b2) ^ (3 : Int).toNat % 2147483647 = x
    have x0 : 0 ≤ x := by rw [← hg]; exact Int.emod_nonneg _ (by omega)
    have x1 : x < 2147483647 := by rw [← hg]; exact Int.emod_lt_of_pos _ (by omega)
    refine ⟨_, rfl, mulW (by omega) (by decide), powW (by omega) (by omega) (by omega), by omega, divW (by omega) (by decide), hn, ?_⟩
    exact h _ _ _ (Int.emod_nonneg _ (by omega)) (Int.emod_lt_of_pos _ hn) h0 (by omega) (by omega)
end T
namespace T
open PySem L2 AE AH
theorem value_spec {K : PySem.W.Frag} {b0 b1 b2 : Int} {m : Nat} {Kd : KO} {Ed : KXc} (h0 : 0 ≤ b0) (h1 : 0 ≤ b1) (hm : b1 ≤ m) (hm2 : m < 10 ^ 8) (h2 : 0 ≤ b2) (h3 : b2 ≤ 10 ^ 9)
    (h : ∀ (d : D) (c0 c1 : Int), pyOk d = true → dDep d ≤ 3 → 0 ≤ c0 → 0 ≤ c1 → c1 ≤ (m + 2 : Nat) → Kd (.fz d) [some (.ls [.int c0, .int c1, .int b2])]) : F__law_value K [.ls [.int b0, .int b1, .int b2]] Kd Ed := by
  unfold F__law_value
  refine ⟨rfl, ?_⟩
  unfold t__law_value
  refine take_spec h0 h1 hm (by omega) h2 h3 (by omega) (by omega) fun v c0 c1 v0 v1 hc0 hc1 hm' => ?_
  refine take_spec hc0 hc1 hm' (by omega) h2 h3 (by omega) (by omega) fun w d0 d1 w0 w1 hd0 hd1 hm'' => ?_
  refine ⟨by omega, ⟨by omega, by omega, by decide, ?_⟩⟩
  refine ⟨szB rfl, szB rfl, szB rfl, ?_⟩
  have r0 : 0 ≤ (w - 500) % 7 := Int.emod_nonneg _ (by omega)
  have r1 : (w - 500) % 7 < 7 := Int.emod_lt_of_pos _ (by omega)
  generalize hr : (w - 500) % 7 = r at r0 r1 ⊢
  rcases (by omega : v = 0 ∨ v = 1 ∨ v = 2 ∨ v = 3 ∨ v = 4) with rfl | rfl | rfl | rfl | rfl
  · exact ⟨_, rfl, h _ _ _ (by kernel_rfl) (Nat.le_of_ble_eq_true rfl) hd0 hd1 hm''⟩
  · refine ⟨_, rfl, h _ _ _ ?_ (Nat.le_of_ble_eq_true rfl) hd0 hd1 hm''⟩
    rcases (by omega : r = 0 ∨ r = 1 ∨ r = 2 ∨ r = 3 ∨ r = 4 ∨ r = 5 ∨ r = 6) with rfl | rfl | rfl | rfl | rfl | rfl | rfl <;> decide +kernel
  · exact ⟨_, rfl, h _ _ _ (by kernel_rfl) (Nat.le_of_ble_eq_true rfl) hd0 hd1 hm''⟩
  · exact ⟨_, rfl, h _ _ _ (by kernel_rfl) (Nat.le_of_ble_eq_true rfl) hd0 hd1 hm''⟩
  · exact ⟨_, rfl, h _ _ _ (by kernel_rfl) (Nat.le_of_ble_eq_true rfl) hd0 hd1 hm''⟩
end T
namespace T
open PySem L2 AE AH
def cls21 : List Str := ["BadBook", "BadName", "Repeated", "BadPair", "BadMove", "BadText", "UnlikeBooks", "BadChange", "BadKind", "Clash", "BadStates", "BadTable", "NoState", "TakenState", "Refused", "BadLine", "BadProgram", "BadMark", "BadPath", "Broken", "NothingToUndo"]
def cntF (bf : Str → Bool) : Int :=
  ((([bf "BadBook", bf "BadName", bf "Repeated", bf "BadPair"].filter id).length : Int) + (([bf "BadMove", bf "BadText", bf "UnlikeBooks", bf "BadChange"].filter id).length : Int) + (([bf "BadKind", bf "Clash", bf "BadStates", bf "BadTable"].filter id).length : Int))
  + (([bf "NoState", bf "TakenState", bf "Refused", bf "BadLine"].filter id).length : Int) + (([bf "BadProgram", bf "BadMark", bf "BadPath", bf "Broken"].filter id).length : Int) + (if bf "NothingToUndo" then 1 else 0)
theorem kinds_spec {K : PySem.W.Frag} {cls : Value} {fs : List (Str × D)} {bf : Str → Bool} {Kd : KO} {Ed : KXc} (ht : tyD K (.xo cls fs) cls) (kit : ∀ y ∈ cls21, PySem.W.kitOne K cls (.ref (C K y)) = some (bf y))
    {c : Int} (hc : cntF bf = c) (h : Kd (.fz (.int c)) [some (.fz (.xo cls fs))]) : F__law_kinds K [.fz (.xo cls fs)] Kd Ed := by
  unfold F__law_kinds
  refine ⟨rfl, ?_⟩
  unfold t__law_kinds
  refine ⟨_, _, _, ht, rfl, kit "BadBook" (by decide), ?_⟩
  refine ⟨_, _, _, ht, rfl, kit "BadName" (by decide), ?_⟩
  refine ⟨_, _, _, ht, rfl, kit "Repeated" (by decide), ?_⟩
  refine ⟨_, _, _, ht, rfl, kit "BadPair" (by decide), szB rfl, ?_⟩
  refine ⟨_, _, _, ht, rfl, kit "BadMove" (by decide), ?_⟩
  refine ⟨_, _, _, ht, rfl, kit "BadText" (by decide), ?_⟩
  refine ⟨_, _, _, ht, rfl, kit "UnlikeBooks" (by decide), ?_⟩
  refine ⟨_, _, _, ht, rfl, kit "BadChange" (by decide), szB rfl, ?_⟩
  refine ⟨_, _, _, ht, rfl, kit "BadKind" (by decide), ?_⟩
  refine ⟨_, _, _, ht, rfl, kit "Clash" (by decide), ?_⟩
  refine ⟨_, _, _, ht, rfl, kit "BadStates" (by decide), ?_⟩
  refine ⟨_, _, _, ht, rfl, kit "BadTable" (by decide), szB rfl, ?_⟩
  refine ⟨_, _, _, ht, rfl, kit "NoState" (by decide), ?_⟩
  refine ⟨_, _, _, ht, rfl, kit "TakenState" (by decide), ?_⟩
  refine ⟨_, _, _, ht, rfl, kit "Refused" (by decide), ?_⟩
  refine ⟨_, _, _, ht, rfl, kit "BadLine" (by decide), szB rfl, ?_⟩
  refine ⟨_, _, _, ht, rfl, kit "BadProgram" (by decide), ?_⟩
  refine ⟨_, _, _, ht, rfl, kit "BadMark" (by decide), ?_⟩
  refine ⟨_, _, _, ht, rfl, kit "BadPath" (by decide), ?_⟩
  refine ⟨_, _, _, ht, rfl, kit "Broken" (by decide), szB rfl, ?_⟩
  refine ⟨[_, _, _, _], rfl, Nat.le_of_ble_eq_true rfl, [_, _, _, _], rfl, Nat.le_of_ble_eq_true rfl, [_, _, _, _], rfl, Nat.le_of_ble_eq_true rfl, ?_⟩
  refine ⟨[_, _, _, _], rfl, Nat.le_of_ble_eq_true rfl, [_, _, _, _], rfl, Nat.le_of_ble_eq_true rfl, ?_⟩
  refine ⟨_, _, _, ht, rfl, kit "NothingToUndo" (by decide), ?_⟩
  subst hc
  exact h

mutual
theorem dEq_refl : ∀ d : D, pyOk d = true → dEq d d = true
  | .non, _ => rfl
  | .bl b, _ => by cases b <;> rfl
  | .int i, _ => by simp [dEq]
  | .str x, _ => by simp [dEq]
  | .lst xs, h => dEqs_refl xs h
  | .tup xs, h => dEqs_refl xs h
  | .kt xs, h => dEqs_refl xs h
  | .dic _, h => by cases h
  | .dit _, h => by cases h
  | .ins _ _, h => by cases h
  | .cl _, h => by cases h
  | .ty _, h => by cases h
  | .scr _, h => by cases h
  | .exc _ _ _ _, h => by cases h
  | .xo _ _, h => by cases h
theorem dEqs_refl : ∀ ds : List D, pyOks ds = true → dEqs ds ds = true
  | [], _ => rfl
  | d :: ds, h => by
    have h := Bool.and_eq_true_iff.mp h
    show (dEq d d && dEqs ds ds) = true
    rw [dEq_refl d h.1, dEqs_refl ds h.2]; rfl
end
def cls22 : List Str := ("StepError" : Str) :: cls21
structure KF (K : PySem.W.Frag) : Prop where
  xi : ∀ x ∈ cls22, XIs K (C K x)
  kit : ∀ x ∈ cls22, ∀ y ∈ cls22, PySem.W.kitOne K (.ref (C K x)) (.ref (C K y)) = some (x == y || y == "StepError")
  kv : ∀ x ∈ cls22, PySem.W.kitOne K (.ref (C K x)) (.type "ValueError") = some true
  vk : ∀ x ∈ cls22, PySem.W.kitOne K (.type "ValueError") (.ref (C K x)) = some false
  xf : ∀ p ∈ ([("BadName", "name"), ("Repeated", "name"), ("BadPair", "pair"), ("BadMove", "move"), ("BadChange", "at"), ("BadKind", "kind"), ("BadStates", "states"), ("BadTable", "step"), ("NoState", "state"), ("TakenState", "state"), ("Refused", "at"), ("BadLine", "line"), ("BadProgram", "column"), ("BadMark", "mark"), ("BadPath", "path"), ("Broken", "paper")] : List (Str × Str)), XfD K (C K p.1) p.2
theorem cnt_one : ∀ x ∈ cls21, cntF (fun y => x == y) = 1 := by decide +kernel
theorem no_step : ∀ y ∈ cls21, (y == "StepError") = false := by decide +kernel
def bareL (K : PySem.W.Frag) : List D := [.xo (.ref (C K "BadBook")) [], .xo (.ref (C K "BadText")) [], .xo (.ref (C K "UnlikeBooks")) [], .xo (.ref (C K "Clash")) [], .xo (.ref (C K "NothingToUndo")) []]
def madeL (K : PySem.W.Frag) (a b : D) : List D := [.xo (.ref (C K "BadName")) [("name", a)], .xo (.ref (C K "Repeated")) [("name", b)], .xo (.ref (C K "BadPair")) [("pair", a)], .xo (.ref (C K "BadMove")) [("move", b)], .xo (.ref (C K "BadChange")) [("at", a)], .xo (.ref (C K "BadKind")) [("kind", b)], .xo (.ref (C K "BadStates")) [("states", a)], .xo (.ref (C K "BadTable")) [("step", b)],
  .xo (.ref (C K "NoState")) [("state", a)], .xo (.ref (C K "TakenState")) [("state", b)], .xo (.ref (C K "Refused")) [("at", a)], .xo (.ref (C K "BadLine")) [("line", b)], .xo (.ref (C K "BadProgram")) [("column", a)], .xo (.ref (C K "BadMark")) [("mark", b)], .xo (.ref (C K "BadPath")) [("path", a)], .xo (.ref (C K "Broken")) [("paper", b)]]
theorem all_xo {K : PySem.W.Frag} {a b d : D} (h : d ∈ bareL K ++ madeL K a b) : ∃ x fs, x ∈ cls21 ∧ d = .xo (.ref (C K x)) fs := by
  simp only [bareL, madeL, List.cons_append, List.nil_append, List.mem_cons, List.not_mem_nil, or_false] at h
  rcases h with rfl | rfl | rfl | rfl | rfl | rfl | rfl | rfl | rfl | rfl | rfl | rfl | rfl | rfl | rfl | rfl | rfl | rfl | rfl | rfl | rfl
  all_goals exact ⟨_, _, by decide, rfl⟩
theorem law_spec {K : PySem.W.Frag} (k : KF K) {ns : List Int} : F_law K [.fz (.scr ns)] (fun o _ => o = .fz (.bl true)) (fun _ _ => False) := by
  unfold F_law
  refine ⟨rfl, ?_⟩
  unfold t_law
  refine box_spec (by omega) (by omega) fun c hc => ?_
  refine value_spec (m := 0) hc (by omega) (by omega) (by omega) (by omega) (by omega) fun a c0 c1 ha hda hc0 hc1 hm => ?_
  refine value_spec (m := 2) hc0 hc1 hm (by omega) (by omega) (by omega) fun b e0 e1 hb hdb he0 he1 hm' => ?_
  refine ⟨szB rfl, szB rfl, szB rfl, szB rfl, szB rfl, szB rfl, szB rfl, ?_⟩
  refine ⟨fun i ρ => ∃ x, ρ = [some (.fz (.scr ns)), some (.ls [.int e0, .int e1, .int 911]), some (.fz a), some (.fz b), some (.ls (bareL K)), some (.ls (madeL K a b)), x, none, none, none], ⟨none, rfl⟩, fun i d ρ hd hI => ?_, fun ρ hI => ?_⟩
  · obtain ⟨x0, rfl⟩ := hI
    obtain ⟨x, fs, hx, rfl⟩ := all_xo (List.mem_of_getElem? hd)
    have hx' : x ∈ cls22 := List.mem_cons_of_mem _ hx
    have ht : tyD K (.xo (.ref (C K x)) fs) (.ref (C K x)) := ⟨rfl, .inr ⟨_, rfl, k.xi x hx'⟩⟩
    have k1 : PySem.W.kitOne K (.ref (C K x)) (.ref (C K "StepError")) = some true := by rw [k.kit x hx' _ (by decide)]; simp
    refine ⟨_, _, _, ht, rfl, k1, ?_⟩
    refine ⟨_, _, _, ht, rfl, k.kv x hx', ?_⟩
    refine kinds_spec (bf := fun y => x == y) ht (fun y hy => by rw [k.kit x hx' y (List.mem_cons_of_mem _ hy), no_step y hy, Bool.or_false]) (cnt_one x hx) ?_
    exact ⟨.inl rfl, ⟨_, rfl⟩⟩
  · obtain ⟨x0, rfl⟩ := hI
    refine ⟨k.xf ("BadName", "name") (by decide), _, rfl, k.xf ("Repeated", "name") (by decide), _, rfl, k.xf ("BadPair", "pair") (by decide), _, rfl, k.xf ("BadMove", "move") (by decide), _, rfl, szB rfl, ?_⟩
    refine ⟨k.xf ("BadChange", "at") (by decide), _, rfl, k.xf ("BadKind", "kind") (by decide), _, rfl, k.xf ("BadStates", "states") (by decide), _, rfl, k.xf ("BadTable", "step") (by decide), _, rfl, szB rfl, szB rfl, ?_⟩
    refine ⟨k.xf ("NoState", "state") (by decide), _, rfl, k.xf ("TakenState", "state") (by decide), _, rfl, k.xf ("Refused", "at") (by decide), _, rfl, k.xf ("BadLine", "line") (by decide), _, rfl, szB rfl, szB rfl, ?_⟩
    refine ⟨k.xf ("BadProgram", "column") (by decide), _, rfl, k.xf ("BadMark", "mark") (by decide), _, rfl, k.xf ("BadPath", "path") (by decide), _, rfl, k.xf ("Broken", "paper") (by decide), _, rfl, szB rfl, szB rfl, ?_⟩
    refine ⟨_, rfl, k.xf ("BadName", "name") (by decide), _, rfl, _, rfl, k.xf ("Repeated", "name") (by decide), _, rfl, _, rfl, k.xf ("BadPair", "pair") (by decide), _, rfl, _, rfl, k.xf ("BadMove", "move") (by decide), _, rfl, _, rfl, k.xf ("BadChange", "at") (by decide), _, rfl, _, rfl, k.xf ("BadKind", "kind") (by decide), _, rfl, _, rfl, k.xf ("BadStates", "states") (by decide), _, rfl, szB rfl, ?_⟩
    refine ⟨_, rfl, k.xf ("BadTable", "step") (by decide), _, rfl, _, rfl, k.xf ("NoState", "state") (by decide), _, rfl, _, rfl, k.xf ("TakenState", "state") (by decide), _, rfl, _, rfl, k.xf ("Refused", "at") (by decide), _, rfl, _, rfl, k.xf ("BadLine", "line") (by decide), _, rfl, _, rfl, k.xf ("BadProgram", "column") (by decide), _, rfl, szB rfl, szB rfl, ?_⟩
    refine ⟨_, rfl, k.xf ("BadMark", "mark") (by decide), _, rfl, _, rfl, k.xf ("BadPath", "path") (by decide), _, rfl, _, rfl, k.xf ("Broken", "paper") (by decide), _, rfl, szB rfl, szB rfl, ?_⟩
    have pk : pyOks [a, b, a, b, a, b, a, b, a, b, a, b, a, b, a, b] = true := by simp [pyOks, ha, hb]
    have dp : dDeps [a, b, a, b, a, b, a, b, a, b, a, b, a, b, a, b] + 1 ≤ 60 := by simp only [dDeps]; omega
    have sh : Shp (.lst [a, b, a, b, a, b, a, b, a, b, a, b, a, b, a, b]) := ⟨pk, dp⟩
    refine ⟨szB rfl, ⟨.inr ⟨sh, sh⟩, iteB (fun _ => ?_) (fun e => ?_)⟩⟩
    · refine ⟨.inr ⟨sh, sh⟩, iteB (fun _ => ?_) (fun e => ?_)⟩
      · refine kinds_spec (bf := fun _ => false) ⟨rfl, .inl rfl⟩ (fun y hy => k.vk y (List.mem_cons_of_mem _ hy)) (c := 0) rfl ?_
        refine kinds_spec (bf := fun y => "StepError" == y) ⟨rfl, .inr ⟨_, rfl, k.xi "StepError" (by decide)⟩⟩ (fun y hy => by rw [k.kit "StepError" (by decide) y (List.mem_cons_of_mem _ hy), no_step y hy, Bool.or_false]) (c := 0) (by decide +kernel) ?_
        exact ⟨.inl rfl, rfl⟩
      · exact Bool.noConfusion ((dEqs_refl _ pk).symm.trans e)
    · exact Bool.noConfusion ((dEqs_refl _ pk).symm.trans e)
end T
namespace T
open PySem L2 AE AH
theorem kf_of {K : PySem.W.Frag} (c : chk K = true) : KF K := by
  obtain ⟨c1, ck⟩ := andB c
  obtain ⟨c2, ck⟩ := andB ck
  obtain ⟨c3, ck⟩ := andB ck
  obtain ⟨c4, ck⟩ := andB ck
  have inC : ∀ x ∈ cls22, x ∈ classes := by decide +kernel
  have ex : ∀ x ∈ classes, ExcOk K (C K x) := fun x hx => by
    rcases List.mem_append.mp hx with h | h
    · have z := List.all_eq_true.mp c3 x h
      obtain ⟨z1, z⟩ := andB z
      obtain ⟨z2, z3⟩ := andB z
      exact excB_ok z2
    · obtain ⟨p, hp, rfl⟩ := List.mem_map.mp h
      have z := List.all_eq_true.mp c4 p hp
      obtain ⟨z1, z⟩ := andB z
      obtain ⟨z2, z3⟩ := andB z
      exact excB_ok z2
  have kk : ∀ x ∈ classes, (∀ y ∈ classes, PySem.W.kitOne K (.ref (C K x)) (.ref (C K y)) = some (x == y || y == "StepError")) ∧ PySem.W.kitOne K (.ref (C K x)) (.type "ValueError") = some true ∧ PySem.W.kitOne K (.type "ValueError") (.ref (C K x)) = some false := fun x hx => by
    have z := List.all_eq_true.mp ck x hx
    obtain ⟨z1, z⟩ := andB z
    obtain ⟨z2, z3⟩ := andB z
    exact ⟨fun y hy => of_decide_eq_true (List.all_eq_true.mp z1 y hy), of_decide_eq_true z2, of_decide_eq_true z3⟩
  refine ⟨fun x hx => (ex x (inC x hx)).xi, fun x hx y hy => (kk x (inC x hx)).1 y (inC y hy), fun x hx => (kk x (inC x hx)).2.1, fun x hx => (kk x (inC x hx)).2.2, fun p hp => ?_⟩
  have hp' : p ∈ onesL := hp
  have z := List.all_eq_true.mp c4 p hp'
  obtain ⟨z1, z⟩ := andB z
  obtain ⟨z2, z3⟩ := andB z
  obtain ⟨o1, o⟩ := andB z3
  obtain ⟨o2, o3⟩ := andB o
  exact ⟨(excB_ok z2).xf, of_decide_eq_true o3⟩
theorem pure_law (K : PySem.W.Frag) (c : chk K = true) (ns : List Int) (_ : ns.length ≤ 63) : F_law K [.fz (.scr ns)] (fun o _ => o = .fz (.bl true)) (fun _ _ => False) := law_spec (kf_of c)
end T
open PySem PySem.W PySem.Calls PyProof.Rows
set_option maxRecDepth 100000 in
set_option maxHeartbeats 0 in
theorem PySem.Challenge.cw_stephulls_k03_errors_holds : PySem.Challenge.rw_stephulls_k03_errors.Holds := by
  w_on; o_law
  refine HandSHeadRun.head_any (r := OpenLaw.row PySem.Challenge.rw_stephulls_k03_errors) (q := view (OpenLaw.row PySem.Challenge.rw_stephulls_k03_errors).prog [29]) (H := T.hk) (ob := T.ob) (M := 6000) (loose := T.lo) (d := HandSHeadRun.topDef (OpenLaw.row PySem.Challenge.rw_stephulls_k03_errors).prog 29) (kwd := []) AH.seeB_eq
    (by kernel_rfl) (fun s => by kernel_rfl) T.run (by kernel_rfl) (by kernel_rfl) (by kernel_rfl) (by rfl) (by first | assumption | decide +kernel) (by decide +kernel) ⟨rfl, rfl, rfl, rfl, rfl, by decide +kernel⟩ ?hw ?hc
  case hw => w_witness2
  case hc =>
    refine AH.walk_ofW (l := PySem.Challenge.rw_stephulls_k03_errors) (n := 63) (k := 3) (x := "_law_script") (CX := fun w => L2N.CX (PySem.Challenge.rw_stephulls_k03_errors).prog w) rfl (by decide) (by kernel_rfl) ⟨rfl, by decide, by decide⟩ ?F (fun _ _ _ _ _ z => AH.noCX z)
    intro w mg fa h Y G hmg0
    obtain ⟨K, KX, c⟩ := Y
    have hmg : mg ("law" : PySem.Str) = some (.ref fa) := by
      have e : (HandSHeadRun.topDef (OpenLaw.row PySem.Challenge.rw_stephulls_k03_errors).prog 29).name = ("law" : PySem.Str) := by kernel_rfl
      rw [← e]
      exact hmg0
    obtain ⟨fd, hb, hF⟩ := T.facts (P := (PySem.Challenge.rw_stephulls_k03_errors).prog) (w := w) KX G hmg c
    exact ⟨K, fd, _, KX, hb, fun H a ns hl _ hS => AH.spLaw (T.pure_law K c.1) H a ns hl hS, hF⟩
