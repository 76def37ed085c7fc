import PyProof.Rows.All
import Wide.All
import OpenK.AllK
import Wide.FinOn
import HandS.ForMost
import HandS.ForExc
import HandS.Deep
import HandS.ExcInit
import HandS.ExcCtx
import HandS.CallSlots
import HandS.Wide
import HandS.TupAny
import HandS.Star
import HandS.Walk
import HandS.Small
import HandS.ExcField
import KE.KExcIs
import HandS.Defaults
import HandS.ExcValue
import HandS.MakeKwOnly
import HandS.ExcBuiltin
import HandS.IsInst
import KE.DataMinMax
import PyProof.StrOps2
import HandS.Head0
import HandS.Head1
import HandS.Head2
import HandS.HeadEnd
import HandS.HeadHook1
import HandS.HeadHook2
import HandS.Property
import HandS.Text
import HandS.DictComp
import KE.GoesMore
import HandS.ClsMeth
import HandS.OwnEq
import HandS.MakeKw
import HandS.ExcIs
import HandS.HeadNt
import PySem.Challenge.RW_stephulls_k07_texts_of_words
set_option Elab.async false
set_option linter.all false
set_option autoImplicit false
set_option maxRecDepth 100000
set_option maxHeartbeats 4000000
/-! AE1: pure data D, owned trees O, how they lie in the abstract heap; the frame of an evaluation. -/
namespace AE
open PySem L2

/-- an exception object that is held as a value -/
def exv (a : Addr) (cls : Value) (d : Option Addr) : HO := .ext fun hp => ∃ tup : Addr, hp.get? a = some ({ cls := cls, dict := d, data := .fields #[.ref tup, .none, .none, .none, .bool false, .none] } : Obj)
/-- pure data: never changed any more -/
inductive D where
  | non | bl (b : Bool) | int (i : Int) | str (x : Str)
  | lst (xs : List D) | tup (xs : List D) | kt (xs : List D)
  | dic (kvs : List (Key × D)) | dit (kvs : List (List Key × D))
  | ins (C : Addr) (fs : List (Str × D)) | cl (a : Addr) | ty (n : String) | scr (ns : List Int)
  | exc (a : Addr) (cls : Value) (d : Option Addr) (fs : List (Str × D))
  | xo (cls : Value) (fs : List (Str × D))
/-- a tree of objects that one place owns; its leaves are pure data -/
inductive O where
  | fz (d : D)
  | ls (xs : List D) | dc (kvs : List (Key × D)) | dt (kvs : List (List Key × D))
  | nl (xs : List O) | nd (kvs : List (Key × O))
  | ob (C : Addr) (fs : List (Str × O))
abbrev Env := List (Option O)
/-- what an expression hands on: a tree (new, or pure data), or the thing that slot i owns -/
inductive EV where
  | ow (o : O) | pt (i : Nat)

section
variable (K : PySem.W.Frag) (H : Hp)
mutual
def Rep : D → V → Prop
  | .non, v => v = .non
  | .bl b, v => v = .bl b
  | .int i, v => v = .int i
  | .str x, v => v = .str x
  | .lst ds, v => ∃ a vs, v = .ref a ∧ H a = some (.lst vs) ∧ Reps ds vs
  | .tup ds, v => ∃ a vs, v = .ref a ∧ H a = some (.tup vs) ∧ Reps ds vs
  | .kt ds, v => ∃ a vs, v = .ref a ∧ SqT K H a vs ∧ Reps ds vs
  | .dic kds, v => ∃ a kvs, v = .ref a ∧ Rd H a (.dK kvs) ∧ RepKs kds kvs
  | .dit kds, v => ∃ a kvs, v = .ref a ∧ Rd H a (.dT kvs) ∧ RepTs kds kvs
  | .ins C fds, v => ∃ a dx fvs, v = .ref a ∧ H a = some (.ins C dx fvs) ∧ RepFs fds fvs
  | .cl a, v => v = .ref a
  | .ty n, v => v = .ty n
  | .scr ns, v => ∃ a, v = .ref a ∧ SqL K H a (ns.map V.int)
  | .exc a _ d fds, v => v = .ref a ∧ ((d = none ∧ fds = []) ∨ ∃ p fvs, d = some p ∧ H p = some (.xd fvs) ∧ RepFs fds fvs)
  | .xo cls fds, v => ∃ a, v = .ref a ∧ ((fds = [] ∧ H a = some (exv a cls none)) ∨ ∃ p fvs, H a = some (exv a cls (some p)) ∧ H p = some (exd p fvs) ∧ RepFs fds fvs)
def Reps : List D → List V → Prop
  | [], vs => vs = []
  | d :: ds, vs => ∃ v ws, vs = v :: ws ∧ Rep d v ∧ Reps ds ws
def RepKs : List (Key × D) → List (Key × V) → Prop
  | [], vs => vs = []
  | kd :: ds, vs => ∃ v ws, vs = v :: ws ∧ RepK kd v ∧ RepKs ds ws
def RepK : (Key × D) → (Key × V) → Prop
  | (k, d), kv => kv.1 = k ∧ Rep d kv.2
def RepTs : List (List Key × D) → List (List Key × V) → Prop
  | [], vs => vs = []
  | kd :: ds, vs => ∃ v ws, vs = v :: ws ∧ RepT kd v ∧ RepTs ds ws
def RepT : (List Key × D) → (List Key × V) → Prop
  | (k, d), kv => kv.1 = k ∧ Rep d kv.2
def RepFs : List (Str × D) → List (Str × V) → Prop
  | [], vs => vs = []
  | kd :: ds, vs => ∃ v ws, vs = v :: ws ∧ RepF kd v ∧ RepFs ds ws
def RepF : (Str × D) → (Str × V) → Prop
  | (k, d), kv => kv.1 = k ∧ Rep d kv.2
end
end

theorem Rd.mono {H H' : Hp} {a : Addr} {u : HO} (h : Rd H a u) (s : Same H H') : Rd H' a u :=
  h.elim (fun e => .inl (s _ _ e)) fun ⟨o, e⟩ => .inr ⟨o, s _ _ e⟩
theorem SqL.mono {K : PySem.W.Frag} {H H' : Hp} {a : Addr} {xs : List V} (h : SqL K H a xs) (e : Same H H') : SqL K H' a xs := e.seq h
theorem SqT.mono {K : PySem.W.Frag} {H H' : Hp} {a : Addr} {xs : List V} (h : SqT K H a xs) (e : Same H H') : SqT K H' a xs := by
  rcases h with h | h
  · exact .inl (Rd.mono h e)
  · exact .inr h

section
variable {K : PySem.W.Frag} {H H' : Hp}
mutual
theorem Rep.mono (s : Same H H') : ∀ (d : D) {v : V}, Rep K H d v → Rep K H' d v
  | .non, v, h => h
  | .bl b, v, h => h
  | .int i, v, h => h
  | .str x, v, h => h
  | .lst ds, v, h => let ⟨a, vs, e, q, r⟩ := h; ⟨a, vs, e, s _ _ q, Reps.mono s ds r⟩
  | .tup ds, v, h => let ⟨a, vs, e, q, r⟩ := h; ⟨a, vs, e, s _ _ q, Reps.mono s ds r⟩
  | .kt ds, v, h => let ⟨a, vs, e, q, r⟩ := h; ⟨a, vs, e, SqT.mono q s, Reps.mono s ds r⟩
  | .dic ds, v, h => let ⟨a, vs, e, q, r⟩ := h; ⟨a, vs, e, Rd.mono q s, RepKs.mono s ds r⟩
  | .dit ds, v, h => let ⟨a, vs, e, q, r⟩ := h; ⟨a, vs, e, Rd.mono q s, RepTs.mono s ds r⟩
  | .ins C ds, v, h => let ⟨a, dx, vs, e, q, r⟩ := h; ⟨a, dx, vs, e, s _ _ q, RepFs.mono s ds r⟩
  | .cl a, v, h => h
  | .ty n, v, h => h
  | .scr ns, v, h => let ⟨a, e, q⟩ := h; ⟨a, e, SqL.mono q s⟩
  | .exc a _ d fds, v, h => ⟨h.1, h.2.elim .inl fun ⟨p, fvs, e, q, r⟩ => .inr ⟨p, fvs, e, s _ _ q, RepFs.mono s fds r⟩⟩
  | .xo cls fds, v, h => let ⟨a, e, z⟩ := h; ⟨a, e, z.elim (fun y => .inl ⟨y.1, s _ _ y.2⟩) fun ⟨p, fvs, q, q2, r⟩ => .inr ⟨p, fvs, s _ _ q, s _ _ q2, RepFs.mono s fds r⟩⟩
theorem Reps.mono (s : Same H H') : ∀ (ds : List D) {vs : List V}, Reps K H ds vs → Reps K H' ds vs
  | [], vs, h => h
  | d :: ds, vs, h => let ⟨v, ws, e, q, r⟩ := h; ⟨v, ws, e, Rep.mono s d q, Reps.mono s ds r⟩
theorem RepKs.mono (s : Same H H') : ∀ (ds : List (Key × D)) {vs : List (Key × V)}, RepKs K H ds vs → RepKs K H' ds vs
  | [], vs, h => h
  | d :: ds, vs, h => let ⟨v, ws, e, q, r⟩ := h; ⟨v, ws, e, RepK.mono s d q, RepKs.mono s ds r⟩
theorem RepK.mono (s : Same H H') : ∀ (d : Key × D) {v : Key × V}, RepK K H d v → RepK K H' d v
  | (k, d), v, h => ⟨h.1, Rep.mono s d h.2⟩
theorem RepTs.mono (s : Same H H') : ∀ (ds : List (List Key × D)) {vs : List (List Key × V)}, RepTs K H ds vs → RepTs K H' ds vs
  | [], vs, h => h
  | d :: ds, vs, h => let ⟨v, ws, e, q, r⟩ := h; ⟨v, ws, e, RepT.mono s d q, RepTs.mono s ds r⟩
theorem RepT.mono (s : Same H H') : ∀ (d : List Key × D) {v : List Key × V}, RepT K H d v → RepT K H' d v
  | (k, d), v, h => ⟨h.1, Rep.mono s d h.2⟩
theorem RepFs.mono (s : Same H H') : ∀ (ds : List (Str × D)) {vs : List (Str × V)}, RepFs K H ds vs → RepFs K H' ds vs
  | [], vs, h => h
  | d :: ds, vs, h => let ⟨v, ws, e, q, r⟩ := h; ⟨v, ws, e, RepF.mono s d q, RepFs.mono s ds r⟩
theorem RepF.mono (s : Same H H') : ∀ (d : Str × D) {v : Str × V}, RepF K H d v → RepF K H' d v
  | (k, d), v, h => ⟨h.1, Rep.mono s d h.2⟩
end
end

section
variable (K : PySem.W.Frag) (HF H : Hp)
mutual
def RepO : O → V → List Addr → Prop
  | .fz d, v, A => A = [] ∧ Rep K HF d v
  | .ls ds, v, A => ∃ a vs, v = .ref a ∧ A = [a] ∧ H a = some (.lst vs) ∧ Reps K HF ds vs
  | .dc ds, v, A => ∃ a vs, v = .ref a ∧ A = [a] ∧ H a = some (.dK vs) ∧ RepKs K HF ds vs
  | .dt ds, v, A => ∃ a vs, v = .ref a ∧ A = [a] ∧ H a = some (.dT vs) ∧ RepTs K HF ds vs
  | .nl os, v, A => ∃ a vs B, v = .ref a ∧ A = a :: B ∧ H a = some (.lst vs) ∧ RepOs os vs B
  | .nd os, v, A => ∃ a vs B, v = .ref a ∧ A = a :: B ∧ H a = some (.dK vs) ∧ RepOKs os vs B
  | .ob C os, v, A => ∃ a dx vs B, v = .ref a ∧ A = a :: B ∧ H a = some (.ins C dx vs) ∧ RepOFs os vs B
def RepOs : List O → List V → List Addr → Prop
  | [], vs, A => vs = [] ∧ A = []
  | o :: os, vs, A => ∃ v ws A1 A2, vs = v :: ws ∧ A = A1 ++ A2 ∧ RepO o v A1 ∧ RepOs os ws A2
def RepOKs : List (Key × O) → List (Key × V) → List Addr → Prop
  | [], vs, A => vs = [] ∧ A = []
  | o :: os, vs, A => ∃ v ws A1 A2, vs = v :: ws ∧ A = A1 ++ A2 ∧ RepOK o v A1 ∧ RepOKs os ws A2
def RepOK : (Key × O) → (Key × V) → List Addr → Prop
  | (k, o), kv, A => kv.1 = k ∧ RepO o kv.2 A
def RepOFs : List (Str × O) → List (Str × V) → List Addr → Prop
  | [], vs, A => vs = [] ∧ A = []
  | o :: os, vs, A => ∃ v ws A1 A2, vs = v :: ws ∧ A = A1 ++ A2 ∧ RepOF o v A1 ∧ RepOFs os ws A2
def RepOF : (Str × O) → (Str × V) → List Addr → Prop
  | (k, o), kv, A => kv.1 = k ∧ RepO o kv.2 A
end
end

section
variable {K : PySem.W.Frag} {HF HF' H H' : Hp}
mutual
theorem RepO.keep (s : Same HF HF') : ∀ (o : O) {v : V} {A : List Addr}, RepO K HF H o v A → (∀ p ∈ A, H' p = H p) → RepO K HF' H' o v A
  | .fz d, v, A, h, k => ⟨h.1, Rep.mono s d h.2⟩
  | .ls os, v, A, h, k => let ⟨a, vs, e, ea, q, r⟩ := h; ⟨a, vs, e, ea, (k a (by rw [ea]; exact List.mem_cons_self)).trans q, Reps.mono s os r⟩
  | .dc os, v, A, h, k => let ⟨a, vs, e, ea, q, r⟩ := h; ⟨a, vs, e, ea, (k a (by rw [ea]; exact List.mem_cons_self)).trans q, RepKs.mono s os r⟩
  | .dt os, v, A, h, k => let ⟨a, vs, e, ea, q, r⟩ := h; ⟨a, vs, e, ea, (k a (by rw [ea]; exact List.mem_cons_self)).trans q, RepTs.mono s os r⟩
  | .nl os, v, A, h, k => let ⟨a, vs, B, e, ea, q, r⟩ := h; ⟨a, vs, B, e, ea, (k a (by rw [ea]; exact List.mem_cons_self)).trans q, RepOs.keep s os r fun p hp => k p (by rw [ea]; exact List.mem_cons_of_mem _ hp)⟩
  | .nd os, v, A, h, k => let ⟨a, vs, B, e, ea, q, r⟩ := h; ⟨a, vs, B, e, ea, (k a (by rw [ea]; exact List.mem_cons_self)).trans q, RepOKs.keep s os r fun p hp => k p (by rw [ea]; exact List.mem_cons_of_mem _ hp)⟩
  | .ob C os, v, A, h, k => let ⟨a, dx, vs, B, e, ea, q, r⟩ := h; ⟨a, dx, vs, B, e, ea, (k a (by rw [ea]; exact List.mem_cons_self)).trans q, RepOFs.keep s os r fun p hp => k p (by rw [ea]; exact List.mem_cons_of_mem _ hp)⟩
theorem RepOs.keep (s : Same HF HF') : ∀ (os : List O) {vs : List V} {A : List Addr}, RepOs K HF H os vs A → (∀ p ∈ A, H' p = H p) → RepOs K HF' H' os vs A
  | [], vs, A, h, k => h
  | o :: os, vs, A, h, k => let ⟨v, ws, A1, A2, e, ea, q, r⟩ := h; ⟨v, ws, A1, A2, e, ea, RepO.keep s o q fun p hp => k p (by rw [ea]; exact List.mem_append_left _ hp), RepOs.keep s os r fun p hp => k p (by rw [ea]; exact List.mem_append_right _ hp)⟩
theorem RepOKs.keep (s : Same HF HF') : ∀ (os : List (Key × O)) {vs : List (Key × V)} {A : List Addr}, RepOKs K HF H os vs A → (∀ p ∈ A, H' p = H p) → RepOKs K HF' H' os vs A
  | [], vs, A, h, k => h
  | o :: os, vs, A, h, k => let ⟨v, ws, A1, A2, e, ea, q, r⟩ := h; ⟨v, ws, A1, A2, e, ea, RepOK.keep s o q fun p hp => k p (by rw [ea]; exact List.mem_append_left _ hp), RepOKs.keep s os r fun p hp => k p (by rw [ea]; exact List.mem_append_right _ hp)⟩
theorem RepOK.keep (s : Same HF HF') : ∀ (o : Key × O) {v : Key × V} {A : List Addr}, RepOK K HF H o v A → (∀ p ∈ A, H' p = H p) → RepOK K HF' H' o v A
  | (k, o), v, A, h, kp => ⟨h.1, RepO.keep s o h.2 kp⟩
theorem RepOFs.keep (s : Same HF HF') : ∀ (os : List (Str × O)) {vs : List (Str × V)} {A : List Addr}, RepOFs K HF H os vs A → (∀ p ∈ A, H' p = H p) → RepOFs K HF' H' os vs A
  | [], vs, A, h, k => h
  | o :: os, vs, A, h, k => let ⟨v, ws, A1, A2, e, ea, q, r⟩ := h; ⟨v, ws, A1, A2, e, ea, RepOF.keep s o q fun p hp => k p (by rw [ea]; exact List.mem_append_left _ hp), RepOFs.keep s os r fun p hp => k p (by rw [ea]; exact List.mem_append_right _ hp)⟩
theorem RepOF.keep (s : Same HF HF') : ∀ (o : Str × O) {v : Str × V} {A : List Addr}, RepOF K HF H o v A → (∀ p ∈ A, H' p = H p) → RepOF K HF' H' o v A
  | (k, o), v, A, h, kp => ⟨h.1, RepO.keep s o h.2 kp⟩
end
mutual
/-- what is owned stands in the heap -/
theorem RepO.there : ∀ (o : O) {v : V} {A : List Addr}, RepO K HF H o v A → ∀ p ∈ A, ∃ u, H p = some u
  | .fz d, v, A, h, p, hp => by rw [h.1] at hp; cases hp
  | .ls os, v, A, h, p, hp => by
    obtain ⟨a, vs, e, rfl, q, r⟩ := h
    rcases List.mem_cons.mp hp with rfl | hp
    · exact ⟨_, q⟩
    · cases hp
  | .dc os, v, A, h, p, hp => by
    obtain ⟨a, vs, e, rfl, q, r⟩ := h
    rcases List.mem_cons.mp hp with rfl | hp
    · exact ⟨_, q⟩
    · cases hp
  | .dt os, v, A, h, p, hp => by
    obtain ⟨a, vs, e, rfl, q, r⟩ := h
    rcases List.mem_cons.mp hp with rfl | hp
    · exact ⟨_, q⟩
    · cases hp
  | .nl os, v, A, h, p, hp => by
    obtain ⟨a, vs, B, e, rfl, q, r⟩ := h
    rcases List.mem_cons.mp hp with rfl | hp
    · exact ⟨_, q⟩
    · exact RepOs.there os r p hp
  | .nd os, v, A, h, p, hp => by
    obtain ⟨a, vs, B, e, rfl, q, r⟩ := h
    rcases List.mem_cons.mp hp with rfl | hp
    · exact ⟨_, q⟩
    · exact RepOKs.there os r p hp
  | .ob C os, v, A, h, p, hp => by
    obtain ⟨a, dx, vs, B, e, rfl, q, r⟩ := h
    rcases List.mem_cons.mp hp with rfl | hp
    · exact ⟨_, q⟩
    · exact RepOFs.there os r p hp
theorem RepOs.there : ∀ (os : List O) {vs : List V} {A : List Addr}, RepOs K HF H os vs A → ∀ p ∈ A, ∃ u, H p = some u
  | [], vs, A, h, p, hp => by rw [h.2] at hp; cases hp
  | o :: os, vs, A, h, p, hp => by
    obtain ⟨v, ws, A1, A2, e, rfl, q, r⟩ := h
    exact (List.mem_append.mp hp).elim (RepO.there o q p) (RepOs.there os r p)
theorem RepOKs.there : ∀ (os : List (Key × O)) {vs : List (Key × V)} {A : List Addr}, RepOKs K HF H os vs A → ∀ p ∈ A, ∃ u, H p = some u
  | [], vs, A, h, p, hp => by rw [h.2] at hp; cases hp
  | o :: os, vs, A, h, p, hp => by
    obtain ⟨v, ws, A1, A2, e, rfl, q, r⟩ := h
    exact (List.mem_append.mp hp).elim (RepOK.there o q p) (RepOKs.there os r p)
theorem RepOK.there : ∀ (o : Key × O) {v : Key × V} {A : List Addr}, RepOK K HF H o v A → ∀ p ∈ A, ∃ u, H p = some u
  | (k, o), v, A, h, p, hp => RepO.there o h.2 p hp
theorem RepOFs.there : ∀ (os : List (Str × O)) {vs : List (Str × V)} {A : List Addr}, RepOFs K HF H os vs A → ∀ p ∈ A, ∃ u, H p = some u
  | [], vs, A, h, p, hp => by rw [h.2] at hp; cases hp
  | o :: os, vs, A, h, p, hp => by
    obtain ⟨v, ws, A1, A2, e, rfl, q, r⟩ := h
    exact (List.mem_append.mp hp).elim (RepOF.there o q p) (RepOFs.there os r p)
theorem RepOF.there : ∀ (o : Str × O) {v : Str × V} {A : List Addr}, RepOF K HF H o v A → ∀ p ∈ A, ∃ u, H p = some u
  | (k, o), v, A, h, p, hp => RepO.there o h.2 p hp
end
end

/-! ### a tree made pure -/
mutual
def frz : O → D
  | .fz d => d
  | .ls ds => .lst ds
  | .dc ds => .dic ds
  | .dt ds => .dit ds
  | .nl os => .lst (frzs os)
  | .nd os => .dic (frzKs os)
  | .ob C os => .ins C (frzFs os)
def frzs : List O → List D
  | [] => []
  | o :: os => frz o :: frzs os
def frzKs : List (Key × O) → List (Key × D)
  | [] => []
  | o :: os => frzK o :: frzKs os
def frzK : Key × O → Key × D
  | (k, o) => (k, frz o)
def frzFs : List (Str × O) → List (Str × D)
  | [] => []
  | o :: os => frzF o :: frzFs os
def frzF : Str × O → Str × D
  | (k, o) => (k, frz o)
end
section
variable {K : PySem.W.Frag} {HF HG H : Hp}
mutual
theorem RepO.frz (s : Same HF HG) : ∀ (o : O) {v : V} {A : List Addr}, RepO K HF H o v A → (∀ p ∈ A, HG p = H p) → Rep K HG (frz o) v
  | .fz d, v, A, h, k => Rep.mono s d h.2
  | .ls os, v, A, h, k => let ⟨a, vs, e, ea, q, r⟩ := h; ⟨a, vs, e, ((k a (by rw [ea]; exact List.mem_cons_self)).trans q), Reps.mono s os r⟩
  | .dc os, v, A, h, k => let ⟨a, vs, e, ea, q, r⟩ := h; ⟨a, vs, e, .inl ((k a (by rw [ea]; exact List.mem_cons_self)).trans q), RepKs.mono s os r⟩
  | .dt os, v, A, h, k => let ⟨a, vs, e, ea, q, r⟩ := h; ⟨a, vs, e, .inl ((k a (by rw [ea]; exact List.mem_cons_self)).trans q), RepTs.mono s os r⟩
  | .nl os, v, A, h, k => let ⟨a, vs, B, e, ea, q, r⟩ := h; ⟨a, vs, e, ((k a (by rw [ea]; exact List.mem_cons_self)).trans q), RepOs.frz s os r fun p hp => k p (by rw [ea]; exact List.mem_cons_of_mem _ hp)⟩
  | .nd os, v, A, h, k => let ⟨a, vs, B, e, ea, q, r⟩ := h; ⟨a, vs, e, .inl ((k a (by rw [ea]; exact List.mem_cons_self)).trans q), RepOKs.frz s os r fun p hp => k p (by rw [ea]; exact List.mem_cons_of_mem _ hp)⟩
  | .ob C os, v, A, h, k => let ⟨a, dx, vs, B, e, ea, q, r⟩ := h; ⟨a, dx, vs, e, (k a (by rw [ea]; exact List.mem_cons_self)).trans q, RepOFs.frz s os r fun p hp => k p (by rw [ea]; exact List.mem_cons_of_mem _ hp)⟩
theorem RepOs.frz (s : Same HF HG) : ∀ (os : List O) {vs : List V} {A : List Addr}, RepOs K HF H os vs A → (∀ p ∈ A, HG p = H p) → Reps K HG (frzs os) vs
  | [], vs, A, h, k => h.1
  | o :: os, vs, A, h, k => let ⟨v, ws, A1, A2, e, ea, q, r⟩ := h; ⟨v, ws, e, RepO.frz s o q fun p hp => k p (by rw [ea]; exact List.mem_append_left _ hp), RepOs.frz s os r fun p hp => k p (by rw [ea]; exact List.mem_append_right _ hp)⟩
theorem RepOKs.frz (s : Same HF HG) : ∀ (os : List (Key × O)) {vs : List (Key × V)} {A : List Addr}, RepOKs K HF H os vs A → (∀ p ∈ A, HG p = H p) → RepKs K HG (frzKs os) vs
  | [], vs, A, h, k => h.1
  | o :: os, vs, A, h, k => let ⟨v, ws, A1, A2, e, ea, q, r⟩ := h; ⟨v, ws, e, RepOK.frz s o q fun p hp => k p (by rw [ea]; exact List.mem_append_left _ hp), RepOKs.frz s os r fun p hp => k p (by rw [ea]; exact List.mem_append_right _ hp)⟩
theorem RepOK.frz (s : Same HF HG) : ∀ (o : Key × O) {v : Key × V} {A : List Addr}, RepOK K HF H o v A → (∀ p ∈ A, HG p = H p) → RepK K HG (frzK o) v
  | (k, o), v, A, h, kp => ⟨h.1, RepO.frz s o h.2 kp⟩
theorem RepOFs.frz (s : Same HF HG) : ∀ (os : List (Str × O)) {vs : List (Str × V)} {A : List Addr}, RepOFs K HF H os vs A → (∀ p ∈ A, HG p = H p) → RepFs K HG (frzFs os) vs
  | [], vs, A, h, k => h.1
  | o :: os, vs, A, h, k => let ⟨v, ws, A1, A2, e, ea, q, r⟩ := h; ⟨v, ws, e, RepOF.frz s o q fun p hp => k p (by rw [ea]; exact List.mem_append_left _ hp), RepOFs.frz s os r fun p hp => k p (by rw [ea]; exact List.mem_append_right _ hp)⟩
theorem RepOF.frz (s : Same HF HG) : ∀ (o : Str × O) {v : Str × V} {A : List Addr}, RepOF K HF H o v A → (∀ p ∈ A, HG p = H p) → RepF K HG (frzF o) v
  | (k, o), v, A, h, kp => ⟨h.1, RepO.frz s o h.2 kp⟩
end
end

/-! ### the state of a def's slots -/
section
variable (K : PySem.W.Frag) (HF H : Hp)
def EnvR : Env → St → List Addr → Prop
  | [], σ, A => σ = [] ∧ A = []
  | none :: ρ, σ, A => ∃ s r, σ = s :: r ∧ EnvR ρ r A
  | some o :: ρ, σ, A => ∃ v r A1 A2, σ = some v :: r ∧ A = A1 ++ A2 ∧ RepO K HF H o v A1 ∧ EnvR ρ r A2
def EVR (σ : St) : EV → V → List Addr → Prop
  | .ow o, v, A => RepO K HF H o v A
  | .pt i, v, A => A = [] ∧ σ[i]? = some (some v)
def EVRs (σ : St) : List EV → List V → List Addr → Prop
  | [], vs, A => vs = [] ∧ A = []
  | e :: es, vs, A => ∃ v ws A1 A2, vs = v :: ws ∧ A = A1 ++ A2 ∧ EVR K HF H σ e v A1 ∧ EVRs σ es ws A2
end
/-- what is pure stands in the heap; what is owned is owned once, and is not pure -/
structure WR (HF H : Hp) (A : List Addr) : Prop where
  same : Same HF H
  nodup : A.Nodup
  out : ∀ a ∈ A, HF a = none
/-- from a state to a later one: what was not owned here stands as it stood, and is not made pure here -/
structure Fr (H H' HF HF' : Hp) (A A' : List Addr) : Prop where
  same : Same HF HF'
  keep : ∀ p o, H p = some o → p ∉ A → H' p = some o
  free : ∀ p o, H p = some o → p ∉ A → HF p = none → HF' p = none
  new : ∀ p ∈ A', p ∈ A ∨ H p = none
theorem Fr.refl {H HF : Hp} {A : List Addr} : Fr H H HF HF A A := ⟨.refl _, fun _ _ h _ => h, fun _ _ _ _ h => h, fun _ h => .inl h⟩
theorem Fr.trans {H H1 H2 HF HF1 HF2 : Hp} {A A1 A2 : List Addr} (a : Fr H H1 HF HF1 A A1) (b : Fr H1 H2 HF1 HF2 A1 A2) : Fr H H2 HF HF2 A A2 where
  same := a.same.trans b.same
  keep := fun p o h n => b.keep p o (a.keep p o h n) fun z => (a.new p z).elim n fun q => by rw [h] at q; cases q
  free := fun p o h n f => b.free p o (a.keep p o h n) (fun z => (a.new p z).elim n fun q => by rw [h] at q; cases q) (a.free p o h n f)
  new := fun p hp => (b.new p hp).elim (fun z => a.new p z) fun z => by
    by_cases hA : p ∈ A
    · exact .inl hA
    · cases q : H p with
      | none => exact .inr rfl
      | some o => rw [a.keep p o q hA] at z; cases z
/-- owning more at the start: what lies beside (R) is kept -/
theorem Fr.frame {H H' HF HF' : Hp} {A A' R : List Addr} (a : Fr H H' HF HF' A A') (hR : ∀ p ∈ R, ∃ o, H p = some o) (hd : ∀ p ∈ R, p ∉ A) : (∀ p ∈ R, H' p = H p) ∧ (∀ p ∈ R, HF p = none → HF' p = none) ∧ (∀ p ∈ R, p ∉ A') :=
  ⟨fun p hp => let ⟨o, e⟩ := hR p hp; by rw [e]; exact a.keep p o e (hd p hp), fun p hp f => let ⟨o, e⟩ := hR p hp; a.free p o e (hd p hp) f, fun p hp z => (a.new p z).elim (hd p hp) fun q => by obtain ⟨o, e⟩ := hR p hp; rw [e] at q; cases q⟩
theorem Fr.mono {H H' HF HF' : Hp} {A A' B B' : List Addr} (a : Fr H H' HF HF' A A') (h : ∀ p ∈ A, p ∈ B) (h' : ∀ p ∈ B', p ∈ A' ∨ p ∈ B) : Fr H H' HF HF' B B' :=
  ⟨a.same, fun p o e n => a.keep p o e fun z => n (h p z), fun p o e n f => a.free p o e (fun z => n (h p z)) f, fun p hp => (h' p hp).elim (fun z => (a.new p z).elim (fun q => .inl (h p q)) .inr) .inl⟩
theorem WR.sub {HF H : Hp} {A B : List Addr} (w : WR HF H A) (hs : B.Sublist A) : WR HF H B := ⟨w.same, w.nodup.sublist hs, fun a ha => w.out a (hs.subset ha)⟩
theorem WR.left {HF H : Hp} {A B : List Addr} (w : WR HF H (A ++ B)) : WR HF H A := w.sub (List.sublist_append_left _ _)
theorem WR.right {HF H : Hp} {A B : List Addr} (w : WR HF H (A ++ B)) : WR HF H B := w.sub (List.sublist_append_right _ _)
theorem WR.perm {HF H : Hp} {A B : List Addr} (w : WR HF H A) (p : A.Perm B) : WR HF H B := ⟨w.same, p.nodup_iff.mp w.nodup, fun a ha => w.out a (p.mem_iff.mpr ha)⟩
theorem WR.disj {HF H : Hp} {A B : List Addr} (w : WR HF H (A ++ B)) : ∀ p ∈ A, p ∉ B := fun p hp hq => (List.nodup_append.mp w.nodup).2.2 p hp p hq rfl

section
variable {K : PySem.W.Frag} {HF HF' H H' : Hp}
theorem EnvR.keep (s : Same HF HF') : ∀ (ρ : Env) {σ : St} {A : List Addr}, EnvR K HF H ρ σ A → (∀ p ∈ A, H' p = H p) → EnvR K HF' H' ρ σ A
  | [], σ, A, h, k => h
  | none :: ρ, σ, A, h, k => let ⟨s', r, e, q⟩ := h; ⟨s', r, e, EnvR.keep s ρ q k⟩
  | some o :: ρ, σ, A, h, k => let ⟨v, r, A1, A2, e, ea, q, t⟩ := h; ⟨v, r, A1, A2, e, ea, RepO.keep s o q fun p hp => k p (by rw [ea]; exact List.mem_append_left _ hp), EnvR.keep s ρ t fun p hp => k p (by rw [ea]; exact List.mem_append_right _ hp)⟩
theorem EnvR.there : ∀ (ρ : Env) {σ : St} {A : List Addr}, EnvR K HF H ρ σ A → ∀ p ∈ A, ∃ u, H p = some u
  | [], σ, A, h, p, hp => by rw [h.2] at hp; cases hp
  | none :: ρ, σ, A, h, p, hp => let ⟨s', r, e, q⟩ := h; EnvR.there ρ q p hp
  | some o :: ρ, σ, A, h, p, hp => by
    obtain ⟨v, r, A1, A2, e, rfl, q, t⟩ := h
    exact (List.mem_append.mp hp).elim (RepO.there o q p) (EnvR.there ρ t p)
theorem EnvR.length : ∀ (ρ : Env) {σ : St} {A : List Addr}, EnvR K HF H ρ σ A → σ.length = ρ.length
  | [], σ, A, h => by rw [h.1]; rfl
  | none :: ρ, σ, A, h => by obtain ⟨s', r, rfl, q⟩ := h; simp [EnvR.length ρ q]
  | some o :: ρ, σ, A, h => by obtain ⟨v, r, A1, A2, rfl, rfl, q, t⟩ := h; simp [EnvR.length ρ t]
theorem EVR.keep (s : Same HF HF') {σ : St} {e : EV} {v : V} {A : List Addr} (h : EVR K HF H σ e v A) (k : ∀ p ∈ A, H' p = H p) : EVR K HF' H' σ e v A := by
  cases e with
  | ow o => exact RepO.keep s o h k
  | pt i => exact h
theorem EVR.there {σ : St} {e : EV} {v : V} {A : List Addr} (h : EVR K HF H σ e v A) : ∀ p ∈ A, ∃ u, H p = some u := by
  cases e with
  | ow o => exact RepO.there o h
  | pt i => intro p hp; rw [h.1] at hp; cases hp
theorem EVRs.keep (s : Same HF HF') {σ : St} : ∀ {es : List EV} {vs : List V} {A : List Addr}, EVRs K HF H σ es vs A → (∀ p ∈ A, H' p = H p) → EVRs K HF' H' σ es vs A
  | [], vs, A, h, k => h
  | e :: es, vs, A, h, k => let ⟨v, ws, A1, A2, ev, ea, q, r⟩ := h; ⟨v, ws, A1, A2, ev, ea, EVR.keep s q fun p hp => k p (by rw [ea]; exact List.mem_append_left _ hp), EVRs.keep s r fun p hp => k p (by rw [ea]; exact List.mem_append_right _ hp)⟩
theorem EVRs.there {σ : St} : ∀ {es : List EV} {vs : List V} {A : List Addr}, EVRs K HF H σ es vs A → ∀ p ∈ A, ∃ u, H p = some u
  | [], vs, A, h, p, hp => by rw [h.2] at hp; cases hp
  | e :: es, vs, A, h, p, hp => by
    obtain ⟨v, ws, A1, A2, ev, rfl, q, r⟩ := h
    exact (List.mem_append.mp hp).elim (EVR.there q p) (EVRs.there r p)
/-- slot i taken out: its value, its part of what is owned -/
theorem EnvR.get : ∀ {ρ : Env} {i : Nat} {o : O} {σ : St} {A : List Addr}, EnvR K HF H ρ σ A → ρ[i]? = some (some o) → ∃ v B C, σ[i]? = some (some v) ∧ RepO K HF H o v B ∧ A.Perm (B ++ C) ∧
      EnvR K HF H (ρ.set i none) σ C
  | [], i, o, σ, A, h, e => by simp at e
  | none :: ρ, 0, o, σ, A, h, e => by simp at e
  | none :: ρ, i + 1, o, σ, A, h, e => by
    obtain ⟨s', r, rfl, q⟩ := h
    obtain ⟨v, B, C, h1, h2, h3, h4⟩ := EnvR.get (i := i) q (by simpa using e)
    exact ⟨v, B, C, by simpa using h1, h2, h3, ⟨s', r, rfl, h4⟩⟩
  | some o' :: ρ, 0, o, σ, A, h, e => by
    obtain ⟨v, r, A1, A2, rfl, rfl, q, t⟩ := h
    simp at e; subst e
    exact ⟨v, A1, A2, by simp, q, .refl _, ⟨some v, r, rfl, t⟩⟩
  | some o' :: ρ, i + 1, o, σ, A, h, e => by
    obtain ⟨v, r, A1, A2, rfl, rfl, q, t⟩ := h
    obtain ⟨w, B, C, h1, h2, h3, h4⟩ := EnvR.get (i := i) t (by simpa using e)
    refine ⟨w, B, A1 ++ C, by simpa using h1, h2, ?_, ⟨v, r, A1, C, rfl, rfl, q, h4⟩⟩
    exact (List.Perm.append_left A1 h3).trans (by simpa [List.append_assoc] using List.perm_append_comm_assoc A1 B C)
/-- a slot filled -/
theorem EnvR.put : ∀ {ρ : Env} {i : Nat} {o : O} {σ : St} {v : V} {C B : List Addr}, EnvR K HF H (ρ.set i none) σ C → i < ρ.length → RepO K HF H o v B → ∃ A, A.Perm (B ++ C) ∧ EnvR K HF H (ρ.set i (some o)) (σ.set i (some v)) A
  | [], i, o, σ, v, C, B, h, hi, r => by simp at hi
  | x :: ρ, 0, o, σ, v, C, B, h, hi, r => by
    obtain ⟨s', r', rfl, q⟩ := h
    exact ⟨B ++ C, .refl _, ⟨v, r', B, C, rfl, rfl, r, q⟩⟩
  | none :: ρ, i + 1, o, σ, v, C, B, h, hi, r => by
    obtain ⟨s', r', rfl, q⟩ := h
    obtain ⟨A, p, t⟩ := EnvR.put (i := i) q (by simpa using hi) r
    exact ⟨A, p, ⟨s', _, rfl, t⟩⟩
  | some o' :: ρ, i + 1, o, σ, v, C, B, h, hi, r => by
    obtain ⟨w, r', A1, A2, rfl, rfl, q, t⟩ := h
    obtain ⟨A, p, z⟩ := EnvR.put (i := i) t (by simpa using hi) r
    refine ⟨A1 ++ A, (List.Perm.append_left A1 p).trans ?_, ⟨w, _, A1, A, rfl, rfl, q, z⟩⟩
    exact List.perm_append_comm_assoc A1 B A2
theorem EnvR.forget : ∀ {ρ : Env} {i : Nat} {σ : St} {A : List Addr}, EnvR K HF H ρ σ A → ∃ C, C.Sublist A ∧ EnvR K HF H (ρ.set i none) σ C
  | [], i, σ, A, h => ⟨A, .refl _, by simpa using h⟩
  | none :: ρ, 0, σ, A, h => ⟨A, .refl _, h⟩
  | some o :: ρ, 0, σ, A, h => by
    obtain ⟨v, r, A1, A2, rfl, rfl, q, t⟩ := h
    exact ⟨A2, List.sublist_append_right _ _, ⟨some v, r, rfl, t⟩⟩
  | none :: ρ, i + 1, σ, A, h => by
    obtain ⟨s', r, rfl, q⟩ := h
    obtain ⟨C, hs, t⟩ := EnvR.forget (i := i) q
    exact ⟨C, hs, ⟨s', r, rfl, t⟩⟩
  | some o :: ρ, i + 1, σ, A, h => by
    obtain ⟨v, r, A1, A2, rfl, rfl, q, t⟩ := h
    obtain ⟨C, hs, z⟩ := EnvR.forget (i := i) t
    exact ⟨A1 ++ C, List.Sublist.append_left hs A1, ⟨v, r, A1, C, rfl, rfl, q, z⟩⟩
end
end AE
/-! AE2: readings over slots of trees; judgements; names, constants, operators, tests, arguments. -/
namespace AE
open PySem L2

structure XD where
  cls : Value
  fs : List (Str × D)
abbrev KD := EV → Env → Prop
abbrev XC := XD → Env → Prop
abbrev TD := Env → KD → XC → Prop
abbrev TDs := Env → (List EV → Env → Prop) → XC → Prop
abbrev TDt := Env → (Bool → Env → Prop) → XC → Prop

def EXR (K : PySem.W.Frag) (HF : Hp) (x : XD) (cls : Value) (d : Option Addr) : Prop :=
  x.cls = cls ∧ match d with
    | none => x.fs = []
    | some p => ∃ fvs, HF p = some (.xd fvs) ∧ RepFs K HF x.fs fvs

section
variable (K : PySem.W.Frag) (σ : St) (H HF : Hp) (A : List Addr)
def KOk (Kd : KD) (Q : VK) : Prop := ∀ ev ρ, Kd ev ρ → ∀ HF' H' A' v Av, Fr H H' HF HF' A (A' ++ Av) → WR HF' H' (A' ++ Av) → EnvR K HF' H' ρ σ A' → EVR K HF' H' σ ev v Av → Q v H'
def KOks (Kd : List EV → Env → Prop) (Q : List V → Hp → Prop) : Prop := ∀ evs ρ, Kd evs ρ → ∀ HF' H' A' vs Av, Fr H H' HF HF' A (A' ++ Av) → WR HF' H' (A' ++ Av) → EnvR K HF' H' ρ σ A' → EVRs K HF' H' σ evs vs Av → Q vs H'
def KOkt (Kd : Bool → Env → Prop) (Q : Bool → Hp → Prop) : Prop := ∀ b ρ, Kd b ρ → ∀ HF' H' A', Fr H H' HF HF' A A' → WR HF' H' A' → EnvR K HF' H' ρ σ A' → Q b H'
def XOk (Ed : XC) (W : WX) : Prop := ∀ x ρ, Ed x ρ → ∀ HF' H' A' cls d, Fr H H' HF HF' A A' → WR HF' H' A' → EnvR K HF' H' ρ σ A' → EXR K HF' x cls d → W cls d σ H'
end
def tA (K : PySem.W.Frag) (W : WX) (t : TD) : TE := fun σ H Q => ∃ HF ρ A Kd Ed, WR HF H A ∧ EnvR K HF H ρ σ A ∧ t ρ Kd Ed ∧ KOk K σ H HF A Kd Q ∧ XOk K σ H HF A Ed W
def tAs (K : PySem.W.Frag) (W : WX) (t : TDs) : TA := fun σ H Q => ∃ HF ρ A Kd Ed, WR HF H A ∧ EnvR K HF H ρ σ A ∧ t ρ Kd Ed ∧ KOks K σ H HF A Kd Q ∧ XOk K σ H HF A Ed W
def tAt (K : PySem.W.Frag) (W : WX) (t : TDt) : TT := fun σ H Q => ∃ HF ρ A Kd Ed, WR HF H A ∧ EnvR K HF H ρ σ A ∧ t ρ Kd Ed ∧ KOkt K σ H HF A Kd Q ∧ XOk K σ H HF A Ed W

/-- an expression, an argument list, a test, read over trees; W: what is wanted of an exception -/
def AE (X : Cx) (W : WX) (e : Expr) (t : TD) : Prop := PE X e (tA X.K W t)
def AA (X : Cx) (W : WX) (es : List Expr) (t : TDs) : Prop := PA X es (tAs X.K W t)
def AT (X : Cx) (W : WX) (e : Expr) (t : TDt) : Prop := PT X e (tAt X.K W t)
def AW (X : Cx) (W : WX) (e : Expr) (t : TDt) : Prop := PW X e (tAt X.K W t)

theorem PE.imp {X : Cx} {e : Expr} {t u : TE} (h : PE X e t) (i : ∀ σ H Q, u σ H Q → t σ H Q) : PE X e u := ⟨fun pins s σ H Q I q => h.run pins s σ H Q I (i σ H Q q)⟩
theorem PT.imp {X : Cx} {e : Expr} {t u : TT} (h : PT X e t) (i : ∀ σ H Q, u σ H Q → t σ H Q) : PT X e u := ⟨fun pins s σ H Q I q => h.run pins s σ H Q I (i σ H Q q)⟩
theorem PW.imp {X : Cx} {e : Expr} {t u : TT} (h : PW X e t) (i : ∀ σ H Q, u σ H Q → t σ H Q) : PW X e u := ⟨fun wh pins s σ H Q I q => h.run wh pins s σ H Q I (i σ H Q q)⟩
theorem PA.imp {X : Cx} {es : List Expr} {t u : TA} (h : PA X es t) (i : ∀ σ H Q, u σ H Q → t σ H Q) : PA X es u := ⟨fun pos pins s σ H Q I q => h.run pos pins s σ H Q I (i σ H Q q)⟩
theorem PS.imp {X : Cx} {st : Stmt} {t u : TS} (h : PS X st t) (i : ∀ D σ H, u D σ H → t D σ H) : PS X st u := ⟨fun pins s σ H D I q => h.run pins s σ H D I (i D σ H q)⟩
theorem PSs.imp {X : Cx} {st : List Stmt} {t u : TS} (h : PSs X st t) (i : ∀ D σ H, u D σ H → t D σ H) : PSs X st u := ⟨fun pins s σ H D I q => h.run pins s σ H D I (i D σ H q)⟩

section
variable {K : PySem.W.Frag} {σ : St} {H H1 HF HF1 : Hp} {A A1 : List Addr} {W : WX}
theorem KOk.step {Kd : KD} {Q : VK} (k : KOk K σ H HF A Kd Q) (f : Fr H H1 HF HF1 A A1) : KOk K σ H1 HF1 A1 Kd Q := fun ev ρ q HF' H' A' v Av f' w e r => k ev ρ q HF' H' A' v Av (f.trans f') w e r
theorem KOks.step {Kd : List EV → Env → Prop} {Q : List V → Hp → Prop} (k : KOks K σ H HF A Kd Q) (f : Fr H H1 HF HF1 A A1) : KOks K σ H1 HF1 A1 Kd Q := fun ev ρ q HF' H' A' v Av f' w e r => k ev ρ q HF' H' A' v Av (f.trans f') w e r
theorem KOkt.step {Kd : Bool → Env → Prop} {Q : Bool → Hp → Prop} (k : KOkt K σ H HF A Kd Q) (f : Fr H H1 HF HF1 A A1) : KOkt K σ H1 HF1 A1 Kd Q := fun ev ρ q HF' H' A' f' w e => k ev ρ q HF' H' A' (f.trans f') w e
theorem XOk.step {Ed : XC} (k : XOk K σ H HF A Ed W) (f : Fr H H1 HF HF1 A A1) : XOk K σ H1 HF1 A1 Ed W := fun x ρ q HF' H' A' c d f' w e r => k x ρ q HF' H' A' c d (f.trans f') w e r
/-- owning less from here on -/
theorem Fr.drop {A B : List Addr} (h : ∀ p ∈ B, p ∈ A) : Fr H H HF HF A B := ⟨.refl _, fun _ _ e _ => e, fun _ _ _ _ e => e, fun p hp => .inl (h p hp)⟩
/-- a second part behind a first one that is still held -/
theorem join {H2 HF2 : Hp} {A2 Ax Ay : List Addr} (w1 : WR HF1 H1 (A1 ++ Ax)) (tx : ∀ p ∈ Ax, ∃ u, H1 p = some u) (f : Fr H1 H2 HF1 HF2 A1 (A2 ++ Ay)) (w2 : WR HF2 H2 (A2 ++ Ay)) :
    WR HF2 H2 (A2 ++ (Ax ++ Ay)) ∧ Fr H1 H2 HF1 HF2 (A1 ++ Ax) (A2 ++ (Ax ++ Ay)) ∧ ∀ p ∈ Ax, H2 p = H1 p := by
  have dx : ∀ p ∈ Ax, p ∉ A1 := fun p hp hq => w1.disj p hq hp
  obtain ⟨k1, k2, k3⟩ := f.frame tx dx
  have pm : (A2 ++ (Ax ++ Ay)).Perm (Ax ++ (A2 ++ Ay)) := List.perm_append_comm_assoc A2 Ax Ay
  refine ⟨WR.perm ⟨w2.same, List.nodup_append.mpr ⟨w1.right.nodup, w2.nodup, fun a ha b hb e => k3 a ha (e ▸ hb)⟩, fun a ha => ?_⟩ pm.symm, ?_, k1⟩
  · rcases List.mem_append.mp ha with ha | ha
    · exact k2 a ha (w1.out a (List.mem_append_right _ ha))
    · exact w2.out a ha
  · refine f.mono (fun p hp => List.mem_append_left _ hp) fun p hp => ?_
    rcases List.mem_append.mp (pm.mem_iff.mp hp) with z | z
    · exact .inr (List.mem_append_right _ z)
    · exact .inl z
end

/-! ### names, constants -/
def tName (i : Nat) : TD := fun ρ Kd _ => match ρ[i]? with
  | some (some (.fz d)) => Kd (.ow (.fz d)) ρ
  | some (some _) => Kd (.pt i) ρ
  | _ => False
/-- the name's thing made pure -/
def tNameZ (i : Nat) : TD := fun ρ Kd _ => match ρ[i]? with
  | some (some o) => Kd (.ow (.fz (frz o))) (ρ.set i (some (.fz (frz o))))
  | _ => False
def tK (d : D) : TD := fun ρ Kd _ => Kd (.ow (.fz d)) ρ
section
variable {X : Cx} {W : WX}
theorem ae_name {e : Expr} {i : Nat} (h : PE X e (tVar i)) : AE X W e (tName i) := PE.imp h fun σ H Q q => by
  obtain ⟨HF, ρ, A, Kd, Ed, w, en, t, k, x⟩ := q
  unfold tName at t
  split at t
  · rename_i d e1
    obtain ⟨v, B, C, h1, h2, h3, _⟩ := en.get e1
    exact ⟨v, h1, k _ _ t HF H A v [] (by rw [List.append_nil]; exact Fr.refl) (by rw [List.append_nil]; exact w) en ⟨rfl, h2.2⟩⟩
  · rename_i o _ e1
    obtain ⟨v, B, C, h1, h2, h3, _⟩ := en.get e1
    exact ⟨v, h1, k _ _ t HF H A v [] (by rw [List.append_nil]; exact Fr.refl) (by rw [List.append_nil]; exact w) en ⟨rfl, h1⟩⟩
  · exact t.elim
/-- the pure part grown by what was owned -/
def grow (HF H : Hp) (B : List Addr) : Hp := fun p => if p ∈ B then H p else HF p
theorem grow_in {HF H : Hp} {B : List Addr} {p : Addr} (h : p ∈ B) : grow HF H B p = H p := if_pos h
theorem grow_out {HF H : Hp} {B : List Addr} {p : Addr} (h : p ∉ B) : grow HF H B p = HF p := if_neg h
theorem grow_ok {HF H : Hp} {B C : List Addr} (w : WR HF H (B ++ C)) : Same HF (grow HF H B) ∧ WR (grow HF H B) H C ∧ Fr H H HF (grow HF H B) (B ++ C) C := by
  have s1 : Same HF (grow HF H B) := fun b o e => by
    rw [grow_out fun hb => by have := w.out b (List.mem_append_left _ hb); rw [e] at this; cases this]
    exact e
  refine ⟨s1, ⟨fun b o e => ?_, w.right.nodup, fun a ha => ?_⟩, ⟨s1, fun _ _ e _ => e, fun p o e n f => ?_, fun p hp => .inl (List.mem_append_right _ hp)⟩⟩
  · by_cases hb : b ∈ B
    · rw [grow_in hb] at e; exact e
    · rw [grow_out hb] at e; exact w.same b o e
  · rw [grow_out fun hb => w.disj a hb ha]; exact w.out a (List.mem_append_right _ ha)
  · rw [grow_out fun hb => n (List.mem_append_left _ hb)]; exact f
theorem freeze {K : PySem.W.Frag} {HF H : Hp} {ρ : Env} {σ : St} {A Av : List Addr} {i : Nat} {o : O} (w : WR HF H (A ++ Av)) (en : EnvR K HF H ρ σ A) (e1 : ρ[i]? = some (some o)) :
    ∃ v HF' A', σ[i]? = some (some v) ∧ Same HF HF' ∧ WR HF' H (A' ++ Av) ∧ Fr H H HF HF' (A ++ Av) (A' ++ Av) ∧ EnvR K HF' H (ρ.set i (some (.fz (frz o)))) σ A' ∧ Rep K HF' (frz o) v := by
  obtain ⟨v, B, C, h1, h2, h3, h4⟩ := en.get e1
  have pm : (A ++ Av).Perm (B ++ (C ++ Av)) := by
    have := List.Perm.append_right Av h3
    rwa [List.append_assoc] at this
  obtain ⟨s1, w1, f1⟩ := grow_ok (w.perm pm)
  have r1 : Rep K (grow HF H B) (frz o) v := RepO.frz s1 o h2 fun p hp => grow_in hp
  have hi : i < ρ.length := (List.getElem?_eq_some_iff.mp e1).1
  have hσ : σ.set i (some v) = σ := by
    obtain ⟨q1, q2⟩ := List.getElem?_eq_some_iff.mp h1
    rw [← q2]; exact List.set_getElem_self q1
  obtain ⟨A', p', en'⟩ := EnvR.put (o := .fz (frz o)) (v := v) (EnvR.keep s1 _ h4 fun p _ => rfl) hi (B := []) ⟨rfl, r1⟩
  rw [List.nil_append] at p'
  rw [hσ] at en'
  have p2 : (C ++ Av).Perm (A' ++ Av) := List.Perm.append_right Av p'.symm
  refine ⟨v, grow HF H B, A', h1, s1, w1.perm p2, ?_, en', r1⟩
  exact f1.mono (fun p hp => pm.mem_iff.mpr hp) fun p hp => .inl (p2.mem_iff.mpr hp)
theorem ae_nameZ {e : Expr} {i : Nat} (h : PE X e (tVar i)) : AE X W e (tNameZ i) := PE.imp h fun σ H Q q => by
  obtain ⟨HF, ρ, A, Kd, Ed, w, en, t, k, x⟩ := q
  unfold tNameZ at t
  split at t
  · rename_i o e1
    obtain ⟨v, HF', A', h1, s1, w1, f1, en1, r1⟩ := freeze (Av := []) (by rw [List.append_nil]; exact w) en e1
    rw [List.append_nil] at f1
    exact ⟨v, h1, k _ _ t HF' H A' v [] f1 w1 en1 ⟨rfl, r1⟩⟩
  · exact t.elim
theorem ae_const {e : Expr} {v : V} {d : D} (h : PE X e (tC v)) (r : ∀ K H, Rep K H d v) : AE X W e (tK d) := PE.imp h fun σ H Q q => by
  obtain ⟨HF, ρ, A, Kd, Ed, w, en, t, k, x⟩ := q
  exact k _ _ t HF H A v [] (by rw [List.append_nil]; exact Fr.refl) (by rw [List.append_nil]; exact w) en ⟨rfl, r _ _⟩
theorem ae_int {i j pos} : AE X W (.Constant (.int i) j pos) (tK (.int i)) := ae_const pe_int fun _ _ => rfl
theorem ae_bl {b j pos} : AE X W (.Constant (.bool b) j pos) (tK (.bl b)) := ae_const pe_bl fun _ _ => rfl
theorem ae_non {j pos} : AE X W (.Constant .none j pos) (tK .non) := ae_const pe_non fun _ _ => rfl
theorem ae_str {x j pos} : AE X W (.Constant (.str x) j pos) (tK (.str x)) := ae_const pe_str fun _ _ => rfl
end

/-! ### views: a thing's data, the parts of it pure -/
section
variable (K : PySem.W.Frag) (HF H : Hp)
/-- v shows d: d's own object may be owned, its parts are pure -/
def Vw : D → V → Prop
  | .lst ds, v => ∃ a vs, v = .ref a ∧ H a = some (.lst vs) ∧ Reps K HF ds vs
  | .dic ds, v => ∃ a vs, v = .ref a ∧ Rd H a (.dK vs) ∧ RepKs K HF ds vs
  | .dit ds, v => ∃ a vs, v = .ref a ∧ Rd H a (.dT vs) ∧ RepTs K HF ds vs
  | .ins C ds, v => ∃ a dx vs, v = .ref a ∧ H a = some (.ins C dx vs) ∧ RepFs K HF ds vs
  | d, v => Rep K HF d v
def Vws : List D → List V → Prop
  | [], vs => vs = []
  | d :: ds, vs => ∃ v ws, vs = v :: ws ∧ Vw K HF H d v ∧ Vws ds ws
end
def flatFs : List (Str × O) → Option (List (Str × D))
  | [] => some []
  | (f, .fz d) :: r => match flatFs r with
    | some l => some ((f, d) :: l)
    | none => none
  | _ => none
def flat : O → Option D
  | .fz d => some d
  | .ls ds => some (.lst ds)
  | .dc ds => some (.dic ds)
  | .dt ds => some (.dit ds)
  | .ob C fs => match flatFs fs with
    | some l => some (.ins C l)
    | none => none
  | _ => none
def deref (ρ : Env) : EV → Option O
  | .ow o => some o
  | .pt i => match ρ[i]? with
    | some (some o) => some o
    | _ => none
def dOf (ρ : Env) (e : EV) : Option D := match deref ρ e with
  | some o => flat o
  | none => none
section
variable {K : PySem.W.Frag} {HF H : Hp}
theorem Vw.of {d : D} {v : V} (s : Same HF H) (r : Rep K HF d v) : Vw K HF H d v := by
  cases d with
  | lst ds => obtain ⟨a, vs, e, q, t⟩ := r; exact ⟨a, vs, e, s _ _ q, t⟩
  | dic ds => obtain ⟨a, vs, e, q, t⟩ := r; exact ⟨a, vs, e, Rd.mono q s, t⟩
  | dit ds => obtain ⟨a, vs, e, q, t⟩ := r; exact ⟨a, vs, e, Rd.mono q s, t⟩
  | ins C ds => obtain ⟨a, dx, vs, e, q, t⟩ := r; exact ⟨a, dx, vs, e, s _ _ q, t⟩
  | _ => exact r
theorem flatFs_ok : ∀ {fs : List (Str × O)} {l : List (Str × D)} {vs : List (Str × V)} {A : List Addr}, flatFs fs = some l → RepOFs K HF H fs vs A → RepFs K HF l vs
  | [], l, vs, A, h, r => by cases h; exact r.1
  | (f, o) :: r, l, vs, A, h, q => by
    cases o with
    | fz d =>
      unfold flatFs at h
      split at h
      · rename_i l' e
        cases h
        obtain ⟨v, ws, A1, A2, rfl, rfl, q1, q2⟩ := q
        exact ⟨v, ws, rfl, ⟨q1.1, q1.2.2⟩, flatFs_ok e q2⟩
      · cases h
    | ls _ => simp [flatFs] at h
    | dc _ => simp [flatFs] at h
    | dt _ => simp [flatFs] at h
    | nl _ => simp [flatFs] at h
    | nd _ => simp [flatFs] at h
    | ob _ _ => simp [flatFs] at h
theorem Vw.flat {o : O} {d : D} {v : V} {A : List Addr} (s : Same HF H) (h : flat o = some d) (r : RepO K HF H o v A) : Vw K HF H d v := by
  cases o with
  | fz d' => cases h; exact Vw.of s r.2
  | ls ds => cases h; obtain ⟨a, vs, e, ea, q, t⟩ := r; exact ⟨a, vs, e, q, t⟩
  | dc ds => cases h; obtain ⟨a, vs, e, ea, q, t⟩ := r; exact ⟨a, vs, e, .inl q, t⟩
  | dt ds => cases h; obtain ⟨a, vs, e, ea, q, t⟩ := r; exact ⟨a, vs, e, .inl q, t⟩
  | nl os => cases h
  | nd os => cases h
  | ob C fs =>
    have h : (match flatFs fs with | some l => some (D.ins C l) | none => none) = some d := h
    split at h
    · rename_i l e
      cases h
      obtain ⟨a, dx, vs, B, e1, ea, q, t⟩ := r
      exact ⟨a, dx, vs, e1, q, flatFs_ok e t⟩
    · cases h
theorem Vw.ev {ρ : Env} {σ : St} {A Av : List Addr} {ev : EV} {v : V} {d : D} (s : Same HF H) (en : EnvR K HF H ρ σ A) (r : EVR K HF H σ ev v Av) (h : dOf ρ ev = some d) : Vw K HF H d v := by
  cases ev with
  | ow o => exact Vw.flat s (by simpa [dOf, deref] using h) r
  | pt i =>
    have h : (match (match ρ[i]? with | some (some o) => some o | _ => none : Option O) with | some o => AE.flat o | none => none) = some d := h
    cases e' : ρ[i]? with
    | none => rw [e'] at h; cases h
    | some oo =>
      cases oo with
      | none => rw [e'] at h; cases h
      | some o =>
        rw [e'] at h
        obtain ⟨v', B, C, h1, h2, _⟩ := en.get e'
        have : v = v' := by
          have q := r.2
          rw [h1] at q
          exact (Option.some.inj (Option.some.inj q)).symm
        subst this
        exact Vw.flat s h h2
/-- every kind of view: its value's heap is the whole heap -/
theorem Reps.length : ∀ {ds : List D} {vs : List V}, Reps K HF ds vs → vs.length = ds.length
  | [], vs, h => by rw [show vs = [] from h]; rfl
  | d :: ds, vs, h => by obtain ⟨v, ws, rfl, _, r⟩ := h; simp [Reps.length r]
theorem Reps.get : ∀ {ds : List D} {vs : List V} {i : Nat} {d : D}, Reps K HF ds vs → ds[i]? = some d → ∃ v, vs[i]? = some v ∧ Rep K HF d v
  | [], vs, i, d, h, e => by simp at e
  | d' :: ds, vs, 0, d, h, e => by obtain ⟨v, ws, rfl, q, r⟩ := h; simp at e; subst e; exact ⟨v, by simp, q⟩
  | d' :: ds, vs, i + 1, d, h, e => by
    obtain ⟨v, ws, rfl, q, r⟩ := h
    obtain ⟨w, h1, h2⟩ := Reps.get (i := i) r (by simpa using e)
    exact ⟨w, by simpa using h1, h2⟩
theorem Reps.getV : ∀ {ds : List D} {vs : List V} {i : Nat} {v : V}, Reps K HF ds vs → vs[i]? = some v → ∃ d, ds[i]? = some d ∧ Rep K HF d v
  | [], vs, i, v, h, e => by rw [show vs = [] from h] at e; simp at e
  | d' :: ds, vs, 0, v, h, e => by obtain ⟨v', ws, rfl, q, r⟩ := h; simp at e; subst e; exact ⟨d', by simp, q⟩
  | d' :: ds, vs, i + 1, v, h, e => by
    obtain ⟨v', ws, rfl, q, r⟩ := h
    obtain ⟨w, h1, h2⟩ := Reps.getV (i := i) r (by simpa using e)
    exact ⟨w, by simpa using h1, h2⟩
theorem Reps.append : ∀ {ds es : List D} {vs ws : List V}, Reps K HF ds vs → Reps K HF es ws → Reps K HF (ds ++ es) (vs ++ ws)
  | [], es, vs, ws, h, q => by rw [show vs = [] from h]; exact q
  | d :: ds, es, vs, ws, h, q => by obtain ⟨v, us, rfl, r, t⟩ := h; exact ⟨v, us ++ ws, rfl, r, Reps.append t q⟩
theorem Reps.one {d : D} {v : V} (h : Rep K HF d v) : Reps K HF [d] [v] := ⟨v, [], rfl, h, rfl⟩
end

/-! ### operations on values -/
/-- values in, a value out; what it does with trees -/
def Prim (K : PySem.W.Frag) (r : List V → Hp → VK → Prop) (f : Env → List EV → KD → Prop) : Prop :=
  ∀ (σ : St) (HF H : Hp) (ρ : Env) (A Av : List Addr) (evs : List EV) (vs : List V) (Kd : KD) (Q : VK), WR HF H (A ++ Av) → EnvR K HF H ρ σ A → EVRs K HF H σ evs vs Av → f ρ evs Kd → KOk K σ H HF (A ++ Av) Kd Q → r vs H Q
def r1L (r : V → Hp → VK → Prop) : List V → Hp → VK → Prop
  | [x] => r x
  | _ => fun _ _ => False
def r2L (r : R2) : List V → Hp → VK → Prop
  | [x, y] => r x y
  | _ => fun _ _ => False
def t1 (f : Env → List EV → KD → Prop) (ta : TD) : TD := fun ρ Kd Ed => ta ρ (fun e1 ρ1 => f ρ1 [e1] Kd) Ed
def t2 (f : Env → List EV → KD → Prop) (ta tb : TD) : TD := fun ρ Kd Ed => ta ρ (fun e1 ρ1 => tb ρ1 (fun e2 ρ2 => f ρ2 [e1, e2] Kd) Ed) Ed
def tN (f : Env → List EV → KD → Prop) (ts : TDs) : TD := fun ρ Kd Ed => ts ρ (fun es ρ1 => f ρ1 es Kd) Ed
section
variable {X : Cx} {W : WX} {a b : Expr} {ta tb : TD} {pos : Pos} {f : Env → List EV → KD → Prop}
/-- two parts, then an operation -/
theorem two {r : R2} (hp : Prim X.K (r2L r) f) : ∀ σ H Q, tA X.K W (t2 f ta tb) σ H Q → tOp r (tA X.K W ta) (tA X.K W tb) σ H Q := fun σ H Q q => by
  obtain ⟨HF, ρ, A, Kd, Ed, w, en, t, k, x⟩ := q
  refine ⟨HF, ρ, A, _, Ed, w, en, t, fun e1 ρ1 q1 HF1 H1 A1 v1 Av1 f1 w1 en1 r1 => ?_, x⟩
  have x1 : XOk X.K σ H1 HF1 A1 Ed W := (x.step f1).step (Fr.drop fun p hp => List.mem_append_left _ hp)
  refine ⟨HF1, ρ1, A1, _, Ed, w1.left, en1, q1, fun e2 ρ2 q2 HF2 H2 A2 v2 Av2 f2 w2 en2 r2 => ?_, x1⟩
  obtain ⟨w3, f3, k3⟩ := join w1 (EVR.there r1) f2 w2
  refine hp σ HF2 H2 ρ2 A2 (Av1 ++ Av2) [e1, e2] [v1, v2] Kd Q w3 en2 ⟨v1, [v2], Av1, Av2, rfl, rfl, EVR.keep f2.same r1 k3, v2, [], Av2, [], rfl, by simp, r2, rfl, rfl⟩ q2 ?_
  exact (k.step f1).step f3
theorem one {r : V → Hp → VK → Prop} (hp : Prim X.K (r1L r) f) : ∀ σ H Q, tA X.K W (t1 f ta) σ H Q → tUn r (tA X.K W ta) σ H Q := fun σ H Q q => by
  obtain ⟨HF, ρ, A, Kd, Ed, w, en, t, k, x⟩ := q
  refine ⟨HF, ρ, A, _, Ed, w, en, t, fun e1 ρ1 q1 HF1 H1 A1 v1 Av1 f1 w1 en1 r1 => ?_, x⟩
  exact hp σ HF1 H1 ρ1 A1 Av1 [e1] [v1] Kd Q w1 en1 ⟨v1, [], Av1, [], rfl, by simp, r1, rfl, rfl⟩ q1 (k.step f1)
theorem ae_op {op : Operator} {r : R2} (ho : OpR X (binaryOp op) r) (hp : Prim X.K (r2L r) f) (ha : AE X W a ta) (hb : AE X W b tb) : AE X W (.BinOp a op b pos) (t2 f ta tb) := PE.imp (pe_op ho ha hb) (two hp)
theorem ae_un {op : UnaryOp} {r : V → Hp → VK → Prop} (ho : UnR X (unaryOp op) r) (hp : Prim X.K (r1L r) f) (ha : AE X W a ta) : AE X W (.UnaryOp op a pos) (t1 f ta) := PE.imp (pe_un ho ha) (one hp)
theorem ae_cmp {op : CmpOp} {r : R2} (ho : OpR X (compareOp op) r) (hp : Prim X.K (r2L r) f) (ha : AE X W a ta) (hb : AE X W b tb) (hm : behindInMarks op b = false) : AE X W (.Compare a [op] [b] pos) (t2 f ta tb) := PE.imp (pe_cmpR ho ha hb hm) (two hp)
theorem ae_ix {r : R2} (ho : IxR X r) (hp : Prim X.K (r2L r) f) (ha : AE X W a ta) (hb : AE X W b tb) (hs : PlainIx b) : AE X W (.Subscript a b pos) (t2 f ta tb) := PE.imp (pe_ix ho ha hb hs) (two hp)

/-! ### tests -/
def tVal (t : TD) : TDt := fun ρ Kd Ed => t ρ (fun e ρ1 => match dOf ρ1 e with
  | some (.bl b) => Kd b ρ1
  | _ => False) Ed
theorem at_val {e : Expr} {t : TD} (h : AE X W e t) (he : ∀ whole, isTrue e X.env whole = (do let v ← whole; standAt e.pos; holding [v] (truthy v)) := by intro _; rfl) : AT X W e (tVal t) := PT.imp (pt_val h he) fun σ H Q q => by
  obtain ⟨HF, ρ, A, Kd, Ed, w, en, t, k, x⟩ := q
  refine ⟨HF, ρ, A, _, Ed, w, en, t, fun e1 ρ1 q1 HF1 H1 A1 v1 Av1 f1 w1 en1 r1 => ?_, x⟩
  dsimp only at q1
  split at q1
  · rename_i b e2
    have r2 : Vw X.K HF1 H1 (.bl b) v1 := Vw.ev w1.same en1 r1 e2
    exact ⟨b, r2, k b ρ1 q1 HF1 H1 A1 (f1.mono (fun _ hp => hp) fun p hp => .inl (List.mem_append_left _ hp)) w1.left en1⟩
  · exact q1.elim
def tAndT (t u : TDt) : TDt := fun ρ Kd Ed => t ρ (fun b ρ1 => if b = true then u ρ1 Kd Ed else Kd false ρ1) Ed
def tOrT (t u : TDt) : TDt := fun ρ Kd Ed => t ρ (fun b ρ1 => if b = true then Kd true ρ1 else u ρ1 Kd Ed) Ed
def tNotT (t : TDt) : TDt := fun ρ Kd Ed => t ρ (fun b ρ1 => Kd (!b) ρ1) Ed
variable {tc td : TDt} {rest : List Expr}
theorem AW.at {e : Expr} {t : TDt} (h : AW X W e t) : AT X W e t := PW.pt h
theorem aw_and1 (ha : AT X W a tc) : AW X W (.BoolOp .And [a] pos) tc := pw_and1 ha
theorem aw_or1 (ha : AT X W a tc) : AW X W (.BoolOp .Or [a] pos) tc := pw_or1 ha
theorem aw_and (ha : AT X W a tc) (hb : AW X W (.BoolOp .And (b :: rest) pos) td) : AW X W (.BoolOp .And (a :: b :: rest) pos) (tAndT tc td) := PW.imp (pw_and ha hb) fun σ H Q q => by
  obtain ⟨HF, ρ, A, Kd, Ed, w, en, t, k, x⟩ := q
  refine ⟨HF, ρ, A, _, Ed, w, en, t, fun b1 ρ1 q1 HF1 H1 A1 f1 w1 en1 => ?_, x⟩
  cases b1 with
  | true => exact (if_pos rfl).mpr ⟨HF1, ρ1, A1, Kd, Ed, w1, en1, (by simpa using q1), k.step f1, x.step f1⟩
  | false => exact (if_neg (by simp)).mpr (k false ρ1 (by simpa using q1) HF1 H1 A1 f1 w1 en1)
theorem aw_or (ha : AT X W a tc) (hb : AW X W (.BoolOp .Or (b :: rest) pos) td) : AW X W (.BoolOp .Or (a :: b :: rest) pos) (tOrT tc td) := PW.imp (pw_or ha hb) fun σ H Q q => by
  obtain ⟨HF, ρ, A, Kd, Ed, w, en, t, k, x⟩ := q
  refine ⟨HF, ρ, A, _, Ed, w, en, t, fun b1 ρ1 q1 HF1 H1 A1 f1 w1 en1 => ?_, x⟩
  cases b1 with
  | true => exact (if_pos rfl).mpr (k true ρ1 (by simpa using q1) HF1 H1 A1 f1 w1 en1)
  | false => exact (if_neg (by simp)).mpr ⟨HF1, ρ1, A1, Kd, Ed, w1, en1, (by simpa using q1), k.step f1, x.step f1⟩
theorem at_not (ha : AT X W a tc) : AT X W (.UnaryOp .Not a pos) (tNotT tc) := PT.imp (pt_not ha) fun σ H Q q => by
  obtain ⟨HF, ρ, A, Kd, Ed, w, en, t, k, x⟩ := q
  exact ⟨HF, ρ, A, _, Ed, w, en, t, fun b1 ρ1 q1 HF1 H1 A1 f1 w1 en1 => k _ ρ1 q1 HF1 H1 A1 f1 w1 en1, x⟩
/-- .. as values -/
def tAndE (t u : TD) : TD := fun ρ Kd Ed => t ρ (fun e ρ1 => match dOf ρ1 e with
  | some (.bl b) => if b = true then u ρ1 Kd Ed else Kd (.ow (.fz (.bl false))) ρ1
  | _ => False) Ed
def tOrE (t u : TD) : TD := fun ρ Kd Ed => t ρ (fun e ρ1 => match dOf ρ1 e with
  | some (.bl b) => if b = true then Kd (.ow (.fz (.bl true))) ρ1 else u ρ1 Kd Ed
  | _ => False) Ed
def tNotE (t : TD) : TD := fun ρ Kd Ed => t ρ (fun e ρ1 => match dOf ρ1 e with
  | some (.bl b) => Kd (.ow (.fz (.bl (!b)))) ρ1
  | _ => False) Ed
theorem ae_one {op} {t : TD} (h : AE X W a t) : AE X W (.BoolOp op [a] pos) t := pe_one h
theorem ae_and (ha : AE X W a ta) (hb : AE X W (.BoolOp .And (b :: rest) pos) tb) : AE X W (.BoolOp .And (a :: b :: rest) pos) (tAndE ta tb) := PE.imp (pe_and ha hb) fun σ H Q q => by
  obtain ⟨HF, ρ, A, Kd, Ed, w, en, t, k, x⟩ := q
  refine ⟨HF, ρ, A, _, Ed, w, en, t, fun e1 ρ1 q1 HF1 H1 A1 v1 Av1 f1 w1 en1 r1 => ?_, x⟩
  dsimp only at q1
  split at q1
  · rename_i b e2
    have r2 : Vw X.K HF1 H1 (.bl b) v1 := Vw.ev w1.same en1 r1 e2
    have f1' : Fr H H1 HF HF1 A A1 := f1.mono (fun _ hp => hp) fun p hp => .inl (List.mem_append_left _ hp)
    refine ⟨b, r2, ?_⟩
    cases b with
    | true => exact (if_pos rfl).mpr ⟨HF1, ρ1, A1, Kd, Ed, w1.left, en1, (by simpa using q1), k.step f1', x.step f1'⟩
    | false => exact (if_neg (by simp)).mpr (k (.ow (.fz (.bl false))) ρ1 (by simpa using q1) HF1 H1 A1 (.bl false) [] (by rw [List.append_nil]; exact f1') (by rw [List.append_nil]; exact w1.left) en1 ⟨rfl, rfl⟩)
  · exact q1.elim
theorem ae_or (ha : AE X W a ta) (hb : AE X W (.BoolOp .Or (b :: rest) pos) tb) : AE X W (.BoolOp .Or (a :: b :: rest) pos) (tOrE ta tb) := PE.imp (pe_or ha hb) fun σ H Q q => by
  obtain ⟨HF, ρ, A, Kd, Ed, w, en, t, k, x⟩ := q
  refine ⟨HF, ρ, A, _, Ed, w, en, t, fun e1 ρ1 q1 HF1 H1 A1 v1 Av1 f1 w1 en1 r1 => ?_, x⟩
  dsimp only at q1
  split at q1
  · rename_i b e2
    have r2 : Vw X.K HF1 H1 (.bl b) v1 := Vw.ev w1.same en1 r1 e2
    have f1' : Fr H H1 HF HF1 A A1 := f1.mono (fun _ hp => hp) fun p hp => .inl (List.mem_append_left _ hp)
    refine ⟨b, r2, ?_⟩
    cases b with
    | true => exact (if_pos rfl).mpr (k (.ow (.fz (.bl true))) ρ1 (by simpa using q1) HF1 H1 A1 (.bl true) [] (by rw [List.append_nil]; exact f1') (by rw [List.append_nil]; exact w1.left) en1 ⟨rfl, rfl⟩)
    | false => exact (if_neg (by simp)).mpr ⟨HF1, ρ1, A1, Kd, Ed, w1.left, en1, (by simpa using q1), k.step f1', x.step f1'⟩
  · exact q1.elim
theorem ae_not (ha : AE X W a ta) : AE X W (.UnaryOp .Not a pos) (tNotE ta) := PE.imp (pe_not ha) fun σ H Q q => by
  obtain ⟨HF, ρ, A, Kd, Ed, w, en, t, k, x⟩ := q
  refine ⟨HF, ρ, A, _, Ed, w, en, t, fun e1 ρ1 q1 HF1 H1 A1 v1 Av1 f1 w1 en1 r1 => ?_, x⟩
  dsimp only at q1
  split at q1
  · rename_i b e2
    have r2 : Vw X.K HF1 H1 (.bl b) v1 := Vw.ev w1.same en1 r1 e2
    have f1' : Fr H H1 HF HF1 A A1 := f1.mono (fun _ hp => hp) fun p hp => .inl (List.mem_append_left _ hp)
    exact ⟨b, r2, k _ ρ1 q1 HF1 H1 A1 (.bl (!b)) [] (by rw [List.append_nil]; exact f1') (by rw [List.append_nil]; exact w1.left) en1 ⟨rfl, rfl⟩⟩
  · exact q1.elim
def tIfD (t : TDt) (u v : TD) : TD := fun ρ Kd Ed => t ρ (fun b ρ1 => if b = true then u ρ1 Kd Ed else v ρ1 Kd Ed) Ed
theorem ae_if {c : Expr} (hc : AT X W c tc) (ha : AE X W a ta) (hb : AE X W b tb) : AE X W (.IfExp c a b pos) (tIfD tc ta tb) := PE.imp (pe_ifExp hc ha hb) fun σ H Q q => by
  obtain ⟨HF, ρ, A, Kd, Ed, w, en, t, k, x⟩ := q
  refine ⟨HF, ρ, A, _, Ed, w, en, t, fun b1 ρ1 q1 HF1 H1 A1 f1 w1 en1 => ?_, x⟩
  cases b1 with
  | true => exact (if_pos rfl).mpr ⟨HF1, ρ1, A1, Kd, Ed, w1, en1, (by simpa using q1), k.step f1, x.step f1⟩
  | false => exact (if_neg (by simp)).mpr ⟨HF1, ρ1, A1, Kd, Ed, w1, en1, (by simpa using q1), k.step f1, x.step f1⟩

/-! ### argument lists -/
def tNilD : TDs := fun ρ Kd _ => Kd [] ρ
def tConsD (t : TD) (ts : TDs) : TDs := fun ρ Kd Ed => t ρ (fun e ρ1 => ts ρ1 (fun es ρ2 => Kd (e :: es) ρ2) Ed) Ed
theorem aa_nil : AA X W [] tNilD := PA.imp pa_nil fun σ H Q q => by
  obtain ⟨HF, ρ, A, Kd, Ed, w, en, t, k, x⟩ := q
  exact k [] ρ t HF H A [] [] (by rw [List.append_nil]; exact Fr.refl) (by rw [List.append_nil]; exact w) en ⟨rfl, rfl⟩
theorem aa_cons {e : Expr} {es : List Expr} {t : TD} {ts : TDs} (ha : AE X W e t) (hr : AA X W es ts) (hs : starEach (e :: es) X.env = (false, eval e X.env) :: starEach es X.env := by rfl) : AA X W (e :: es) (tConsD t ts) := PA.imp (pa_cons ha hr hs) fun σ H Q q => by
  obtain ⟨HF, ρ, A, Kd, Ed, w, en, t, k, x⟩ := q
  refine ⟨HF, ρ, A, _, Ed, w, en, t, fun e1 ρ1 q1 HF1 H1 A1 v1 Av1 f1 w1 en1 r1 => ?_, x⟩
  have x1 : XOk X.K σ H1 HF1 A1 Ed W := (x.step f1).step (Fr.drop fun p hp => List.mem_append_left _ hp)
  refine ⟨HF1, ρ1, A1, _, Ed, w1.left, en1, q1, fun es2 ρ2 q2 HF2 H2 A2 vs2 Av2 f2 w2 en2 r2 => ?_, x1⟩
  obtain ⟨w3, f3, k3⟩ := join w1 (EVR.there r1) f2 w2
  exact (k.step f1).step f3 (e1 :: es2) ρ2 q2 HF2 H2 A2 (v1 :: vs2) (Av1 ++ Av2) Fr.refl w3 en2 ⟨v1, vs2, Av1, Av2, rfl, rfl, EVR.keep f2.same r1 k3, r2⟩
end
end AE
/-! AE3: statements, defs and their calls. -/
namespace AE
open PySem L2
open PyProof.Rows (envOfC)

structure EndsD where
  nx : Env → Prop
  rt : O → Env → Prop
  bk : Env → Prop := fun _ => False
  ct : Env → Prop := fun _ => False
abbrev TSD := EndsD → XC → Env → Prop
/-- the slots that are not stored anew -/
abbrev Prot := Nat → Bool
def Pr (P : Prot) (σ σ' : St) : Prop := σ'.length = σ.length ∧ ∀ i, P i = true → σ'[i]? = σ[i]?
theorem Pr.refl {P : Prot} {σ : St} : Pr P σ σ := ⟨rfl, fun _ _ => rfl⟩
theorem Pr.trans {P : Prot} {σ σ1 σ2 : St} (a : Pr P σ σ1) (b : Pr P σ1 σ2) : Pr P σ σ2 := ⟨b.1.trans a.1, fun i h => (b.2 i h).trans (a.2 i h)⟩
section
variable (K : PySem.W.Frag) (P : Prot) (σ : St) (H HF : Hp) (A : List Addr)
def NOk (N : Env → Prop) (Q : St → Hp → Prop) : Prop := ∀ ρ, N ρ → ∀ HF' H' σ' A', Pr P σ σ' → Fr H H' HF HF' A A' → WR HF' H' A' → EnvR K HF' H' ρ σ' A' → Q σ' H'
def ROk (R : O → Env → Prop) (Q : VK) : Prop := ∀ o ρ, R o ρ → ∀ HF' H' σ' A' v Av, Pr P σ σ' → Fr H H' HF HF' A (A' ++ Av) → WR HF' H' (A' ++ Av) → EnvR K HF' H' ρ σ' A' → RepO K HF' H' o v Av → Q v H'
structure SOk (E : EndsD) (D : Ends) : Prop where
  nx : NOk K P σ H HF A E.nx D.nx
  rt : ROk K P σ H HF A E.rt D.rt
  bk : NOk K P σ H HF A E.bk D.bk
  ct : NOk K P σ H HF A E.ct D.ct
def XSOk (Ed : XC) (W : WX) : Prop := ∀ x ρ, Ed x ρ → ∀ HF' H' σ' A' cls d, Pr P σ σ' → Fr H H' HF HF' A A' → WR HF' H' A' → EnvR K HF' H' ρ σ' A' → EXR K HF' x cls d → W cls d σ' H'
end
section
variable {K : PySem.W.Frag} {P : Prot} {σ σ1 : St} {H H1 HF HF1 : Hp} {A A1 : List Addr}
theorem NOk.step {N : Env → Prop} {Q : St → Hp → Prop} (k : NOk K P σ H HF A N Q) (p : Pr P σ σ1) (f : Fr H H1 HF HF1 A A1) : NOk K P σ1 H1 HF1 A1 N Q := fun ρ n HF' H' σ' A' p' f' w e => k ρ n HF' H' σ' A' (p.trans p') (f.trans f') w e
theorem ROk.step {R : O → Env → Prop} {Q : VK} (k : ROk K P σ H HF A R Q) (p : Pr P σ σ1) (f : Fr H H1 HF HF1 A A1) : ROk K P σ1 H1 HF1 A1 R Q := fun o ρ n HF' H' σ' A' v Av p' f' w e r => k o ρ n HF' H' σ' A' v Av (p.trans p') (f.trans f') w e r
theorem SOk.step {E : EndsD} {D : Ends} (k : SOk K P σ H HF A E D) (p : Pr P σ σ1) (f : Fr H H1 HF HF1 A A1) : SOk K P σ1 H1 HF1 A1 E D := ⟨k.nx.step p f, k.rt.step p f, k.bk.step p f, k.ct.step p f⟩
theorem XSOk.step {Ed : XC} {W : WX} (k : XSOk K P σ H HF A Ed W) (p : Pr P σ σ1) (f : Fr H H1 HF HF1 A A1) : XSOk K P σ1 H1 HF1 A1 Ed W := fun x ρ n HF' H' σ' A' c d p' f' w e r => k x ρ n HF' H' σ' A' c d (p.trans p') (f.trans f') w e r
theorem XSOk.x {Ed : XC} {W : WX} (k : XSOk K P σ H HF A Ed W) : XOk K σ H HF A Ed W := fun x ρ n HF' H' A' c d f' w e r => k x ρ n HF' H' σ A' c d .refl f' w e r
end
def tS (K : PySem.W.Frag) (W : WX) (P : Prot) (t : TSD) : TS := fun D σ H => ∃ HF ρ A E Ed, WR HF H A ∧ EnvR K HF H ρ σ A ∧ t E Ed ρ ∧ SOk K P σ H HF A E D ∧ XSOk K P σ H HF A Ed W
def AS (X : Cx) (W : WX) (P : Prot) (st : Stmt) (t : TSD) : Prop := PS X st (tS X.K W P t)
def ASs (X : Cx) (W : WX) (P : Prot) (st : List Stmt) (t : TSD) : Prop := PSs X st (tS X.K W P t)

def tNextD : TSD := fun E _ ρ => E.nx ρ
def tSeqD (t u : TSD) : TSD := fun E Ed ρ => t { E with nx := fun ρ1 => u E Ed ρ1 } Ed ρ
/-- what is handed on is moved to a new owner -/
def moved (ρ : Env) : EV → Option (O × Env)
  | .ow o => some (o, ρ)
  | .pt i => match ρ[i]? with
    | some (some o) => some (o, ρ.set i none)
    | _ => none
theorem moved_ok {K : PySem.W.Frag} {HF H : Hp} {ρ ρ' : Env} {σ : St} {A Av : List Addr} {ev : EV} {v : V} {o : O} (w : WR HF H (A ++ Av)) (en : EnvR K HF H ρ σ A) (r : EVR K HF H σ ev v Av) (h : moved ρ ev = some (o, ρ')) :
    ∃ A' B, (A ++ Av).Perm (A' ++ B) ∧ EnvR K HF H ρ' σ A' ∧ RepO K HF H o v B := by
  cases ev with
  | ow o' => cases h; exact ⟨A, Av, .refl _, en, r⟩
  | pt i =>
    have h : (match ρ[i]? with | some (some o) => some (o, ρ.set i none) | _ => none) = some (o, ρ') := h
    cases e : ρ[i]? with
    | none => rw [e] at h; cases h
    | some oo =>
      cases oo with
      | none => rw [e] at h; cases h
      | some o' =>
        rw [e] at h
        cases h
        obtain ⟨v', B, C, h1, h2, h3, h4⟩ := en.get e
        have : v = v' := by
          have q := r.2
          rw [h1] at q
          exact (Option.some.inj (Option.some.inj q)).symm
        subst this
        obtain ⟨rfl, _⟩ := r
        exact ⟨C, B, by rw [List.append_nil]; exact h3.trans List.perm_append_comm, h4, h2⟩
section
variable {X : Cx} {W : WX} {P : Prot} {st : Stmt} {rest : List Stmt} {t u : TSD} {pos : Pos} {e : Expr} {te : TD}
theorem ass_nil : ASs X W P [] tNextD := PSs.imp pss_nil fun D σ H q => by
  obtain ⟨HF, ρ, A, E, Ed, w, en, t, k, x⟩ := q
  exact k.nx ρ t HF H σ A .refl .refl w en
theorem ass_one (h1 : AS X W P st t) : ASs X W P [st] t := pss_one h1
theorem ass_cons (h1 : AS X W P st t) (h2 : ASs X W P rest u) : ASs X W P (st :: rest) (tSeqD t u) := PSs.imp (pss_cons h1 h2) fun D σ H q => by
  obtain ⟨HF, ρ, A, E, Ed, w, en, t, k, x⟩ := q
  exact ⟨HF, ρ, A, _, Ed, w, en, t, ⟨fun ρ1 n HF1 H1 σ1 A1 p1 f1 w1 en1 => ⟨HF1, ρ1, A1, E, Ed, w1, en1, n, k.step p1 f1, x.step p1 f1⟩, k.rt, k.bk, k.ct⟩, x⟩
theorem as_pass : AS X W P (.Pass pos) tNextD := PS.imp ps_pass fun D σ H q => by
  obtain ⟨HF, ρ, A, E, Ed, w, en, t, k, x⟩ := q
  exact k.nx ρ t HF H σ A .refl .refl w en
def tBrkD : TSD := fun E _ ρ => E.bk ρ
def tCntD : TSD := fun E _ ρ => E.ct ρ
theorem as_break : AS X W P (.Break pos) tBrkD := PS.imp ps_break fun D σ H q => by
  obtain ⟨HF, ρ, A, E, Ed, w, en, t, k, x⟩ := q
  exact k.bk ρ t HF H σ A .refl .refl w en
theorem as_continue : AS X W P (.Continue pos) tCntD := PS.imp ps_continue fun D σ H q => by
  obtain ⟨HF, ρ, A, E, Ed, w, en, t, k, x⟩ := q
  exact k.ct ρ t HF H σ A .refl .refl w en
def tExprD (te : TD) : TSD := fun E Ed ρ => te ρ (fun _ ρ1 => E.nx ρ1) Ed
theorem as_expr (he : AE X W e te) (hs : swapsWith e none pos.line X.env = pure false := by rfl) : AS X W P (.Expr e pos) (tExprD te) := PS.imp (ps_expr he hs) fun D σ H q => by
  obtain ⟨HF, ρ, A, E, Ed, w, en, t, k, x⟩ := q
  refine ⟨HF, ρ, A, _, Ed, w, en, t, fun ev ρ1 q1 HF1 H1 A1 v Av f1 w1 en1 r1 => ?_, x.x⟩
  exact k.nx ρ1 q1 HF1 H1 σ A1 .refl (f1.mono (fun _ hp => hp) fun p hp => .inl (List.mem_append_left _ hp)) w1.left en1
def tRetD (te : TD) : TSD := fun E Ed ρ => te ρ (fun ev ρ1 => match moved ρ1 ev with
  | some (o, ρ2) => E.rt o ρ2
  | none => False) Ed
theorem as_ret (he : AE X W e te) : AS X W P (.Return (some e) pos) (tRetD te) := PS.imp (ps_ret he) fun D σ H q => by
  obtain ⟨HF, ρ, A, E, Ed, w, en, t, k, x⟩ := q
  refine ⟨HF, ρ, A, _, Ed, w, en, t, fun ev ρ1 q1 HF1 H1 A1 v Av f1 w1 en1 r1 => ?_, x.x⟩
  dsimp only at q1
  split at q1
  · rename_i o ρ2 e2
    obtain ⟨A', B, pm, en2, r2⟩ := moved_ok w1 en1 r1 e2
    exact k.rt o ρ2 q1 HF1 H1 σ A' v B .refl (f1.mono (fun _ hp => hp) fun p hp => .inl (pm.mem_iff.mpr hp)) (w1.perm pm) en2 r2
  · exact q1.elim
def tRetND : TSD := fun E _ ρ => E.rt (.fz .non) ρ
theorem as_retN : AS X W P (.Return none pos) tRetND := PS.imp ps_retN fun D σ H q => by
  obtain ⟨HF, ρ, A, E, Ed, w, en, t, k, x⟩ := q
  exact k.rt _ ρ t HF H σ A .non [] .refl (by rw [List.append_nil]; exact .refl) (by rw [List.append_nil]; exact w) en ⟨rfl, rfl⟩
def tIfSD (c : TDt) (t u : TSD) : TSD := fun E Ed ρ => c ρ (fun b ρ1 => if b = true then t E Ed ρ1 else u E Ed ρ1) Ed
theorem as_if {c : Expr} {a b : List Stmt} {tc : TDt} (hc : AT X W c tc) (ha : ASs X W P a t) (hb : ASs X W P b u) : AS X W P (.If c a b pos) (tIfSD tc t u) := PS.imp (ps_if hc ha hb) fun D σ H q => by
  obtain ⟨HF, ρ, A, E, Ed, w, en, t, k, x⟩ := q
  refine ⟨HF, ρ, A, _, Ed, w, en, t, fun b1 ρ1 q1 HF1 H1 A1 f1 w1 en1 => ?_, x.x⟩
  cases b1 with
  | true => exact (if_pos rfl).mpr ⟨HF1, ρ1, A1, E, Ed, w1, en1, (by simpa using q1), k.step .refl f1, x.step .refl f1⟩
  | false => exact (if_neg (by simp)).mpr ⟨HF1, ρ1, A1, E, Ed, w1, en1, (by simpa using q1), k.step .refl f1, x.step .refl f1⟩

/-! ### targets -/
abbrev TGD := O → Env → (Env → Prop) → Prop
def tG (K : PySem.W.Frag) (P : Prot) (g : TGD) : TG := fun v σ H Q => ∃ HF ρ A o B N, WR HF H (A ++ B) ∧ EnvR K HF H ρ σ A ∧ RepO K HF H o v B ∧ g o ρ N ∧ NOk K P σ H HF (A ++ B) N Q
def AG (X : Cx) (P : Prot) (tg : Expr) (g : TGD) : Prop := PG X tg (tG X.K P g)
theorem PG.imp {X : Cx} {tg : Expr} {g g' : TG} (h : PG X tg g) (i : ∀ v σ H Q, g' v σ H Q → g v σ H Q) : PG X tg g' := ⟨fun pins s σ H v u Q I r q => h.run pins s σ H v u Q I r (i v σ H Q q)⟩
def gNameD (i : Nat) : TGD := fun o ρ N => match ρ[i]? with
  | some _ => N (ρ.set i (some o))
  | none => False
theorem EnvR.store {K : PySem.W.Frag} {HF H : Hp} {ρ : Env} {σ : St} {A B : List Addr} {o : O} {v : V} {i : Nat} (w : WR HF H (A ++ B)) (en : EnvR K HF H ρ σ A) (r : RepO K HF H o v B) (hi : i < ρ.length) :
    ∃ A', WR HF H A' ∧ (∀ p ∈ A', p ∈ A ++ B) ∧ EnvR K HF H (ρ.set i (some o)) (σ.set i (some v)) A' := by
  obtain ⟨C, hs, en1⟩ := en.forget (i := i)
  obtain ⟨A', pm, en2⟩ := EnvR.put en1 hi r
  have w1 : WR HF H (B ++ C) := (w.sub (List.Sublist.append_right hs B)).perm List.perm_append_comm
  exact ⟨A', w1.perm pm.symm, fun p hp => (List.mem_append.mp (pm.mem_iff.mp hp)).elim (fun z => List.mem_append_right _ z) (fun z => List.mem_append_left _ (hs.subset z)), en2⟩
theorem ag_name {x : Str} {i : Nat} {pos : Pos} (hN : X.N.Nodup) (hi : X.N[i]? = some x) (hx : Loc X.env.scope x) (hp : P i = false) (hf : X.fn x = true ∨ X.env.scope.names.lookup x = some .local := by first | exact .inl rfl | exact .inr rfl | assumption) : AG X P (.Name x pos) (gNameD i) :=
  PG.imp (pg_name hN hi hx hf) fun v σ H Q q => by
    obtain ⟨HF, ρ, A, o, B, N, w, en, r, g, k⟩ := q
    have g : (match ρ[i]? with | some _ => N (ρ.set i (some o)) | none => False) := g
    obtain ⟨hl, n⟩ : i < ρ.length ∧ N (ρ.set i (some o)) := by
      cases e : ρ[i]? with
      | none => rw [e] at g; exact g.elim
      | some y => rw [e] at g; exact ⟨(List.getElem?_eq_some_iff.mp e).1, g⟩
    obtain ⟨A', w1, f1, en1⟩ := EnvR.store w en r hl
    refine k _ n HF H _ A' ⟨by simp, fun j hj => ?_⟩ (Fr.drop f1) w1 en1
    have : i ≠ j := fun e => by rw [e, hj] at hp; cases hp
    rw [List.getElem?_set_ne this]
def tAsgD (te : TD) (g : TGD) : TSD := fun E Ed ρ => te ρ (fun ev ρ1 => match moved ρ1 ev with
  | some (o, ρ2) => g o ρ2 E.nx
  | none => False) Ed
theorem as_asg {tg : Expr} {g : TGD} (he : AE X W e te) (hg : AG X P tg g) (hs : swapsWithSole [tg] e pos.line X.env = pure false := by rfl) (hw : swappedStores [tg] e X.env = pure none := by rfl) (h1 : (assignEach [tg] X.env).map (·.2) = [assign tg X.env] := by rfl) : AS X W P (.Assign [tg] e pos) (tAsgD te g) := PS.imp (ps_asg he hg hs hw h1) fun D σ H q => by
  obtain ⟨HF, ρ, A, E, Ed, w, en, t, k, x⟩ := q
  refine ⟨HF, ρ, A, _, Ed, w, en, t, fun ev ρ1 q1 HF1 H1 A1 v Av f1 w1 en1 r1 => ?_, x.x⟩
  dsimp only at q1
  split at q1
  · rename_i o ρ2 e2
    obtain ⟨A', B, pm, en2, r2⟩ := moved_ok w1 en1 r1 e2
    exact ⟨HF1, ρ2, A', o, B, E.nx, w1.perm pm, en2, r2, q1, k.nx.step .refl (f1.mono (fun _ hp => hp) fun p hp => .inl (pm.mem_iff.mpr hp))⟩
  · exact q1.elim
abbrev TGDs := List D → Env → (Env → Prop) → Prop
/-- several targets, pure parts -/
def tGs (K : PySem.W.Frag) (P : Prot) (g : TGDs) : TGs := fun vs σ H Q => ∃ HF ρ A ds N, WR HF H A ∧ EnvR K HF H ρ σ A ∧ Reps K HF ds vs ∧ g ds ρ N ∧ NOk K P σ H HF A N Q
def AGs (X : Cx) (P : Prot) (ts : List Expr) (g : TGDs) : Prop := PGs X ts (tGs X.K P g)
theorem PGs.imp {X : Cx} {ts : List Expr} {g g' : TGs} (h : PGs X ts g) (i : ∀ v σ H Q, g' v σ H Q → g v σ H Q) : PGs X ts g' := ⟨fun pins s σ H v u Q I r q => h.run pins s σ H v u Q I r (i v σ H Q q)⟩
def gNilD : TGDs := fun ds ρ N => match ds with
  | [] => N ρ
  | _ => False
def gConsD (g : TGD) (gs : TGDs) : TGDs := fun ds ρ N => match ds with
  | d :: ds => g (.fz d) ρ (fun ρ1 => gs ds ρ1 N)
  | _ => False
theorem ags_nil : AGs X P [] gNilD := PGs.imp pgs_nil fun vs σ H Q q => by
  obtain ⟨HF, ρ, A, ds, N, w, en, r, n, k⟩ := q
  cases ds with
  | nil => exact ⟨r, k ρ n HF H σ A .refl .refl w en⟩
  | cons _ _ => exact n.elim
theorem ags_cons {tg : Expr} {ts : List Expr} {g : TGD} {gs : TGDs} (h1 : AG X P tg g) (h2 : AGs X P ts gs) (hs : (assignEach (tg :: ts) X.env).map (·.2) = assign tg X.env :: (assignEach ts X.env).map (·.2) := by rfl) : AGs X P (tg :: ts) (gConsD g gs) := PGs.imp (pgs_cons h1 h2 hs) fun vs σ H Q q => by
  obtain ⟨HF, ρ, A, ds, N, w, en, r, n, k⟩ := q
  cases ds with
  | nil => exact n.elim
  | cons d ds =>
    obtain ⟨v, ws, rfl, r1, r2⟩ := r
    refine ⟨v, ws, rfl, HF, ρ, A, .fz d, [], _, (by rw [List.append_nil]; exact w), en, ⟨rfl, r1⟩, n, fun ρ1 n1 HF1 H1 σ1 A1 p1 f1 w1 en1 => ?_⟩
    rw [List.append_nil] at f1
    exact ⟨HF1, ρ1, A1, ds, N, w1, en1, Reps.mono f1.same ds r2, n1, k.step p1 f1⟩
def gTupD (n : Nat) (gs : TGDs) : TGD := fun o ρ N => match o with
  | .fz (.tup ds) => ds.length = n ∧ gs ds ρ N
  | _ => False
theorem ag_tup {es : List Expr} {k : Nat} {gs : TGDs} {n : Nat} (hc : X.calm = true) (h : AGs X P es gs) (hn : (assignEach es X.env).length = n := by rfl) (hst : (assignEach es X.env).findIdx? (·.1) = none := by rfl) : AG X P (.Tuple es k pos) (gTupD n gs) :=
  PG.imp (pg_tup hc h hn hst) fun v σ H Q q => by
    obtain ⟨HF, ρ, A, o, B, N, w, en, r, g, k⟩ := q
    cases o with
    | fz d =>
      cases d with
      | tup ds =>
        obtain ⟨rfl, a, vs, rfl, sq, rs⟩ := r
        rw [List.append_nil] at w k
        exact ⟨a, vs, rfl, SqT.of (w.same _ _ sq), rs.length.trans g.1, HF, ρ, A, ds, N, w, en, rs, g.2, k⟩
      | _ => exact g.elim
    | _ => exact g.elim
end

/-! ### defs -/
/-- what a def does with its arguments: the trees come, a tree goes back, what is left of the arguments; or an exception -/
abbrev AFn := List O → (O → Env → Prop) → (XD → Env → Prop) → Prop
def ros (os : List O) : Env := os.map some
def svs (vs : List V) : St := vs.map some
def spA (K : PySem.W.Frag) (n : Nat) (F : AFn) : Sp := fun vs H Q E => ∃ HF os A Kd Ed, vs.length = n ∧ WR HF H A ∧ EnvR K HF H (ros os) (svs vs) A ∧ F os Kd Ed ∧
  (∀ o ρ, Kd o ρ → ∀ HF' H' A' v Av, Fr H H' HF HF' A (A' ++ Av) → WR HF' H' (A' ++ Av) → EnvR K HF' H' ρ (svs vs) A' → RepO K HF' H' o v Av → Q v H') ∧
  (∀ x ρ, Ed x ρ → ∀ HF' H' A' cls d, Fr H H' HF HF' A A' → WR HF' H' A' → EnvR K HF' H' ρ (svs vs) A' → EXR K HF' x cls d → E cls d H')
/-- the slots at the entry -/
def startD (n : Nat) (os : List O) : Env := ros os ++ List.replicate (n - os.length) none
/-- what is left of the arguments at the end: of a slot that was never stored anew what stands there, else what was pure from the start -/
def leftD (P : Prot) : Nat → List O → Env → Env
  | _, [], _ => []
  | i, o :: os, ρ => (if P i = true then (match ρ with | x :: _ => x | [] => none) else (match o with | .fz d => some (.fz d) | _ => none)) :: leftD P (i + 1) os ρ.tail
theorem leftD_ok {K : PySem.W.Frag} {HF HF' H H' : Hp} {P : Prot} (s : Same HF HF') : ∀ {os : List O} {i : Nat} {ρ : Env} {vs : List V} {σ' : St} {A A' : List Addr}, EnvR K HF H (ros os) (svs vs) A → EnvR K HF' H' ρ σ' A' → os.length ≤ ρ.length →
    (∀ j, j < os.length → P (i + j) = true → σ'[j]? = (svs vs)[j]?) → ∃ B, B.Sublist A' ∧ EnvR K HF' H' (leftD P i os ρ) (svs vs) B
  | [], i, ρ, vs, σ', A, A', h, h', hl, hp => ⟨[], List.nil_sublist _, ⟨h.1, rfl⟩⟩
  | o :: os, i, [], vs, σ', A, A', h, h', hl, hp => by simp at hl
  | o :: os, i, x :: ρ, [], σ', A, A', h, h', hl, hp => by
    obtain ⟨_, _, _, _, e, _⟩ := h
    cases e
  | o :: os, i, x :: ρ, v :: vs, σ', A, A', h, h', hl, hp => by
    obtain ⟨v1, r1, A1, A2, e1, ea, q1, q2⟩ := h
    obtain ⟨rfl, rfl⟩ : v1 = v ∧ r1 = svs vs := by
      have e1 : some v :: svs vs = some v1 :: r1 := e1
      injection e1 with a b
      injection a with a
      exact ⟨a.symm, b.symm⟩
    have tailN : ∀ {σr : St}, (∀ j, j < os.length → P (i + 1 + j) = true → (some v1 :: σr : St)[j + 1]? = (svs (v1 :: vs))[j + 1]?) → ∀ j, j < os.length → P (i + 1 + j) = true → σr[j]? = (svs vs)[j]? := fun z j hj hq => by simpa [svs] using z j hj hq
    cases x with
    | none =>
      obtain ⟨s', r', rfl, q'⟩ := h'
      have hp' : ∀ j, j < os.length → P (i + 1 + j) = true → r'[j]? = (svs vs)[j]? := fun j hj hq => by
        have := hp (j + 1) (by simp; omega) (by rw [show i + (j + 1) = i + 1 + j by omega]; exact hq)
        simpa [svs] using this
      obtain ⟨B, hs, en⟩ := leftD_ok s (i := i + 1) q2 q' (by simpa using hl) hp'
      show ∃ B, B.Sublist A' ∧ EnvR K HF' H' ((if P i = true then none else (match o with | .fz d => some (.fz d) | _ => none)) :: leftD P (i + 1) os ρ) (svs (v1 :: vs)) B
      by_cases hPi : P i = true
      · rw [if_pos hPi]; exact ⟨B, hs, ⟨some v1, svs vs, rfl, en⟩⟩
      · rw [if_neg hPi]
        cases o with
        | fz d => exact ⟨B, hs, ⟨v1, svs vs, [], B, rfl, rfl, ⟨rfl, Rep.mono s d q1.2⟩, en⟩⟩
        | _ => exact ⟨B, hs, ⟨some v1, svs vs, rfl, en⟩⟩
    | some o' =>
      obtain ⟨v', r', B1, B2, rfl, rfl, t1, t2⟩ := h'
      have hp' : ∀ j, j < os.length → P (i + 1 + j) = true → r'[j]? = (svs vs)[j]? := fun j hj hq => by
        have := hp (j + 1) (by simp; omega) (by rw [show i + (j + 1) = i + 1 + j by omega]; exact hq)
        simpa [svs] using this
      obtain ⟨B, hs, en⟩ := leftD_ok s (i := i + 1) q2 t2 (by simpa using hl) hp'
      show ∃ B, B.Sublist (B1 ++ B2) ∧ EnvR K HF' H' ((if P i = true then some o' else (match o with | .fz d => some (.fz d) | _ => none)) :: leftD P (i + 1) os ρ) (svs (v1 :: vs)) B
      by_cases hPi : P i = true
      · rw [if_pos hPi]
        have e0 := hp 0 (by simp) hPi
        have e0 : v' = v1 := by simpa [svs] using e0
        subst e0
        exact ⟨B1 ++ B, List.Sublist.append_left hs B1, ⟨v', svs vs, B1, B, rfl, rfl, t1, en⟩⟩
      · rw [if_neg hPi]
        cases o with
        | fz d => exact ⟨B, hs.trans (List.sublist_append_right _ _), ⟨v1, svs vs, [], B, rfl, rfl, ⟨rfl, Rep.mono s d q1.2⟩, en⟩⟩
        | _ => exact ⟨B, hs.trans (List.sublist_append_right _ _), ⟨some v1, svs vs, rfl, en⟩⟩
theorem EnvR.pad {K : PySem.W.Frag} {HF H : Hp} (n : Nat) : ∀ {ρ : Env} {σ : St} {A : List Addr}, EnvR K HF H ρ σ A → EnvR K HF H (ρ ++ List.replicate n none) (σ ++ List.replicate n none) A
  | [], σ, A, h => by
    obtain ⟨rfl, rfl⟩ := h
    show EnvR K HF H (List.replicate n none) (List.replicate n none) []
    induction n with
    | zero => exact ⟨rfl, rfl⟩
    | succ n ih => exact ⟨none, _, rfl, ih⟩
  | none :: ρ, σ, A, h => by obtain ⟨s', r, rfl, q⟩ := h; exact ⟨s', _, rfl, EnvR.pad n q⟩
  | some o :: ρ, σ, A, h => by obtain ⟨v, r, A1, A2, rfl, rfl, q, t⟩ := h; exact ⟨v, _, A1, A2, rfl, rfl, q, EnvR.pad n t⟩
section
variable {P : Program} {w : World} {K : PySem.W.Frag} {mg : Str → Option Value} {base : Heap}
/-- a def's promise by its body -/
theorem Fun.okA {x qual : Str} {st : Stmt} {f : Addr} {fd : FuncData} {N ps : List Str} {k : Nat} {F : AFn} (Fn : L2.Fun K x qual st f fd) (S : FnScope N ps (defScope st)) (pr : Prot)
    (hbody : ∀ (cdv : Value) (A : Around) (outer : List PySem.Env) (s : Shared) (H : Hp) (E : XK), Room k (A.deeper (envOfC qual (defScope st) s.heap.objs.size f cdv)) →
      ∃ t, ASs (cxOf (L2N.CX P w) P w K mg base N qual (defScope st) f cdv A outer s H E) (fun cls d _ H => E cls d H) pr (defBody st) t ∧
        ∀ os Kd Ed, os.length = ps.length → F os Kd Ed → t { nx := fun ρ => Kd (.fz .non) (leftD pr 0 os ρ), rt := fun o ρ => Kd o (leftD pr 0 os ρ) } (fun x ρ => Ed x (leftD pr 0 os ρ)) (startD N.length os)) :
    FnOk P w K mg base (L2N.CX P w) (k + 1) f fd ps (spA K ps.length F) := by
  obtain ⟨oc, od, kV, doc, pm, an, cdv, ct, osl, rfl, lk, hcd⟩ := Fn.ex
  refine fn_of lk hcd S (fun vs H Q E h => ?_) (fun A outer s H vs Q E hr h => ?_)
  · obtain ⟨HF, os, A, Kd, Ed, hl, _⟩ := h
    exact hl
  · obtain ⟨HF, os, Af, Kd, Ed, hl, wr, en, hF, hK, hE⟩ := h
    have hol : os.length = ps.length := by
      have := en.length
      simp [ros, svs] at this
      omega
    have hpl : ps.length ≤ N.length := by
      have := congrArg List.length S.pre
      rw [List.length_take] at this
      omega
    have hst : (L2.start N vs).length = N.length := by
      unfold L2.start
      rw [List.length_append, List.length_map, List.length_replicate]
      omega
    have slot : ∀ j, j < os.length → (L2.start N vs)[j]? = (svs vs)[j]? := fun j hj => by
      unfold L2.start svs
      rw [List.getElem?_append_left (by rw [List.length_map]; omega)]
    obtain ⟨t, h1, h2⟩ := hbody cdv A outer s H E hr
    have fin : ∀ {ρ : Env} {HF' H' : Hp} {σ' : St} {A' : List Addr}, Pr pr (L2.start N vs) σ' → Same HF HF' → EnvR K HF' H' ρ σ' A' → ∃ B, B.Sublist A' ∧ EnvR K HF' H' (leftD pr 0 os ρ) (svs vs) B := fun {ρ HF' H' σ' A'} p s' en' => by
      refine leftD_ok s' en en' ?_ fun j hj hP => ?_
      · rw [← en'.length, p.1, hst]; omega
      · rw [Nat.zero_add] at hP
        rw [p.2 j hP, slot j hj]
    refine ⟨_, h1, HF, startD N.length os, Af, _, _, wr, ?_, h2 os Kd Ed hol hF, ⟨fun ρ n HF' H' σ' A' p f w' en' => ?_, fun o ρ n HF' H' σ' A' v Av p f w' en' r => ?_, fun ρ n => n.elim, fun ρ n => n.elim⟩, fun x ρ n HF' H' σ' A' cls d p f w' en' r => ?_⟩
    · show EnvR K HF H (ros os ++ List.replicate (N.length - os.length) none) (L2.start N vs) Af
      unfold L2.start
      rw [show N.length - vs.length = N.length - os.length by omega]
      exact EnvR.pad _ en
    · obtain ⟨B, hs, en2⟩ := fin p f.same en'
      exact hK _ _ n HF' H' B .non [] (by rw [List.append_nil]; exact f.mono (fun _ h => h) fun p hp => .inl (hs.subset hp)) (by rw [List.append_nil]; exact w'.sub hs) en2 ⟨rfl, rfl⟩
    · obtain ⟨B, hs, en2⟩ := fin p f.same en'
      have hs2 : (B ++ Av).Sublist (A' ++ Av) := List.Sublist.append_right hs Av
      exact hK _ _ n HF' H' B v Av (f.mono (fun _ h => h) fun p hp => .inl (hs2.subset hp)) (w'.sub hs2) en2 r
    · obtain ⟨B, hs, en2⟩ := fin p f.same en'
      exact hE _ _ n HF' H' B cls d (f.mono (fun _ h => h) fun p hp => .inl (hs.subset hp)) (w'.sub hs) en2 r
end

/-! ### calls -/
/-- the arguments' trees, and the slots without what is handed over -/
def takeD (ρ : Env) : List EV → Option (List O × Env)
  | [] => some ([], ρ)
  | .ow o :: es => match takeD ρ es with
    | some (os, ρ') => some (o :: os, ρ')
    | none => none
  | .pt i :: es => match ρ[i]? with
    | some (some (.fz d)) => (match takeD ρ es with
      | some (os, ρ') => some (.fz d :: os, ρ')
      | none => none)
    | some (some o) => (match takeD (ρ.set i none) es with
      | some (os, ρ') => some (o :: os, ρ')
      | none => none)
    | _ => none
/-- what is left of them is put back -/
def backD (ρ : Env) : List EV → Env → Env
  | .pt i :: es, x :: xs => match ρ[i]? with
    | some none => backD (ρ.set i x) es xs
    | _ => backD ρ es xs
  | _ :: es, _ :: xs => backD ρ es xs
  | _, _ => ρ
theorem takeD_ok {K : PySem.W.Frag} {HF H : Hp} {σ : St} : ∀ {es : List EV} {ρ ρ' : Env} {os : List O} {vs : List V} {A Av : List Addr}, EnvR K HF H ρ σ A → EVRs K HF H σ es vs Av → takeD ρ es = some (os, ρ') →
    ∃ A1 B, (A ++ Av).Perm (A1 ++ B) ∧ EnvR K HF H ρ' σ A1 ∧ EnvR K HF H (ros os) (svs vs) B
  | [], ρ, ρ', os, vs, A, Av, en, r, h => by
    cases h
    obtain ⟨rfl, rfl⟩ := r
    exact ⟨A, [], .refl _, en, ⟨rfl, rfl⟩⟩
  | .ow o :: es, ρ, ρ', os, vs, A, Av, en, r, h => by
    obtain ⟨v, ws, A1, A2, rfl, rfl, r1, r2⟩ := r
    have h : (match takeD ρ es with | some (os, ρ') => some (o :: os, ρ') | none => none) = some (os, ρ') := h
    split at h
    · rename_i os2 ρ2 e
      cases h
      obtain ⟨C, B, pm, en1, q⟩ := takeD_ok en r2 e
      refine ⟨C, A1 ++ B, ?_, en1, ⟨v, svs ws, A1, B, rfl, rfl, r1, q⟩⟩
      exact (List.perm_append_comm_assoc A A1 A2).trans ((List.Perm.append_left A1 pm).trans (List.perm_append_comm_assoc A1 C B))
    · cases h
  | .pt i :: es, ρ, ρ', os, vs, A, Av, en, r, h => by
    obtain ⟨v, ws, A1, A2, rfl, rfl, r1, r2⟩ := r
    obtain ⟨rfl, hv⟩ := r1
    have same : ∀ {v' : V}, σ[i]? = some (some v') → v = v' := fun {v'} z => by
      rw [hv] at z
      exact Option.some.inj (Option.some.inj z)
    have h : (match ρ[i]? with | some (some (.fz d)) => (match takeD ρ es with | some (os, ρ') => some (O.fz d :: os, ρ') | none => none) | some (some o) => (match takeD (ρ.set i none) es with | some (os, ρ') => some (o :: os, ρ') | none => none) | _ => none) = some (os, ρ') := h
    split at h
    · rename_i d e
      split at h
      · rename_i os2 ρ2 e2
        cases h
        obtain ⟨C, B, pm, en1, q⟩ := takeD_ok en r2 e2
        obtain ⟨v', B', C', h1, h2, _⟩ := en.get e
        obtain rfl := same h1
        exact ⟨C, B, by simpa using pm, en1, ⟨v, svs ws, [], B, rfl, rfl, ⟨rfl, h2.2⟩, q⟩⟩
      · cases h
    · rename_i o _ e
      split at h
      · rename_i os2 ρ2 e2
        cases h
        obtain ⟨v', B', C', h1, h2, h3, h4⟩ := en.get e
        obtain rfl := same h1
        obtain ⟨C, B, pm, en1, q⟩ := takeD_ok h4 r2 e2
        refine ⟨C, B' ++ B, ?_, en1, ⟨v, svs ws, B', B, rfl, rfl, h2, q⟩⟩
        have p1 : (A ++ ([] ++ A2)).Perm (B' ++ (C' ++ A2)) := by
          have := List.Perm.append_right A2 h3
          simpa [List.append_assoc] using this
        exact p1.trans ((List.Perm.append_left B' pm).trans (List.perm_append_comm_assoc B' C B))
      · cases h
    · cases h
theorem set_get {α : Type} {l : List α} {i : Nat} {x : α} (h : l[i]? = some x) : l.set i x = l := by
  obtain ⟨q1, q2⟩ := List.getElem?_eq_some_iff.mp h
  rw [← q2]; exact List.set_getElem_self q1
theorem backD_ok {K : PySem.W.Frag} {HF H : Hp} {σ : St} : ∀ {es : List EV} {ρ ρx : Env} {vs : List V} {A B : List Addr}, EnvR K HF H ρ σ A → EnvR K HF H ρx (svs vs) B → (∀ (j i : Nat), es[j]? = some (.pt i) → ∀ v, vs[j]? = some v → σ[i]? = some (some v)) →
    ∃ C R, (A ++ B).Perm (C ++ R) ∧ EnvR K HF H (backD ρ es ρx) σ C
  | [], ρ, ρx, vs, A, B, en, ex, hp => ⟨A, B, .refl _, by simpa [backD] using en⟩
  | e :: es, ρ, [], vs, A, B, en, ex, hp => ⟨A, B, .refl _, by cases e <;> simpa [backD] using en⟩
  | e :: es, ρ, x :: xs, [], A, B, en, ex, hp => by
    cases x with
    | none => obtain ⟨_, _, e, _⟩ := ex; cases e
    | some o => obtain ⟨_, _, _, _, e, _⟩ := ex; cases e
  | .ow o :: es, ρ, x :: xs, v :: vs, A, B, en, ex, hp => by
    have hp' : ∀ (j i : Nat), es[j]? = some (.pt i) → ∀ v, vs[j]? = some v → σ[i]? = some (some v) := fun j i h1 v' h2 => hp (j + 1) i (by simpa using h1) v' (by simpa using h2)
    cases x with
    | none =>
      obtain ⟨s', r, e, q⟩ := ex
      have e : some v :: svs vs = s' :: r := e
      injection e with e1 e2
      subst e2
      exact backD_ok (es := es) en q hp'
    | some o' =>
      obtain ⟨v', r, A1, A2, e, rfl, q1, q2⟩ := ex
      have e : some v :: svs vs = some v' :: r := e
      injection e with e1 e2
      subst e2
      obtain ⟨C, R, pm, en1⟩ := backD_ok (es := es) en q2 hp'
      refine ⟨C, R ++ A1, ?_, en1⟩
      have p1 : (A ++ (A1 ++ A2)).Perm ((A ++ A2) ++ A1) := by
        rw [List.append_assoc]
        exact List.Perm.append_left A List.perm_append_comm
      exact p1.trans (by rw [← List.append_assoc]; exact List.Perm.append_right A1 pm)
  | .pt i :: es, ρ, x :: xs, v :: vs, A, B, en, ex, hp => by
    have hp' : ∀ (j i : Nat), es[j]? = some (.pt i) → ∀ v, vs[j]? = some v → σ[i]? = some (some v) := fun j i h1 v' h2 => hp (j + 1) i (by simpa using h1) v' (by simpa using h2)
    have hv : σ[i]? = some (some v) := hp 0 i (by simp) v (by simp)
    cases x with
    | none =>
      obtain ⟨s', r, e, q⟩ := ex
      have e : some v :: svs vs = s' :: r := e
      injection e with e1 e2
      subst e2
      obtain ⟨C, R, pm, en1⟩ := backD_ok (es := es) en q hp'
      refine ⟨C, R, pm, ?_⟩
      show EnvR K HF H (match ρ[i]? with | some none => backD (ρ.set i none) es xs | _ => backD ρ es xs) σ C
      split
      · rename_i e3
        rw [set_get e3]; exact en1
      · exact en1
    | some o' =>
      obtain ⟨v', r, A1, A2, e, rfl, q1, q2⟩ := ex
      have e : some v :: svs vs = some v' :: r := e
      injection e with e1 e2
      injection e1 with e1
      subst e2 e1
      show ∃ C R, (A ++ (A1 ++ A2)).Perm (C ++ R) ∧ EnvR K HF H (match ρ[i]? with | some none => backD (ρ.set i (some o')) es xs | _ => backD ρ es xs) σ C
      split
      · rename_i e3
        have hi : i < ρ.length := (List.getElem?_eq_some_iff.mp e3).1
        obtain ⟨A', pm', en'⟩ := EnvR.put (ρ := ρ) (i := i) (o := o') (v := v) (by rw [set_get e3]; exact en) hi q1
        rw [set_get hv] at en'
        obtain ⟨C, R, pm, en1⟩ := backD_ok (es := es) en' q2 hp'
        refine ⟨C, R, ?_, en1⟩
        have p1 : (A ++ (A1 ++ A2)).Perm (A' ++ A2) := (List.perm_append_comm_assoc A A1 A2).trans (by rw [← List.append_assoc]; exact List.Perm.append_right A2 pm'.symm)
        exact p1.trans pm
      · obtain ⟨C, R, pm, en1⟩ := backD_ok (es := es) en q2 hp'
        refine ⟨C, R ++ A1, ?_, en1⟩
        have p1 : (A ++ (A1 ++ A2)).Perm ((A ++ A2) ++ A1) := by
          rw [List.append_assoc]
          exact List.Perm.append_left A List.perm_append_comm
        exact p1.trans (by rw [← List.append_assoc]; exact List.Perm.append_right A1 pm)
theorem EVRs.pts {K : PySem.W.Frag} {HF H : Hp} {σ : St} : ∀ {es : List EV} {vs : List V} {Av : List Addr}, EVRs K HF H σ es vs Av → ∀ (j i : Nat), es[j]? = some (.pt i) → ∀ v, vs[j]? = some v → σ[i]? = some (some v)
  | [], vs, Av, r, j, i, h, v, hv => by simp at h
  | e :: es, vs, Av, r, 0, i, h, v, hv => by
    obtain ⟨v', ws, A1, A2, rfl, rfl, r1, r2⟩ := r
    simp at h hv
    subst h hv
    exact r1.2
  | e :: es, vs, Av, r, j + 1, i, h, v, hv => by
    obtain ⟨v', ws, A1, A2, rfl, rfl, r1, r2⟩ := r
    exact EVRs.pts r2 j i (by simpa using h) v (by simpa using hv)
/-- f(..) -/
def tCallA (F : AFn) (ts : TDs) : TD := fun ρ Kd Ed => ts ρ (fun es ρ1 => match takeD ρ1 es with
  | some (os, ρ2) => F os (fun o ρx => Kd (.ow o) (backD ρ2 es ρx)) (fun x ρx => Ed x (backD ρ2 es ρx))
  | none => False) Ed
/-- a callee's promise met: from evaluated arguments -/
theorem call_sp {K : PySem.W.Frag} {σ : St} {HF H : Hp} {ρ : Env} {A Av : List Addr} {es : List EV} {vs : List V} {Kd : KD} {Ed : XC} {Q : VK} {E : XK} {F : AFn} {n : Nat} (hF : ∀ os Kd Ed, F os Kd Ed → os.length = n) (w : WR HF H (A ++ Av)) (en : EnvR K HF H ρ σ A) (r : EVRs K HF H σ es vs Av)
    (h : match takeD ρ es with | some (os, ρ2) => F os (fun o ρx => Kd (.ow o) (backD ρ2 es ρx)) (fun x ρx => Ed x (backD ρ2 es ρx)) | none => False)
    (k : KOk K σ H HF (A ++ Av) Kd Q) (x : XOk K σ H HF (A ++ Av) Ed (fun c d _ H => E c d H)) : spA K n F vs H Q E := by
  split at h
  · rename_i os ρ2 e
    obtain ⟨A1, B, pm, en1, ex⟩ := takeD_ok en r e
    have w1 := w.perm pm
    have wB := w1.right
    have hn : vs.length = n := by
      have := ex.length
      simp [ros, svs] at this
      rw [this]; exact hF _ _ _ h
    refine ⟨HF, os, B, _, _, hn, wB, ex, h, fun o ρx q HF' H' A' v Av' f w' en' ro => ?_, fun xd ρx q HF' H' A' cls d f w' en' rx => ?_⟩
    · -- the caller's other things are kept
      have tA1 := EnvR.there _ en1
      obtain ⟨k1, k2, k3⟩ := f.frame tA1 (w1.disj)
      have en2 := EnvR.keep f.same _ en1 k1
      obtain ⟨C, R, pm2, en3⟩ := backD_ok (es := es) en2 en' r.pts
      have hnd : (A1 ++ (A' ++ Av')).Nodup := List.nodup_append.mpr ⟨w1.left.nodup, w'.nodup, fun a ha b hb e => k3 a ha (e ▸ hb)⟩
      have pm3 : (A1 ++ (A' ++ Av')).Perm ((C ++ Av') ++ R) := by
        rw [← List.append_assoc]
        refine (List.Perm.append_right Av' pm2).trans ?_
        rw [List.append_assoc, List.append_assoc]
        exact List.Perm.append_left C List.perm_append_comm
      have w3 : WR HF' H' (A1 ++ (A' ++ Av')) := ⟨w'.same, hnd, fun a ha => (List.mem_append.mp ha).elim (fun z => k2 a z (w1.out a (List.mem_append_left _ z))) (w'.out a)⟩
      refine k _ _ q HF' H' C v Av' ?_ ((w3.perm pm3).left) en3 ro
      refine f.mono (fun p hp => pm.mem_iff.mpr (List.mem_append_right _ hp)) fun p hp => ?_
      rcases List.mem_append.mp (pm3.mem_iff.mpr (List.mem_append_left _ hp)) with z | z
      · exact .inr (pm.mem_iff.mpr (List.mem_append_left _ z))
      · exact .inl z
    · have tA1 := EnvR.there _ en1
      obtain ⟨k1, k2, k3⟩ := f.frame tA1 (w1.disj)
      have en2 := EnvR.keep f.same _ en1 k1
      obtain ⟨C, R, pm2, en3⟩ := backD_ok (es := es) en2 en' r.pts
      have hnd : (A1 ++ A').Nodup := List.nodup_append.mpr ⟨w1.left.nodup, w'.nodup, fun a ha b hb e => k3 a ha (e ▸ hb)⟩
      have w3 : WR HF' H' (A1 ++ A') := ⟨w'.same, hnd, fun a ha => (List.mem_append.mp ha).elim (fun z => k2 a z (w1.out a (List.mem_append_left _ z))) (w'.out a)⟩
      refine x _ _ q HF' H' C cls d ?_ ((w3.perm pm2).left) en3 rx
      refine f.mono (fun p hp => pm.mem_iff.mpr (List.mem_append_right _ hp)) fun p hp => ?_
      rcases List.mem_append.mp (pm2.mem_iff.mpr (List.mem_append_left _ hp)) with z | z
      · exact .inr (pm.mem_iff.mpr (List.mem_append_left _ z))
      · exact .inl z
  · exact h.elim
end AE
/-! AE4: calls of defs; operations that make new things; operators. -/
namespace AE
open PySem L2

/-- a def by its module's name, and what it does -/
structure Cal (P : Program) (w : World) (K : PySem.W.Frag) (mg : Str → Option Value) (base : Heap) (lv : Nat) (x : Str) (ps : List Str) (F : AFn) : Prop where
  ex : ∃ f fd, mg x = some (.ref f) ∧ PySem.W.keepIn K (.ref f) = true ∧ Binds K fd ps [] ∧ FnOk P w K mg base (L2N.CX P w) lv f fd ps (spA K ps.length F)
  len : ∀ os Kd Ed, F os Kd Ed → os.length = ps.length
section
variable {X : Cx} {W : WX} {lv : Nat} {x : Str} {ps : List Str} {F : AFn} {p pos : Pos} {e : Expr} {es : List Expr} {ts : TDs}
theorem ae_call (C : Cal X.prog X.w X.K X.mg X.base lv x ps F) (hr : Room lv X.A) (tk : L2N.Takes X W) (hg : Gl X x) (ha : AA X W (e :: es) ts) (hdb : (x == ("__debug__" : Str)) = false := by decide)
    (he : starEach (e :: es) X.env = (false, eval e X.env) :: starEach es X.env := by rfl) (hpl : (backTo pos (starEach es X.env)).any (·.1) = false := by rfl) : AE X W (.Call (.Name x p) (e :: es) [] pos) (tCallA F ts) := by
  obtain ⟨f, fd, hm, hk, hb, G⟩ := C.ex
  refine PE.imp (pe_callSD (E := WE W) G hr hg hm hk hb .nil (fun σ => L2N.passAt tk σ) ha hdb he hpl) fun σ H Q q => ?_
  obtain ⟨HF, ρ, A, Kd, Ed, w, en, t, k, x⟩ := q
  refine ⟨HF, ρ, A, _, Ed, w, en, t, fun es1 ρ1 q1 HF1 H1 A1 vs Av f1 w1 en1 r1 => ?_, x⟩
  show spA X.K ps.length F (vs ++ []) H1 Q (WE W σ)
  rw [List.append_nil]
  exact call_sp C.len w1 en1 r1 q1 (k.step f1) (fun xd ρ2 q2 HF2 H2 A2 cls d f2 w2 en2 r2 => x xd ρ2 q2 HF2 H2 A2 cls d (f1.trans f2) w2 en2 r2)
end

/-! ### new things -/
/-- o at z is new; all else stands -/
structure New (K : PySem.W.Frag) (HF H HF' H' : Hp) (o : O) (z : V) (Az : List Addr) : Prop where
  fr : Fr H H' HF HF' [] Az
  wr : WR HF' H' Az
  rep : RepO K HF' H' o z Az
section
variable {K : PySem.W.Frag} {HF H : Hp}
theorem New.imm {d : D} {z : V} (s : Same HF H) (r : Rep K HF d z) : New K HF H HF H (.fz d) z [] := ⟨.refl, ⟨s, List.nodup_nil, fun _ h => by cases h⟩, ⟨rfl, r⟩⟩
theorem upd_eq {H : Hp} {p b : Addr} {o u : HO} (hp : H p = none) (h : H b = some u) : upd H p o b = some u := by rw [upd_ne (ne_of_none h hp)]; exact h
theorem Same.up {HF H : Hp} {p : Addr} {o : HO} (s : Same HF H) (hp : H p = none) : Same (upd HF p o) (upd H p o) := fun b u e => by
  by_cases hb : b = p
  · subst hb; rw [upd_same] at e ⊢; exact e
  · rw [upd_ne hb] at e ⊢; exact s b u e
theorem Same.new {H : Hp} {p : Addr} {o : HO} (hp : H p = none) : Same H (upd H p o) := fun b u e => upd_eq hp e
/-- a new pure object -/
theorem New.pure {d : D} {p : Addr} {u : HO} (s : Same HF H) (hp : H p = none) (r : Rep K (upd HF p u) d (.ref p)) : New K HF H (upd HF p u) (upd H p u) (.fz d) (.ref p) [] where
  fr := ⟨Same.new (s.free hp), fun q o e _ => upd_eq hp e, fun q o e _ f => by rw [upd_ne (ne_of_none e hp)]; exact f, fun _ h => by cases h⟩
  wr := ⟨Same.up s hp, List.nodup_nil, fun _ h => by cases h⟩
  rep := ⟨rfl, r⟩
theorem New.tup {ds : List D} {vs : List V} {p : Addr} (s : Same HF H) (hp : H p = none) (r : Reps K HF ds vs) : New K HF H (upd HF p (.tup vs)) (upd H p (.tup vs)) (.fz (.tup ds)) (.ref p) [] :=
  New.pure s hp ⟨p, vs, rfl, upd_same, Reps.mono (Same.new (s.free hp)) ds r⟩
/-- a new owned object -/
theorem New.own {o : O} {p : Addr} {u : HO} (s : Same HF H) (hp : H p = none) (r : RepO K HF (upd H p u) o (.ref p) [p]) : New K HF H HF (upd H p u) o (.ref p) [p] where
  fr := ⟨.refl _, fun q o e _ => upd_eq hp e, fun q o e _ f => f, fun q hq => .inr (by rw [List.mem_singleton.mp hq]; exact hp)⟩
  wr := ⟨s.trans (Same.new hp), by simp, fun a ha => by rw [List.mem_singleton.mp ha]; exact s.free hp⟩
  rep := r
theorem New.lst {ds : List D} {vs : List V} {p : Addr} (s : Same HF H) (hp : H p = none) (r : Reps K HF ds vs) : New K HF H HF (upd H p (.lst vs)) (.ls ds) (.ref p) [p] := New.own s hp ⟨p, vs, rfl, rfl, upd_same, r⟩
theorem KOk.new {σ : St} {ρ : Env} {A Av : List Addr} {Kd : KD} {Q : VK} {HF' H' : Hp} {o : O} {z : V} {Az : List Addr} (k : KOk K σ H HF (A ++ Av) Kd Q) (w : WR HF H (A ++ Av)) (en : EnvR K HF H ρ σ A) (q : Kd (.ow o) ρ) (n : New K HF H HF' H' o z Az) : Q z H' := by
  have tA := EnvR.there _ en
  obtain ⟨k1, k2, k3⟩ := n.fr.frame tA (fun _ _ h => by cases h)
  refine k _ ρ q HF' H' A z Az ?_ ⟨n.wr.same, List.nodup_append.mpr ⟨w.left.nodup, n.wr.nodup, fun a ha b hb e => k3 a ha (e ▸ hb)⟩, fun a ha => (List.mem_append.mp ha).elim (fun z => k2 a z (w.out a (List.mem_append_left _ z))) (n.wr.out a)⟩ (EnvR.keep n.fr.same _ en k1) n.rep
  exact n.fr.mono (fun _ h => by cases h) fun p hp => (List.mem_append.mp hp).elim (fun z => .inr (List.mem_append_left _ z)) .inl
end
/-- an operation on data: what it wants of the result -/
abbrev G1 := D → (O → Prop) → Prop
abbrev G2 := D → D → (O → Prop) → Prop
abbrev GN := List D → (O → Prop) → Prop
def p1 (g : G1) : Env → List EV → KD → Prop := fun ρ es Kd => match es with
  | [e] => (match dOf ρ e with
    | some d => g d (fun o => Kd (.ow o) ρ)
    | none => False)
  | _ => False
def p2 (g : G2) : Env → List EV → KD → Prop := fun ρ es Kd => match es with
  | [e, e'] => (match dOf ρ e with
    | some d => (match dOf ρ e' with
      | some d' => g d d' (fun o => Kd (.ow o) ρ)
      | none => False)
    | none => False)
  | _ => False
def dsOf (ρ : Env) : List EV → Option (List D)
  | [] => some []
  | e :: es => match dOf ρ e with
    | some d => (match dsOf ρ es with
      | some ds => some (d :: ds)
      | none => none)
    | none => none
def pN (g : GN) : Env → List EV → KD → Prop := fun ρ es Kd => match dsOf ρ es with
  | some ds => g ds (fun o => Kd (.ow o) ρ)
  | none => False
def Do1 (K : PySem.W.Frag) (r : V → Hp → VK → Prop) (g : G1) : Prop := ∀ HF H v d P Q, Same HF H → Vw K HF H d v → g d P → (∀ o z HF' H' Az, P o → New K HF H HF' H' o z Az → Q z H') → r v H Q
def Do2 (K : PySem.W.Frag) (r : R2) (g : G2) : Prop := ∀ HF H v v' d d' P Q, Same HF H → Vw K HF H d v → Vw K HF H d' v' → g d d' P → (∀ o z HF' H' Az, P o → New K HF H HF' H' o z Az → Q z H') → r v v' H Q
def DoN (K : PySem.W.Frag) (r : List V → Hp → VK → Prop) (g : GN) : Prop := ∀ HF H vs ds P Q, Same HF H → Vws K HF H ds vs → g ds P → (∀ o z HF' H' Az, P o → New K HF H HF' H' o z Az → Q z H') → r vs H Q
section
variable {K : PySem.W.Frag}
theorem prim1 {r : V → Hp → VK → Prop} {g : G1} (h : Do1 K r g) : Prim K (r1L r) (p1 g) := fun σ HF H ρ A Av evs vs Kd Q w en r q k => by
  match evs, q with
  | [e], q =>
    obtain ⟨v, ws, A1, A2, rfl, rfl, r1, r2⟩ := r
    obtain ⟨rfl, rfl⟩ := r2
    have q : (match dOf ρ e with | some d => g d (fun o => Kd (.ow o) ρ) | none => False) := q
    split at q
    · rename_i d ed
      exact h HF H v d _ Q w.same (Vw.ev w.same en r1 ed) q fun o z HF' H' Az po n => k.new w en po n
    · exact q.elim
theorem prim2 {r : R2} {g : G2} (h : Do2 K r g) : Prim K (r2L r) (p2 g) := fun σ HF H ρ A Av evs vs Kd Q w en r q k => by
  match evs, q with
  | [e, e'], q =>
    obtain ⟨v, ws, A1, A2, rfl, rfl, r1, r2⟩ := r
    obtain ⟨v', ws', A3, A4, rfl, rfl, r3, r4⟩ := r2
    obtain ⟨rfl, rfl⟩ := r4
    have q : (match dOf ρ e with | some d => (match dOf ρ e' with | some d' => g d d' (fun o => Kd (.ow o) ρ) | none => False) | none => False) := q
    split at q
    · rename_i d ed
      split at q
      · rename_i d' ed'
        exact h HF H v v' d d' _ Q w.same (Vw.ev w.same en r1 ed) (Vw.ev w.same en r3 ed') q fun o z HF' H' Az po n => k.new w en po n
      · exact q.elim
    · exact q.elim
theorem dsOf_ok {HF H : Hp} {ρ : Env} {σ : St} {A : List Addr} (s : Same HF H) (en : EnvR K HF H ρ σ A) : ∀ {es : List EV} {ds : List D} {vs : List V} {Av : List Addr}, EVRs K HF H σ es vs Av → dsOf ρ es = some ds → Vws K HF H ds vs
  | [], ds, vs, Av, r, h => by cases h; exact r.1
  | e :: es, ds, vs, Av, r, h => by
    obtain ⟨v, ws, A1, A2, rfl, rfl, r1, r2⟩ := r
    have h : (match dOf ρ e with | some d => (match dsOf ρ es with | some ds => some (d :: ds) | none => none) | none => none) = some ds := h
    split at h
    · rename_i d ed
      split at h
      · rename_i ds' eds
        cases h
        exact ⟨v, ws, rfl, Vw.ev s en r1 ed, dsOf_ok s en r2 eds⟩
      · cases h
    · cases h
theorem primN {r : List V → Hp → VK → Prop} {g : GN} (h : DoN K r g) : Prim K r (pN g) := fun σ HF H ρ A Av evs vs Kd Q w en r q k => by
  have q : (match dsOf ρ evs with | some ds => g ds (fun o => Kd (.ow o) ρ) | none => False) := q
  split at q
  · rename_i ds ed
    exact h HF H vs ds _ Q w.same (dsOf_ok w.same en r ed) q fun o z HF' H' Az po n => k.new w en po n
  · exact q.elim
end

/-! ### operators -/
theorem OpR.or {X : Cx} {f : Value → Value → Sem Value} {r r' : R2} (h : OpR X f r) (h' : OpR X f r') : OpR X f (fun x y H Q => r x y H Q ∨ r' x y H Q) := fun pins s σ H x y v u Q I rx ry q => q.elim (h pins s σ H x y v u Q I rx ry) (h' pins s σ H x y v u Q I rx ry)
def gAdd : G2
  | .int i, .int j, P => P (.fz (.int (i + j)))
  | .str a, .str b, P => a.length + b.length ≤ sizeLine ∧ P (.fz (.str (a ++ b)))
  | .lst a, .lst b, P => a.length + b.length ≤ sizeLine ∧ P (.ls (a ++ b))
  | .tup a, .tup b, P => a.length + b.length ≤ sizeLine ∧ P (.fz (.tup (a ++ b)))
  | _, _, _ => False
section
variable {X : Cx} {W : WX} {a b : Expr} {ta tb : TD} {pos : Pos}
theorem ae_add (ha : AE X W a ta) (hb : AE X W b tb) : AE X W (.BinOp a .Add b pos) (t2 (p2 gAdd) ta tb) := by
  refine ae_op (OpR.or op_add (OpR.or op_add_str (OpR.or op_cat op_catA))) (prim2 fun HF H v v' d d' P Q s r r' g k => ?_) ha hb
  unfold gAdd at g
  split at g
  · cases r; cases r'
    exact .inl ⟨_, _, rfl, rfl, k _ _ _ _ _ g (New.imm s rfl)⟩
  · cases r; cases r'
    exact .inr (.inl ⟨_, _, rfl, rfl, g.1, k _ _ _ _ _ g.2 (New.imm s rfl)⟩)
  · obtain ⟨p, vs, rfl, h1, r1⟩ := r
    obtain ⟨p', vs', rfl, h1', r1'⟩ := r'
    exact .inr (.inr (.inl ⟨p, p', vs, vs', rfl, rfl, h1, h1', by rw [r1.length, r1'.length]; exact g.1, fun q hq => k _ _ _ _ _ g.2 (New.lst s hq (r1.append r1'))⟩))
  · obtain ⟨p, vs, rfl, h1, r1⟩ := r
    obtain ⟨p', vs', rfl, h1', r1'⟩ := r'
    refine .inr (.inr (.inr ⟨p, p', vs, vs', rfl, rfl, SqT.of (s _ _ h1), SqT.of (s _ _ h1'), by rw [r1.length, r1'.length]; exact g.1, fun z => ?_, fun _ z => ?_, fun _ _ q hq => k _ _ _ _ _ g.2 (New.tup s hq (r1.append r1'))⟩))
    · subst z
      have : vs'.length = vs'.length := rfl
      have e := r1.length
      rename_i d1 d2
      have hd : d1 = [] := List.eq_nil_of_length_eq_zero e.symm
      subst hd
      exact k _ _ _ _ _ g.2 (New.imm s ⟨p', vs', rfl, h1', r1'⟩)
    · subst z
      have e := r1'.length
      rename_i d1 d2 _
      have hd : d2 = [] := List.eq_nil_of_length_eq_zero e.symm
      subst hd
      exact k (.fz (.tup d1)) _ _ _ _ (by simpa using g.2) (New.imm (d := .tup d1) s ⟨p, vs, rfl, h1, r1⟩)
  · exact g.elim
/-- ints in, data out -/
theorem do2_int {K : PySem.W.Frag} {C : Int → Int → Prop} {f : Int → Int → V} {gd : Int → Int → D} (hr : ∀ i j K H, Rep K H (gd i j) (f i j)) : Do2 K (rI C f) (fun d d' P => match d, d' with
    | .int i, .int j => C i j ∧ P (.fz (gd i j))
    | _, _ => False) := fun HF H v v' d d' P Q s r r' g k => by
  dsimp only at g
  split at g
  · cases r; cases r'
    exact ⟨_, _, rfl, rfl, g.1, k _ _ _ _ _ g.2 (New.imm s (hr _ _ _ _))⟩
  · exact g.elim
theorem do2_int0 {K : PySem.W.Frag} {f : Int → Int → V} {gd : Int → Int → D} (hr : ∀ i j K H, Rep K H (gd i j) (f i j)) : Do2 K (rI0 f) (fun d d' P => match d, d' with
    | .int i, .int j => P (.fz (gd i j))
    | _, _ => False) := fun HF H v v' d d' P Q s r r' g k => by
  dsimp only at g
  split at g
  · cases r; cases r'
    exact ⟨_, _, rfl, rfl, k _ _ _ _ _ g (New.imm s (hr _ _ _ _))⟩
  · exact g.elim
def gI (C : Int → Int → Prop) (gd : Int → Int → D) : G2 := fun d d' P => match d, d' with
    | .int i, .int j => C i j ∧ P (.fz (gd i j))
    | _, _ => False
def gI0 (gd : Int → Int → D) : G2 := fun d d' P => match d, d' with
    | .int i, .int j => P (.fz (gd i j))
    | _, _ => False
theorem ae_sub (ha : AE X W a ta) (hb : AE X W b tb) : AE X W (.BinOp a .Sub b pos) (t2 (p2 (gI0 fun i j => .int (i - j))) ta tb) := ae_op op_sub (prim2 (do2_int0 fun _ _ _ _ => rfl)) ha hb
theorem ae_mod (ha : AE X W a ta) (hb : AE X W b tb) : AE X W (.BinOp a .Mod b pos) (t2 (p2 (gI (fun _ j => 0 < j) fun i j => .int (i % j))) ta tb) := ae_op op_mod (prim2 (do2_int fun _ _ _ _ => rfl)) ha hb
theorem ae_fdiv (ha : AE X W a ta) (hb : AE X W b tb) : AE X W (.BinOp a .FloorDiv b pos) (t2 (p2 (gI CDivW fun i j => .int (i / j))) ta tb) := ae_op op_fdivW (prim2 (do2_int fun _ _ _ _ => rfl)) ha hb
theorem ae_xor (ha : AE X W a ta) (hb : AE X W b tb) : AE X W (.BinOp a .BitXor b pos) (t2 (p2 (gI0 fun i j => .int (Builtin.bitXor i j))) ta tb) := ae_op op_xor (prim2 (do2_int0 fun _ _ _ _ => rfl)) ha hb
theorem ae_lt (ha : AE X W a ta) (hb : AE X W b tb) : AE X W (.Compare a [.Lt] [b] pos) (t2 (p2 (gI0 fun i j => .bl (decide (i < j)))) ta tb) := ae_cmp op_lt (prim2 (do2_int0 fun _ _ _ _ => rfl)) ha hb (nomark _)
theorem ae_le (ha : AE X W a ta) (hb : AE X W b tb) : AE X W (.Compare a [.LtE] [b] pos) (t2 (p2 (gI0 fun i j => .bl (decide (i ≤ j)))) ta tb) := ae_cmp op_le (prim2 (do2_int0 fun _ _ _ _ => rfl)) ha hb (nomark _)
theorem ae_gt (ha : AE X W a ta) (hb : AE X W b tb) : AE X W (.Compare a [.Gt] [b] pos) (t2 (p2 (gI0 fun i j => .bl (decide (i > j)))) ta tb) := ae_cmp op_gt (prim2 (do2_int0 fun _ _ _ _ => rfl)) ha hb (nomark _)
theorem ae_ge (ha : AE X W a ta) (hb : AE X W b tb) : AE X W (.Compare a [.GtE] [b] pos) (t2 (p2 (gI0 fun i j => .bl (decide (i ≥ j)))) ta tb) := ae_cmp op_ge (prim2 (do2_int0 fun _ _ _ _ => rfl)) ha hb (nomark _)
end
end AE
/-! AE5: subscripts, displays, built-ins by name. -/
namespace AE
open PySem L2

section
variable {X : Cx} {W : WX} {a b : Expr} {ta tb : TD} {pos : Pos}
/-! ### products, powers -/
theorem ae_mul (ha : AE X W a ta) (hb : AE X W b tb) : AE X W (.BinOp a .Mult b pos) (t2 (p2 (gI CMulW fun i j => .int (i * j))) ta tb) := ae_op op_mulW (prim2 (do2_int fun _ _ _ _ => rfl)) ha hb
def CPowW (i j : Int) : Prop := 0 ≤ j ∧ (Builtin.Int.intBits i : Int) * j ≤ 2 ^ 27
theorem op_powW : OpR X (binaryOp .Pow) (rI CPowW fun i j => .int (i ^ j.toNat)) := opI fun _ _ _ _ _ _ _ hc q => PyProof.Rows.pow_int hc.1 hc.2 q
theorem ae_pow (ha : AE X W a ta) (hb : AE X W b tb) : AE X W (.BinOp a .Pow b pos) (t2 (p2 (gI CPowW fun i j => .int (i ^ j.toNat))) ta tb) := ae_op op_powW (prim2 (do2_int fun _ _ _ _ => rfl)) ha hb
def gNeg : G1 := fun d P => match d with
  | .int i => P (.fz (.int (-i)))
  | _ => False
theorem ae_neg (ha : AE X W a ta) : AE X W (.UnaryOp .USub a pos) (t1 (p1 gNeg) ta) := ae_un un_neg (prim1 fun HF H v d P Q s r g k => by
  unfold gNeg at g
  split at g
  · cases r; exact ⟨_, rfl, k _ _ _ _ _ g (New.imm s rfl)⟩
  · exact g.elim) ha

/-! ### subscripts -/
def gIx : G2 := fun d d' P => match d, d' with
  | .lst ds, .int i => ∃ d, atI ds i = some d ∧ P (.fz d)
  | .tup ds, .int i => ∃ d, atI ds i = some d ∧ P (.fz d)
  | .str z, .int i => z.length ≤ sizeLine ∧ ∃ c, atI z.cps.toList i = some c ∧ P (.fz (.str ⟨#[c]⟩))
  | .scr ns, .int i => ∃ n, atI ns i = some n ∧ P (.fz (.int n))
  | _, _ => False
theorem Reps.atI {K : PySem.W.Frag} {HF : Hp} {ds : List D} {vs : List V} {i : Int} {d : D} (r : Reps K HF ds vs) (h : L2.atI ds i = some d) : ∃ v, L2.atI vs i = some v ∧ Rep K HF d v := by
  unfold L2.atI at h ⊢
  rw [r.length]
  cases e : ixN ds.length i with
  | none => rw [e] at h; cases h
  | some j =>
    rw [e] at h
    exact r.get h
theorem do_ix {K : PySem.W.Frag} : Do2 K (rIx K) gIx := fun HF H v v' d d' P Q s r r' g k => by
  unfold gIx at g
  split at g
  · obtain ⟨p, vs, rfl, h1, r1⟩ := r
    cases r'
    obtain ⟨d1, e1, q⟩ := g
    obtain ⟨w, e2, r2⟩ := r1.atI e1
    exact .inl ⟨p, vs, _, w, rfl, rfl, SqL.of h1, e2, k _ _ _ _ _ q (New.imm s r2)⟩
  · obtain ⟨p, vs, rfl, h1, r1⟩ := r
    cases r'
    obtain ⟨d1, e1, q⟩ := g
    obtain ⟨w, e2, r2⟩ := r1.atI e1
    exact .inr (.inl ⟨p, vs, _, w, rfl, rfl, SqT.of (s _ _ h1), e2, k _ _ _ _ _ q (New.imm s r2)⟩)
  · cases r; cases r'
    obtain ⟨hz, c, e1, q⟩ := g
    exact .inr (.inr ⟨_, _, c, rfl, rfl, hz, e1, k _ _ _ _ _ q (New.imm s rfl)⟩)
  · obtain ⟨p, rfl, h1⟩ := r
    cases r'
    obtain ⟨n, e1, q⟩ := g
    refine .inl ⟨p, _, _, .int n, rfl, rfl, SqL.mono h1 s, ?_, k _ _ _ _ _ q (New.imm s rfl)⟩
    unfold L2.atI at e1 ⊢
    rw [List.length_map]
    rename_i ns i
    cases e : ixN ns.length i with
    | none => rw [e] at e1; cases e1
    | some j =>
      rw [e] at e1
      have e1 : ns[j]? = some n := e1
      show (ns.map V.int)[j]? = some (.int n)
      rw [List.getElem?_map, e1]; rfl
  · exact g.elim
theorem ae_sub_ix (ha : AE X W a ta) (hb : AE X W b tb) (hs : PlainIx b := by intro _ _; rfl) : AE X W (.Subscript a b pos) (t2 (p2 gIx) ta tb) := ae_ix ix_seq (prim2 do_ix) ha hb hs

/-! ### slices -/
theorem cut_reps {K : PySem.W.Frag} {HF : Hp} : ∀ {ds : List D} {vs : List V}, Reps K HF ds vs → ∀ n, Reps K HF (ds.drop n) (vs.drop n) ∧ Reps K HF (ds.take n) (vs.take n)
  | [], vs, h, n => by obtain rfl : vs = [] := h; simp only [List.drop_nil, List.take_nil]; exact ⟨rfl, rfl⟩
  | d :: ds, vs, h, 0 => ⟨h, rfl⟩
  | d :: ds, vs, h, n + 1 => by
    obtain ⟨v, ws, rfl, r, t⟩ := h
    obtain ⟨h1, h2⟩ := cut_reps t n
    exact ⟨h1, v, ws.take n, rfl, r, h2⟩
def cutD {α : Type} (xs : List α) (lo hi : Option Int) : List α := (xs.drop (HT.sIx xs.length 0 lo)).take (HT.sIx xs.length xs.length hi - HT.sIx xs.length 0 lo)
theorem cutD_reps {K : PySem.W.Frag} {HF : Hp} {ds : List D} {vs : List V} (r : Reps K HF ds vs) (lo hi : Option Int) : Reps K HF (cutD ds lo hi) (cutV vs lo hi) := by
  unfold cutD cutV
  rw [r.length]
  exact (cut_reps (cut_reps r _).1 _).2
theorem cutD_whole {α : Type} {xs : List α} {lo hi : Option Int} (h : HT.sIx xs.length 0 lo = 0 ∧ HT.sIx xs.length xs.length hi = xs.length) : cutD xs lo hi = xs := by
  unfold cutD
  rw [h.1, h.2]; simp
/-- an optional bound -/
def PartOf (d : Option D) : Option (Option Int) := match d with
  | none => some none
  | some (.int i) => some (some i)
  | some .non => some none
  | _ => none
def gSl (lo hi : Option Int) : G1 := fun d P => match d with
  | .lst ds => P (.ls (cutD ds lo hi))
  | .tup ds => P (.fz (.tup (cutD ds lo hi)))
  | .str z => z.length ≤ sizeLine ∧ P (.fz (.str (cutS z lo hi)))
  | _ => False
def rSlU (K : PySem.W.Frag) : V → Option Int → Option Int → Hp → VK → Prop := fun x lo hi H Q => rSlL K x lo hi H Q ∨ rSlA K x lo hi H Q ∨ rSlS x lo hi H Q
theorem SlR.or {r r' : V → Option Int → Option Int → Hp → VK → Prop} (h : SlR X r) (h' : SlR X r') : SlR X (fun x lo hi H Q => r x lo hi H Q ∨ r' x lo hi H Q) := fun pins s σ H x v vl vu lo hi sl Q I rx hs pl pu q => q.elim (h pins s σ H x v vl vu lo hi sl Q I rx hs pl pu) (h' pins s σ H x v vl vu lo hi sl Q I rx hs pl pu)
theorem sl_any : SlR X (rSlU X.K) := SlR.or sl_list (SlR.or sl_tupA sl_str)
theorem do_sl {K : PySem.W.Frag} (lo hi : Option Int) : Do1 K (fun x => rSlU K x lo hi) (gSl lo hi) := fun HF H v d P Q s r g k => by
  unfold gSl at g
  split at g
  · obtain ⟨p, vs, rfl, h1, r1⟩ := r
    exact .inl ⟨p, vs, rfl, SqL.of h1, fun q hq => k _ _ _ _ _ g (New.lst s hq (cutD_reps r1 lo hi))⟩
  · obtain ⟨p, vs, rfl, h1, r1⟩ := r
    refine .inr (.inl ⟨p, vs, rfl, SqT.of (s _ _ h1), fun z => ?_, fun _ q hq => k _ _ _ _ _ g (New.tup s hq (cutD_reps r1 lo hi))⟩)
    rename_i ds
    have z' : cutD ds lo hi = ds := cutD_whole (by rw [← r1.length]; exact z)
    rw [z'] at g
    exact k _ _ _ _ _ g (New.imm s ⟨p, vs, rfl, h1, r1⟩)
  · cases r
    exact .inr (.inr ⟨_, rfl, g.1, k _ _ _ _ _ g.2 (New.imm s rfl)⟩)
  · exact g.elim

abbrev TDo := Env → (Option Int → Env → Prop) → XC → Prop
def KOko (K : PySem.W.Frag) (σ : St) (H HF : Hp) (A : List Addr) (Kd : Option Int → Env → Prop) (Q : Option Int → Hp → Prop) : Prop := ∀ b ρ, Kd b ρ → ∀ HF' H' A', Fr H H' HF HF' A A' → WR HF' H' A' → EnvR K HF' H' ρ σ A' → Q b H'
def tAo (K : PySem.W.Frag) (W : WX) (t : TDo) : TO := fun σ H Q => ∃ HF ρ A Kd Ed, WR HF H A ∧ EnvR K HF H ρ σ A ∧ t ρ Kd Ed ∧ KOko K σ H HF A Kd Q ∧ XOk K σ H HF A Ed W
def AO (X : Cx) (W : WX) (e : Option Expr) (t : TDo) : Prop := PO X e (tAo X.K W t)
theorem PO.imp {e : Option Expr} {t u : TO} (h : PO X e t) (i : ∀ σ H Q, u σ H Q → t σ H Q) : PO X e u := ⟨fun pins s σ H Q I q => h.run pins s σ H Q I (i σ H Q q)⟩
def tNoD : TDo := fun ρ Kd _ => Kd none ρ
def tPartD (t : TD) : TDo := fun ρ Kd Ed => t ρ (fun e ρ1 => match dOf ρ1 e with
  | some (.int i) => Kd (some i) ρ1
  | _ => False) Ed
theorem ao_none : AO X W none tNoD := PO.imp po_none fun σ H Q q => by
  obtain ⟨HF, ρ, A, Kd, Ed, w, en, t, k, x⟩ := q
  exact k none ρ t HF H A .refl w en
theorem ao_some (ha : AE X W a ta) : AO X W (some a) (tPartD ta) := PO.imp (po_some ha) fun σ H Q q => by
  obtain ⟨HF, ρ, A, Kd, Ed, w, en, t, k, x⟩ := q
  refine ⟨HF, ρ, A, _, Ed, w, en, t, fun e1 ρ1 q1 HF1 H1 A1 v1 Av1 f1 w1 en1 r1 => ?_, x⟩
  dsimp only at q1
  split at q1
  · rename_i i e2
    have r2 : Vw X.K HF1 H1 (.int i) v1 := Vw.ev w1.same en1 r1 e2
    exact ⟨i, r2, k (some i) ρ1 q1 HF1 H1 A1 (f1.mono (fun _ hp => hp) fun p hp => .inl (List.mem_append_left _ hp)) w1.left en1⟩
  · exact q1.elim
def tSlD (te : TD) (tl th : TDo) : TD := fun ρ Kd Ed => te ρ (fun e1 ρ1 => tl ρ1 (fun lo ρ2 => th ρ2 (fun hi ρ3 => p1 (gSl lo hi) ρ3 [e1] Kd) Ed) Ed) Ed
theorem ae_slice {lo hi : Option Expr} {tl th : TDo} {p2 : Pos} (ha : AE X W a ta) (hl : AO X W lo tl) (hh : AO X W hi th) : AE X W (.Subscript a (.Slice lo hi none p2) pos) (tSlD ta tl th) := PE.imp (pe_slice sl_any ha hl hh) fun σ H Q q => by
  obtain ⟨HF, ρ, A, Kd, Ed, w, en, t, k, x⟩ := q
  refine ⟨HF, ρ, A, _, Ed, w, en, t, fun e1 ρ1 q1 HF1 H1 A1 v1 Av1 f1 w1 en1 r1 => ?_, x⟩
  have x1 : XOk X.K σ H1 HF1 A1 Ed W := (x.step f1).step (Fr.drop fun p hp => List.mem_append_left _ hp)
  refine ⟨HF1, ρ1, A1, _, Ed, w1.left, en1, q1, fun l ρ2 q2 HF2 H2 A2 f2 w2 en2 => ?_, x1⟩
  refine ⟨HF2, ρ2, A2, _, Ed, w2, en2, q2, fun h ρ3 q3 HF3 H3 A3 f3 w3 en3 => ?_, x1.step f2⟩
  have f23 : Fr H1 H3 HF1 HF3 A1 (A3 ++ []) := by rw [List.append_nil]; exact f2.trans f3
  obtain ⟨w4, f4, k4⟩ := join (Ay := []) w1 (EVR.there r1) f23 (by rw [List.append_nil]; exact w3)
  rw [List.append_nil] at w4 f4
  refine prim1 (do_sl l h) σ HF3 H3 ρ3 A3 Av1 [e1] [v1] Kd Q w4 en3 ⟨v1, [], Av1, [], rfl, by simp, EVR.keep f23.same r1 k4, rfl, rfl⟩ q3 ?_
  exact (k.step f1).step f4
end

/-! ### displays -/
/-- what is put into a display is pure from then on -/
def storedD : List EV → Option (List D)
  | [] => some []
  | .ow o :: es => match storedD es with
    | some ds => some (frz o :: ds)
    | none => none
  | .pt _ :: _ => none
theorem stored_ok {K : PySem.W.Frag} {HF HG H : Hp} {σ : St} (s : Same HF HG) : ∀ {es : List EV} {vs : List V} {Av : List Addr} {ds : List D}, EVRs K HF H σ es vs Av → storedD es = some ds → (∀ p ∈ Av, HG p = H p) → Reps K HG ds vs
  | [], vs, Av, ds, r, h, k => by cases h; exact r.1
  | .pt _ :: es, vs, Av, ds, r, h, k => by cases h
  | .ow o :: es, vs, Av, ds, r, h, k => by
    have h : (match storedD es with | some ds => some (frz o :: ds) | none => none) = some ds := h
    split at h
    · rename_i ds' e
      cases h
      obtain ⟨v, ws, A1, A2, rfl, rfl, r1, r2⟩ := r
      exact ⟨v, ws, rfl, RepO.frz s o r1 fun p hp => k p (List.mem_append_left _ hp), stored_ok s r2 e fun p hp => k p (List.mem_append_right _ hp)⟩
    · cases h
section
variable {X : Cx} {W : WX} {es : List Expr} {ts : TDs} {pos : Pos}
def tDisp (mk : List D → O) (ts : TDs) : TD := fun ρ Kd Ed => ts ρ (fun evs ρ1 => match storedD evs with
  | some ds => ds.length ≤ sizeLine ∧ Kd (.ow (mk ds)) ρ1
  | none => False) Ed
theorem disp_ok {K : PySem.W.Frag} {σ : St} {HF1 H1 : Hp} {ρ1 : Env} {A1 Av : List Addr} {evs : List EV} {vs : List V} {ds : List D} {Kd : KD} {Q : VK} {o : O} {u : HO} (w1 : WR HF1 H1 (A1 ++ Av)) (en1 : EnvR K HF1 H1 ρ1 σ A1) (r1 : EVRs K HF1 H1 σ evs vs Av) (e : storedD evs = some ds)
    (q : Kd (.ow o) ρ1) (k : KOk K σ H1 HF1 (A1 ++ Av) Kd Q) (hn : ∀ HG, Same HG H1 → Reps K HG ds vs → ∀ p, H1 p = none → ∃ HF' H' Az, H' = upd H1 p u ∧ New K HG H1 HF' H' o (.ref p) Az) : ∀ p, H1 p = none → Q (.ref p) (upd H1 p u) := fun p hp => by
  obtain ⟨s1, w2, f2⟩ := grow_ok (w1.perm List.perm_append_comm)
  have rs : Reps K (grow HF1 H1 Av) ds vs := stored_ok s1 r1 e fun p hp => grow_in hp
  have f3 : Fr H1 H1 HF1 (grow HF1 H1 Av) (A1 ++ Av) (A1 ++ []) := f2.mono (fun p hp => (List.mem_append.mp hp).elim (fun z => List.mem_append_right _ z) (fun z => List.mem_append_left _ z)) fun p hp => .inl (by simpa using hp)
  obtain ⟨HF', H', Az, rfl, n⟩ := hn _ w2.same rs p hp
  exact (k.step f3).new (Av := []) (by rw [List.append_nil]; exact w2) (EnvR.keep s1 _ en1 fun _ _ => rfl) q n
theorem ae_tup {x1} (h : AA X W es ts) : AE X W (.Tuple es x1 pos) (tDisp (fun ds => .fz (.tup ds)) ts) := PE.imp (pe_tup h) fun σ H Q q => by
  obtain ⟨HF, ρ, A, Kd, Ed, w, en, t, k, x⟩ := q
  refine ⟨HF, ρ, A, _, Ed, w, en, t, fun evs ρ1 q1 HF1 H1 A1 vs Av f1 w1 en1 r1 => ?_, x⟩
  dsimp only at q1
  split at q1
  · rename_i ds e
    have hl : vs.length = ds.length := (stored_ok (HG := grow HF1 H1 Av) (grow_ok (w1.perm List.perm_append_comm)).1 r1 e fun p hp => grow_in hp).length
    exact ⟨by rw [hl]; exact q1.1, disp_ok w1 en1 r1 e q1.2 (k.step f1) fun HG s rs p hp => ⟨_, _, _, rfl, New.tup s hp rs⟩⟩
  · exact q1.elim
theorem ae_lst (h : AA X W es ts) : AE X W (.List es pos) (tDisp (fun ds => .ls ds) ts) := PE.imp (pe_lst h) fun σ H Q q => by
  obtain ⟨HF, ρ, A, Kd, Ed, w, en, t, k, x⟩ := q
  refine ⟨HF, ρ, A, _, Ed, w, en, t, fun evs ρ1 q1 HF1 H1 A1 vs Av f1 w1 en1 r1 => ?_, x⟩
  dsimp only at q1
  split at q1
  · rename_i ds e
    have hl : vs.length = ds.length := (stored_ok (HG := grow HF1 H1 Av) (grow_ok (w1.perm List.perm_append_comm)).1 r1 e fun p hp => grow_in hp).length
    exact ⟨by rw [hl]; exact q1.1, disp_ok w1 en1 r1 e q1.2 (k.step f1) fun HG s rs p hp => ⟨_, _, _, rfl, New.lst s hp rs⟩⟩
  · exact q1.elim
end
end AE
/-! AE6: what is walked; for; list comprehensions. -/
namespace AE
open PySem L2

/-- the items of what is walked: known while the pure part and what is held at Av stand -/
def SrcR (K : PySem.W.Frag) (HF H : Hp) (items : List D) (Av : List Addr) (J : It) : Prop := ∃ G Y, Walk J items.length G Y ∧ (∀ HF2 H2, Same HF HF2 → Same HF2 H2 → (∀ p ∈ Av, H2 p = H p) → G H2) ∧
  ∀ i HF2 H2 x H3, Same HF HF2 → Same HF2 H2 → (∀ p ∈ Av, H2 p = H p) → i < items.length → Y i H2 x H3 → ∃ d HF3, items[i]? = some d ∧ Fr H2 H3 HF2 HF3 [] [] ∧ Same HF3 H3 ∧ Rep K HF3 d x
abbrev TId := Env → (List D → Env → Prop) → XC → Prop
def tAI (K : PySem.W.Frag) (W : WX) (t : TId) : TI := fun σ H R => ∃ HF ρ A Kd Ed, WR HF H A ∧ EnvR K HF H ρ σ A ∧ t ρ Kd Ed ∧
  (∀ items ρ', Kd items ρ' → ∀ HF' H' A' Av J, Fr H H' HF HF' A (A' ++ Av) → WR HF' H' (A' ++ Av) → (∀ p ∈ Av, ∃ o, H' p = some o) → EnvR K HF' H' ρ' σ A' → SrcR K HF' H' items Av J → R J H') ∧ XOk K σ H HF A Ed W
def AI (X : Cx) (W : WX) (tg iter : Expr) (t : TId) : Prop := PI X tg iter (tAI X.K W t)
theorem PI.imp {X : Cx} {tg iter : Expr} {t u : TI} (h : PI X tg iter t) (i : ∀ σ H R, u σ H R → t σ H R) : PI X tg iter u := ⟨fun pins s σ H R I q => h.run pins s σ H R I (i σ H R q)⟩

/-! ### the things that are walked -/
/-- a list or a tuple that a value shows -/
def tISeq (te : TD) : TId := fun ρ Kd Ed => te ρ (fun ev ρ1 => match ev with
  | .ow (.fz (.lst ds)) => Kd ds ρ1
  | .ow (.fz (.tup ds)) => Kd ds ρ1
  | .ow (.fz (.kt ds)) => Kd ds ρ1
  | .ow (.ls ds) => Kd ds ρ1
  | .ow (.fz (.str z)) => Kd (z.cps.toList.map fun c => .str ⟨#[c]⟩) ρ1
  | _ => False) Ed
section
variable {X : Cx} {W : WX} {tg l : Expr} {te : TD}
theorem src_at {K : PySem.W.Frag} {HF H : Hp} {ds : List D} {vs : List V} {Av : List Addr} {J : It} {G : Hp → Prop} (w : Walk J vs.length G (YAt vs)) (r : Reps K HF ds vs) (hG : ∀ HF2 H2, Same HF HF2 → Same HF2 H2 → (∀ p ∈ Av, H2 p = H p) → G H2) : SrcR K HF H ds Av J := by
  refine ⟨G, YAt vs, by rw [← r.length]; exact w, hG, fun i HF2 H2 x H3 s1 s2 k hi y => ?_⟩
  obtain ⟨rfl, hx⟩ := y
  obtain ⟨d, hd, rd⟩ := r.getV hx
  exact ⟨d, HF2, hd, Fr.refl, s2, Rep.mono s1 d rd⟩
/-- list, tuple or text -/
def iAny (K : PySem.W.Frag) (tl : TE) : TI := fun σ H R => tl σ H fun x H1 => (∃ a, x = .ref a ∧ (∃ xs, SqL K H1 a xs) ∧ R (Itl K a) H1) ∨ (∃ a, x = .ref a ∧ (∃ xs, SqT K H1 a xs) ∧ R (Itt K a) H1) ∨ ∃ z, x = .str z ∧ R (Its z) H1
theorem pi_any {tl : TE} (hl : PE X l tl) : PI X tg l (iAny X.K tl) := by
  refine ⟨fun pins s σ H R I h => ?_⟩
  refine thn (hl.run pins s σ H _ I h) fun v s1 ⟨x, H1, I1, r1, q1⟩ => ?_
  rcases q1 with ⟨a, e, ⟨xs, hq⟩, q⟩ | ⟨a, e, ⟨xs, hq⟩, q⟩ | ⟨z, e, q⟩
  · subst e
    cases r1
    obtain ⟨its, rv, p, hz⟩ := I1.list hq
    refine wpAny_pyIter_list p.isList ?_
    refine ⟨s1.heap.objs.size, [s1.heap.objs.size], _, _, H1, rfl, I1.kept (t' := s1.toks) fun b o e => Heap.get?_push_of_some _ e, turn_list a _, ⟨_, Heap.get?_push_size _ rfl, rfl, rfl⟩, fun b hb => ?_, q⟩
    have e : b = s1.heap.objs.size := by simpa using hb
    subst e
    exact I1.fpOk (Nat.le_refl _) (I1.hok.fresh (Nat.le_refl _))
  · subst e
    cases r1
    obtain ⟨its, rv, p, hz⟩ := I1.tuple hq
    refine wpAny_pyIter_tuple (show s1.heap.IsTuple a its.toArray from p) ?_
    refine ⟨s1.heap.objs.size, [s1.heap.objs.size], _, _, H1, rfl, I1.kept (t' := s1.toks) fun b o e => Heap.get?_push_of_some _ e, turn_tuple a _, ⟨_, Heap.get?_push_size _ rfl, rfl, rfl⟩, fun b hb => ?_, q⟩
    have e : b = s1.heap.objs.size := by simpa using hb
    subst e
    exact I1.fpOk (Nat.le_refl _) (I1.hok.fresh (Nat.le_refl _))
  · subst e
    obtain ⟨t, rfl⟩ := r1
    cases ha : z.cps.all (· < 128)
    · exact wpAny_pyIter_wide ha (pi_one (tk := s1.toks) I1 _ (turn_str _ z t "str_iterator" (.inr rfl)) ⟨_, Heap.get?_push_size _ rfl, rfl, rfl⟩ q)
    · exact wpAny_pyIter_ascii ha (pi_one (tk := s1.toks) I1 _ (turn_str _ z t "str_ascii_iterator" (.inl rfl)) ⟨_, Heap.get?_push_size _ rfl, rfl, rfl⟩ q)
theorem ai_seq (hl : AE X W l te) : AI X W tg l (tISeq te) := PI.imp (pi_any hl) fun σ H R q => by
  obtain ⟨HF, ρ, A, Kd, Ed, w, en, t, k, x⟩ := q
  refine ⟨HF, ρ, A, _, Ed, w, en, t, fun ev ρ1 q1 HF1 H1 A1 v Av f1 w1 en1 r1 => ?_, x⟩
  dsimp only at q1
  split at q1
  · obtain ⟨rfl, a, vs, rfl, h1, rs⟩ := r1
    refine .inl ⟨a, rfl, ⟨vs, SqL.of (w1.same _ _ h1)⟩, k _ ρ1 q1 HF1 H1 A1 [] _ f1 w1 (fun _ h => by cases h) en1 (src_at (walk_list (xs := vs)) rs fun HF2 H2 s1 s2 _ => SqL.of (s2 _ _ (s1 _ _ h1)))⟩
  · obtain ⟨rfl, a, vs, rfl, h1, rs⟩ := r1
    refine .inr (.inl ⟨a, rfl, ⟨vs, SqT.of (w1.same _ _ h1)⟩, k _ ρ1 q1 HF1 H1 A1 [] _ f1 w1 (fun _ h => by cases h) en1 (src_at (walk_tup (xs := vs)) rs fun HF2 H2 s1 s2 _ => SqT.of (s2 _ _ (s1 _ _ h1)))⟩)
  · obtain ⟨rfl, a, vs, rfl, h1, rs⟩ := r1
    refine .inr (.inl ⟨a, rfl, ⟨vs, SqT.mono h1 w1.same⟩, k _ ρ1 q1 HF1 H1 A1 [] _ f1 w1 (fun _ h => by cases h) en1 (src_at (walk_tup (xs := vs)) rs fun HF2 H2 s1 s2 _ => SqT.mono (SqT.mono h1 s1) s2)⟩)
  · obtain ⟨a, vs, rfl, rfl, h1, rs⟩ := r1
    refine .inl ⟨a, rfl, ⟨vs, SqL.of h1⟩, k _ ρ1 q1 HF1 H1 A1 [a] _ f1 w1 (fun p hp => by rw [List.mem_singleton.mp hp]; exact ⟨_, h1⟩) en1 (src_at (walk_list (xs := vs)) rs fun HF2 H2 s1 s2 k2 => SqL.of ((k2 a (by simp)).trans h1))⟩
  · obtain ⟨rfl, rfl⟩ := r1
    rename_i z
    refine .inr (.inr ⟨z, rfl, k _ ρ1 q1 HF1 H1 A1 [] _ f1 w1 (fun _ h => by cases h) en1 ⟨_, _, (by rw [List.length_map, Array.length_toList]; exact walk_str), fun _ _ _ _ _ => trivial, fun i HF2 H2 y H3 s1 s2 _ hi yy => ?_⟩⟩)
    obtain ⟨rfl, c, hc, rfl⟩ := yy
    refine ⟨.str ⟨#[c]⟩, HF2, ?_, Fr.refl, s2, rfl⟩
    rw [List.getElem?_map, Array.getElem?_toList, hc]; rfl
  · exact q1.elim

/-- the ints from lo on -/
def rngD (lo : Int) (n : Nat) : List D := (List.range n).map fun i => .int (lo + (i : Nat))
theorem rngD_len {lo : Int} {n : Nat} : (rngD lo n).length = n := by simp [rngD]
theorem src_range {K : PySem.W.Frag} {HF H : Hp} {Av : List Addr} {lo : Int} {n : Nat} : SrcR K HF H (rngD lo n) Av (Itr lo n) := by
  refine ⟨_, _, (by rw [rngD_len]; exact walk_range), fun _ _ _ _ _ => trivial, fun i HF2 H2 y H3 s1 s2 _ hi yy => ?_⟩
  obtain ⟨rfl, rfl⟩ := yy
  rw [rngD_len] at hi
  exact ⟨.int (lo + (i : Nat)), HF2, by simp [rngD, hi], Fr.refl, s2, rfl⟩
def tIRng1 (ts : TDs) : TId := fun ρ Kd Ed => ts ρ (fun evs ρ1 => match dsOf ρ1 evs with
  | some [.int j] => -(2 ^ 62) ≤ j ∧ j < 2 ^ 62 ∧ Kd (rngD 0 j.toNat) ρ1
  | _ => False) Ed
def tIRng2 (ts : TDs) : TId := fun ρ Kd Ed => ts ρ (fun evs ρ1 => match dsOf ρ1 evs with
  | some [.int i, .int j] => (-(2 ^ 62) ≤ i ∧ i < 2 ^ 62 ∧ -(2 ^ 62) ≤ j ∧ j < 2 ^ 62) ∧ Kd (rngD i (j - i).toNat) ρ1
  | _ => False) Ed
theorem Vws.one {K : PySem.W.Frag} {HF H : Hp} {d : D} {vs : List V} (h : Vws K HF H [d] vs) : ∃ v, vs = [v] ∧ Vw K HF H d v := by
  obtain ⟨v, ws, rfl, r, rfl⟩ := h
  exact ⟨v, rfl, r⟩
theorem Vws.two {K : PySem.W.Frag} {HF H : Hp} {d d' : D} {vs : List V} (h : Vws K HF H [d, d'] vs) : ∃ v v', vs = [v, v'] ∧ Vw K HF H d v ∧ Vw K HF H d' v' := by
  obtain ⟨v, ws, rfl, r, v', ws', rfl, r', rfl⟩ := h
  exact ⟨v, v', rfl, r, r'⟩
theorem ai_range1 {a : Expr} {ts : TDs} {p pos : Pos} (hg : Gl X "range") (hm : X.mg "range" = none) (ha : AA X W [a] ts) (hs : starEach [a] X.env = [(false, eval a X.env)] := by rfl) : AI X W tg (.Call (.Name "range" p) [a] [] pos) (tIRng1 ts) := PI.imp (pi_range1 hg hm ha hs) fun σ H R q => by
  obtain ⟨HF, ρ, A, Kd, Ed, w, en, t, k, x⟩ := q
  refine ⟨HF, ρ, A, _, Ed, w, en, t, fun evs ρ1 q1 HF1 H1 A1 vs Av f1 w1 en1 r1 => ?_, x⟩
  dsimp only at q1
  split at q1
  · rename_i j e
    obtain ⟨v, rfl, rv⟩ := (dsOf_ok w1.same en1 r1 e).one
    cases (show v = .int j from rv)
    exact ⟨j, rfl, q1.1, q1.2.1, k _ ρ1 q1.2.2 HF1 H1 A1 [] _ (f1.mono (fun _ h => h) fun p hp => .inl (List.mem_append_left _ (by simpa using hp))) (by rw [List.append_nil]; exact w1.left) (fun _ h => by cases h) en1 src_range⟩
  · exact q1.elim
theorem ai_range2 {a b : Expr} {ts : TDs} {p pos : Pos} (hg : Gl X "range") (hm : X.mg "range" = none) (ha : AA X W [a, b] ts) (hs : starEach [a, b] X.env = [(false, eval a X.env), (false, eval b X.env)] := by rfl) (hs2 : starEach [b] X.env = [(false, eval b X.env)] := by rfl) :
    AI X W tg (.Call (.Name "range" p) [a, b] [] pos) (tIRng2 ts) := PI.imp (pi_range2 hg hm ha hs hs2) fun σ H R q => by
  obtain ⟨HF, ρ, A, Kd, Ed, w, en, t, k, x⟩ := q
  refine ⟨HF, ρ, A, _, Ed, w, en, t, fun evs ρ1 q1 HF1 H1 A1 vs Av f1 w1 en1 r1 => ?_, x⟩
  dsimp only at q1
  split at q1
  · rename_i i j e
    obtain ⟨v, v', rfl, rv, rv'⟩ := (dsOf_ok w1.same en1 r1 e).two
    cases (show v = .int i from rv)
    cases (show v' = .int j from rv')
    exact ⟨i, j, rfl, q1.1, k _ ρ1 q1.2 HF1 H1 A1 [] _ (f1.mono (fun _ h => h) fun p hp => .inl (List.mem_append_left _ (by simpa using hp))) (by rw [List.append_nil]; exact w1.left) (fun _ h => by cases h) en1 src_range⟩
  · exact q1.elim

/-! ### for -/
/-- I: what holds between two turns -/
def tForD (ti : TId) (g : TGD) (tb : TSD) : TSD := fun E Ed ρ => ti ρ (fun items ρ1 => ∃ I : Nat → Env → Prop, I 0 ρ1 ∧
  (∀ i d ρ, items[i]? = some d → I i ρ → g (.fz d) ρ (fun ρ2 => tb { E with nx := I (i + 1), ct := I (i + 1), bk := E.nx } Ed ρ2)) ∧ ∀ ρ, I items.length ρ → E.nx ρ) Ed
theorem as_for {P : Prot} {iter : Expr} {body : List Stmt} {ti : TId} {g : TGD} {tb : TSD} {pos : Pos} (hp : PassesOwn (model X.prog X.w) X.A X.env X.xe) (hc : X.calm = true) (hi : AI X W tg iter ti) (hg : AG X P tg g) (hb : ASs X W P body tb)
    (hs : ∀ x, foldedSetIterable iter X.env x = pure x := by intro _; rfl) : AS X W P (.For tg iter body [] pos) (tForD ti g tb) := PS.imp (ps_for hp hc hi hg hb hs) fun D σ H q => by
  obtain ⟨HF, ρ, A, E, Ed, w, en, t, k, x⟩ := q
  refine ⟨HF, ρ, A, _, Ed, w, en, t, fun items ρ1 q1 HF1 H1 A1 Av J f1 w1 tv en1 src => ?_, x.x⟩
  obtain ⟨I, i0, turn, fin⟩ := q1
  obtain ⟨G, Y, wk, hG, hY⟩ := src
  have st : ∀ {HF2 H2 : Hp} {A2 : List Addr}, Fr H1 H2 HF1 HF2 A1 A2 → WR HF2 H2 A2 → WR HF2 H2 (A2 ++ Av) ∧ Fr H1 H2 HF1 HF2 (A1 ++ Av) (A2 ++ Av) ∧ ∀ p ∈ Av, H2 p = H1 p := fun {HF2 H2 A2} f2 w2 => by
    have := join (Ay := []) w1 tv (A2 := A2) (by rw [List.append_nil]; exact f2) (by rw [List.append_nil]; exact w2)
    simpa using this
  refine for_it wk (fun i σ2 H2 => ∃ HF2 ρ2 A2, Pr P σ σ2 ∧ Fr H1 H2 HF1 HF2 A1 A2 ∧ WR HF2 H2 A2 ∧ EnvR X.K HF2 H2 ρ2 σ2 A2 ∧ I i ρ2) ⟨HF1, ρ1, A1, .refl, .refl, w1.left, en1, i0⟩ ?_ ?_ ?_
  · rintro i σ2 H2 hi ⟨HF2, ρ2, A2, p2, f2, w2, en2, i2⟩
    exact hG HF2 H2 f2.same w2.same (st f2 w2).2.2
  · rintro i y σ2 H2 H3 hi ⟨HF2, ρ2, A2, p2, f2, w2, en2, i2⟩ yy
    obtain ⟨d, HF3, hd, f3, s3, rd⟩ := hY i HF2 H2 y H3 f2.same w2.same (st f2 w2).2.2 hi yy
    obtain ⟨k1, k2, k3⟩ := f3.frame (EnvR.there _ en2) (fun _ _ h => by cases h)
    have w3 : WR HF3 H3 A2 := ⟨s3, w2.nodup, fun a ha => k2 a ha (w2.out a ha)⟩
    have f23 : Fr H2 H3 HF2 HF3 A2 A2 := f3.mono (fun _ h => by cases h) fun p hp => .inr hp
    have f13 := f2.trans f23
    have fH : ∀ {H4 HF4 : Hp} {A4 : List Addr}, Fr H1 H4 HF1 HF4 A1 A4 → Fr H H4 HF HF4 A A4 := fun f => f1.trans (f.mono (fun p hp => List.mem_append_left _ hp) fun p hp => .inl hp)
    refine ⟨HF3, ρ2, A2, .fz d, [], _, by rw [List.append_nil]; exact w3, EnvR.keep f3.same _ en2 k1, ⟨rfl, rd⟩, turn i d ρ2 hd i2, fun ρ4 q4 HF4 H4 σ4 A4 p4 f4 w4 en4 => ?_⟩
    rw [List.append_nil] at f4
    have f14 := f13.trans f4
    refine ⟨HF4, ρ4, A4, _, Ed, w4, en4, q4, ⟨fun ρ5 n5 HF5 H5 σ5 A5 p5 f5 w5 en5 => ⟨HF5, ρ5, A5, (p2.trans p4).trans p5, f14.trans f5, w5, en5, n5⟩, ?_, ?_, fun ρ5 n5 HF5 H5 σ5 A5 p5 f5 w5 en5 => ⟨HF5, ρ5, A5, (p2.trans p4).trans p5, f14.trans f5, w5, en5, n5⟩⟩, ?_⟩
    · exact k.rt.step (p2.trans p4) (fH f14)
    · exact k.nx.step (p2.trans p4) (fH f14)
    · exact x.step (p2.trans p4) (fH f14)
  · rintro σ2 H2 ⟨HF2, ρ2, A2, p2, f2, w2, en2, i2⟩
    exact k.nx ρ2 (fin ρ2 i2) HF2 H2 σ2 A2 p2 (f1.trans (f2.mono (fun p hp => List.mem_append_left _ hp) fun p hp => .inl hp)) w2 en2

/-! ### while -/
def tWhileD (c : TDt) (tb : TSD) : TSD := fun E Ed ρ => ∃ I : Nat → Env → Prop, (∃ m, I m ρ) ∧ ∀ m ρ, I m ρ → c ρ (fun b ρ1 => if b = true then tb { E with nx := fun ρ' => ∃ m', m' < m ∧ I m' ρ', ct := fun ρ' => ∃ m', m' < m ∧ I m' ρ', bk := E.nx } Ed ρ1 else E.nx ρ1) Ed
theorem as_while {P : Prot} {c : Expr} {body : List Stmt} {tc : TDt} {tb : TSD} {pos : Pos} (hp : PassesOwn (model X.prog X.w) X.A X.env X.xe) (hc : AT X W c tc) (hb : ASs X W P body tb) : AS X W P (.While c body [] pos) (tWhileD tc tb) := PS.imp (ps_while hp hc hb) fun D σ H q => by
  obtain ⟨HF, ρ, A, E, Ed, w, en, t, k, x⟩ := q
  obtain ⟨I, ⟨m0, i0⟩, turn⟩ := t
  refine ⟨fun m σ2 H2 => ∃ HF2 ρ2 A2, Pr P σ σ2 ∧ Fr H H2 HF HF2 A A2 ∧ WR HF2 H2 A2 ∧ EnvR X.K HF2 H2 ρ2 σ2 A2 ∧ I m ρ2, ⟨m0, HF, ρ, A, .refl, .refl, w, en, i0⟩, ?_⟩
  rintro m σ2 H2 ⟨HF2, ρ2, A2, p2, f2, w2, en2, i2⟩
  refine ⟨HF2, ρ2, A2, _, Ed, w2, en2, turn m ρ2 i2, fun b ρ3 q3 HF3 H3 A3 f3 w3 en3 => ?_, (x.step p2 f2).x⟩
  have f13 := f2.trans f3
  cases b with
  | true =>
    simp only [↓reduceIte] at q3
    refine (if_pos rfl).mpr ⟨_, fun σ' H' z => z, HF3, ρ3, A3, _, Ed, w3, en3, q3, ⟨fun ρ5 n5 HF5 H5 σ5 A5 p5 f5 w5 en5 => ?_, k.rt.step p2 f13, k.nx.step p2 f13, fun ρ5 n5 HF5 H5 σ5 A5 p5 f5 w5 en5 => ?_⟩, x.step p2 f13⟩
    all_goals
      obtain ⟨m', hm, i5⟩ := n5
      exact ⟨m', hm, HF5, ρ5, A5, p2.trans p5, f13.trans f5, w5, en5, i5⟩
  | false => exact (if_neg (by simp)).mpr (k.nx ρ3 (by simpa using q3) HF3 H3 σ2 A3 p2 f13 w3 en3)
end

/-! ### list comprehensions (nothing is raised within) -/
def wipeD (ρ : Env) : List Nat → Env
  | [] => ρ
  | v :: vs => (wipeD ρ vs).set v none
/-- the slots of the comprehension's own names as they were -/
def backL (ρ0 ρ : Env) : List Nat → Env
  | [] => ρ
  | v :: vs => (backL ρ0 ρ vs).set v (match ρ0[v]? with | some x => x | none => none)
def WF : WX := fun _ _ _ _ => False
def NoX : XC := fun _ _ => False
/-- all slots but these -/
def butP (vs : List Nat) : Prot := fun j => !(vs.contains j)
def tLcD (ti : TId) (vs : List Nat) (g : TGD) (tt : TDt) (te : TD) : TD := fun ρ Kd Ed => ti ρ (fun items ρ1 => ∃ I : Nat → List D → Env → Prop, I 0 [] (wipeD ρ1 vs) ∧
  (∀ i d acc ρ, items[i]? = some d → I i acc ρ → g (.fz d) ρ (fun ρ2 => tt ρ2 (fun b ρ3 => if b = true then te ρ3 (fun ev ρ4 => match ev with
    | .ow o => acc.length < sizeLine ∧ I (i + 1) (acc ++ [frz o]) (wipeD ρ4 vs)
    | .pt _ => False) NoX else I (i + 1) acc (wipeD ρ3 vs)) NoX)) ∧
  ∀ acc ρ, I items.length acc ρ → Kd (.ow (.ls acc)) (backL ρ1 ρ vs)) Ed
theorem wipe_eq {σ σ2 : St} {vs : List Nat} (hl : σ2.length = σ.length) (h : ∀ j, vs.contains j = false → σ2[j]? = σ[j]?) : wipe σ2 vs = wipe σ vs := by
  have key : ∀ (l : List Nat) (j : Nat), (wipe σ2 l)[j]? = if l.contains j = true ∧ j < σ.length then some none else σ2[j]? := by
    intro l
    induction l with
    | nil => intro j; simp [wipe]
    | cons v l ih =>
      intro j
      show ((wipe σ2 l).set v none)[j]? = _
      by_cases hj : v = j
      · subst hj
        by_cases hv : v < σ.length
        · rw [List.getElem?_set_self (by rw [wipe_length, hl]; exact hv)]; simp [hv]
        · rw [List.getElem?_eq_none (by rw [List.length_set, wipe_length, hl]; omega)]; simp [hv]; omega
      · rw [List.getElem?_set_ne hj, ih j]
        have : (v :: l).contains j = l.contains j := by simp [List.contains_cons, Ne.symm hj]
        rw [this]
  have key' : ∀ (l : List Nat) (j : Nat), (wipe σ l)[j]? = if l.contains j = true ∧ j < σ.length then some none else σ[j]? := by
    intro l
    induction l with
    | nil => intro j; simp [wipe]
    | cons v l ih =>
      intro j
      show ((wipe σ l).set v none)[j]? = _
      by_cases hj : v = j
      · subst hj
        by_cases hv : v < σ.length
        · rw [List.getElem?_set_self (by rw [wipe_length]; exact hv)]; simp [hv]
        · rw [List.getElem?_eq_none (by rw [List.length_set, wipe_length]; omega)]; simp [hv]
      · rw [List.getElem?_set_ne hj, ih j]
        have : (v :: l).contains j = l.contains j := by simp [List.contains_cons, Ne.symm hj]
        rw [this]
  apply List.ext_getElem?
  intro j
  rw [key, key']
  by_cases hc : vs.contains j = true
  · by_cases hj : j < σ.length
    · rw [if_pos ⟨hc, hj⟩, if_pos ⟨hc, hj⟩]
    · have e1 : σ2[j]? = none := List.getElem?_eq_none (by omega)
      have e2 : σ[j]? = none := List.getElem?_eq_none (by omega)
      simp [hj, e1, e2]
  · have hc' : vs.contains j = false := by simpa using hc
    rw [h j hc']
end AE
/-! AE7: list comprehensions. -/
namespace AE
open PySem L2
section
variable {K : PySem.W.Frag} {HF H : Hp}
theorem EnvR.anyS : ∀ {ρ : Env} {σ : St} {A : List Addr} {v : Nat} {x : Option V}, EnvR K HF H ρ σ A → ρ[v]? = some none → EnvR K HF H ρ (σ.set v x) A
  | [], σ, A, v, x, h, e => by simp at e
  | none :: ρ, σ, A, 0, x, h, e => by obtain ⟨s', r, rfl, q⟩ := h; exact ⟨x, r, rfl, q⟩
  | some o :: ρ, σ, A, 0, x, h, e => by simp at e
  | none :: ρ, σ, A, v + 1, x, h, e => by obtain ⟨s', r, rfl, q⟩ := h; exact ⟨s', _, rfl, EnvR.anyS q (by simpa using e)⟩
  | some o :: ρ, σ, A, v + 1, x, h, e => by obtain ⟨w, r, A1, A2, rfl, rfl, q, t⟩ := h; exact ⟨w, _, A1, A2, rfl, rfl, q, EnvR.anyS t (by simpa using e)⟩
def atE (ρ : Env) (v : Nat) : Option O := match ρ[v]? with
  | some x => x
  | none => none
/-- one slot emptied, and filled again as it was -/
theorem hole1 {ρ : Env} {σ : St} {A : List Addr} {v : Nat} (en : EnvR K HF H ρ σ A) (hv : v < ρ.length) : ∃ C B, A.Perm (C ++ B) ∧ (∀ p ∈ B, ∃ o, H p = some o) ∧ EnvR K HF H (ρ.set v none) (σ.set v none) C ∧
    ∀ HF2 H2 ρ2 A2, Same HF HF2 → (∀ p ∈ B, H2 p = H p) → EnvR K HF2 H2 ρ2 (σ.set v none) A2 → ρ2[v]? = some none → ∃ A3, A3.Perm (A2 ++ B) ∧ EnvR K HF2 H2 (ρ2.set v (atE ρ v)) σ A3 := by
  have hσ : ∃ x, σ[v]? = some x := by
    have := en.length
    exact ⟨σ[v]'(by omega), by simp⟩
  obtain ⟨x, hx⟩ := hσ
  have back : (σ.set v none).set v x = σ := by rw [List.set_set, set_get hx]
  cases e : ρ[v]? with
  | none => exact absurd (List.getElem?_eq_none_iff.mp e) (by omega)
  | some oo =>
    cases oo with
    | none =>
      refine ⟨A, [], by simp, fun _ h => (by cases h), ?_, fun HF2 H2 ρ2 A2 s k en2 e2 => ⟨A2, by simp, ?_⟩⟩
      · rw [set_get e]; exact EnvR.anyS en e
      · have : atE ρ v = none := by unfold atE; rw [e]
        rw [this, set_get e2]
        have := EnvR.anyS (x := x) en2 e2
        rwa [back] at this
    | some o =>
      obtain ⟨w, B, C, h1, h2, h3, h4⟩ := en.get e
      refine ⟨C, B, h3.trans List.perm_append_comm, RepO.there o h2, EnvR.anyS h4 (by rw [List.getElem?_set_self hv]), fun HF2 H2 ρ2 A2 s k en2 e2 => ?_⟩
      have : atE ρ v = some o := by unfold atE; rw [e]
      rw [this]
      have hv2 : v < ρ2.length := (List.getElem?_eq_some_iff.mp e2).1
      obtain ⟨A3, pm, en3⟩ := EnvR.put (ρ := ρ2) (i := v) (o := o) (v := w) (by rw [set_get e2]; exact en2) hv2 (RepO.keep s o h2 k)
      refine ⟨A3, pm.trans List.perm_append_comm, ?_⟩
      rw [List.set_set, set_get h1] at en3
      exact en3
theorem wipeD_length (ρ : Env) : ∀ vs : List Nat, (wipeD ρ vs).length = ρ.length
  | [] => rfl
  | v :: vs => by show ((wipeD ρ vs).set v none).length = _; rw [List.length_set, wipeD_length ρ vs]
theorem wipeD_none (ρ : Env) : ∀ {vs : List Nat} {v : Nat}, v ∈ vs → v < ρ.length → (wipeD ρ vs)[v]? = some none
  | u :: vs, v, h, hl => by
    show ((wipeD ρ vs).set u none)[v]? = _
    by_cases e : u = v
    · subst e; rw [List.getElem?_set_self (by rw [wipeD_length]; exact hl)]
    · rw [List.getElem?_set_ne e]
      exact wipeD_none ρ ((List.mem_cons.mp h).resolve_left (Ne.symm e)) hl
theorem wipeD_out (ρ : Env) : ∀ {vs : List Nat} {v : Nat}, v ∉ vs → (wipeD ρ vs)[v]? = ρ[v]?
  | [], v, h => rfl
  | u :: vs, v, h => by
    show ((wipeD ρ vs).set u none)[v]? = _
    rw [List.getElem?_set_ne (fun e => h (by simp [e]))]
    exact wipeD_out ρ fun z => h (List.mem_cons_of_mem _ z)
theorem backL_out {ρ0 ρ : Env} : ∀ {vs : List Nat} {v : Nat}, v ∉ vs → (backL ρ0 ρ vs)[v]? = ρ[v]?
  | [], v, h => rfl
  | u :: vs, v, h => by
    show ((backL ρ0 ρ vs).set u _)[v]? = _
    rw [List.getElem?_set_ne (fun e => h (by simp [e]))]
    exact backL_out fun z => h (List.mem_cons_of_mem _ z)
/-- all of a comprehension's own slots -/
theorem holes {ρ : Env} {σ : St} {A : List Addr} (en : EnvR K HF H ρ σ A) : ∀ (vs : List Nat), vs.Nodup → (∀ v ∈ vs, v < ρ.length) → ∃ C B, A.Perm (C ++ B) ∧ (∀ p ∈ B, ∃ o, H p = some o) ∧ EnvR K HF H (wipeD ρ vs) (wipe σ vs) C ∧
    ∀ HF2 H2 ρ2 A2, Same HF HF2 → (∀ p ∈ B, H2 p = H p) → EnvR K HF2 H2 ρ2 (wipe σ vs) A2 → (∀ v ∈ vs, ρ2[v]? = some none) → ∃ A3, A3.Perm (A2 ++ B) ∧ EnvR K HF2 H2 (backL ρ ρ2 vs) σ A3
  | [], nd, hv => ⟨A, [], by simp, fun _ h => (by cases h), en, fun HF2 H2 ρ2 A2 s k en2 _ => ⟨A2, by simp, en2⟩⟩
  | v :: vs, nd, hv => by
    obtain ⟨C, B, pm, tB, en1, back1⟩ := holes en vs (List.nodup_cons.mp nd).2 fun u hu => hv u (List.mem_cons_of_mem _ hu)
    have hn : v ∉ vs := (List.nodup_cons.mp nd).1
    obtain ⟨C2, B2, pm2, tB2, en2, back2⟩ := hole1 (v := v) en1 (by rw [wipeD_length]; exact hv v (by simp))
    refine ⟨C2, B2 ++ B, ?_, fun p hp => (List.mem_append.mp hp).elim (tB2 p) (tB p), en2, fun HF2 H2 ρ2 A2 s k en3 e3 => ?_⟩
    · refine pm.trans ((List.Perm.append_right B pm2).trans ?_)
      rw [List.append_assoc]
    · obtain ⟨A3, pm3, en4⟩ := back2 HF2 H2 ρ2 A2 s (fun p hp => k p (List.mem_append_left _ hp)) en3 (e3 v (by simp))
      have at1 : atE (wipeD ρ vs) v = atE ρ v := by unfold atE; rw [wipeD_out ρ hn]
      rw [at1] at en4
      obtain ⟨A4, pm4, en5⟩ := back1 HF2 H2 (ρ2.set v (atE ρ v)) A3 s (fun p hp => k p (List.mem_append_right _ hp)) en4 fun u hu => by
        rw [List.getElem?_set_ne (show v ≠ u from fun e => hn (e ▸ hu))]
        exact e3 u (List.mem_cons_of_mem _ hu)
      have ee : ∀ (l : List Nat), v ∉ l → backL ρ (ρ2.set v (atE ρ v)) l = (backL ρ ρ2 l).set v (atE ρ v) := by
        intro l
        induction l with
        | nil => intro _; rfl
        | cons u l ih =>
          intro h
          show (backL ρ (ρ2.set v (atE ρ v)) l).set u _ = ((backL ρ ρ2 l).set u _).set v _
          rw [ih fun z => h (List.mem_cons_of_mem _ z)]
          exact List.set_comm _ _ (fun e => h (by simp [e]))
      rw [ee vs hn] at en5
      refine ⟨A4, pm4.trans ?_, en5⟩
      refine (List.Perm.append_right B pm3).trans ?_
      rw [List.append_assoc]
end
/-- a clause's tests -/
def ATs (X : Cx) (W : WX) (ifs : List Expr) (t : TDt) : Prop := PTs X ifs (tAt X.K W t)
theorem PTs.imp {X : Cx} {es : List Expr} {t u : TT} (h : PTs X es t) (i : ∀ σ H Q, u σ H Q → t σ H Q) : PTs X es u := ⟨fun pins s σ H Q I q => h.run pins s σ H Q I (i σ H Q q)⟩
def tYesD : TDt := fun ρ Kd _ => Kd true ρ
section
variable {X : Cx} {W : WX}
theorem ats_nil : ATs X W [] tYesD := PTs.imp pts_nil fun σ H Q q => by
  obtain ⟨HF, ρ, A, Kd, Ed, w, en, t, k, x⟩ := q
  exact k true ρ t HF H A .refl w en
theorem ats_one {c : Expr} {t : TDt} (h : AT X W c t) : ATs X W [c] t := pts_one h
theorem PE.impL {X : Cx} {e : Expr} {t u : TE} (h : PE X e t) (i : ∀ σ H Q, σ.length = X.N.length → u σ H Q → t σ H Q) : PE X e u := ⟨fun pins s σ H Q I q => h.run pins s σ H Q I (i σ H Q I.len q)⟩
/-- a thing at D held beside -/
theorem hold {H2 H6 HF2 HF6 : Hp} {A2 A6 : List Addr} {D : Addr} {u : HO} (w : WR HF2 H2 (A2 ++ [D])) (hD : H2 D = some u) (f : Fr H2 H6 HF2 HF6 A2 A6) (w6 : WR HF6 H6 A6) : H6 D = some u ∧ WR HF6 H6 (A6 ++ [D]) ∧ Fr H2 H6 HF2 HF6 (A2 ++ [D]) (A6 ++ [D]) := by
  have := join (Ay := []) (A2 := A6) w (fun p hp => by rw [List.mem_singleton.mp hp]; exact ⟨_, hD⟩) (by rw [List.append_nil]; exact f) (by rw [List.append_nil]; exact w6)
  simp only [List.append_nil] at this
  exact ⟨(this.2.2 D (by simp)).trans hD, this.1, this.2.1⟩
theorem putD {K : PySem.W.Frag} {H HF : Hp} {A : List Addr} {D : Addr} {u : HO} (w : WR HF H (A ++ [D])) : WR HF (upd H D u) (A ++ [D]) ∧ Fr H (upd H D u) HF HF (A ++ [D]) (A ++ [D]) ∧ ∀ ρ σ, EnvR K HF H ρ σ A → EnvR K HF (upd H D u) ρ σ A := by
  have hD : HF D = none := w.out D (by simp)
  have ne : ∀ p o, HF p = some o → p ≠ D := fun p o e z => by rw [z, hD] at e; cases e
  have nA : ∀ p ∈ A, p ≠ D := fun p hp z => w.disj p hp (by simp [z])
  refine ⟨⟨fun b o e => by rw [upd_ne (ne b o e)]; exact w.same b o e, w.nodup, w.out⟩, ⟨.refl _, fun p o e n => ?_, fun _ _ _ _ f => f, fun _ h => .inl h⟩, fun ρ σ en => EnvR.keep (.refl _) ρ en fun p hp => by rw [upd_ne (nA p hp)]⟩
  rw [upd_ne (fun z => n (by simp [z]))]; exact e
theorem lc_red {K : PySem.W.Frag} {W : WX} {vs : List Nat} {ti : TId} {g : TGD} {tt : TDt} {te : TD} {n : Nat} (nd : vs.Nodup) (hlt : ∀ v ∈ vs, v < n) (σ : St) (H : Hp) (Q : VK) (hσ : σ.length = n) (q : tA K W (tLcD ti vs g tt te) σ H Q) : tLc (tAI K W ti) (tG K (butP vs) g) (tAt K WF tt) (tA K WF te) vs σ H Q := by
  obtain ⟨HF, ρ, A, Kd, Ed, w, en, t, k, x⟩ := q
  refine ⟨HF, ρ, A, _, Ed, w, en, t, fun items ρ1 q1 HF1 H1 A1 Av J f1 w1 tv en1 src => fun D hD => ?_, x⟩
  obtain ⟨I, i0, turn, fin⟩ := q1
  obtain ⟨G, Y, wk, hG, hY⟩ := src
  have hl1 : σ.length = ρ1.length := en1.length
  obtain ⟨C, B, pm, tB, enw, back⟩ := holes en1 vs nd fun v hv => by rw [← hl1, hσ]; exact hlt v hv
  -- the base: the new list at D
  have memC : ∀ p ∈ C, p ∈ A1 := fun p hp => pm.mem_iff.mpr (List.mem_append_left _ hp)
  have memB : ∀ p ∈ B, p ∈ A1 := fun p hp => pm.mem_iff.mpr (List.mem_append_right _ hp)
  have wCB : WR HF1 H1 (C ++ B) := w1.left.perm pm
  have tA1 := EnvR.there _ en1
  have nD : ∀ p o, H1 p = some o → p ≠ D := fun p o e z => by rw [z, hD] at e; cases e
  have w0 : WR HF1 (upd H1 D (.lst [])) (C ++ [D]) := by
    refine ⟨fun b o e => by rw [upd_ne (nD b o (w1.same b o e))]; exact w1.same b o e, List.nodup_append.mpr ⟨wCB.left.nodup, by simp, fun a ha b hb e => ?_⟩, fun a ha => ?_⟩
    · rw [List.mem_singleton.mp hb] at e
      obtain ⟨o, ho⟩ := tA1 a (memC a ha)
      exact nD a o ho e
    · rcases List.mem_append.mp ha with z | z
      · exact wCB.left.out a z
      · rw [List.mem_singleton.mp z]; exact w1.same.free hD
  have en0 : EnvR K HF1 (upd H1 D (.lst [])) (wipeD ρ1 vs) (wipe σ vs) C := EnvR.keep (.refl _) _ enw fun p hp => by
    obtain ⟨o, ho⟩ := tA1 p (memC p hp)
    rw [upd_ne (nD p o ho)]
  -- what lies beside is kept
  have side : ∀ {H2 HF2 : Hp} {A2 : List Addr}, Fr (upd H1 D (.lst [])) H2 HF1 HF2 (C ++ [D]) (A2 ++ [D]) → ∀ p, (p ∈ B ∨ p ∈ Av) → H2 p = H1 p ∧ (HF1 p = none → HF2 p = none) ∧ p ∉ A2 ++ [D] := fun {H2 HF2 A2} f p hp => by
    obtain ⟨o, ho, hn⟩ : ∃ o, H1 p = some o ∧ p ∉ C := by
      rcases hp with hp | hp
      · obtain ⟨o, ho⟩ := tB p hp
        exact ⟨o, ho, fun z => wCB.disj p z hp⟩
      · obtain ⟨o, ho⟩ := tv p hp
        exact ⟨o, ho, fun z => w1.disj p (memC p z) hp⟩
    have e0 : upd H1 D (.lst []) p = some o := by rw [upd_ne (nD p o ho)]; exact ho
    have n0 : p ∉ C ++ [D] := fun z => (List.mem_append.mp z).elim hn fun z => nD p o ho (List.mem_singleton.mp z)
    exact ⟨by rw [ho]; exact f.keep p o e0 n0, f.free p o e0 n0, fun z => (f.new p z).elim n0 fun q => by rw [e0] at q; cases q⟩
  refine lc_it wk (fun i H2 => ∃ HF2 ρ' A2 acc accv, Fr (upd H1 D (.lst [])) H2 HF1 HF2 (C ++ [D]) (A2 ++ [D]) ∧ WR HF2 H2 (A2 ++ [D]) ∧ EnvR K HF2 H2 (wipeD ρ' vs) (wipe σ vs) A2 ∧ H2 D = some (.lst accv) ∧ Reps K HF2 acc accv ∧ I i acc (wipeD ρ' vs) ∧ ρ'.length = ρ1.length)
    ⟨HF1, ρ1, C, [], [], .refl, w0, en0, upd_same, rfl, i0, rfl⟩ ?_ ?_ ?_
  · rintro i H2 hi ⟨HF2, ρ', A2, acc, accv, f2, w2, en2, hD2, ra, i2, hl2⟩
    exact hG HF2 H2 f2.same w2.same fun p hp => (side f2 p (.inr hp)).1
  · rintro i y H2 H3 hi ⟨HF2, ρ', A2, acc, accv, f2, w2, en2, hD2, ra, i2, hl2⟩ yy
    obtain ⟨d, HF3, hd, f3, s3, rd⟩ := hY i HF2 H2 y H3 f2.same w2.same (fun p hp => (side f2 p (.inr hp)).1) hi yy
    obtain ⟨k1, k2, k3⟩ := f3.frame (EnvR.there _ en2) (fun _ _ h => by cases h)
    have w3 : WR HF3 H3 A2 := ⟨s3, w2.left.nodup, fun a ha => k2 a ha (w2.left.out a ha)⟩
    have f23 : Fr H2 H3 HF2 HF3 A2 A2 := f3.mono (fun _ h => by cases h) fun p hp => .inr hp
    have en3 := EnvR.keep f3.same _ en2 k1
    -- a turn's end
    have fin1 : ∀ {H5 HF5 : Hp} {A5 : List Addr} {ρ5 : Env} {σ5 : St}, Fr H2 H5 HF2 HF5 A2 A5 → WR HF5 H5 A5 → EnvR K HF5 H5 ρ5 σ5 A5 → wipe σ5 vs = wipe σ vs → σ5.length = σ.length → ∃ A7, (∀ p ∈ A7, p ∈ A5) ∧ WR HF5 H5 (A7 ++ [D]) ∧ Fr (upd H1 D (.lst [])) H5 HF1 HF5 (C ++ [D]) (A7 ++ [D]) ∧ EnvR K HF5 H5 (wipeD ρ5 vs) (wipe σ vs) A7 ∧ H5 D = some (.lst accv) ∧ ρ5.length = ρ1.length := fun {H5 HF5 A5 ρ5 σ5} f5 w5 en5 e5 l5 => by
      obtain ⟨hD5, w5', f5'⟩ := hold w2 hD2 f5 w5
      have hl5 : σ5.length = ρ5.length := en5.length
      obtain ⟨C5, B5, pm5, _, enw5, _⟩ := holes en5 vs nd fun v hv => by rw [← hl5, l5, hσ]; exact hlt v hv
      rw [e5] at enw5
      have sub : ∀ p ∈ C5, p ∈ A5 := fun p hp => pm5.mem_iff.mpr (List.mem_append_left _ hp)
      have w7 : WR HF5 H5 (C5 ++ [D]) := by
        have : (A5 ++ [D]).Perm ((C5 ++ [D]) ++ B5) := (List.Perm.append_right [D] pm5).trans (by rw [List.append_assoc, List.append_assoc]; exact List.Perm.append_left C5 List.perm_append_comm)
        exact (w5'.perm this).left
      exact ⟨C5, sub, w7, (f2.trans f5').mono (fun _ h => h) fun p hp => .inl ((List.mem_append.mp hp).elim (fun z => List.mem_append_left _ (sub p z)) fun z => List.mem_append_right _ z), enw5, hD5, by rw [← hl5, l5, hl1]⟩
    refine ⟨HF3, wipeD ρ' vs, A2, .fz d, [], _, by rw [List.append_nil]; exact w3, en3, ⟨rfl, rd⟩, turn i d acc _ hd i2, fun ρ4 q4 HF4 H4 σ4 A4 p4 f4 w4 en4 => ?_⟩
    rw [List.append_nil] at f4
    have e4 : wipe σ4 vs = wipe σ vs := by
      have z : wipe σ4 vs = wipe (wipe σ vs) vs := wipe_eq p4.1 fun j hj => p4.2 j (by simp [butP]; simpa using hj)
      rw [z]
      exact wipe_eq (wipe_length _ _) fun j hj => wipe_out (by simpa using hj)
    have l4 : σ4.length = σ.length := by rw [p4.1, wipe_length]
    refine ⟨e4, HF4, ρ4, A4, _, NoX, w4, en4, q4, fun b ρ5 q5 HF5 H5 A5 f5 w5 en5 => ?_, fun _ _ z => z.elim⟩
    have f25 := (f23.trans f4).trans f5
    cases b with
    | false =>
      simp only [Bool.false_eq_true, ↓reduceIte] at q5 ⊢
      obtain ⟨A7, sub7, w7, f7, en7, hD7, l7⟩ := fin1 f25 w5 en5 e4 l4
      exact ⟨HF5, ρ5, A7, acc, accv, f7, w7, en7, hD7, Reps.mono f25.same _ ra, q5, l7⟩
    | true =>
      simp only [↓reduceIte] at q5 ⊢
      refine ⟨HF5, ρ5, A5, _, NoX, w5, en5, q5, fun ev ρ6 q6 HF6 H6 A6 y6 Ay f6 w6 en6 r6 => ?_, fun _ _ z => z.elim⟩
      cases ev with
      | pt j => exact q6.elim
      | ow o =>
        obtain ⟨hlen, i6⟩ := q6
        -- the element is made pure
        obtain ⟨sg, wg, fg⟩ := grow_ok (w6.perm List.perm_append_comm)
        have rg : Rep K (grow HF6 H6 Ay) (frz o) y6 := RepO.frz sg o r6 fun p hp => grow_in hp
        have f6' : Fr H5 H6 HF5 (grow HF6 H6 Ay) A5 A6 := f6.trans (fg.mono (fun p hp => (List.mem_append.mp hp).elim (fun z => List.mem_append_right _ z) (fun z => List.mem_append_left _ z)) fun p hp => .inl hp)
        have f26 := f25.trans f6'
        obtain ⟨A7, sub7, w7, f7, en7, hD7, l7⟩ := fin1 f26 wg (EnvR.keep sg _ en6 fun _ _ => rfl) e4 l4
        obtain ⟨w8, f8, k8⟩ := putD (K := K) (u := .lst (accv ++ [y6])) w7
        have ra6 := Reps.mono f26.same acc ra
        refine ⟨accv, hD7, by rw [ra.length]; exact hlen, grow HF6 H6 Ay, ρ6, A7, acc ++ [frz o], accv ++ [y6], f7.trans f8, w8, k8 _ _ en7, upd_same, ra6.append (Reps.one rg), i6, l7⟩
  · rintro H2 ⟨HF2, ρ', A2, acc, accv, f2, w2, en2, hD2, ra, i2, hl2⟩
    obtain ⟨A3, pm3, en3⟩ := back HF2 H2 (wipeD ρ' vs) A2 f2.same (fun p hp => (side f2 p (.inl hp)).1) en2 fun v hv => wipeD_none ρ' hv (by rw [hl2, ← hl1, hσ]; exact hlt v hv)
    have pm4 : (A3 ++ [D]).Perm ((A2 ++ [D]) ++ B) := (List.Perm.append_right [D] pm3).trans (by rw [List.append_assoc, List.append_assoc]; exact List.Perm.append_left A2 List.perm_append_comm)
    have w4 : WR HF2 H2 (A3 ++ [D]) := WR.perm (A := (A2 ++ [D]) ++ B) ⟨w2.same, List.nodup_append.mpr ⟨w2.nodup, wCB.right.nodup, fun a ha b hb e => (side f2 b (.inl hb)).2.2 (e ▸ ha)⟩, fun a ha => (List.mem_append.mp ha).elim (w2.out a) fun z => (side f2 a (.inl z)).2.1 (wCB.right.out a z)⟩ pm4.symm
    refine k _ _ (fin acc _ i2) HF2 H2 A3 (.ref D) [D] ?_ w4 en3 ⟨D, accv, rfl, rfl, hD2, ra⟩
    refine f1.trans ⟨f2.same, fun p o e n => ?_, fun p o e n fr => ?_, fun p hp => ?_⟩
    · have nd' := nD p o e
      exact f2.keep p o (by rw [upd_ne nd']; exact e) fun z => (List.mem_append.mp z).elim (fun z => n (List.mem_append_left _ (memC p z))) fun z => nd' (List.mem_singleton.mp z)
    · have nd' := nD p o e
      exact f2.free p o (by rw [upd_ne nd']; exact e) (fun z => (List.mem_append.mp z).elim (fun z => n (List.mem_append_left _ (memC p z))) fun z => nd' (List.mem_singleton.mp z)) fr
    · rcases List.mem_append.mp (pm4.mem_iff.mp hp) with z | z
      · rcases f2.new p z with z | z
        · rcases List.mem_append.mp z with z | z
          · exact .inl (List.mem_append_left _ (memC p z))
          · rw [List.mem_singleton.mp z]; exact .inr hD
        · refine .inr ?_
          by_cases hp' : p = D
          · rw [hp']; exact hD
          · rw [upd_ne hp'] at z; exact z
      · exact .inl (List.mem_append_left _ (memB p z))
theorem ae_lc {elt tg iter : Expr} {ifs : List Expr} {scope : Scope} {own : List (Str × Nat)} {vs : List Nat} {pos : Pos} {ti : TId} {g : TGD} {tt : TDt} {te : TD} (hc : X.calm = true) (hN : X.N.Nodup) (hi : AI X W tg iter ti) (ok : BlkOk X.N X.env.scope scope own) (hvs : own.map (·.2) = vs) (nd : vs.Nodup) (hlt : ∀ v ∈ vs, v < X.N.length)
    (hg : ∀ (s : Shared) (H : Hp) (C : Addr) (cl : List (Str × Addr)) (fp : List Addr), AG (X.blk s H scope (compEnvC scope cl C X.env) fp) (butP vs) tg g) (ht : ∀ (s : Shared) (H : Hp) (C : Addr) (cl : List (Str × Addr)) (fp : List Addr), ATs (X.blk s H scope (compEnvC scope cl C X.env) fp) WF ifs tt)
    (he : ∀ (s : Shared) (H : Hp) (C : Addr) (cl : List (Str × Addr)) (fp : List Addr), AE (X.blk s H scope (compEnvC scope cl C X.env) fp) WF elt te) (hs : ∀ x, foldedSetIterable iter X.env x = pure x := by intro _; rfl) :
    AE X W (.ListComp elt [⟨tg, iter, ifs, 0⟩] scope pos) (tLcD ti vs g tt te) := by
  subst hvs
  generalize hvs : own.map (·.2) = vs at nd hlt hg ht he
  have base : PE X (.ListComp elt [⟨tg, iter, ifs, 0⟩] scope pos) (tLc (tAI X.K W ti) (tG X.K (butP vs) g) (tAt X.K WF tt) (tA X.K WF te) vs) := by
    have := pe_lc (own := own) (pos := pos) (g := tG X.K (butP vs) g) (tt := tAt X.K WF tt) (te := tA X.K WF te) hc hN hi ok hg ht he hs
    rw [hvs] at this
    exact this
  exact PE.impL base fun σ H Q hσ q => lc_red nd hlt σ H Q hσ q
end
end AE
/-! AE8: built-ins by name, == and in. -/
namespace AE
open PySem L2

theorem CallR.or {X : Cx} {f : Value} {r r' : List V → Hp → VK → Prop} (h : CallR X f r) (h' : CallR X f r') : CallR X f (fun xs H Q => r xs H Q ∨ r' xs H Q) := fun pins s σ H xs us Q I rx q => q.elim (h pins s σ H xs us Q I rx) (h' pins s σ H xs us Q I rx)
section
variable {X : Cx} {W : WX} {x : Str} {p pos : Pos} {e : Expr} {es : List Expr} {ts : TDs} {id T : String} {r : List V → Hp → VK → Prop} {f : Env → List EV → KD → Prop}
theorem callN (hp : Prim X.K r f) : ∀ σ H Q, tA X.K W (tN f ts) σ H Q → tCB r (tAs X.K W ts) σ H Q := fun σ H Q q => by
  obtain ⟨HF, ρ, A, Kd, Ed, w, en, t, k, x⟩ := q
  refine ⟨HF, ρ, A, _, Ed, w, en, t, fun evs ρ1 q1 HF1 H1 A1 vs Av f1 w1 en1 r1 => ?_, x⟩
  exact hp σ HF1 H1 ρ1 A1 Av evs vs Kd Q w1 en1 r1 q1 (k.step f1)
theorem ae_callB (hc : CallR X (.builtin id) r) (hp : Prim X.K r f) (hg : Gl X x) (hm : X.mg x = none) (hv : bootBuiltins x = some (.builtin id)) (ha : AA X W (e :: es) ts) (hn : x ≠ "__name__" := by decide) (hdb : (x == ("__debug__" : Str)) = false := by decide)
    (he : starEach (e :: es) X.env = (false, eval e X.env) :: starEach es X.env := by rfl) (hpl : (backTo pos (starEach es X.env)).any (·.1) = false := by rfl) : AE X W (.Call (.Name x p) (e :: es) [] pos) (tN f ts) :=
  PE.imp (pe_callB hc hg hm hv ha hn hdb he hpl) (callN hp)
theorem ae_callTy (hc : CallR X (.type T) r) (hp : Prim X.K r f) (hg : Gl X x) (hm : X.mg x = none) (hv : bootBuiltins x = some (.type T)) (ha : AA X W (e :: es) ts) (hn : x ≠ "__name__" := by decide) (hdb : (x == ("__debug__" : Str)) = false := by decide)
    (he : starEach (e :: es) X.env = (false, eval e X.env) :: starEach es X.env := by rfl) (hpl : (backTo pos (starEach es X.env)).any (·.1) = false := by rfl) : AE X W (.Call (.Name x p) (e :: es) [] pos) (tN f ts) :=
  PE.imp (pe_callTy hc hg hm hv ha hn hdb he hpl) (callN hp)
end

/-! ### len -/
def gLen : GN := fun ds P => match ds with
  | [.str z] => z.length ≤ sizeLine ∧ P (.fz (.int z.length))
  | [.lst xs] => P (.fz (.int xs.length))
  | [.tup xs] => P (.fz (.int xs.length))
  | [.scr xs] => P (.fz (.int xs.length))
  | [.dic xs] => P (.fz (.int xs.length))
  | _ => False
section
variable {X : Cx} {W : WX} {p pos : Pos} {e : Expr} {es : List Expr} {ts : TDs}
theorem RepKs.length {K : PySem.W.Frag} {HF : Hp} : ∀ {ds : List (Key × D)} {vs : List (Key × V)}, RepKs K HF ds vs → vs.length = ds.length
  | [], vs, h => by rw [show vs = [] from h]; rfl
  | d :: ds, vs, h => by obtain ⟨v, ws, rfl, _, r⟩ := h; simp [RepKs.length r]
theorem call_lenR : CallR X (.builtin "len") (fun xs H Q => ∃ a kvs, xs = [V.ref a] ∧ Rd H a (.dK kvs) ∧ Q (.int kvs.length) H) := by
  intro pins s σ H xs us Q I r h
  obtain ⟨a, kvs, rfl, ha, q⟩ := h
  obtain ⟨u, rfl, ru⟩ := vals1 r
  cases ru
  exact d_len I ha fun t s' I' => ⟨.int kvs.length, H, I', ⟨t, rfl⟩, q⟩
theorem do_len : DoN X.K (fun xs H Q => (∃ z, xs = [.str z] ∧ z.length ≤ sizeLine ∧ Q (.int z.length) H) ∨ (∃ p ys, xs = [.ref p] ∧ (SqL X.K H p ys ∨ SqT X.K H p ys) ∧ Q (.int ys.length) H) ∨ ∃ a kvs, xs = [V.ref a] ∧ Rd H a (.dK kvs) ∧ Q (.int kvs.length) H) gLen := fun HF H vs ds P Q s r g k => by
  unfold gLen at g
  split at g
  · obtain ⟨v, rfl, rv⟩ := r.one
    cases (show v = .str _ from rv)
    exact .inl ⟨_, rfl, g.1, k _ _ _ _ _ g.2 (New.imm s rfl)⟩
  · obtain ⟨v, rfl, rv⟩ := r.one
    obtain ⟨p, vs, rfl, h1, r1⟩ := rv
    exact .inr <| .inl ⟨p, vs, rfl, .inl (SqL.of h1), by rw [r1.length]; exact k _ _ _ _ _ g (New.imm s rfl)⟩
  · obtain ⟨v, rfl, rv⟩ := r.one
    obtain ⟨p, vs, rfl, h1, r1⟩ := rv
    exact .inr <| .inl ⟨p, vs, rfl, .inr (SqT.of (s _ _ h1)), by rw [r1.length]; exact k _ _ _ _ _ g (New.imm s rfl)⟩
  · obtain ⟨v, rfl, rv⟩ := r.one
    obtain ⟨p, rfl, h1⟩ := rv
    exact .inr <| .inl ⟨p, _, rfl, .inl (SqL.mono h1 s), by rw [List.length_map]; exact k _ _ _ _ _ g (New.imm s rfl)⟩
  · obtain ⟨v, rfl, rv⟩ := r.one
    obtain ⟨p, vs, rfl, h1, r1⟩ := rv
    exact .inr <| .inr ⟨p, vs, rfl, h1, by rw [r1.length]; exact k _ _ _ _ _ g (New.imm s rfl)⟩
  · exact g.elim
theorem ae_len (hg : Gl X "len") (hm : X.mg "len" = none) (ha : AA X W (e :: es) ts) (he : starEach (e :: es) X.env = (false, eval e X.env) :: starEach es X.env := by rfl) (hpl : (backTo pos (starEach es X.env)).any (·.1) = false := by rfl) :
    AE X W (.Call (.Name "len" p) (e :: es) [] pos) (tN (pN gLen) ts) := ae_callB (CallR.or call_len_str (CallR.or call_len_seq call_lenR)) (primN do_len) hg hm boot_len ha (by decide) (by decide) he hpl
/-! ### abs, int, bool -/
def gAbs : GN := fun ds P => match ds with
  | [.int i] => P (.fz (.int (if i < 0 then -i else i)))
  | _ => False
theorem ae_abs (hg : Gl X "abs") (hm : X.mg "abs" = none) (ha : AA X W (e :: es) ts) (he : starEach (e :: es) X.env = (false, eval e X.env) :: starEach es X.env := by rfl) (hpl : (backTo pos (starEach es X.env)).any (·.1) = false := by rfl) :
    AE X W (.Call (.Name "abs" p) (e :: es) [] pos) (tN (pN gAbs) ts) := ae_callB call_abs (primN fun HF H vs ds P Q s r g k => by
      unfold gAbs at g
      split at g
      · obtain ⟨v, rfl, rv⟩ := r.one
        cases (show v = .int _ from rv)
        exact ⟨_, rfl, k _ _ _ _ _ g (New.imm s rfl)⟩
      · exact g.elim) hg hm (by decide +kernel) ha (by decide) (by decide) he hpl
def gInt : GN := fun ds P => match ds with
  | [.int i] => P (.fz (.int i))
  | [.bl b] => P (.fz (.int (if b then 1 else 0)))
  | _ => False
theorem ae_int1 (hg : Gl X "int") (hm : X.mg "int" = none) (ha : AA X W (e :: es) ts) (he : starEach (e :: es) X.env = (false, eval e X.env) :: starEach es X.env := by rfl) (hpl : (backTo pos (starEach es X.env)).any (·.1) = false := by rfl) :
    AE X W (.Call (.Name "int" p) (e :: es) [] pos) (tN (pN gInt) ts) := ae_callTy call_int1 (primN fun HF H vs ds P Q s r g k => by
      unfold gInt at g
      split at g
      · obtain ⟨v, rfl, rv⟩ := r.one
        cases (show v = .int _ from rv)
        exact .inl ⟨_, rfl, k _ _ _ _ _ g (New.imm s rfl)⟩
      · obtain ⟨v, rfl, rv⟩ := r.one
        cases (show v = .bl _ from rv)
        exact .inr ⟨_, rfl, k _ _ _ _ _ g (New.imm s rfl)⟩
      · exact g.elim) hg hm (by decide +kernel) ha (by decide) (by decide) he hpl
/-! ### list, tuple -/
def gList : GN := fun ds P => match ds with
  | [.lst xs] => P (.ls xs)
  | [.tup xs] => P (.ls xs)
  | _ => False
theorem ae_list1 (hg : Gl X "list") (hm : X.mg "list" = none) (ha : AA X W (e :: es) ts) (he : starEach (e :: es) X.env = (false, eval e X.env) :: starEach es X.env := by rfl) (hpl : (backTo pos (starEach es X.env)).any (·.1) = false := by rfl) :
    AE X W (.Call (.Name "list" p) (e :: es) [] pos) (tN (pN gList) ts) := ae_callTy call_list_of (primN fun HF H vs ds P Q s r g k => by
      unfold gList at g
      split at g
      · obtain ⟨v, rfl, rv⟩ := r.one
        obtain ⟨p, vs, rfl, h1, r1⟩ := rv
        exact ⟨p, vs, rfl, .inl (SqL.of h1), fun l hl => k _ _ _ _ _ g (New.lst s hl r1)⟩
      · obtain ⟨v, rfl, rv⟩ := r.one
        obtain ⟨p, vs, rfl, h1, r1⟩ := rv
        exact ⟨p, vs, rfl, .inr (SqT.of (s _ _ h1)), fun l hl => k _ _ _ _ _ g (New.lst s hl r1)⟩
      · exact g.elim) hg hm (by decide +kernel) ha (by decide) (by decide) he hpl
def gTuple : GN := fun ds P => match ds with
  | [.lst xs] => P (.fz (.tup xs))
  | [.tup xs] => P (.fz (.tup xs))
  | _ => False
theorem ae_tuple1 (hg : Gl X "tuple") (hm : X.mg "tuple" = none) (ha : AA X W (e :: es) ts) (he : starEach (e :: es) X.env = (false, eval e X.env) :: starEach es X.env := by rfl) (hpl : (backTo pos (starEach es X.env)).any (·.1) = false := by rfl) :
    AE X W (.Call (.Name "tuple" p) (e :: es) [] pos) (tN (pN gTuple) ts) := ae_callTy call_tuple_of (primN fun HF H vs ds P Q s r g k => by
      unfold gTuple at g
      split at g
      · obtain ⟨v, rfl, rv⟩ := r.one
        obtain ⟨p, vs, rfl, h1, r1⟩ := rv
        exact ⟨p, vs, rfl, .inl ⟨SqL.of h1, fun l hl => k _ _ _ _ _ g (New.tup s hl r1)⟩⟩
      · obtain ⟨v, rfl, rv⟩ := r.one
        obtain ⟨p, vs, rfl, h1, r1⟩ := rv
        exact ⟨p, vs, rfl, .inr ⟨SqT.of (s _ _ h1), k _ _ _ _ _ g (New.imm s ⟨p, vs, rfl, h1, r1⟩)⟩⟩
      · exact g.elim) hg hm (by decide +kernel) ha (by decide) (by decide) he hpl
/-! ### all, any -/
theorem reps_bl {K : PySem.W.Frag} {HF : Hp} : ∀ {bs : List Bool} {vs : List V}, Reps K HF (bs.map D.bl) vs → vs = bs.map V.bl
  | [], vs, h => h
  | b :: bs, vs, h => by obtain ⟨v, ws, rfl, r, t⟩ := h; rw [show v = .bl b from r, reps_bl t]; rfl
def gAll : GN := fun ds P => match ds with
  | [.lst xs] => ∃ bs : List Bool, xs = bs.map D.bl ∧ P (.fz (.bl (bs.all id)))
  | _ => False
def gAny : GN := fun ds P => match ds with
  | [.lst xs] => ∃ bs : List Bool, xs = bs.map D.bl ∧ P (.fz (.bl (bs.any id)))
  | _ => False
theorem ae_all (hc : X.calm = true) (hg : Gl X "all") (hm : X.mg "all" = none) (ha : AA X W (e :: es) ts) (he : starEach (e :: es) X.env = (false, eval e X.env) :: starEach es X.env := by rfl) (hpl : (backTo pos (starEach es X.env)).any (·.1) = false := by rfl) :
    AE X W (.Call (.Name "all" p) (e :: es) [] pos) (tN (pN gAll) ts) := ae_callB (cr_all hc) (primN fun HF H vs ds P Q s r g k => by
      unfold gAll at g
      split at g
      · obtain ⟨v, rfl, rv⟩ := r.one
        obtain ⟨p, vs, rfl, h1, r1⟩ := rv
        obtain ⟨bs, rfl, q⟩ := g
        obtain rfl := reps_bl r1
        exact ⟨p, bs, rfl, SqL.of h1, k _ _ _ _ _ q (New.imm s rfl)⟩
      · exact g.elim) hg hm (by decide +kernel) ha (by decide) (by decide) he hpl
theorem ae_any (hc : X.calm = true) (hg : Gl X "any") (hm : X.mg "any" = none) (ha : AA X W (e :: es) ts) (he : starEach (e :: es) X.env = (false, eval e X.env) :: starEach es X.env := by rfl) (hpl : (backTo pos (starEach es X.env)).any (·.1) = false := by rfl) :
    AE X W (.Call (.Name "any" p) (e :: es) [] pos) (tN (pN gAny) ts) := ae_callB (cr_any hc) (primN fun HF H vs ds P Q s r g k => by
      unfold gAny at g
      split at g
      · obtain ⟨v, rfl, rv⟩ := r.one
        obtain ⟨p, vs, rfl, h1, r1⟩ := rv
        obtain ⟨bs, rfl, q⟩ := g
        obtain rfl := reps_bl r1
        exact ⟨p, bs, rfl, SqL.of h1, k _ _ _ _ _ q (New.imm s rfl)⟩
      · exact g.elim) hg hm (by decide +kernel) ha (by decide) (by decide) he hpl
end
end AE
/-! AE9: == and in. -/
namespace AE
open PySem L2
mutual
def dEq : D → D → Bool
  | .non, .non => true
  | .bl a, .bl b => a == b
  | .bl a, .int j => (if a then 1 else 0) == j
  | .int i, .bl b => i == (if b then 1 else 0)
  | .int i, .int j => i == j
  | .str x, .str y => x == y
  | .lst xs, .lst ys => dEqs xs ys
  | .tup xs, .tup ys => dEqs xs ys
  | .kt xs, .kt ys => dEqs xs ys
  | .tup xs, .kt ys => dEqs xs ys
  | .kt xs, .tup ys => dEqs xs ys
  | _, _ => false
def dEqs : List D → List D → Bool
  | [], [] => true
  | x :: xs, y :: ys => dEq x y && dEqs xs ys
  | _, _ => false
end
mutual
def toPy : D → PyData
  | .non => .none
  | .bl b => .bool b
  | .int i => .int i
  | .str x => .str x
  | .lst xs => .list (toPys xs)
  | .tup xs => .tuple (toPys xs)
  | .kt xs => .tuple (toPys xs)
  | _ => .none
def toPys : List D → List PyData
  | [] => []
  | x :: xs => toPy x :: toPys xs
end
mutual
/-- plain data: None, bools, ints, texts, lists and tuples of them -/
def pyOk : D → Bool
  | .non => true
  | .bl _ => true
  | .int _ => true
  | .str x => PyData.strOk x
  | .lst xs => pyOks xs
  | .tup xs => pyOks xs
  | .kt xs => pyOks xs
  | _ => false
def pyOks : List D → Bool
  | [] => true
  | x :: xs => pyOk x && pyOks xs
end
mutual
def dDep : D → Nat
  | .lst xs => dDeps xs + 1
  | .tup xs => dDeps xs + 1
  | .kt xs => dDeps xs + 1
  | _ => 1
def dDeps : List D → Nat
  | [] => 0
  | x :: xs => max (dDep x) (dDeps xs)
end
/-- data that == takes as data -/
def Shp (d : D) : Prop := pyOk d = true ∧ dDep d ≤ 60
mutual
theorem eqv_toPy : ∀ (d e : D), pyOk d = true → pyOk e = true → PyData.eqv (toPy d) (toPy e) = dEq d e
  | d, e, hd, he => by
    cases d <;> cases e <;> first
      | rfl
      | exact absurd (show false = true from hd) Bool.false_ne_true
      | exact absurd (show false = true from he) Bool.false_ne_true
      | exact eqvs_toPy _ _ hd he
theorem eqvs_toPy : ∀ (ds es : List D), pyOks ds = true → pyOks es = true → PyData.eqvAll (toPys ds) (toPys es) = dEqs ds es
  | [], [], _, _ => rfl
  | [], _ :: _, _, _ => rfl
  | _ :: _, [], _, _ => rfl
  | d :: ds, e :: es, hd, he => by
    have hd := Bool.and_eq_true_iff.mp hd
    have he := Bool.and_eq_true_iff.mp he
    show (PyData.eqv (toPy d) (toPy e) && PyData.eqvAll (toPys ds) (toPys es)) = (dEq d e && dEqs ds es)
    rw [eqv_toPy d e hd.1 he.1, eqvs_toPy ds es hd.2 he.2]
end
mutual
theorem canLay_toPy : ∀ d : D, pyOk d = true → (toPy d).canLay0 = true
  | d, h => by
    cases d <;> first
      | rfl
      | exact absurd (show false = true from h) Bool.false_ne_true
      | exact canLays_toPy _ h
      | exact h
theorem canLays_toPy : ∀ ds : List D, pyOks ds = true → PyData.canLayAll0 (toPys ds) = true
  | [], _ => rfl
  | d :: ds, h => by
    have h := Bool.and_eq_true_iff.mp h
    show ((toPy d).canLay0 && PyData.canLayAll0 (toPys ds)) = true
    rw [canLay_toPy d h.1, canLays_toPy ds h.2]; rfl
end
mutual
theorem depth_toPy : ∀ d : D, (toPy d).depth ≤ dDep d
  | .non => Nat.zero_le _
  | .bl _ => Nat.zero_le _
  | .int _ => Nat.zero_le _
  | .str _ => Nat.zero_le _
  | .dic _ => Nat.zero_le _
  | .dit _ => Nat.zero_le _
  | .ins _ _ => Nat.zero_le _
  | .cl _ => Nat.zero_le _
  | .ty _ => Nat.zero_le _
  | .scr _ => Nat.zero_le _
  | .exc _ _ _ _ => Nat.zero_le _
  | .xo _ _ => Nat.zero_le _
  | .lst ds => Nat.succ_le_succ (depths_toPy ds)
  | .tup ds => Nat.succ_le_succ (depths_toPy ds)
  | .kt ds => Nat.succ_le_succ (depths_toPy ds)
theorem depths_toPy : ∀ ds : List D, PyData.depthAll (toPys ds) ≤ dDeps ds
  | [] => Nat.le_refl _
  | d :: ds => by
    show max (toPy d).depth (PyData.depthAll (toPys ds)) ≤ max (dDep d) (dDeps ds)
    have := depth_toPy d
    have := depths_toPy ds
    omega
end
theorem Shp.shaped {d : D} (h : Shp d) : SeqAt.shaped (toPy d) = true := by
  unfold SeqAt.shaped
  rw [canLay_toPy d h.1, Bool.true_and, decide_eq_true_iff]
  have := depth_toPy d
  have := h.2
  omega
section
variable {K : PySem.W.Frag} {H : Hp}
mutual
theorem Rep.dp : ∀ (d : D) {v : V}, pyOk d = true → Rep K H d v → Dp K H v (toPy d)
  | .non, v, _, r => by rw [show v = .non from r]; exact .non
  | .bl b, v, _, r => by rw [show v = .bl b from r]; exact .bl b
  | .int i, v, _, r => by rw [show v = .int i from r]; exact .int i
  | .str x, v, _, r => by rw [show v = .str x from r]; exact .str x
  | .lst ds, v, h, r => by obtain ⟨a, vs, rfl, q, t⟩ := r; exact .lst (SqL.of q) (Reps.dp ds h t)
  | .tup ds, v, h, r => by obtain ⟨a, vs, rfl, q, t⟩ := r; exact .tup (SqT.of q) (Reps.dp ds h t)
  | .kt ds, v, h, r => by obtain ⟨a, vs, rfl, q, t⟩ := r; exact .tup q (Reps.dp ds h t)
  | .dic _, _, h, _ => absurd (show false = true from h) Bool.false_ne_true
  | .dit _, _, h, _ => absurd (show false = true from h) Bool.false_ne_true
  | .ins _ _, _, h, _ => absurd (show false = true from h) Bool.false_ne_true
  | .cl _, _, h, _ => absurd (show false = true from h) Bool.false_ne_true
  | .ty _, _, h, _ => absurd (show false = true from h) Bool.false_ne_true
  | .scr _, _, h, _ => absurd (show false = true from h) Bool.false_ne_true
  | .exc _ _ _ _, _, h, _ => absurd (show false = true from h) Bool.false_ne_true
  | .xo _ _, _, h, _ => absurd (show false = true from h) Bool.false_ne_true
theorem Reps.dp : ∀ (ds : List D) {vs : List V}, pyOks ds = true → Reps K H ds vs → DpAll K H vs (toPys ds)
  | [], vs, _, r => by rw [show vs = [] from r]; exact .nil
  | d :: ds, vs, h, r => by
    obtain ⟨v, ws, rfl, q, t⟩ := r
    have h := Bool.and_eq_true_iff.mp h
    exact .cons (Rep.dp d h.1 q) (Reps.dp ds h.2 t)
end
theorem Vw.rep {HF : Hp} {d : D} {v : V} (s : Same HF H) (r : Vw K HF H d v) : Rep K H d v := by
  cases d with
  | lst ds => obtain ⟨a, vs, e, q, t⟩ := r; exact ⟨a, vs, e, q, Reps.mono s ds t⟩
  | dic ds => obtain ⟨a, vs, e, q, t⟩ := r; exact ⟨a, vs, e, q, RepKs.mono s ds t⟩
  | dit ds => obtain ⟨a, vs, e, q, t⟩ := r; exact ⟨a, vs, e, q, RepTs.mono s ds t⟩
  | ins C ds => obtain ⟨a, dx, vs, e, q, t⟩ := r; exact ⟨a, dx, vs, e, q, RepFs.mono s ds t⟩
  | _ => exact Rep.mono s _ r
end
/-- two scalars that == tells apart as data does -/
def scalD : D → D → Bool
  | .non, .non => true | .non, .int _ => true | .int _, .non => true | .non, .bl _ => true | .bl _, .non => true | .non, .str _ => true | .str _, .non => true
  | .int _, .int _ => true | .bl _, .bl _ => true | .str _, .str _ => true
  | .int _, .str _ => true | .str _, .int _ => true | .bl _, .str _ => true | .str _, .bl _ => true
  | _, _ => false
def gEq : G2 := fun d d' P => (scalD d d' = true ∨ (Shp d ∧ Shp d')) ∧ P (.fz (.bl (dEq d d')))
def gNe : G2 := fun d d' P => (scalD d d' = true ∨ (Shp d ∧ Shp d')) ∧ P (.fz (.bl (!dEq d d')))
theorem scal_dec {K : PySem.W.Frag} {HF H : Hp} {d d' : D} {v v' : V} (h : scalD d d' = true) (r : Vw K HF H d v) (r' : Vw K HF H d' v') : scal v v' = true ∧ decide (v = v') = dEq d d' := by
  cases d <;> cases d' <;> first
    | exact absurd (show false = true from h) Bool.false_ne_true
    | (cases r; cases r'; refine ⟨rfl, ?_⟩; first
        | rfl
        | exact decide_eq_false (fun z => by cases z)
        | (rename_i a b; show decide (V.int a = V.int b) = (a == b); by_cases e : a = b
           · subst e; simp
           · rw [decide_eq_false (fun z => e (by injection z))]; exact (beq_eq_false_iff_ne.mpr e).symm)
        | (rename_i a b; show decide (V.bl a = V.bl b) = (a == b); cases a <;> cases b <;> rfl)
        | (rename_i a b; show decide (V.str a = V.str b) = (a == b); by_cases e : a = b
           · subst e; simp
           · rw [decide_eq_false (fun z => e (by injection z))]; exact (beq_eq_false_iff_ne.mpr e).symm))
section
variable {X : Cx} {W : WX} {a b : Expr} {ta tb : TD} {pos : Pos}
theorem ae_eq (hu : X.A.units + 64 < cLine) (ha : AE X W a ta) (hb : AE X W b tb) : AE X W (.Compare a [.Eq] [b] pos) (t2 (p2 gEq) ta tb) := by
  refine ae_cmp (OpR.or op_eq (op_eqD hu)) (prim2 fun HF H v v' d d' P Q s r r' g k => ?_) ha hb (nomark _)
  rcases g with ⟨h | ⟨h1, h2⟩, q⟩
  · obtain ⟨e1, e2⟩ := scal_dec h r r'
    exact .inl ⟨e1, by rw [e2]; exact k _ _ _ _ _ q (New.imm s rfl)⟩
  · exact .inr ⟨_, _, Rep.dp d h1.1 (r.rep s), Rep.dp d' h2.1 (r'.rep s), h1.shaped, h2.shaped, by rw [eqv_toPy d d' h1.1 h2.1]; exact k _ _ _ _ _ q (New.imm s rfl)⟩
theorem ae_ne (hu : X.A.units + 64 < cLine) (ha : AE X W a ta) (hb : AE X W b tb) : AE X W (.Compare a [.NotEq] [b] pos) (t2 (p2 gNe) ta tb) := by
  refine ae_cmp (OpR.or op_ne (op_neD hu)) (prim2 fun HF H v v' d d' P Q s r r' g k => ?_) ha hb (nomark _)
  rcases g with ⟨h | ⟨h1, h2⟩, q⟩
  · obtain ⟨e1, e2⟩ := scal_dec h r r'
    exact .inl ⟨e1, by rw [e2]; exact k _ _ _ _ _ q (New.imm s rfl)⟩
  · exact .inr ⟨_, _, Rep.dp d h1.1 (r.rep s), Rep.dp d' h2.1 (r'.rep s), h1.shaped, h2.shaped, by rw [eqv_toPy d d' h1.1 h2.1]; exact k _ _ _ _ _ q (New.imm s rfl)⟩
end
end AE
/-! AE10: in, is None, dicts read, lists changed. -/
namespace AE
open PySem L2
section
variable {X : Cx} {W : WX} {a b : Expr} {ta tb : TD} {pos : Pos}
/-! ### is None -/
def dNon : D → Bool
  | .non => true
  | _ => false
def gIsN (neg : Bool) : G2 := fun d d' P => match d' with
  | .non => P (.fz (.bl (if neg then !dNon d else dNon d)))
  | _ => False
theorem non_dec {K : PySem.W.Frag} {HF H : Hp} {d : D} {v : V} (r : Vw K HF H d v) : decide (v = .non) = dNon d := by
  cases d with
  | non => cases r; rfl
  | bl _ => cases r; rfl
  | int _ => cases r; rfl
  | str _ => cases r; rfl
  | cl _ => cases r; rfl
  | ty _ => cases r; rfl
  | lst _ => obtain ⟨a, vs, rfl, _⟩ := r; rfl
  | tup _ => obtain ⟨a, vs, rfl, _⟩ := r; rfl
  | kt _ => obtain ⟨a, vs, rfl, _⟩ := r; rfl
  | dic _ => obtain ⟨a, vs, rfl, _⟩ := r; rfl
  | dit _ => obtain ⟨a, vs, rfl, _⟩ := r; rfl
  | ins _ _ => obtain ⟨a, dx, vs, rfl, _⟩ := r; rfl
  | scr _ => obtain ⟨a, rfl, _⟩ := r; rfl
  | exc _ _ _ _ => obtain ⟨rfl, _⟩ := r; rfl
  | xo _ _ => obtain ⟨_, rfl, _⟩ := r; rfl
theorem ae_is (ha : AE X W a ta) (hb : AE X W b tb) : AE X W (.Compare a [.Is] [b] pos) (t2 (p2 (gIsN false)) ta tb) := ae_cmp op_isN (prim2 fun HF H v v' d d' P Q s r r' g k => by
  unfold gIsN at g
  split at g
  · cases (show v' = .non from r')
    exact ⟨rfl, by rw [non_dec r]; exact k _ _ _ _ _ g (New.imm s rfl)⟩
  · exact g.elim) ha hb (nomark _)
theorem ae_isnot (ha : AE X W a ta) (hb : AE X W b tb) : AE X W (.Compare a [.IsNot] [b] pos) (t2 (p2 (gIsN true)) ta tb) := ae_cmp op_notN (prim2 fun HF H v v' d d' P Q s r r' g k => by
  unfold gIsN at g
  split at g
  · cases (show v' = .non from r')
    exact ⟨rfl, by rw [non_dec r]; exact k _ _ _ _ _ g (New.imm s rfl)⟩
  · exact g.elim) ha hb (nomark _)

/-! ### dicts: keys and values -/
def keyD : D → Option Key
  | .int i => some (.inl i)
  | .str x => some (.inr x)
  | _ => none
def valD {κ : Type} [DecidableEq κ] (kvs : List (κ × D)) (k : κ) : Option D := (kvs.find? fun kv => decide (kv.1 = k)).map (·.2)
theorem keyD_ok {K : PySem.W.Frag} {HF H : Hp} {d : D} {k : Key} {v : V} (h : keyD d = some k) (r : Vw K HF H d v) : v = kV k := by
  cases d <;> first | cases h; done | (cases h; exact r)
theorem RepKs.val {K : PySem.W.Frag} {HF : Hp} {k : Key} : ∀ {ds : List (Key × D)} {vs : List (Key × V)}, RepKs K HF ds vs → (valD ds k = none ∧ valV vs k = none) ∨ ∃ d v, valD ds k = some d ∧ valV vs k = some v ∧ Rep K HF d v
  | [], vs, h => by rw [show vs = [] from h]; exact .inl ⟨rfl, rfl⟩
  | (k', d) :: ds, vs, h => by
    obtain ⟨⟨k2, v⟩, ws, rfl, ⟨hk, r⟩, t⟩ := h
    have hk : k2 = k' := hk
    subst hk
    by_cases e : k2 = k
    · subst e
      exact .inr ⟨d, v, by simp [valD], by simp [valV], r⟩
    · have e1 : valD ((k2, d) :: ds) k = valD ds k := by simp [valD, e]
      have e2 : valV ((k2, v) :: ws) k = valV ws k := by simp [valV, e]
      rw [e1, e2]
      exact RepKs.val t
/-! ### in -/
def flatD : D → Bool
  | .non => true
  | .bl _ => true
  | .int _ => true
  | .str _ => true
  | _ => false
def dIn (d : D) (ys : List D) : Bool := ys.any fun y => dEq y d
def xorB (neg b : Bool) : Bool := if neg then !b else b
def gIn (neg : Bool) : G2 := fun d d' P => match d' with
  | .lst ys => ((flatD d = true ∧ ys.all flatD = true) ∨ (Shp d ∧ Shp (.lst ys))) ∧ P (.fz (.bl (xorB neg (dIn d ys))))
  | .tup ys => (flatD d = true ∧ ys.all flatD = true) ∧ P (.fz (.bl (xorB neg (dIn d ys))))
  | .kt ys => (flatD d = true ∧ ys.all flatD = true) ∧ P (.fz (.bl (xorB neg (dIn d ys))))
  | .str z => (match d with
    | .str w => ∃ c, w = ⟨#[c]⟩ ∧ P (.fz (.bl (xorB neg (decide (c ∈ z.cps.toList)))))
    | _ => False)
  | .dic kvs => (match keyD d with
    | some k => P (.fz (.bl (xorB neg (valD kvs k).isSome)))
    | none => False)
  | _ => False
theorem eqV_dEq {K : PySem.W.Frag} {HF : Hp} {d e : D} {v u : V} (hd : flatD d = true) (he : flatD e = true) (r : Rep K HF d v) (q : Rep K HF e u) : flatV v = true ∧ eqV v u = dEq d e := by
  cases d <;> first
    | exact absurd (show false = true from hd) Bool.false_ne_true
    | (cases e <;> first
      | exact absurd (show false = true from he) Bool.false_ne_true
      | (cases r; cases q; exact ⟨rfl, rfl⟩))
theorem flat_vw {K : PySem.W.Frag} {HF H : Hp} {d : D} {v : V} (hd : flatD d = true) (r : Vw K HF H d v) : Rep K HF d v := by
  cases d <;> first
    | exact absurd (show false = true from hd) Bool.false_ne_true
    | exact r
theorem inV_dIn {K : PySem.W.Frag} {HF : Hp} {d : D} {v : V} (hd : flatD d = true) (r : Rep K HF d v) : ∀ {ys : List D} {us : List V}, ys.all flatD = true → Reps K HF ys us → us.all flatV = true ∧ inV v us = dIn d ys
  | [], us, _, q => by rw [show us = [] from q]; exact ⟨rfl, rfl⟩
  | y :: ys, us, h, q => by
    obtain ⟨u, ws, rfl, q1, q2⟩ := q
    have h := Bool.and_eq_true_iff.mp (by simpa using h : (flatD y && ys.all flatD) = true)
    obtain ⟨e1, e2⟩ := eqV_dEq h.1 hd q1 r
    obtain ⟨e3, e4⟩ := inV_dIn hd r (by simpa using h.2) q2
    refine ⟨by simp only [List.all_cons, e1, e3]; rfl, ?_⟩
    show (eqV u v || inV v ws) = (dEq y d || dIn d ys)
    rw [e2, e4]
theorem anyEqv {d : D} (hd : pyOk d = true) : ∀ {ys : List D}, pyOks ys = true → ((toPys ys).any fun z => PyData.eqv z (toPy d)) = dIn d ys
  | [], _ => rfl
  | y :: ys, h => by
    have h := Bool.and_eq_true_iff.mp h
    show (PyData.eqv (toPy y) (toPy d) || (toPys ys).any _) = (dEq y d || dIn d ys)
    rw [eqv_toPy y d h.1 hd, anyEqv hd h.2]
def rDin (neg : Bool) : R2 := fun x y H Q => ∃ a ov, y = .ref a ∧ DGet H a x ov ∧ Q (.bl (xorB neg ov.isSome)) H
theorem op_din (hu : X.A.units + 64 < cLine) : OpR X (compareOp .In) (rDin false) := fun pins s σ H x y v u Q I rx ry h => by
  obtain ⟨p, ov, rfl, g, q⟩ := h
  cases ry
  exact d_in (by omega) I g rx fun s' I' => ⟨.bl ov.isSome, H, I', rfl, q⟩
theorem op_dnotin (hu : X.A.units + 64 < cLine) : OpR X (compareOp .NotIn) (rDin true) := fun pins s σ H x y v u Q I rx ry h => by
  obtain ⟨p, ov, rfl, g, q⟩ := h
  cases ry
  exact d_notIn (by omega) I g rx fun s' I' => ⟨.bl (!ov.isSome), H, I', rfl, q⟩
def rInU (K : PySem.W.Frag) (neg : Bool) : R2 := fun x y H Q => rIn K neg x y H Q ∨ (∃ d ds, Dp K H x d ∧ Dp K H y (.list ds) ∧ SeqAt.shaped d = true ∧ SeqAt.shaped (.list ds) = true ∧ Q (.bl (xorB neg (ds.any fun z => PyData.eqv z d))) H) ∨
  (∃ (c : Nat) (z : Str), x = .str ⟨#[c]⟩ ∧ y = .str z ∧ Q (.bl (xorB neg (decide (c ∈ z.cps.toList)))) H) ∨ rDin neg x y H Q
theorem op_inU (hu : X.A.units + 65 < cLine) : OpR X (compareOp .In) (rInU X.K false) := OpR.or op_in_seq (OpR.or (op_inD hu) (OpR.or op_in_sign (op_din (by omega))))
theorem op_notInU (hu : X.A.units + 65 < cLine) : OpR X (compareOp .NotIn) (rInU X.K true) := OpR.or op_notIn_seq (OpR.or (op_notInD hu) (OpR.or op_notIn_sign (op_dnotin (by omega))))
theorem do_in {K : PySem.W.Frag} (neg : Bool) : Do2 K (rInU K neg) (gIn neg) := fun HF H v v' d d' P Q s r r' g k => by
  unfold gIn at g
  split at g
  · rename_i ys
    obtain ⟨p, vs, rfl, h1, r1⟩ := id r'
    rcases g with ⟨⟨h2, h3⟩ | ⟨h2, h3⟩, q⟩
    · obtain ⟨e1, e2⟩ := inV_dIn h2 (flat_vw h2 r) h3 r1
      refine .inl ⟨p, vs, rfl, .inl (SqL.of h1), (eqV_dEq h2 h2 (flat_vw h2 r) (flat_vw h2 r)).1, e1, ?_⟩
      rw [e2]; exact k _ _ _ _ _ q (New.imm s rfl)
    · refine .inr (.inl ⟨toPy d, toPys ys, Rep.dp d h2.1 (r.rep s), Rep.dp (.lst ys) h3.1 (r'.rep s), h2.shaped, h3.shaped, ?_⟩)
      rw [anyEqv h2.1 h3.1]; exact k _ _ _ _ _ q (New.imm s rfl)
  · obtain ⟨p, vs, rfl, h1, r1⟩ := r'
    obtain ⟨⟨h2, h3⟩, q⟩ := g
    obtain ⟨e1, e2⟩ := inV_dIn h2 (flat_vw h2 r) h3 r1
    refine .inl ⟨p, vs, rfl, .inr (SqT.of (s _ _ h1)), (eqV_dEq h2 h2 (flat_vw h2 r) (flat_vw h2 r)).1, e1, ?_⟩
    rw [e2]; exact k _ _ _ _ _ q (New.imm s rfl)
  · obtain ⟨p, vs, rfl, h1, r1⟩ := r'
    obtain ⟨⟨h2, h3⟩, q⟩ := g
    obtain ⟨e1, e2⟩ := inV_dIn h2 (flat_vw h2 r) h3 r1
    refine .inl ⟨p, vs, rfl, .inr (SqT.mono h1 s), (eqV_dEq h2 h2 (flat_vw h2 r) (flat_vw h2 r)).1, e1, ?_⟩
    rw [e2]; exact k _ _ _ _ _ q (New.imm s rfl)
  · split at g
    · obtain ⟨c, rfl, q⟩ := g
      cases (show v' = .str _ from r')
      cases (show v = .str _ from r)
      exact .inr (.inr (.inl ⟨c, _, rfl, rfl, k _ _ _ _ _ q (New.imm s rfl)⟩))
    · exact g.elim
  · split at g
    · rename_i key ek
      obtain ⟨p, vs, rfl, h1, r1⟩ := r'
      obtain rfl := keyD_ok ek r
      refine .inr (.inr (.inr ⟨p, valV vs key, rfl, .inl ⟨vs, key, h1, rfl, rfl⟩, ?_⟩))
      rcases RepKs.val (k := key) r1 with ⟨e1, e2⟩ | ⟨d1, v1, e1, e2, _⟩
      · rw [e2]; rw [e1] at g; exact k _ _ _ _ _ g (New.imm s rfl)
      · rw [e2]; rw [e1] at g; exact k _ _ _ _ _ g (New.imm s rfl)
    · exact g.elim
  · exact g.elim
theorem ae_in (hu : X.A.units + 65 < cLine) (ha : AE X W a ta) (hb : AE X W b tb) (hm : behindInMarks .In b = false) : AE X W (.Compare a [.In] [b] pos) (t2 (p2 (gIn false)) ta tb) := ae_cmp (op_inU hu) (prim2 (do_in false)) ha hb hm
theorem ae_notin (hu : X.A.units + 65 < cLine) (ha : AE X W a ta) (hb : AE X W b tb) (hm : behindInMarks .NotIn b = false) : AE X W (.Compare a [.NotIn] [b] pos) (t2 (p2 (gIn true)) ta tb) := ae_cmp (op_notInU hu) (prim2 (do_in true)) ha hb hm
end
end AE
/-! AE11: subscripts of dicts; lists and dicts that a slot owns, changed. -/
namespace AE
open PySem L2
section
variable {X : Cx} {W : WX} {a b : Expr} {ta tb : TD} {pos : Pos}
def rIxD : R2 := fun x y H Q => ∃ a v, x = .ref a ∧ DGet H a y (some v) ∧ Q v H
theorem ix_dict (hu : X.A.units + 64 < cLine) : IxR X rIxD := by
  intro value slice pins s σ H x y o i Q I rx ry h hs
  obtain ⟨p, v, rfl, g, q⟩ := h
  cases rx
  have hT := dict_typeIs I g
  have h₂ : wpAny (model X.prog X.w) X.A (getItem (.ref p) i) (EP X pins σ Q) X.xe s := d_getItem (by omega) I g ry fun w' s3 I3 rw' => ⟨v, H, I3, rw', q⟩
  unfold PyProof.Rows.subscriptTail
  refine wpAny_bind ?_
  rw [getitemInPython_of_ne hT.not_modules]
  refine wpAny_bind (wpAny_specialOf hT PySem.F.slot_dict_getitem.lookup ?_)
  have fin : wpAny (model X.prog X.w) X.A (subscripted slice false (.ref p) i) (fun r s₃ => wpAny (model X.prog X.w) X.A (letTemporaryGo value (.ref p) r >>= fun _ => pure r) (EP X pins σ Q) X.xe s₃) X.xe s := by
    rw [hs]
    exact wpAny_operating (wpAny_mono h₂ (fun r s₃ h₃ => wpAny_bind (wpAny_letTemporaryGo (wpAny_pure h₃))) fun _ _ x => x)
  first
    | exact wpAny_pure (wpAny_bind fin)
    | exact wpAny_bind (wpAny_pure (wpAny_bind fin))
    | exact wpAny_bind fin
def gIxD : G2 := fun d d' P => match d with
  | .dic kvs => (match keyD d' with
    | some k => ∃ v, valD kvs k = some v ∧ P (.fz v)
    | none => False)
  | _ => gIx d d' P
theorem do_ixD {K : PySem.W.Frag} : Do2 K (fun x y H Q => rIx K x y H Q ∨ rIxD x y H Q) gIxD := fun HF H v v' d d' P Q s r r' g k => by
  unfold gIxD at g
  split at g
  · split at g
    · rename_i key ek
      obtain ⟨p, vs, rfl, h1, r1⟩ := r
      obtain rfl := keyD_ok ek r'
      obtain ⟨dv, e1, q⟩ := g
      rcases RepKs.val (k := key) r1 with ⟨e2, _⟩ | ⟨d1, v1, e2, e3, rv⟩
      · rw [e1] at e2; cases e2
      · rw [e1] at e2; cases e2
        exact .inr ⟨p, v1, rfl, .inl ⟨vs, key, h1, rfl, e3.symm⟩, k _ _ _ _ _ q (New.imm s rv)⟩
    · exact g.elim
  · exact .inl (do_ix HF H v v' _ d' P Q s r r' g k)
theorem ae_at (hu : X.A.units + 64 < cLine) (ha : AE X W a ta) (hb : AE X W b tb) (hs : PlainIx b := by intro _ _; rfl) : AE X W (.Subscript a b pos) (t2 (p2 gIxD) ta tb) := ae_ix (IxR.or ix_seq (ix_dict hu)) (prim2 do_ixD) ha hb hs
end

/-! ### what a slot owns, changed -/
/-- one flat object -/
def One (o : O) : Prop := match o with
  | .ls _ => True
  | .dc _ => True
  | .dt _ => True
  | _ => False
theorem One.at {K : PySem.W.Frag} {HF H : Hp} {o : O} {v : V} {B : List Addr} (h : One o) (r : RepO K HF H o v B) : ∃ a, v = .ref a ∧ B = [a] := by
  cases o with
  | ls _ => obtain ⟨a, vs, e, ea, _⟩ := r; exact ⟨a, e, ea⟩
  | dc _ => obtain ⟨a, vs, e, ea, _⟩ := r; exact ⟨a, e, ea⟩
  | dt _ => obtain ⟨a, vs, e, ea, _⟩ := r; exact ⟨a, e, ea⟩
  | _ => exact h.elim
theorem slot_one {K : PySem.W.Frag} {σ : St} {HF H : Hp} {ρ : Env} {A : List Addr} {i : Nat} {o : O} (en : EnvR K HF H ρ σ A) (e : ρ[i]? = some (some o)) (h1 : One o) :
    ∃ a, σ[i]? = some (some (.ref a)) ∧ RepO K HF H o (.ref a) [a] ∧ ∀ HG u o', Same HF HG → WR HG H A → RepO K HG (upd H a u) o' (.ref a) [a] → ∃ A', WR HG (upd H a u) A' ∧ Fr H (upd H a u) HG HG A A' ∧ EnvR K HG (upd H a u) (ρ.set i (some o')) σ A' := by
  obtain ⟨v, B, C, s1, r, pm, en1⟩ := en.get e
  obtain ⟨a, rfl, rfl⟩ := h1.at r
  refine ⟨a, s1, r, fun HG u o' s w r' => ?_⟩
  have w1 : WR HG H (C ++ [a]) := w.perm (pm.trans List.perm_append_comm)
  obtain ⟨w2, f2, k2⟩ := putD (K := K) (u := u) w1
  have en2 := k2 _ _ (EnvR.keep s _ en1 fun _ _ => rfl)
  have hi : i < ρ.length := (List.getElem?_eq_some_iff.mp e).1
  obtain ⟨A', pm', en3⟩ := EnvR.put en2 hi r'
  rw [set_get s1] at en3
  have p3 : (C ++ [a]).Perm A' := List.perm_append_comm.trans pm'.symm
  have p4 : A.Perm (C ++ [a]) := pm.trans List.perm_append_comm
  exact ⟨A', w2.perm p3, f2.mono (fun p hp => p4.mem_iff.mpr hp) fun p hp => .inl (p3.mem_iff.mpr hp), en3⟩
/-- x.m(..): the receiver, then the arguments, then what is done -/
def isL (ρ : Env) (e : EV) : Prop := match deref ρ e with
  | some (.ls _) => True
  | some (.nl _) => True
  | some (.fz (.lst _)) => True
  | _ => False
theorem isL_ty {K : PySem.W.Frag} {HF H : Hp} {ρ : Env} {σ : St} {A Av : List Addr} {ev : EV} {v : V} (s : Same HF H) (en : EnvR K HF H ρ σ A) (r : EVR K HF H σ ev v Av) (h : isL ρ ev) : tyV K "list" v H := by
  have key : ∀ {o : O} {B : List Addr}, RepO K HF H o v B → (match some o with | some (.ls _) => True | some (.nl _) => True | some (.fz (.lst _)) => True | _ => False) → tyV K "list" v H := fun {o B} ro z => by
    cases o with
    | ls ds => obtain ⟨a, vs, rfl, _, q, _⟩ := ro; exact .inl ⟨rfl, vs, SqL.of q⟩
    | nl ds => obtain ⟨a, vs, _, rfl, _, q, _⟩ := ro; exact .inl ⟨rfl, vs, SqL.of q⟩
    | fz d =>
      cases d with
      | lst ds => obtain ⟨_, a, vs, rfl, q, _⟩ := ro; exact .inl ⟨rfl, vs, SqL.of (s _ _ q)⟩
      | _ => exact z.elim
    | _ => exact z.elim
  cases ev with
  | ow o => exact key r h
  | pt i =>
    have h : (match (match ρ[i]? with | some (some o) => some o | _ => none : Option O) with | some (.ls _) => True | some (.nl _) => True | some (.fz (.lst _)) => True | _ => False) := h
    cases e' : ρ[i]? with
    | none => rw [e'] at h; exact h.elim
    | some oo =>
      cases oo with
      | none => rw [e'] at h; exact h.elim
      | some o =>
        rw [e'] at h
        obtain ⟨v', B, C, h1, h2, _⟩ := en.get e'
        have : v = v' := by
          have q := r.2
          rw [h1] at q
          exact (Option.some.inj (Option.some.inj q)).symm
        subst this
        exact key h2 h
def tMtL (f : Env → List EV → KD → Prop) (ta : TD) (ts : TDs) : TD := fun ρ Kd Ed => ta ρ (fun e1 ρ1 => isL ρ1 e1 ∧ ts ρ1 (fun es ρ2 => f ρ2 (e1 :: es) Kd) Ed) Ed
def rML (r : V → List V → Hp → VK → Prop) : List V → Hp → VK → Prop
  | x :: xs => r x xs
  | _ => fun _ _ => False
section
variable {X : Cx} {W : WX} {o e : Expr} {es : List Expr} {to : TD} {ts : TDs} {name : Str} {apos cpos : Pos} {id : String} {r : V → List V → Hp → VK → Prop} {f : Env → List EV → KD → Prop}
theorem mt_red (hp : Prim X.K (rML r) f) : ∀ σ H Q, tA X.K W (tMtL f to ts) σ H Q → tBM X.K "list" r (tA X.K W to) (tAs X.K W ts) σ H Q := fun σ H Q q => by
  obtain ⟨HF, ρ, A, Kd, Ed, w, en, t, k, x⟩ := q
  refine ⟨HF, ρ, A, _, Ed, w, en, t, fun e1 ρ1 q1 HF1 H1 A1 v1 Av1 f1 w1 en1 r1 => ⟨isL_ty w1.same en1 r1 q1.1, ?_⟩, x⟩
  have x1 : XOk X.K σ H1 HF1 A1 Ed W := (x.step f1).step (Fr.drop fun p hp => List.mem_append_left _ hp)
  refine ⟨HF1, ρ1, A1, _, Ed, w1.left, en1, q1.2, fun es2 ρ2 q2 HF2 H2 A2 vs2 Av2 f2 w2 en2 r2 => ?_, x1⟩
  obtain ⟨w3, f3, k3⟩ := join w1 (EVR.there r1) f2 w2
  exact hp σ HF2 H2 ρ2 A2 (Av1 ++ Av2) (e1 :: es2) (v1 :: vs2) Kd Q w3 en2 ⟨v1, vs2, Av1, Av2, rfl, rfl, EVR.keep f2.same r1 k3, r2⟩ q2 ((k.step f1).step f3)
theorem ae_mtL (slot : Slot "list" name id) (hty : typeOf (.builtin id) = pure (.type "method_descriptor")) (hm : MtR X id r) (hp : Prim X.K (rML r) f) (ho : AE X W o to) (ha : AA X W (e :: es) ts)
    (hbase : attributeBase o name X.env (eval o X.env) = eval o X.env := by rfl)
    (hfew : ((backTo cpos (starEach (e :: es) X.env)).all (fun x => !x.1) && (backToKw cpos (keywordEach [] X.env)).all (fun x => x.1.isSome)
      && decide ((e :: es).length + ([] : List Keyword).length + (if ([] : List Keyword).isEmpty then 0 else 1) < 30)) = true := by rfl)
    (hline : (apos.endLine == cpos.line) = true := by rfl) (hs : starEach (e :: es) X.env = (false, eval e X.env) :: starEach es X.env := by rfl) (hplain : (backTo cpos (starEach es X.env)).any (·.1) = false := by rfl) :
    AE X W (.Call (.Attribute o name apos) (e :: es) [] cpos) (tMtL f to ts) := PE.imp (pe_bm PySem.F.plainAttrs_list slot hty hm ho ha hbase hfew hline hs hplain) (mt_red hp)
def tMtL0 (f : Env → List EV → KD → Prop) (ta : TD) : TD := fun ρ Kd Ed => ta ρ (fun e1 ρ1 => isL ρ1 e1 ∧ f ρ1 [e1] Kd) Ed
theorem ae_mtL0 (slot : Slot "list" name id) (hty : typeOf (.builtin id) = pure (.type "method_descriptor")) (hm : MtR X id r) (hp : Prim X.K (rML r) f) (ho : AE X W o to)
    (hbase : attributeBase o name X.env (eval o X.env) = eval o X.env := by rfl) (hline : (apos.endLine == cpos.line) = true := by rfl) :
    AE X W (.Call (.Attribute o name apos) [] [] cpos) (tMtL0 f to) := PE.imp (pe_bm0 PySem.F.plainAttrs_list slot hty hm ho hbase hline) fun σ H Q q => by
  obtain ⟨HF, ρ, A, Kd, Ed, w, en, t, k, x⟩ := q
  refine ⟨HF, ρ, A, _, Ed, w, en, t, fun e1 ρ1 q1 HF1 H1 A1 v1 Av1 f1 w1 en1 r1 => ⟨isL_ty w1.same en1 r1 q1.1, ?_⟩, x⟩
  exact hp σ HF1 H1 ρ1 A1 Av1 [e1] [v1] Kd Q w1 en1 ⟨v1, [], Av1, [], rfl, by simp, r1, rfl, rfl⟩ q1.2 (k.step f1)
/-! ### append, pop, extend, clear -/
def fApp : Env → List EV → KD → Prop := fun ρ es Kd => match es with
  | [.pt i, .ow o] => (match ρ[i]? with
    | some (some (.ls xs)) => xs.length < sizeLine ∧ Kd (.ow (.fz .non)) (ρ.set i (some (.ls (xs ++ [frz o]))))
    | _ => False)
  | _ => False
theorem prim_app {K : PySem.W.Frag} : Prim K (rML rAppend) fApp := fun σ HF H ρ A Av evs vs Kd Q w en r q k => by
  unfold fApp at q
  split at q
  · rename_i i o
    split at q
    · rename_i xs e
      obtain ⟨v, ws, A1, A2, rfl, rfl, r1, v2, ws2, A3, A4, rfl, rfl, r2, rfl, rfl⟩ := r
      obtain ⟨rfl, hv⟩ := r1
      obtain ⟨a, s1, ro, upd1⟩ := slot_one en e trivial
      rw [hv] at s1
      obtain rfl := Option.some.inj (Option.some.inj s1)
      simp only [List.nil_append, List.append_nil] at w k
      obtain ⟨sg, wg, fg⟩ := grow_ok (w.perm List.perm_append_comm)
      have rg : Rep K (grow HF H A3) (frz o) v2 := RepO.frz sg o r2 fun p hp => grow_in hp
      obtain ⟨a', us, e1, e2, hH, rs⟩ := ro
      cases e1
      obtain ⟨A', w', f', en'⟩ := upd1 (grow HF H A3) (.lst (us ++ [v2])) (.ls (xs ++ [frz o])) sg wg ⟨a, _, rfl, rfl, upd_same, (Reps.mono sg xs rs).append (Reps.one rg)⟩
      refine ⟨a, us, v2, rfl, rfl, hH, by rw [rs.length]; exact q.1, ?_⟩
      have ff : Fr H (upd H a (.lst (us ++ [v2]))) HF (grow HF H A3) (A ++ A3) A' := (fg.mono (fun p hp => (List.mem_append.mp hp).elim (fun z => List.mem_append_right _ z) (fun z => List.mem_append_left _ z)) fun p hp => .inl hp).trans f'
      exact k _ _ q.2 _ _ A' .non [] (by rw [List.append_nil]; exact ff) (by rw [List.append_nil]; exact w') en' ⟨rfl, rfl⟩
    · exact q.elim
  · exact q.elim
theorem ae_append (ho : AE X W o to) (ha : AA X W [e] ts) (hbase : attributeBase o "append" X.env (eval o X.env) = eval o X.env := by rfl)
    (hfew : ((backTo cpos (starEach [e] X.env)).all (fun x => !x.1) && (backToKw cpos (keywordEach [] X.env)).all (fun x => x.1.isSome)
      && decide (([e] : List Expr).length + ([] : List Keyword).length + (if ([] : List Keyword).isEmpty then 0 else 1) < 30)) = true := by rfl)
    (hline : (apos.endLine == cpos.line) = true := by rfl) (hs : starEach [e] X.env = (false, eval e X.env) :: starEach [] X.env := by rfl) :
    AE X W (.Call (.Attribute o "append" apos) [e] [] cpos) (tMtL fApp to ts) := ae_mtL PySem.F.slot_list_append PySem.F.type_list_append mt_append prim_app ho ha hbase hfew hline hs rfl
end
end AE
/-! AE12: x[i] = e, d[k] = e. -/
namespace AE
open PySem L2
def putDk {κ : Type} [DecidableEq κ] (kvs : List (κ × D)) (k : κ) (v : D) : List (κ × D) :=
  if (kvs.any fun kv => decide (kv.1 = k)) = true then kvs.map (fun kv => if kv.1 = k then (kv.1, v) else kv) else kvs ++ [(k, v)]
section
variable {K : PySem.W.Frag} {HF : Hp}
theorem RepKs.any {k : Key} : ∀ {ds : List (Key × D)} {vs : List (Key × V)}, RepKs K HF ds vs → (vs.any fun kv => decide (kv.1 = k)) = (ds.any fun kv => decide (kv.1 = k))
  | [], vs, h => by rw [show vs = [] from h]; rfl
  | (k', d) :: ds, vs, h => by
    obtain ⟨⟨k2, v⟩, ws, rfl, ⟨hk, r⟩, t⟩ := h
    have hk : k2 = k' := hk
    subst hk
    simp only [List.any_cons, RepKs.any t]
theorem RepKs.mapPut {k : Key} {d : D} {v : V} (r : Rep K HF d v) : ∀ {ds : List (Key × D)} {vs : List (Key × V)}, RepKs K HF ds vs → RepKs K HF (ds.map fun kv => if kv.1 = k then (kv.1, d) else kv) (vs.map fun kv => if kv.1 = k then (kv.1, v) else kv)
  | [], vs, h => by rw [show vs = [] from h]; exact rfl
  | (k', d') :: ds, vs, h => by
    obtain ⟨⟨k2, v2⟩, ws, rfl, ⟨hk, r2⟩, t⟩ := h
    have hk : k2 = k' := hk
    subst hk
    refine ⟨_, _, rfl, ?_, RepKs.mapPut r t⟩
    by_cases e : k2 = k
    · simp only [e, if_true]; exact ⟨rfl, r⟩
    · simp only [e, if_false]; exact ⟨rfl, r2⟩
theorem RepKs.append : ∀ {ds es : List (Key × D)} {vs ws : List (Key × V)}, RepKs K HF ds vs → RepKs K HF es ws → RepKs K HF (ds ++ es) (vs ++ ws)
  | [], es, vs, ws, h, q => by rw [show vs = [] from h]; exact q
  | d :: ds, es, vs, ws, h, q => by obtain ⟨v, us, rfl, r, t⟩ := h; exact ⟨v, us ++ ws, rfl, r, RepKs.append t q⟩
theorem RepKs.put {k : Key} {d : D} {v : V} (r : Rep K HF d v) {ds : List (Key × D)} {vs : List (Key × V)} (h : RepKs K HF ds vs) : RepKs K HF (putDk ds k d) (putK vs k v) := by
  unfold putDk putK
  rw [h.any]
  split
  · exact RepKs.mapPut r h
  · exact h.append ⟨(k, v), [], rfl, ⟨rfl, r⟩, rfl⟩
theorem Reps.set {d : D} {v : V} (r : Rep K HF d v) : ∀ {ds : List D} {vs : List V} (n : Nat), Reps K HF ds vs → Reps K HF (ds.set n d) (vs.set n v)
  | [], vs, n, h => by rw [show vs = [] from h]; exact rfl
  | d' :: ds, vs, 0, h => by obtain ⟨v', ws, rfl, q, t⟩ := h; exact ⟨v, ws, rfl, r, t⟩
  | d' :: ds, vs, n + 1, h => by obtain ⟨v', ws, rfl, q, t⟩ := h; exact ⟨v', _, rfl, q, Reps.set r n t⟩
end
section
variable {X : Cx} {P : Prot} {o i : Expr} {to ti : TD} {pos : Pos}
theorem PSet.or {t t' : TSet} (h : PSet X t) (h' : PSet X t') : PSet X (fun o i v H Q => t o i v H Q ∨ t' o i v H Q) := fun pins s σ H o i v ov iv u Q I ro ri rv q => q.elim (h pins s σ H o i v ov iv u Q I ro ri rv) (h' pins s σ H o i v ov iv u Q I ro ri rv)
def rSetD : TSet := fun o i v H Q => ∃ a H', o = .ref a ∧ DPut H a i v H' ∧ Q H'
theorem set_dict (hu : X.A.units + 64 < cLine) : PSet X rSetD := fun pins s σ H o i v ov iv u Q I ro ri rv q => by
  obtain ⟨a, H', rfl, g, q⟩ := q
  cases ro
  exact d_setItem (by omega) I g ri rv fun s' I' => ⟨H', I', q⟩
/-- x[i] = ..: x a name whose thing its slot owns -/
def gSubD (to ti : TD) : TGD := fun o ρ N => to ρ (fun e1 ρ1 => ti ρ1 (fun e2 ρ2 => match e1 with
  | .pt j => (match ρ2[j]? with
    | some (some (.ls xs)) => (match dOf ρ2 e2 with
      | some (.int k) => ∃ n, ixN xs.length k = some n ∧ N (ρ2.set j (some (.ls (xs.set n (frz o)))))
      | _ => False)
    | some (some (.dc kvs)) => (match dOf ρ2 e2 with
      | some d => (match keyD d with
        | some k => kvs.length < sizeLine ∧ N (ρ2.set j (some (.dc (putDk kvs k (frz o)))))
        | none => False)
      | none => False)
    | _ => False)
  | _ => False) NoX) NoX
theorem ag_sub (hu : X.A.units + 64 < cLine) (ho : AE X WF o to) (hi : AE X WF i ti)
    (ha : ∀ v, assign (.Subscript o i pos) X.env v = (do
      let ov ← holding [v] (eval o X.env)
      let iv ← holding [v, ov] (eval i X.env)
      standAt pos
      holding [v, ov, iv] (setItem ov iv v)
      release [v, ov, iv] []) := by intro _; rfl) : AG X P (.Subscript o i pos) (gSubD to ti) :=
  PG.imp (pg_sub ho hi (PSet.or set_list (set_dict hu)) ha) fun v σ H Q q => by
    obtain ⟨HF, ρ, A, ov, B, N, w, en, r, g, k⟩ := q
    have tB := RepO.there ov r
    refine ⟨HF, ρ, A, _, NoX, w.left, en, g, fun e1 ρ1 q1 HF1 H1 A1 v1 Av1 f1 w1 en1 r1 => ?_, fun _ _ z => z.elim⟩
    obtain ⟨w1B, f1B, k1B⟩ := join w tB f1 w1
    have f1' : Fr H H1 HF HF1 A A1 := f1.mono (fun _ h => h) fun p hp => .inl (List.mem_append_left _ hp)
    have wA1 : WR HF1 H1 (A1 ++ B) := w1B.sub (by rw [← List.append_assoc]; exact List.sublist_append_left _ _)
    have fA1 : Fr H H1 HF HF1 (A ++ B) (A1 ++ B) := f1B.mono (fun _ h => h) fun p hp => .inl (by rw [← List.append_assoc]; exact List.mem_append_left _ hp)
    have rB1 : RepO X.K HF1 H1 ov v B := RepO.keep f1.same ov r k1B
    refine ⟨HF1, ρ1, A1, _, NoX, w1.left, en1, q1, fun e2 ρ2 q2 HF2 H2 A2 v2 Av2 f2 w2 en2 r2 => ?_, fun _ _ z => z.elim⟩
    obtain ⟨w2B, f2B, k2B⟩ := join wA1 (fun p hp => by rw [k1B p hp]; exact tB p hp) f2 w2
    have wA2 : WR HF2 H2 (A2 ++ B) := w2B.sub (by rw [← List.append_assoc]; exact List.sublist_append_left _ _)
    have fA2 : Fr H H2 HF HF2 (A ++ B) (A2 ++ B) := fA1.trans (f2B.mono (fun _ h => h) fun p hp => .inl (by rw [← List.append_assoc]; exact List.mem_append_left _ hp))
    have rB2 : RepO X.K HF2 H2 ov v B := RepO.keep f2.same ov rB1 k2B
    obtain ⟨sg, wg, fg⟩ := grow_ok (wA2.perm List.perm_append_comm)
    have rg : Rep X.K (grow HF2 H2 B) (frz ov) v := RepO.frz sg ov rB2 fun p hp => grow_in hp
    have fg' : Fr H H2 HF (grow HF2 H2 B) (A ++ B) A2 := fA2.trans (fg.mono (fun p hp => (List.mem_append.mp hp).elim (fun z => List.mem_append_right _ z) (fun z => List.mem_append_left _ z)) fun p hp => .inl hp)
    dsimp only at q2
    split at q2
    · rename_i j
      split at q2
      · rename_i xs e
        split at q2
        · rename_i kk e3
          obtain ⟨n, hn, q⟩ := q2
          cases (show v2 = .int kk from Vw.ev w2.same en2 r2 e3)
          obtain ⟨a, s1, ro, upd1⟩ := slot_one en2 e trivial
          have hv := r1.2
          rw [s1] at hv
          obtain rfl := Option.some.inj (Option.some.inj hv)
          obtain ⟨a', us, ee, _, hH, rs⟩ := ro
          cases ee
          obtain ⟨A', w', f', en'⟩ := upd1 (grow HF2 H2 B) (.lst (us.set n v)) (.ls (xs.set n (frz ov))) sg wg ⟨a, _, rfl, rfl, upd_same, Reps.set rg n (Reps.mono sg xs rs)⟩
          exact .inl ⟨a, us, kk, n, rfl, rfl, hH, by rw [rs.length]; exact hn, k _ q _ _ σ A' .refl (fg'.trans f') w' en'⟩
        · exact q2.elim
      · rename_i kvs e
        split at q2
        · rename_i d e3
          split at q2
          · rename_i key ek
            obtain ⟨hl, q⟩ := q2
            obtain rfl := keyD_ok ek (Vw.ev w2.same en2 r2 e3)
            obtain ⟨a, s1, ro, upd1⟩ := slot_one en2 e trivial
            have hv := r1.2
            rw [s1] at hv
            obtain rfl := Option.some.inj (Option.some.inj hv)
            obtain ⟨a', us, ee, _, hH, rs⟩ := ro
            cases ee
            obtain ⟨A', w', f', en'⟩ := upd1 (grow HF2 H2 B) (.dK (putK us key v)) (.dc (putDk kvs key (frz ov))) sg wg ⟨a, _, rfl, rfl, upd_same, RepKs.put rg (RepKs.mono sg kvs rs)⟩
            exact .inr ⟨a, _, rfl, DPut.k hH (by rw [rs.length]; exact hl), k _ q _ _ σ A' .refl (fg'.trans f') w' en'⟩
          · exact q2.elim
        · exact q2.elim
      · exact q2.elim
    · exact q2.elim
end
end AE
/-! AE13: comparisons as tests; stars; globals; fields. -/
namespace AE
open PySem L2
theorem room64 {k : Nat} {A : Around} (r : Room k A) : A.units + 64 < cLine := r.units
theorem room65 {k : Nat} {A : Around} (r : Room k A) : A.units + 65 < cLine := by have := r.un; omega
theorem takesF {X : Cx} : L2N.Takes X WF := fun _ _ ⟨_, _, _, _, _, _, _, _, _, _, _, _, _, _, _, _, w⟩ => w.elim
/-- a comparison by values, and what it does with data -/
structure CR (X : Cx) (op : CmpOp) (f : Env → List EV → KD → Prop) : Prop where
  ex : ∃ r, OpR X (compareOp op) r ∧ Prim X.K (r2L r) f
section
variable {X : Cx} {W : WX} {a b c : Expr} {ta tb tc : TD} {pos : Pos} {op op' : CmpOp} {f f' : Env → List EV → KD → Prop}
theorem ae_c (h : CR X op f) (ha : AE X W a ta) (hb : AE X W b tb) (hm : behindInMarks op b = false := by first | exact nobehind _ (by decide) (by decide) | rfl) : AE X W (.Compare a [op] [b] pos) (t2 f ta tb) := let ⟨_, ho, hp⟩ := h.ex; ae_cmp ho hp ha hb hm
theorem at_c (h : CR X op f) (ha : AE X W a ta) (hb : AE X W b tb) (hm : behindInMarks op b = false := by first | exact nobehind _ (by decide) (by decide) | rfl) : AT X W (.Compare a [op] [b] pos) (tVal (t2 f ta tb)) := by
  obtain ⟨r, ho, hp⟩ := h.ex
  refine PT.imp (pt_cmpR ho ha hb hm) fun σ H Q q => ?_
  obtain ⟨HF, ρ, A, Kd, Ed, w, en, t, k, x⟩ := q
  refine two hp σ H _ ⟨HF, ρ, A, _, Ed, w, en, t, fun e1 ρ1 q1 HF1 H1 A1 v1 Av1 f1 w1 en1 r1 => ?_, x⟩
  dsimp only at q1
  split at q1
  · rename_i b e2
    have r2 : Vw X.K HF1 H1 (.bl b) v1 := Vw.ev w1.same en1 r1 e2
    exact ⟨b, r2, k b ρ1 q1 HF1 H1 A1 (f1.mono (fun _ hp => hp) fun p hp => .inl (List.mem_append_left _ hp)) w1.left en1⟩
  · exact q1.elim
theorem c_lt : CR X .Lt (p2 (gI0 fun i j => .bl (decide (i < j)))) := ⟨_, op_lt, prim2 (do2_int0 fun _ _ _ _ => rfl)⟩
theorem c_le : CR X .LtE (p2 (gI0 fun i j => .bl (decide (i ≤ j)))) := ⟨_, op_le, prim2 (do2_int0 fun _ _ _ _ => rfl)⟩
theorem c_gt : CR X .Gt (p2 (gI0 fun i j => .bl (decide (j < i)))) := ⟨_, op_gt, prim2 (do2_int0 fun _ _ _ _ => rfl)⟩
theorem c_ge : CR X .GtE (p2 (gI0 fun i j => .bl (decide (j ≤ i)))) := ⟨_, op_ge, prim2 (do2_int0 fun _ _ _ _ => rfl)⟩
theorem do_eq {K : PySem.W.Frag} : Do2 K (fun x y H Q => rEq x y H Q ∨ rEqD K x y H Q) gEq := fun HF H v v' d d' P Q s r r' g k => by
  rcases g with ⟨h | ⟨h1, h2⟩, q⟩
  · obtain ⟨e1, e2⟩ := scal_dec h r r'
    exact .inl ⟨e1, by rw [e2]; exact k _ _ _ _ _ q (New.imm s rfl)⟩
  · exact .inr ⟨_, _, Rep.dp d h1.1 (r.rep s), Rep.dp d' h2.1 (r'.rep s), h1.shaped, h2.shaped, by rw [eqv_toPy d d' h1.1 h2.1]; exact k _ _ _ _ _ q (New.imm s rfl)⟩
theorem do_ne {K : PySem.W.Frag} : Do2 K (fun x y H Q => rNe x y H Q ∨ rNeD K x y H Q) gNe := fun HF H v v' d d' P Q s r r' g k => by
  rcases g with ⟨h | ⟨h1, h2⟩, q⟩
  · obtain ⟨e1, e2⟩ := scal_dec h r r'
    exact .inl ⟨e1, by rw [e2]; exact k _ _ _ _ _ q (New.imm s rfl)⟩
  · exact .inr ⟨_, _, Rep.dp d h1.1 (r.rep s), Rep.dp d' h2.1 (r'.rep s), h1.shaped, h2.shaped, by rw [eqv_toPy d d' h1.1 h2.1]; exact k _ _ _ _ _ q (New.imm s rfl)⟩
theorem c_eq (hu : X.A.units + 64 < cLine) : CR X .Eq (p2 gEq) := ⟨_, OpR.or op_eq (op_eqD hu), prim2 do_eq⟩
theorem c_ne (hu : X.A.units + 64 < cLine) : CR X .NotEq (p2 gNe) := ⟨_, OpR.or op_ne (op_neD hu), prim2 do_ne⟩
theorem c_in (hu : X.A.units + 65 < cLine) : CR X .In (p2 (gIn false)) := ⟨_, op_inU hu, prim2 (do_in false)⟩
theorem c_notin (hu : X.A.units + 65 < cLine) : CR X .NotIn (p2 (gIn true)) := ⟨_, op_notInU hu, prim2 (do_in true)⟩
theorem do_is {K : PySem.W.Frag} : Do2 K (fun x y H Q => y = V.non ∧ Q (.bl (decide (x = .non))) H) (gIsN false) := fun HF H v v' d d' P Q s r r' g k => by
  unfold gIsN at g
  split at g
  · cases (show v' = .non from r')
    exact ⟨rfl, by rw [non_dec r]; exact k _ _ _ _ _ g (New.imm s rfl)⟩
  · exact g.elim
theorem do_isnot {K : PySem.W.Frag} : Do2 K (fun x y H Q => y = V.non ∧ Q (.bl (!decide (x = .non))) H) (gIsN true) := fun HF H v v' d d' P Q s r r' g k => by
  unfold gIsN at g
  split at g
  · cases (show v' = .non from r')
    exact ⟨rfl, by rw [non_dec r]; exact k _ _ _ _ _ g (New.imm s rfl)⟩
  · exact g.elim
theorem c_is : CR X .Is (p2 (gIsN false)) := ⟨_, op_isN, prim2 do_is⟩
theorem c_isnot : CR X .IsNot (p2 (gIsN true)) := ⟨_, op_notN, prim2 do_isnot⟩

/-! ### stars -/
def tStarD (t : TD) (ts : TDs) : TDs := fun ρ Kd Ed => t ρ (fun e ρ1 => match dOf ρ1 e with
  | some (.lst xs) => ts ρ1 (fun es ρ2 => Kd (xs.map (fun d => EV.ow (.fz d)) ++ es) ρ2) Ed
  | some (.tup xs) => ts ρ1 (fun es ρ2 => Kd (xs.map (fun d => EV.ow (.fz d)) ++ es) ρ2) Ed
  | _ => False) Ed
theorem evrs_of {K : PySem.W.Frag} {HF H : Hp} {σ : St} : ∀ {ds : List D} {vs : List V}, Reps K HF ds vs → EVRs K HF H σ (ds.map fun d => EV.ow (.fz d)) vs []
  | [], vs, h => ⟨h, rfl⟩
  | d :: ds, vs, h => by obtain ⟨v, ws, rfl, r, t⟩ := h; exact ⟨v, ws, [], [], rfl, rfl, ⟨rfl, r⟩, evrs_of t⟩
theorem EVRs.append {K : PySem.W.Frag} {HF H : Hp} {σ : St} : ∀ {es es' : List EV} {vs vs' : List V} {A A' : List Addr}, EVRs K HF H σ es vs A → EVRs K HF H σ es' vs' A' → EVRs K HF H σ (es ++ es') (vs ++ vs') (A ++ A')
  | [], es', vs, vs', A, A', h, q => by obtain ⟨rfl, rfl⟩ := h; exact q
  | e :: es, es', vs, vs', A, A', h, q => by
    obtain ⟨v, ws, A1, A2, rfl, rfl, r, t⟩ := h
    exact ⟨v, ws ++ vs', A1, A2 ++ A', rfl, by rw [List.append_assoc], r, EVRs.append t q⟩
theorem aa_star {e : Expr} {es : List Expr} {t : TD} {ts : TDs} {p : Pos} (he : AE X W e t) (hr : AA X W es ts) (hs : starEach (.Starred e p :: es) X.env = (true, eval e X.env) :: starEach es X.env := by rfl) : AA X W (.Starred e p :: es) (tStarD t ts) := PA.imp (StX.pa_star he hr hs) fun σ H Q q => by
  obtain ⟨HF, ρ, A, Kd, Ed, w, en, t, k, x⟩ := q
  refine ⟨HF, ρ, A, _, Ed, w, en, t, fun e1 ρ1 q1 HF1 H1 A1 v1 Av1 f1 w1 en1 r1 => ?_, x⟩
  have x1 : XOk X.K σ H1 HF1 A1 Ed W := (x.step f1).step (Fr.drop fun p hp => List.mem_append_left _ hp)
  have fd : Fr H H1 HF HF1 A A1 := f1.mono (fun _ h => h) fun p hp => .inl (List.mem_append_left _ hp)
  dsimp only at q1
  split at q1
  · rename_i xs e
    obtain ⟨p, vs, rfl, h1, rs⟩ := Vw.ev w1.same en1 r1 e
    refine ⟨p, vs, rfl, .inr (SqL.of h1), HF1, ρ1, A1, _, Ed, w1.left, en1, q1, fun es2 ρ2 q2 HF2 H2 A2 vs2 Av2 f2 w2 en2 r2 => ?_, x1⟩
    exact (k.step fd) _ ρ2 q2 HF2 H2 A2 (vs ++ vs2) Av2 f2 w2 en2 (by simpa using (evrs_of (Reps.mono f2.same xs rs)).append r2)
  · rename_i xs e
    obtain ⟨p, vs, rfl, h1, rs⟩ := Vw.ev w1.same en1 r1 e
    refine ⟨p, vs, rfl, .inl (SqT.of (w1.same _ _ h1)), HF1, ρ1, A1, _, Ed, w1.left, en1, q1, fun es2 ρ2 q2 HF2 H2 A2 vs2 Av2 f2 w2 en2 r2 => ?_, x1⟩
    exact (k.step fd) _ ρ2 q2 HF2 H2 A2 (vs ++ vs2) Av2 f2 w2 en2 (by simpa using (evrs_of (Reps.mono f2.same xs rs)).append r2)
  · exact q1.elim

/-! ### globals -/
/-- a module's constant -/
def GlobD (K : PySem.W.Frag) (mg : Str → Option Value) (x : Str) (d : D) : Prop := ∃ u v, mg x = some u ∧ RelV v u ∧ ∀ H, Rep K H d v
theorem ae_glob {x : Str} {d : D} (h : GlobD X.K X.mg x d) (hg : Gl X x) (hd : (x == ("__debug__" : Str)) = false := by decide) : AE X W (.Name x pos) (tK d) := by
  obtain ⟨u, v, hm, rv, r⟩ := h
  refine PE.imp (pe_glob hg hm rv hd) fun σ H Q q => ?_
  obtain ⟨HF, ρ, A, Kd, Ed, w, en, t, k, x⟩ := q
  exact k _ _ t HF H A v [] (by rw [List.append_nil]; exact Fr.refl) (by rw [List.append_nil]; exact w) en ⟨rfl, r _⟩

/-! ### fields -/
structure FldOk (K : PySem.W.Frag) (C : Addr) (f : Str) : Prop where
  cl : Cls K C
  no : NoAttr K C f
def tFldD (K : PySem.W.Frag) (f : Str) (ta : TD) : TD := fun ρ Kd Ed => ta ρ (fun e ρ1 => match deref ρ1 e with
  | some (.fz (.ins C fs)) => FldOk K C f ∧ ∃ d, fs.lookup f = some d ∧ Kd (.ow (.fz d)) ρ1
  | some (.ob C fs) => FldOk K C f ∧ ∃ d, fs.lookup f = some (.fz d) ∧ Kd (.ow (.fz d)) ρ1
  | _ => False) Ed
theorem RepFs.look {K : PySem.W.Frag} {HF : Hp} {f : Str} {d : D} : ∀ {fs : List (Str × D)} {vs : List (Str × V)}, RepFs K HF fs vs → fs.lookup f = some d → ∃ v, vs.lookup f = some v ∧ Rep K HF d v
  | [], vs, h, e => by cases e
  | (g, d') :: fs, vs, h, e => by
    obtain ⟨⟨g2, v⟩, ws, rfl, ⟨hk, r⟩, t⟩ := h
    have hk : g2 = g := hk
    subst hk
    by_cases hg : f == g2
    · simp only [List.lookup_cons, hg] at e ⊢
      cases e
      exact ⟨v, rfl, r⟩
    · simp only [List.lookup_cons, hg] at e ⊢
      exact RepFs.look t e
theorem RepOFs.look {K : PySem.W.Frag} {HF H : Hp} {f : Str} {o : O} : ∀ {fs : List (Str × O)} {vs : List (Str × V)} {A : List Addr}, RepOFs K HF H fs vs A → fs.lookup f = some o → ∃ v B, vs.lookup f = some v ∧ RepO K HF H o v B
  | [], vs, A, h, e => by cases e
  | (g, d') :: fs, vs, A, h, e => by
    obtain ⟨⟨g2, v⟩, ws, A1, A2, rfl, rfl, ⟨hk, r⟩, t⟩ := h
    have hk : g2 = g := hk
    subst hk
    by_cases hg : f == g2
    · simp only [List.lookup_cons, hg] at e ⊢
      cases e
      exact ⟨v, A1, rfl, r⟩
    · simp only [List.lookup_cons, hg] at e ⊢
      exact RepOFs.look t e
theorem deref_ok {K : PySem.W.Frag} {HF H : Hp} {ρ : Env} {σ : St} {A Av : List Addr} {ev : EV} {v : V} {o : O} (en : EnvR K HF H ρ σ A) (r : EVR K HF H σ ev v Av) (h : deref ρ ev = some o) : ∃ B, RepO K HF H o v B := by
  cases ev with
  | ow o' => cases h; exact ⟨Av, r⟩
  | pt i =>
    have h : (match ρ[i]? with | some (some o) => some o | _ => none : Option O) = some o := h
    cases e' : ρ[i]? with
    | none => rw [e'] at h; cases h
    | some oo =>
      cases oo with
      | none => rw [e'] at h; cases h
      | some o' =>
        rw [e'] at h
        cases h
        obtain ⟨v', B, C, h1, h2, _⟩ := en.get e'
        have : v = v' := by
          have q := r.2
          rw [h1] at q
          exact (Option.some.inj (Option.some.inj q)).symm
        subst this
        exact ⟨B, h2⟩
theorem ae_fld {f : Str} (ha : AE X W a ta) (hb : attributeBase a f X.env (eval a X.env) = eval a X.env := by rfl) : AE X W (.Attribute a f pos) (tFldD X.K f ta) := PE.imp (pe_fld ha hb) fun σ H Q q => by
  obtain ⟨HF, ρ, A, Kd, Ed, w, en, t, k, x⟩ := q
  refine ⟨HF, ρ, A, _, Ed, w, en, t, fun e1 ρ1 q1 HF1 H1 A1 v1 Av1 f1 w1 en1 r1 => ?_, x⟩
  have fin : ∀ {d : D} {v : V}, Kd (.ow (.fz d)) ρ1 → Rep X.K HF1 d v → Q v H1 := fun {d v} q r => k _ ρ1 q HF1 H1 A1 v [] (by rw [List.append_nil]; exact f1.mono (fun _ h => h) fun p hp => .inl (List.mem_append_left _ hp)) (by rw [List.append_nil]; exact w1.left) en1 ⟨rfl, r⟩
  dsimp only at q1
  split at q1
  · rename_i C fs e
    obtain ⟨fo, d, hd, q⟩ := q1
    obtain ⟨B, _, a', dx, vs, rfl, hH, rs⟩ := deref_ok en1 r1 e
    obtain ⟨v, hv, rv⟩ := rs.look hd
    exact ⟨a', C, dx, vs, v, rfl, w1.same _ _ hH, fo.cl, fo.no, hv, fin q rv⟩
  · rename_i C fs e
    obtain ⟨fo, d, hd, q⟩ := q1
    obtain ⟨B, a', dx, vs, B', rfl, _, hH, rs⟩ := deref_ok en1 r1 e
    obtain ⟨v, B2, hv, rv⟩ := rs.look hd
    exact ⟨a', C, dx, vs, v, rfl, hH, fo.cl, fo.no, hv, fin q rv.2⟩
  · exact q1.elim
end
end AE
/-! AE14: own exceptions raised: without attributes, with one attribute. -/
namespace AE
open PySem L2
/-- an own exception class without an __init__ of its own -/
structure XPlain (K : PySem.W.Frag) (mg : Str → Option Value) (x : Str) (C : Addr) : Prop where
  mgC : mg x = some (.ref C)
  exc : PySem.W.excIn K C PySem.HandSPX.veTail "ValueError.__new__" = true
  keep : PySem.W.keepIn K (.ref C) = true
  sub : PySem.W.subIn K (.ref C) (.type "BaseException") = some true
  typ : PySem.W.typeIn K (.ref C) = some (.type "type")
section
variable {X : Cx} {W : WX} {P : Prot} {x : Str} {C : Addr} {p pos pos2 : Pos}
theorem pmk0 (h : XPlain X.K X.mg x C) (hg : Gl X x) (hdb : (x == ("__debug__" : Str)) = false := by decide) : L2N.PMk X (.Call (.Name x p) [] [] pos) (fun _ H Q => Q (.ref C) none H) := by
  intro pins s σ H Q I q
  refine wpAny_Call_Name_kw (ld_glob I hg h.mgC ?_ hdb)
  refine PySem.W.callWith_K0 I.kIn h.keep ?_
  show wpAny _ _ (call (.ref C) []) _ _ _
  obtain ⟨bm, N, nm, qn, bs, hdct, sn, sub, ab, col, dd, k0, k1, k2, k3, k5, mN, hC, hN, hni, T⟩ := exc_obj I.kIn h.exc
  refine wpAny_call_exc_subT PySem.F.excBase_ValueError T hC hN hni (fun h' e hm => ?_) (by show 0 ≤ sizeLine; exact Nat.zero_le _)
  exact L2N.mk_of I hm (raises_own h.sub h.typ) q (I.hok.gone hm.new)
def tRaise0 (C : Addr) : TSD := fun _ Ed ρ => Ed ⟨.ref C, []⟩ ρ
theorem as_raise0 (hc : X.calm = true) (tk : L2N.Takes X W) (h : XPlain X.K X.mg x C) (hg : Gl X x) (hdb : (x == ("__debug__" : Str)) = false := by decide) : AS X W P (.Raise (some (.Call (.Name x p) [] [] pos)) none pos2) (tRaise0 C) := PS.imp (L2N.ps_raise hc tk (pmk0 h hg hdb)) fun D σ H q => by
  obtain ⟨HF, ρ, A, E, Ed, w, en, t, k, x⟩ := q
  exact x _ ρ t HF H σ A _ none .refl .refl w en ⟨rfl, rfl⟩
end

/-! ### with one attribute: def __init__(self, f): self.f = f -/
def spXI (C : Addr) (f : Str) : Sp := fun vs H Q _ => ∃ a v, vs = [.ref a, v] ∧ H a = some (exo a C none) ∧ ∀ dx, H dx = none → dx ≠ a → Q .non (upd (upd H dx (exd dx [(f, v)])) a (exo a C (some dx)))
/-- an own exception class whose __init__ stores its one argument -/
structure XOne (P : Program) (w : World) (K : PySem.W.Frag) (mg : Str → Option Value) (base : Heap) (x : Str) (C : Addr) (f pn : Str) : Prop where
  mgC : mg x = some (.ref C)
  oex : OexC K C
  ex : ∃ fI fd, PySem.W.findIn K (.ref C) "__init__" = some (some (.ref fI)) ∧ PySem.W.typeIn K (.ref fI) = some (.type "function") ∧ Binds K fd ["self", pn] [] ∧ FnOk P w K mg base (L2N.CX P w) 1 fI fd ["self", pn] (spXI C f)
section
variable {X : Cx} {x : Str} {C : Addr} {e : Expr} {es : List Expr} {ta : TA} {p pos : Pos}
theorem pmk_oexN {CX : CXT} {fI : Addr} {k : Nat} {fd : FuncData} {ps : List Str} {sp : Sp} {ds : List Value} {dvs : List V} (T : OexC X.K C) (iC : PySem.W.findIn X.K (.ref C) "__init__" = some (some (.ref fI))) (tI : PySem.W.typeIn X.K (.ref fI) = some (.type "function"))
    (F1 : FnOk X.prog X.w X.K X.mg X.base CX k fI fd ps sp) (hr : Room (k + 1) X.A) (hb : Binds X.K fd ps ds) (hd : Vals dvs ds) (hx : Passes CX X (fun _ _ _ => False)) (hg : Gl X x) (hm : X.mg x = some (.ref C)) (ha : PA X (e :: es) ta)
    (hdb : (x == ("__debug__" : Str)) = false := by decide) (he : starEach (e :: es) X.env = (false, eval e X.env) :: starEach es X.env := by rfl) (hpl : (backTo pos (starEach es X.env)).any (·.1) = false := by rfl) :
    L2N.PMk X (.Call (.Name x p) (e :: es) [] pos) (tMkO C sp dvs ta) := by
  intro pins s σ H Q I h
  obtain ⟨nm, q, N, bs, bm, sn, sub, ab, col, dd, k0, k1, k2, k3, k5, hC, hbm⟩ := T.cls
  refine wpAny_Call_Name_kw (ld_glob I hg hm ?_ hdb)
  refine PySem.W.callWith_K (h₀ := X.base) I.ok.mod.kin T.kC (thn (ha.run pos pins s σ H _ I h) fun us s1 ⟨vs, H1, I1, r1, hz, q1⟩ => ⟨I1.kIn, ?_⟩) he hpl
  show wpAny _ _ (call (.ref C) us) _ _ _
  obtain ⟨hp, g, dr, tk, os⟩ := s1
  have hsz : hp.objs.size ≤ hp.objs.size + 1 := Nat.le_succ _
  have hn : H1 (hp.objs.size + 1) = none := I1.hok.fresh hsz
  have hq := q1 (hp.objs.size + 1) hn
  have kk : ∀ b o, hp.get? b = some o → ((hp.push (PySem.W.kdv_tup us)).push (PySem.HandSPX.excO C hp.objs.size)).get? b = some o := fun b o e => Heap.get?_push_of_some _ (Heap.get?_push_of_some _ e)
  have hget : ((hp.push (PySem.W.kdv_tup us)).push (PySem.HandSPX.excO C hp.objs.size)).get? (hp.objs.size + 1) = some (PySem.HandSPX.excO C hp.objs.size) := by heap_get
  have I2 : Inv X pins σ (upd H1 (hp.objs.size + 1) (exo (hp.objs.size + 1) C none)) ⟨(hp.push (PySem.W.kdv_tup us)).push (PySem.HandSPX.excO C hp.objs.size), g, dr, tk, os⟩ :=
    I1.laid (t' := tk) (a := hp.objs.size + 1) (o := exo (hp.objs.size + 1) C none) (h' := (hp.push (PySem.W.kdv_tup us)).push (PySem.HandSPX.excO C hp.objs.size)) kk hsz (exo_ok hget)
  have r2 : Vals (V.ref (hp.objs.size + 1) :: (vs ++ dvs)) (Value.ref (hp.objs.size + 1) :: (us ++ ds)) := .cons rfl (r1.append hd)
  have hl : (Value.ref (hp.objs.size + 1) :: us ++ ds).length = ps.length := by
    have e := r2.length
    rw [F1.len _ _ _ _ hq] at e
    exact e.symm
  have hus : us.length ≤ sizeLine := by
    rw [← Paired.length r1, sizeLine_eq]
    omega
  refine wpAny_call (PySem.HandSPX.call_own PySem.F.excBase_ValueError (fun Y => PySem.HandSPX.refsVE_contains Y bm hbm) (I1.kIn _ _ hC) (PySem.W.looks_findIn I1.kIn iC) (fun self => PySem.W.bind_fn I1.kIn self tI) hus
    (codeAny_mono (F1.run _ X.stack _ _ ⟨Value.ref (hp.objs.size + 1) :: us, []⟩ (Value.ref (hp.objs.size + 1) :: (us ++ ds)) _ _ (fun _ _ _ => False) (hr.make C us []) (I2.env0.make C us []) (hb _ (Value.ref (hp.objs.size + 1) :: us) I2.kIn hl) r2 hq) fun r s' hq' => ?_))
  cases r with
  | error er => exact hx pins σ _ _ er s' I2 hq'
  | ok fl =>
    cases fl with
    | ret u =>
      obtain ⟨v, H2, os2, bare2, un2, hok2, rv, ev, d, fs, ea, ed, hd1, q2⟩ := hq'
      subst ev
      obtain ⟨h2, g2, d2, t2, os'⟩ := s'
      refine ⟨rv, ?_⟩
      obtain ⟨t0, G, J, kG, ge, hoe, na⟩ := mk_end0 (d2 := d2) (t2 := t2) I1 hsz kk un2 hok2 os2 bare2 ea ed hd1
      exact ⟨_, _, _, ⟨G, g2, d2, t2, os'⟩, _, .ref C, some d, rfl, J, kG, ge, hoe, ⟨rfl, rfl, fun vs e => by cases e; rfl⟩, rfl, rfl, na, rfl, bare2, raises_own T.exC T.tyC, q2⟩
    | next => exact False.elim hq'
    | brk => exact False.elim hq'
    | cont => exact False.elim hq'
end
section
variable {X : Cx} {W : WX} {P : Prot} {x : Str} {C : Addr} {f pn : Str} {e : Expr} {te : TD} {p pos pos2 : Pos} {k : Nat}
theorem passE0N {X : Cx} : Passes (L2N.CX X.prog X.w) X (fun _ _ _ => False) := fun _ _ _ _ _ _ _ h => by
  obtain ⟨_, _, _, _, _, _, _, _, _, _, _, _, z⟩ := h
  exact z.elim
def tRaise1 (C : Addr) (f : Str) (te : TD) : TSD := fun _ Ed ρ => te ρ (fun ev ρ1 => match ev with
  | .ow o => Ed ⟨.ref C, [(f, frz o)]⟩ ρ1
  | .pt _ => False) Ed
theorem as_raise1 (hc : X.calm = true) (tk : L2N.Takes X W) (h : XOne X.prog X.w X.K X.mg X.base x C f pn) (hr : Room (k + 2) X.A) (hg : Gl X x) (he : AE X W e te) (hs : starEach [e] X.env = (false, eval e X.env) :: starEach [] X.env := by rfl) (hdb : (x == ("__debug__" : Str)) = false := by decide) :
    AS X W P (.Raise (some (.Call (.Name x p) [e] [] pos)) none pos2) (tRaise1 C f te) := by
  obtain ⟨fI, fd, iC, tI, hb, F1⟩ := h.ex
  refine PS.imp (L2N.ps_raise hc tk (pmk_oexN h.oex iC tI F1 (hr.mono (by omega)) hb .nil passE0N hg h.mgC (pa_cons he pa_nil hs) hdb hs rfl)) fun D σ H q => ?_
  obtain ⟨HF, ρ, A, E, Ed, w, en, t, k, x⟩ := q
  refine ⟨HF, ρ, A, _, Ed, w, en, t, fun ev ρ1 q1 HF1 H1 A1 v Av f1 w1 en1 r1 => ?_, x.x⟩
  cases ev with
  | pt j => exact q1.elim
  | ow o =>
    refine ⟨by show 1 ≤ 1000; omega, fun a ha => ⟨a, v, rfl, upd_same, fun dx hdx hne => ⟨rfl, dx, [(f, v)], upd_same, ?_, ?_, ?_⟩⟩⟩
    · rw [upd_ne hne, upd_same]
    · rw [upd_ne hne] at hdx; exact hdx
    · have hdx1 : H1 dx = none := by rw [upd_ne hne] at hdx; exact hdx
      obtain ⟨sg, wg, fg⟩ := grow_ok (w1.perm List.perm_append_comm)
      have rg : Rep X.K (grow HF1 H1 Av) (frz o) v := RepO.frz sg o r1 fun p hp => grow_in hp
      have eH : upd (del (upd (upd (upd H1 a (exo a C none)) dx (exd dx [(f, v)])) a (exo a C (some dx))) a) dx (.xd [(f, v)]) = upd H1 dx (.xd [(f, v)]) := by
        funext b
        by_cases hb1 : b = dx
        · subst hb1; rw [upd_same, upd_same]
        · rw [upd_ne hb1, upd_ne hb1]
          by_cases hb2 : b = a
          · subst hb2; rw [del_same, ha]
          · rw [del_ne hb2, upd_ne hb2, upd_ne hb1, upd_ne hb2]
      rw [eH]
      have n := New.pure (K := X.K) (HF := grow HF1 H1 Av) (H := H1) (d := .cl dx) (p := dx) (u := .xd [(f, v)]) wg.same hdx1 rfl
      obtain ⟨k1, k2, k3⟩ := n.fr.frame (EnvR.there _ en1) (fun _ _ h => by cases h)
      have s2 : Same (grow HF1 H1 Av) (upd (grow HF1 H1 Av) dx (.xd [(f, v)])) := n.fr.same
      have ff : Fr H (upd H1 dx (.xd [(f, v)])) HF (upd (grow HF1 H1 Av) dx (.xd [(f, v)])) A A1 := (f1.trans (fg.mono (fun p hp => (List.mem_append.mp hp).elim (fun z => List.mem_append_right _ z) (fun z => List.mem_append_left _ z)) fun p hp => .inl hp)).trans (n.fr.mono (fun _ h => by cases h) fun p hp => .inr hp)
      refine x _ ρ1 q1 (upd (grow HF1 H1 Av) dx (.xd [(f, v)])) _ σ A1 (.ref C) (some dx) .refl ff ⟨n.wr.same, wg.nodup, fun a ha => k2 a ha (wg.out a ha)⟩ (EnvR.keep (sg.trans s2) _ en1 k1) ⟨rfl, [(f, v)], upd_same, (f, v), [], rfl, ⟨rfl, Rep.mono s2 _ rg⟩, rfl⟩
/-- the __init__ itself -/
theorem ok_xinit {P : Program} {w : World} {K : PySem.W.Frag} {mg : Str → Option Value} {base : Heap} {C fI : Addr} {fd : FuncData} {qual f pn : Str} {st : Stmt} {p1 p2 p3 p4 : Pos} (Fn : L2.Fun K "__init__" qual st fI fd) (S : FnScope ["self", pn] ["self", pn] (defScope st))
    (hb : defBody st = [.Assign [.Attribute (.Name "self" p1) f p2] (.Name pn p3) p4]) (hp : (pn == ("__debug__" : Str)) = false) (hp' : (pn == ("__classdict__" : Str)) = false) (T : OexC K C) (no : PySem.W.findIn K (.ref C) f = some none)
    (v0 : Vis (defScope st) "self") (v1 : Vis (defScope st) pn) : FnOk P w K mg base (L2N.CX P w) 1 fI fd ["self", pn] (spXI C f) := by
  obtain ⟨oc, od, kV, doc, pm, an, cdv, ct, osl, rfl, lk, hcd⟩ := Fn.ex
  refine fn_of (k := 0) lk hcd S (fun vs H Q E h => ?_) (fun A outer s H vs Q E hr h => ?_)
  · obtain ⟨a, v, rfl, _⟩ := h
    rfl
  · obtain ⟨a, v, rfl, hH, k⟩ := h
    rw [hb]
    refine ⟨_, pss_one (ps_ost (pe_var (i := 0) rfl v0 (by decide) (by decide)) (pe_var (i := 1) rfl v1 hp hp') rfl), ?_⟩
    exact ⟨v, rfl, .ref a, rfl, a, C, rfl, T, no, .inl ⟨hH, fun dx h1 h2 => k dx h1 h2⟩⟩
end
end AE
/-! AE15: try with several clauses «except C as n». -/
namespace AE
open PySem L2
/-- a clause: the class it names, the slot of its name, what its suite reads -/
structure Cl where
  c : Value
  i : Nat
  ts : Addr → Value → Option Addr → TS
/-- a suite's ends: its name is gone -/
def endsAt (i : Nat) (D : Ends) : Ends := { nx := fun σ H => D.nx (σ.set i none) H, rt := D.rt, bk := fun σ H => D.bk (σ.set i none) H, ct := fun σ H => D.ct (σ.set i none) H }
/-- what the clauses wish of an exception, one after the other -/
def wCls (K : PySem.W.Frag) (Wo : WX) (D : Ends) : List Cl → WX
  | [] => Wo
  | k :: r => fun cls d σ H => ∃ b, PySem.W.exmOne K cls k.c = some b ∧ (b = true → ∀ a, H a = none → k.ts a cls d (endsAt k.i D) (σ.set k.i (some (.ref a))) H) ∧ (b = false → wCls K Wo D r cls d σ H)
inductive ClOk (X : Cx) : List ExceptHandler → List Cl → Prop
  | nil : ClOk X [] []
  | cons {x n : Str} {k : Cl} {b₀ : Stmt} {su : List Stmt} {np pos : Pos} {hs : List ExceptHandler} {l : List Cl} (hx : Names X x k.c) (hi : X.N[k.i]? = some n) (hl : X.env.kindOf n = some .local)
      (hsu : ∀ (a : Addr) (oe : Obj) (cls : Value) (d : Option Addr) (pn : List (Addr × Obj)), L2N.Zn cls d oe → (∃ vs, oe.data = .fields vs) → PSs (X.suite a ((a, oe) :: pn)) (b₀ :: su) (k.ts a cls d)) (r : ClOk X hs l) :
      ClOk X (.ExceptHandler (some (.Name x np)) (some n) (b₀ :: su) pos :: hs) (k :: l)
/-- an exception of ours on its way: where it came from, how it lies now -/
structure Fly (X : Cx) (pins : List (Addr × Obj)) (σ : St) (H : Hp) (a : Addr) (cls : Value) (d : Option Addr) (B : Heap) (s0 s : Shared) : Prop where
  inv : Inv X pins σ H s0
  nb : ∀ b o, s0.heap.get? b = some o → b ∉ frs X.stack → B.get? b = some o
  up : s0.heap.UpToSlots s.heap
  fly : HandSPX.FlyingZ B (X.env :: X.outer) a (L2N.Zn cls d) s.heap
  na : H a = none
  os : s.os = s0.os
  ag : PyProof.Rows.AllBare s.gens
section
variable {X : Cx} {pins : List (Addr × Obj)} {σ : St} {H : Hp} {a : Addr} {cls : Value} {d : Option Addr} {B : Heap} {s0 s : Shared}
theorem Fly.now (F : Fly X pins σ H a cls d B s0 s) : Inv X pins σ H s := F.inv.landed F.nb F.fly.1 F.up F.os F.ag
theorem Fly.out (F : Fly X pins σ H a cls d B s0 s) (hf : X.env.frame = some X.env.locals) : a ≠ X.env.locals ∧ a ∉ X.fs := by
  obtain ⟨oe, vs, he, _, hd⟩ := F.fly.there
  have no : a ∉ frs (X.env :: X.outer) := fun z => by
    obtain ⟨_, o2, e2, nn⟩ := F.fly.2.2.1.mem z
    rw [he] at e2
    cases e2
    exact nn _ hd
  constructor
  · intro z
    apply no
    unfold frs
    rw [List.filterMap_cons, hf, z]
    exact List.mem_cons_self
  · intro z
    apply no
    have z : a ∈ frs X.outer := z
    unfold frs at z ⊢
    rw [List.filterMap_cons, hf]
    exact List.mem_cons_of_mem _ z
/-- no clause is left: it flies on -/
theorem Fly.on (F : Fly X pins σ H a cls d B s0 s) (hs : X.stack = X.env :: X.outer) (hf : X.env.frame = some X.env.locals) {Wo : WX} (tk : L2N.Takes X Wo) (D : Ends) (w : Wo cls d σ H) : wpAny (model X.prog X.w) X.A (handleBy (.ref a) X.env []) (SP X pins D) X.xe s := by
  apply wpAny_handleBy_nil
  have fl := F.fly
  obtain ⟨_, _, _, oe, vs, T, _, _, he, _, hd, h1, _⟩ := fl
  unfold PySem.passOn
  apply wpAny_bind
  apply wpAny_field he hd h1
  rw [if_neg (by simp : ¬ ((Value.ref T == Value.none) = true))]
  have go : wpAny (model X.prog X.w) X.A (setFlight (.ref a) X.env.frame) (fun _ s' => wpAny (model X.prog X.w) X.A (throw (.ref a) : Sem Flow) (SP X pins D) X.xe s') X.xe s := by
    rw [hf]
    apply HandSPX.setFlight_upZ F.fly
    intro h' fl' up'
    apply wpAny_throw
    apply tk
    exact ⟨a, B, s0, pins, σ, H, cls, d, rfl, F.inv, F.nb, F.up.trans up', Or.inr (Or.inr (hs ▸ fl')), F.na, F.os, F.ag, w⟩
  first
    | exact wpAny_bind (wpAny_pure (wpAny_bind go))
    | exact wpAny_bind go
/-- the clauses, one after the other -/
theorem Fly.caught (hs : X.stack = X.env :: X.outer) (hf : X.env.frame = some X.env.locals) (hN : X.N.Nodup) {Wo : WX} (tk : L2N.Takes X Wo) (D : Ends) : ∀ {hds : List ExceptHandler} {l : List Cl}, ClOk X hds l → ∀ {s : Shared}, Fly X pins σ H a cls d B s0 s → wCls X.K Wo D l cls d σ H →
    wpAny (model X.prog X.w) X.A (handleBy (.ref a) X.env hds) (SP X pins D) X.xe s := by
  intro hds l ok
  induction ok with
  | nil => intro s F w; exact F.on hs hf tk D w
  | @cons x n k b₀ su np pos hs' l' hx hi hl hsu r ih =>
    intro s F w
    obtain ⟨b, hb, yes, no⟩ := w
    obtain ⟨nL, nF⟩ := F.out hf
    obtain ⟨oe, vs, he, hz, hd⟩ := F.fly.there
    have S := F.now.suite he hd F.na nL nF
    apply wpAny_handleBy_cons _ (by intro q; cases q)
    apply codeAny_handlers_test
    have ty : PySem.W.Looks (model X.prog X.w) s.heap (typeOf (.ref a)) cls := by
      intro A' Q' E' s' kp q'
      exact wpAny_typeOf_ref (kp _ _ he) (by rw [hz.1]; exact q')
    have look := PySem.W.exm_one (M := model X.prog X.w) F.now.kIn ty hb
    have name : ∀ {Q : Value → Shared → Prop} {E : Value → Shared → Prop}, Q k.c s → wpAny (model X.prog X.w) (X.A.mark (some (.ref a))) (eval (.Name x np) X.env) Q E s := by
      intro Q E q
      obtain ⟨g1, g2, g3⟩ := hx
      cases g3 with
      | inl m => exact ld_glob (X := X.suite a ((a, oe) :: (X.pn ++ pins))) S g1 m q g2
      | inr m => exact ld_blt (X := X.suite a ((a, oe) :: (X.pn ++ pins))) S g1 m.1 m.2.1 q m.2.2 g2
    apply name
    apply look.here
    cases b with
    | false => exact ih F (no rfl)
    | true =>
      apply codeAny_handlers_suite_as
      apply HandSPX.lands_againZ F.fly
      intro h4 fl4 up4
      have F4 : Fly X pins σ H a cls d B s0 { s with heap := h4 } := ⟨F.inv, F.nb, F.up.trans up4, fl4, F.na, F.os, F.ag⟩
      obtain ⟨oe4, vs4, he4, hz4, hd4⟩ := F4.fly.there
      have S4 := F4.now.suite he4 hd4 F.na nL nF
      apply store_ok (X := X.suite a ((a, oe4) :: (X.pn ++ pins))) (v := .ref a) S4 hN hi (.inl hl) rfl _ (.inr hl)
      intro s5 S5
      have body := (hsu a oe4 cls d (X.pn ++ pins) hz4 ⟨_, hd4⟩).run [] s5 _ H _ S5 (yes rfl a F.na)
      apply wpAny_mono body _ (fun _ _ z => z.elim)
      intro fl s6 sp
      have gone : ∀ {σ6 : St} {H6 : Hp} {Q : Shared → Prop}, Inv (X.suite a ((a, oe4) :: (X.pn ++ pins))) [] σ6 H6 s6 → (∀ s7, Inv X pins (σ6.set k.i none) H6 s7 → Q s7) → wpAny (model X.prog X.w) X.A (do bindName X.env n .none; unbindBehindTheSuite X.env n pos) (fun _ s7 => Q s7) X.xe s6 := by
        intro σ6 H6 Q S6 q
        exact gone_ok (S6.unsuite F.inv.ok) hN hi hl q
      cases fl with
      | next => obtain ⟨σ6, H6, S6, q6⟩ := sp; exact gone S6 fun s7 J => ⟨_, _, J, q6⟩
      | brk => obtain ⟨σ6, H6, S6, q6⟩ := sp; exact gone S6 fun s7 J => ⟨_, _, J, q6⟩
      | cont => obtain ⟨σ6, H6, S6, q6⟩ := sp; exact gone S6 fun s7 J => ⟨_, _, J, q6⟩
      | ret u => obtain ⟨v6, σ6, H6, S6, r6, q6⟩ := sp; exact gone S6 fun s7 J => ⟨_, _, _, J, r6, q6⟩
end
theorem ps_tryCls {X : Cx} {body : List Stmt} {h₀ : ExceptHandler} {hds : List ExceptHandler} {l : List Cl} {pos : Pos} {tb : WX → TS} {Wo : WX} (hs : X.stack = X.env :: X.outer) (hf : X.env.frame = some X.env.locals) (hN : X.N.Nodup) (tk : L2N.Takes X Wo)
    (hb : ∀ (W : WX) (pn : List (Addr × Obj)) (xe : Value → Shared → Prop), L2N.Takes (X.tr pn xe) W → PassesOwn (model X.prog X.w) X.A X.env xe → PSs (X.tr pn xe) body (tb W))
    (ok : ClOk X (h₀ :: hds) l) : PS X (.Try body (h₀ :: hds) [] [] pos) (fun D σ H => tb (wCls X.K Wo D l) D σ H) := by
  constructor
  intro pins s σ H D I t
  have kk := I.ok
  have fr : X.A.frames = some (X.env :: X.outer) := kk.frames.trans (congrArg some hs)
  apply wpAny_Try_except
  apply wpAny_mono ((hb (wCls X.K Wo D l) (X.pn ++ pins) _ _ PassesOwn.looking).run [] s σ H D (I.toTry _) t)
  · intro f s1 sp
    cases f with
    | next => obtain ⟨σ', H', J, q⟩ := sp; exact wpAny_execs_nil ⟨σ', H', J.ofTry kk, q⟩
    | brk => obtain ⟨σ', H', J, q⟩ := sp; exact ⟨σ', H', J.ofTry kk, q⟩
    | cont => obtain ⟨σ', H', J, q⟩ := sp; exact ⟨σ', H', J.ofTry kk, q⟩
    | ret u => obtain ⟨v, σ', H', J, r, q⟩ := sp; exact ⟨v, σ', H', J.ofTry kk, r, q⟩
  · intro e s1 z
    exact z
  · intro u s' xx
    obtain ⟨a, B, sI, pins', σ', H', cls, d, rfl, J, nb, up, sky, na, os, ag, w⟩ := xx
    show wpAny (model X.prog X.w) X.A (noteFrame (.ref a) X.env) _ _ _
    apply L2N.Sky.land L2N.Zn.steady fr hf (hs ▸ sky)
    intro h3 fl3 up3
    exact Fly.caught hs hf hN tk D ok (s := { s' with heap := h3 }) ⟨J.ofTry kk, nb, up.trans up3, fl3, na, os, ag⟩ w
end AE
/-! AE16: try over trees. -/
namespace AE
open PySem L2
/-- a clause over trees -/
structure ClD where
  c : Value
  i : Nat
  ts : Addr → Value → Option Addr → TSD
def dropAt (i : Nat) (N : Env → Prop) : Env → Prop := fun ρ => N (ρ.set i none)
def endsD (i : Nat) (E : EndsD) : EndsD := { nx := dropAt i E.nx, rt := E.rt, bk := dropAt i E.bk, ct := dropAt i E.ct }
/-- what the clauses do with an exception -/
def wClD (K : PySem.W.Frag) (E : EndsD) (Ed : XC) : List ClD → XC
  | [] => Ed
  | k :: r => fun x ρ => ∃ b, PySem.W.exmOne K x.cls k.c = some b ∧ (b = true → k.i < ρ.length ∧ ∀ a d, k.ts a x.cls d (endsD k.i E) NoX (ρ.set k.i (some (.fz (.exc a x.cls d x.fs))))) ∧ (b = false → wClD K E Ed r x ρ)
def tTryD (K : PySem.W.Frag) (tb : TSD) (l : List ClD) : TSD := fun E Ed ρ => tb E (wClD K E Ed l) ρ
def toCl (K : PySem.W.Frag) (P : Prot) (k : ClD) : Cl := ⟨k.c, k.i, fun a cls d => tS K WF P (k.ts a cls d)⟩
inductive AcOk (X : Cx) (P : Prot) : List ExceptHandler → List ClD → Prop
  | nil : AcOk X P [] []
  | cons {x n : Str} {k : ClD} {b₀ : Stmt} {su : List Stmt} {np pos : Pos} {hs : List ExceptHandler} {l : List ClD} (hx : Names X x k.c) (hi : X.N[k.i]? = some n) (hl : X.env.kindOf n = some .local) (hp : P k.i = false)
      (hsu : ∀ (a : Addr) (oe : Obj) (cls : Value) (d : Option Addr) (pn : List (Addr × Obj)), L2N.Zn cls d oe → (∃ vs, oe.data = .fields vs) → ASs (X.suite a ((a, oe) :: pn)) WF P (b₀ :: su) (k.ts a cls d)) (r : AcOk X P hs l) :
      AcOk X P (.ExceptHandler (some (.Name x np)) (some n) (b₀ :: su) pos :: hs) (k :: l)
section
variable {X : Cx} {W : WX} {P : Prot}
theorem AcOk.cl : ∀ {hs : List ExceptHandler} {l : List ClD}, AcOk X P hs l → ClOk X hs (l.map (toCl X.K P)) ∧ ∀ k ∈ l, P k.i = false
  | _, _, .nil => ⟨.nil, fun _ h => by cases h⟩
  | _, _, .cons hx hi hl hp hsu r => ⟨.cons hx hi hl hsu (AcOk.cl r).1, fun k hk => (List.mem_cons.mp hk).elim (fun e => e ▸ hp) ((AcOk.cl r).2 k)⟩
theorem pr_set {P : Prot} {σ σ' : St} {i : Nat} {x : Option V} (h : Pr P σ σ') (hp : P i = false) : Pr P σ (σ'.set i x) := by
  refine ⟨by rw [List.length_set]; exact h.1, fun j hj => ?_⟩
  rw [List.getElem?_set_ne (fun e => by rw [e, hj] at hp; cases hp)]
  exact h.2 j hj
/-- an emptied slot -/
theorem EnvR.gone {K : PySem.W.Frag} {HF H : Hp} {ρ : Env} {σ : St} {A : List Addr} {i : Nat} (en : EnvR K HF H ρ σ A) : ∃ C, C.Sublist A ∧ EnvR K HF H (ρ.set i none) (σ.set i none) C := by
  obtain ⟨C, hs, e1⟩ := en.forget (i := i)
  by_cases hi : i < ρ.length
  · exact ⟨C, hs, EnvR.anyS e1 (by rw [List.getElem?_set_self hi])⟩
  · have h1 : ρ.set i none = ρ := List.set_eq_of_length_le (by omega)
    have h2 : σ.set i none = σ := List.set_eq_of_length_le (by rw [en.length]; omega)
    exact ⟨A, .refl _, by rw [h1, h2]; exact en⟩
theorem drop_ok {K : PySem.W.Frag} {σ : St} {H HF : Hp} {A : List Addr} {N : Env → Prop} {Q : St → Hp → Prop} {i : Nat} (k : NOk K P σ H HF A N Q) (hp : P i = false) : NOk K P σ H HF A (dropAt i N) (fun σ' H' => Q (σ'.set i none) H') := fun ρ n HF' H' σ' A' p f w en => by
  obtain ⟨C, hs, e1⟩ := en.gone (i := i)
  exact k _ n HF' H' _ C (pr_set p hp) (f.mono (fun _ h => h) fun p hp => .inl (hs.subset hp)) (w.sub hs) e1
theorem cls_ok {K : PySem.W.Frag} {D : Ends} {E : EndsD} {Ed : XC} {Wo : WX} {σ : St} {H HF : Hp} {A : List Addr} (k : SOk K P σ H HF A E D) (x : XSOk K P σ H HF A Ed Wo) : ∀ {l : List ClD}, (∀ c ∈ l, P c.i = false) → XSOk K P σ H HF A (wClD K E Ed l) (wCls K Wo D (l.map (toCl K P)))
  | [], _ => x
  | c :: l, hP => fun xd ρ w HF' H' σ' A' cls d p f wr en r => by
    obtain ⟨b, hb, yes, no⟩ := w
    obtain ⟨e1, e2⟩ := id r
    have hp : P c.i = false := hP c (by simp)
    refine ⟨b, by rw [← e1]; exact hb, fun hb1 a na => ?_, fun hb1 => cls_ok k x (fun c' hc => hP c' (List.mem_cons_of_mem _ hc)) xd ρ (no hb1) HF' H' σ' A' cls d p f wr en r⟩
    obtain ⟨hl, ys⟩ := yes hb1
    have rx : Rep K HF' (.exc a xd.cls d xd.fs) (.ref a) := by
      refine ⟨rfl, ?_⟩
      cases d with
      | none => exact .inl ⟨rfl, e2⟩
      | some q => obtain ⟨fvs, h1, h2⟩ := e2; exact .inr ⟨q, fvs, rfl, h1, h2⟩
    obtain ⟨A2, w2, f2, en2⟩ := EnvR.store (B := []) (o := .fz (.exc a xd.cls d xd.fs)) (v := .ref a) (by rw [List.append_nil]; exact wr) en ⟨rfl, rx⟩ hl
    have p2 : Pr P σ (σ'.set c.i (some (.ref a))) := pr_set p hp
    have ff : Fr H H' HF HF' A A2 := f.mono (fun _ h => h) fun p hp => .inl (by simpa using f2 p hp)
    refine ⟨HF', _, A2, endsD c.i E, NoX, w2, en2, by rw [← e1]; exact ys a d, ⟨drop_ok (k.nx.step p2 ff) hp, k.rt.step p2 ff, drop_ok (k.bk.step p2 ff) hp, drop_ok (k.ct.step p2 ff) hp⟩, fun _ _ z => z.elim⟩
theorem as_try {body : List Stmt} {h₀ : ExceptHandler} {hds : List ExceptHandler} {l : List ClD} {pos : Pos} {tb : TSD} (hs : X.stack = X.env :: X.outer) (hf : X.env.frame = some X.env.locals) (hN : X.N.Nodup) (tk : L2N.Takes X W)
    (hb : ∀ (W' : WX) (pn : List (Addr × Obj)) (xe : Value → Shared → Prop), L2N.Takes (X.tr pn xe) W' → PassesOwn (model X.prog X.w) X.A X.env xe → ASs (X.tr pn xe) W' P body tb) (ok : AcOk X P (h₀ :: hds) l) : AS X W P (.Try body (h₀ :: hds) [] [] pos) (tTryD X.K tb l) := by
  obtain ⟨cl, hP⟩ := ok.cl
  refine PS.imp (ps_tryCls (tb := fun W' => tS X.K W' P tb) hs hf hN tk hb cl) fun D σ H q => ?_
  obtain ⟨HF, ρ, A, E, Ed, w, en, t, k, x⟩ := q
  exact ⟨HF, ρ, A, E, _, w, en, t, k, cls_ok k x hP⟩
/-! ### n.f in a suite -/
structure XfD (K : PySem.W.Frag) (C : Addr) (f : Str) : Prop where
  xf : XfC K C
  no : PySem.W.findIn K (.ref C) f = some none
def tXfD (K : PySem.W.Frag) (a : Addr) (cls : Value) (d : Option Addr) (C : Addr) (f : Str) (te : TD) : TD := fun ρ Kd Ed => te ρ (fun e ρ1 => match dOf ρ1 e with
  | some (.exc a' _ d' fs) => a' = a ∧ cls = .ref C ∧ d' = d ∧ ∃ v, fs.lookup f = some v ∧ Kd (.ow (.fz v)) ρ1
  | _ => False) Ed
theorem ae_xf {a C : Addr} {oe : Obj} {cls : Value} {d : Option Addr} {pn : List (Addr × Obj)} {e : Expr} {te : TD} {pos : Pos} {f : Str} {W' : WX} (T : XfD X.K C f) (hz : L2N.Zn cls d oe) (hf : ∃ vs, oe.data = .fields vs) (he : AE (X.suite a ((a, oe) :: pn)) W' e te)
    (hb : attributeBase e f X.env (eval e X.env) = eval e X.env := by rfl) : AE (X.suite a ((a, oe) :: pn)) W' (.Attribute e f pos) (tXfD X.K a cls d C f te) := PE.imp (pe_xf T.xf T.no hz.zc hf he hb) fun σ H Q q => by
  obtain ⟨HF, ρ, A, Kd, Ed, w, en, t, k, x⟩ := q
  refine ⟨HF, ρ, A, _, Ed, w, en, t, fun e1 ρ1 q1 HF1 H1 A1 v1 Av1 f1 w1 en1 r1 => ?_, x⟩
  dsimp only at q1
  split at q1
  · rename_i a' cls' d' fs e2
    obtain ⟨rfl, ec, rfl, v, hv, q⟩ := q1
    obtain ⟨rfl, rx⟩ := Vw.ev w1.same en1 r1 e2
    rcases rx with ⟨rfl, rfl⟩ | ⟨p, fvs, rfl, hp, rs⟩
    · cases hv
    · obtain ⟨u, hu, ru⟩ := rs.look hv
      exact ⟨rfl, ec, p, fvs, u, rfl, w1.same _ _ hp, hu, k _ ρ1 q HF1 H1 A1 u [] (by rw [List.append_nil]; exact f1.mono (fun _ h => h) fun p hp => .inl (List.mem_append_left _ hp)) (by rw [List.append_nil]; exact w1.left) en1 ⟨rfl, ru⟩⟩
  · exact q1.elim
end
end AE
/-! AE17: own classes: made, their methods called, self.f = e. -/
namespace AE
open PySem L2
/-- a new instance, its __init__ run; what is raised goes to the caller's slots -/
theorem make_at {X : Cx} {CX : CXT} {k : Nat} {C f : Addr} {fd : FuncData} {ps : List Str} {sp : Sp} {E : XK} {pins : List (Addr × Obj)} {σ : St} {H : Hp} {s : Shared} {Q : VK} {us : List Value} {vs : List V} (M : Mk X.K C f) (F : FnOk X.prog X.w X.K X.mg X.base CX k f fd ps sp) (hr : Room (k + 1) X.A)
    (hb : Binds X.K fd ps []) (hx : PassesAt CX X σ E) (I : Inv X pins σ H s) (r : Vals vs us)
    (h : ∀ x dx, H x = none → H dx = none → dx ≠ x → sp (.ref x :: vs) (upd (upd H dx (.own x)) x (.ins C dx [])) (fun v H2 => v = .non ∧ Q (.ref x) H2) E) : wpAny (model X.prog X.w) X.A (call (.ref C) us) (EP X pins σ Q) X.xe s := by
  have J := Inv.made (C := C) I
  have new := h (s.heap.objs.size + 1) s.heap.objs.size (I.hok.fresh (Nat.le_succ _)) (I.hok.fresh (Nat.le_refl _)) (Nat.ne_of_lt (Nat.lt_succ_self _))
  have rr : Vals (V.ref (s.heap.objs.size + 1) :: vs) (Value.ref (s.heap.objs.size + 1) :: us) := .cons rfl r
  have ln : (Value.ref (s.heap.objs.size + 1) :: us).length = ps.length := rr.length.symm.trans (F.len _ _ _ _ new)
  have bd := hb _ (Value.ref (s.heap.objs.size + 1) :: us) J.kIn (by rw [List.append_nil]; exact ln)
  rw [List.append_nil] at bd
  apply wpAny_call
  apply make_map (f := f) I.kIn M.makes M.init (beq_iff_eq.mp M.fn)
  apply codeAny_mono (F.run _ X.stack _ _ _ _ _ _ E (hr.make C us []) (J.env0.make C us []) bd rr new)
  intro res s' q
  cases res with
  | error e => exact hx pins _ _ e s' J q
  | ok fl =>
    cases fl with
    | ret u =>
      obtain ⟨v, H', J', rv, ev, q'⟩ := J.after q
      subst ev
      exact ⟨rv, .ref (s.heap.objs.size + 1), H', J', rfl, q'⟩
    | next => exact q.elim
    | brk => exact q.elim
    | cont => exact q.elim
/-- a class by its module's name, and what its __init__ does -/
structure Mak (P : Program) (w : World) (K : PySem.W.Frag) (mg : Str → Option Value) (base : Heap) (lv : Nat) (x : Str) (C : Addr) (ps : List Str) (F : AFn) : Prop where
  mgC : mg x = some (.ref C)
  ex : ∃ f fd, Mk K C f ∧ Binds K fd ps [] ∧ FnOk P w K mg base (L2N.CX P w) lv f fd ps (spA K ps.length F)
  len : ∀ os Kd Ed, F os Kd Ed → os.length = ps.length
def tMakeA (C : Addr) (F : AFn) (ts : TDs) : TD := fun ρ Kd Ed => ts ρ (fun es ρ1 => match takeD ρ1 es with
  | some (os, ρ2) => F (.ob C [] :: os) (fun r ρx => match r, ρx with
    | .fz .non, some o :: ρy => Kd (.ow o) (backD ρ2 es ρy)
    | _, _ => False) (fun x ρx => Ed x (backD ρ2 es ρx.tail))
  | none => False) Ed
theorem ros_cons {o : O} {os : List O} : ros (o :: os) = some o :: ros os := rfl
theorem svs_cons {v : V} {vs : List V} : svs (v :: vs) = some v :: svs vs := rfl
section
variable {X : Cx} {W : WX} {lv : Nat} {x : Str} {C : Addr} {ps : List Str} {F : AFn} {p pos : Pos} {e : Expr} {es : List Expr} {ts : TDs}
theorem make_run {f : Addr} {fd : FuncData} (hF : ∀ os Kd Ed, F os Kd Ed → os.length = ps.length) (mk : Mk X.K C f) (hb : Binds X.K fd ps []) (G : FnOk X.prog X.w X.K X.mg X.base (L2N.CX X.prog X.w) lv f fd ps (spA X.K ps.length F)) (hr : Room (lv + 1) X.A) (tk : L2N.Takes X W) (ha : AA X W (e :: es) ts)
    (he : starEach (e :: es) X.env = (false, eval e X.env) :: starEach es X.env) (hpl : (backTo pos (starEach es X.env)).any (·.1) = false) {pins : List (Addr × Obj)} {s : Shared} {σ : St} {H : Hp} {Q : VK} (I : Inv X pins σ H s) (q : tA X.K W (tMakeA C F ts) σ H Q) :
    wpAny (model X.prog X.w) X.A (callWith pos (.ref C) [] (backTo pos (starEach (e :: es) X.env)) []) (EP X pins σ Q) X.xe s := by
  obtain ⟨HF, ρ, A, Kd, Ed, w, en, t, k, x⟩ := q
  refine PySem.W.callWith_K (h₀ := X.base) I.ok.mod.kin mk.kp ?_ he hpl
  refine thn (ha.run pos pins s σ H (fun vs H1 => ∀ x dx, H1 x = none → H1 dx = none → dx ≠ x → spA X.K ps.length F (.ref x :: vs) (upd (upd H1 dx (.own x)) x (.ins C dx [])) (fun v H2 => v = .non ∧ Q (.ref x) H2) (WE W σ)) I ⟨HF, ρ, A, _, Ed, w, en, t, fun es1 ρ1 q1 HF1 H1 A1 vs Av f1 w1 en1 r1 => ?_, x⟩) fun us s1 ⟨vs, H1, I1, r, q1⟩ => ⟨I1.kIn, make_at mk G hr hb (L2N.passAt tk σ) I1 r q1⟩
  intro y dy hy hdy hne
  dsimp only at q1
  split at q1
  · rename_i os ρ2 e1
    obtain ⟨A2, B, pm, en2, ex⟩ := takeD_ok en1 r1 e1
    have w2 := w1.perm pm
    -- the heap with the new instance
    have s1 : Same H1 (upd (upd H1 dy (.own y)) y (.ins C dy [])) := (Same.new hdy).trans (Same.new (by rw [upd_ne (Ne.symm hne)]; exact hy))
    have kp : ∀ p o, H1 p = some o → upd (upd H1 dy (.own y)) y (.ins C dy []) p = some o := fun p o e => s1 p o e
    have tB := EnvR.there _ ex
    have tA2 := EnvR.there _ en2
    have ny : y ∉ A2 ++ B := fun z => by
      rcases List.mem_append.mp z with z | z
      · obtain ⟨o, ho⟩ := tA2 y z; rw [hy] at ho; cases ho
      · obtain ⟨o, ho⟩ := tB y z; rw [hy] at ho; cases ho
    have wB : WR HF1 (upd (upd H1 dy (.own y)) y (.ins C dy [])) (y :: B) := ⟨w2.same.trans s1, List.nodup_cons.mpr ⟨fun z => ny (List.mem_append_right _ z), w2.right.nodup⟩, fun a ha => (List.mem_cons.mp ha).elim (fun z => by rw [z]; exact w2.same.free hy) (w2.right.out a)⟩
    have ex' : EnvR X.K HF1 (upd (upd H1 dy (.own y)) y (.ins C dy [])) (ros (.ob C [] :: os)) (svs (.ref y :: vs)) (y :: B) := ⟨.ref y, svs vs, [y], B, rfl, rfl, ⟨y, dy, [], [], rfl, rfl, upd_same, rfl, rfl⟩, EnvR.keep (.refl _) _ ex fun p hp => by obtain ⟨o, ho⟩ := tB p hp; rw [kp p o ho, ho]⟩
    have base : Fr H1 (upd (upd H1 dy (.own y)) y (.ins C dy [])) HF1 HF1 (A1 ++ Av) (A2 ++ (y :: B)) := ⟨.refl _, fun p o e _ => kp p o e, fun _ _ _ _ h => h, fun p hp => by
      rcases List.mem_append.mp hp with z | z
      · exact .inl (pm.mem_iff.mpr (List.mem_append_left _ z))
      · rcases List.mem_cons.mp z with z | z
        · rw [z]; exact .inr hy
        · exact .inl (pm.mem_iff.mpr (List.mem_append_right _ z))⟩
    have back : ∀ {HF' H' : Hp} {A' : List Addr}, Fr (upd (upd H1 dy (.own y)) y (.ins C dy [])) H' HF1 HF' (y :: B) A' → (∀ p ∈ A2, H' p = H1 p) ∧ (∀ p ∈ A2, HF' p = none) ∧ (∀ p ∈ A2, p ∉ A') := fun {HF' H' A'} f => by
      have tt : ∀ p ∈ A2, ∃ o, upd (upd H1 dy (.own y)) y (.ins C dy []) p = some o := fun p hp => by obtain ⟨o, ho⟩ := tA2 p hp; exact ⟨o, kp p o ho⟩
      obtain ⟨k1, k2, k3⟩ := f.frame tt fun p hp z => (List.mem_cons.mp z).elim (fun z => ny (List.mem_append_left _ (z ▸ hp))) (w2.disj p hp)
      refine ⟨fun p hp => ?_, fun p hp => k2 p hp (w2.left.out p hp), k3⟩
      obtain ⟨o, ho⟩ := tA2 p hp
      rw [k1 p hp, kp p o ho, ho]
    refine ⟨HF1, .ob C [] :: os, y :: B, _, _, ?_, wB, ex', q1, fun o ρx q HF' H' A' v Av' f w' en' ro => ?_, fun xd ρx q HF' H' A' cls d f w' en' rx => ?_⟩
    · have := ex'.length
      simp [ros, svs] at this
      have l2 := hF _ _ _ q1
      simp at l2 ⊢
      omega
    · split at q
      · rename_i o1 ρy
        obtain ⟨v1, r1', B1, B2, e3, rfl, ro1, en4⟩ := en'
        have e3 : some (V.ref y) :: svs vs = some v1 :: r1' := e3
        injection e3 with e4 e5
        injection e4 with e4
        subst e4 e5
        obtain ⟨rfl, rfl⟩ := ro
        rw [List.append_nil] at f w'
        refine ⟨rfl, ?_⟩
        obtain ⟨k1, k2, k3⟩ := back f
        obtain ⟨C2, R, pm2, en5⟩ := backD_ok (es := es1) (EnvR.keep f.same _ en2 k1) en4 r1.pts
        have big : WR HF' H' (A2 ++ (B1 ++ B2)) := ⟨w'.same, List.nodup_append.mpr ⟨w2.left.nodup, w'.nodup, fun a ha b hb e => k3 a ha (e ▸ hb)⟩, fun a ha => (List.mem_append.mp ha).elim (k2 a) (w'.out a)⟩
        have pm3 : (A2 ++ (B1 ++ B2)).Perm ((C2 ++ B1) ++ R) := (List.perm_append_comm_assoc A2 B1 B2).trans ((List.Perm.append_left B1 pm2).trans (by rw [← List.append_assoc]; exact List.Perm.append_right R List.perm_append_comm))
        refine (k.step f1) _ _ q HF' H' C2 (.ref y) B1 ?_ ((big.perm pm3).left) en5 ro1
        refine base.trans (f.mono (fun p hp => List.mem_append_right _ hp) fun p hp => ?_)
        rcases List.mem_append.mp (pm3.mem_iff.mpr (List.mem_append_left _ hp)) with z | z
        · exact .inr (List.mem_append_left _ z)
        · exact .inl z
      · exact q.elim
    · obtain ⟨k1, k2, k3⟩ := back f
      have hx' : ∃ B2, B2.Sublist A' ∧ EnvR X.K HF' H' ρx.tail (svs vs) B2 := by
        cases ρx with
        | nil => obtain ⟨e3, _⟩ := en'; cases e3
        | cons o1 ρy =>
          cases o1 with
          | none =>
            obtain ⟨s', r', e3, t'⟩ := en'
            have e3 : some (V.ref y) :: svs vs = s' :: r' := e3
            injection e3 with e4 e5
            subst e5
            exact ⟨A', .refl _, t'⟩
          | some o1 =>
            obtain ⟨v1, r', B1, B2, e3, rfl, ro1, t'⟩ := en'
            have e3 : some (V.ref y) :: svs vs = some v1 :: r' := e3
            injection e3 with e4 e5
            subst e5
            exact ⟨B2, List.sublist_append_right _ _, t'⟩
      obtain ⟨B2, sub2, en4⟩ := hx'
      obtain ⟨C2, R, pm2, en5⟩ := backD_ok (es := es1) (EnvR.keep f.same _ en2 k1) en4 r1.pts
      have big : WR HF' H' (A2 ++ B2) := ⟨w'.same, List.nodup_append.mpr ⟨w2.left.nodup, w'.nodup.sublist sub2, fun a ha b hb e => k3 a ha (e ▸ sub2.subset hb)⟩, fun a ha => (List.mem_append.mp ha).elim (k2 a) fun z => w'.out a (sub2.subset z)⟩
      refine (x.step f1) xd _ q HF' H' C2 cls d ?_ ((big.perm pm2).left) en5 rx
      refine base.trans (f.mono (fun p hp => List.mem_append_right _ hp) fun p hp => ?_)
      rcases List.mem_append.mp (pm2.mem_iff.mpr (List.mem_append_left _ hp)) with z | z
      · exact .inr (List.mem_append_left _ z)
      · exact .inl (sub2.subset z)
  · exact q1.elim
theorem ae_make (M : Mak X.prog X.w X.K X.mg X.base lv x C ps F) (hr : Room (lv + 1) X.A) (tk : L2N.Takes X W) (hg : Gl X x) (ha : AA X W (e :: es) ts) (hdb : (x == ("__debug__" : Str)) = false := by decide)
    (he : starEach (e :: es) X.env = (false, eval e X.env) :: starEach es X.env := by rfl) (hpl : (backTo pos (starEach es X.env)).any (·.1) = false := by rfl) : AE X W (.Call (.Name x p) (e :: es) [] pos) (tMakeA C F ts) := by
  obtain ⟨f, fd, mk, hb, G⟩ := M.ex
  constructor
  intro pins s σ H Q I q
  apply wpAny_Call_Name_kw
  apply ld_glob I hg M.mgC _ hdb
  exact make_run M.len mk hb G hr tk ha he hpl I q
/-- C(..), C held by a name -/
def tMakeL (i : Nat) (C : Addr) (F : AFn) (ts : TDs) : TD := fun ρ Kd Ed => ρ[i]? = some (some (.fz (.cl C))) ∧ tMakeA C F ts ρ Kd Ed
theorem ae_makeL {i : Nat} {x' : Str} (M : Mak X.prog X.w X.K X.mg X.base lv x' C ps F) (hr : Room (lv + 1) X.A) (tk : L2N.Takes X W) (hv : PE X (.Name x p) (tVar i)) (ha : AA X W (e :: es) ts)
    (he : starEach (e :: es) X.env = (false, eval e X.env) :: starEach es X.env := by rfl) (hpl : (backTo pos (starEach es X.env)).any (·.1) = false := by rfl) : AE X W (.Call (.Name x p) (e :: es) [] pos) (tMakeL i C F ts) := by
  obtain ⟨f, fd, mk, hb, G⟩ := M.ex
  constructor
  intro pins s σ H Q I q
  obtain ⟨HF, ρ, A, Kd, Ed, w, en, t, k, xx⟩ := q
  obtain ⟨v, B, R, h1, h2, _⟩ := en.get t.1
  obtain rfl : v = .ref C := h2.2
  refine wpAny_Call_Name_kw (thn (hv.run pins s σ H (fun v H1 => v = .ref C ∧ H1 = H) I ⟨.ref C, h1, rfl, rfl⟩) fun u s1 ⟨y, H1, I1, r1, q1⟩ => ?_)
  obtain ⟨rfl, rfl⟩ := q1
  cases r1
  exact make_run M.len mk hb G hr tk ha he hpl I1 ⟨HF, ρ, A, Kd, Ed, w, en, t.2, k, xx⟩
end
end AE
/-! AE18: own exceptions made with keywords. -/
namespace AE
open PySem PySem.Spec PySem.Calls PyProof.Rows PySem.W PySem.HandSPX
/-- what stands in the heap for an own exception class over ValueError -/
structure XCls (h : Heap) (C : Addr) : Prop where
  ex : ∃ (nm q : Str) (N : Addr) (bs bm : List Value) (hd : Bool) (sn : List Str) (sub : List Value) (ab : Bool) (col : Option Bool) (dd : Option Addr) (k0 k1 k2 k3 k5 : Option Value),
    h.get? C = some (excClassObj nm q C N bs bm hd sn sub ab col dd k0 k1 k2 k3 k5 "ValueError.__new__") ∧ refsVE bm = true
section
variable {prog : Program} {w : World} {A : Around} {E : Value → Shared → Prop} {h : Heap} {g : Array GenState} {d : Drawn} {t : Nat} {os : OsState} {C : Addr} {kw : List (Str × Value)}
abbrev VEF := PySem.F.excBase_ValueError
theorem xk_new_ok {Q : Unit → Shared → Prop} (hx : XCls h C) (hq : Q () ⟨h, g, d, t, os⟩) : wpAny (model prog w) A (checkBuiltinCall "ValueError.__new__" ⟨[.ref C], kw⟩) Q E ⟨h, g, d, t, os⟩ := by
  obtain ⟨nm, q, N, bs, bm, hd, sn, sub, ab, col, dd, k0, k1, k2, k3, k5, hC, hb⟩ := hx.ex
  have sb : (Value.ref C :: bm).contains (.type "ValueError") = true := by
    rw [List.contains_cons, refsVE_contains "ValueError" bm hb, show veTail.contains (Value.type "ValueError") = true by decide +kernel, Bool.or_true]
  have ns := VEF.noStar
  simp only [checkBuiltinCall, VEF.newKind, VEF.newSplit, VEF.newRow]
  repeat (first
    | refine wpAny_loadPart_at hC ?_
    | (refine wpAny_isSubtype_exc hC ?_; rw [sb])
    | refine wpAny_staticBase_exc hC ?_
    | refine wpAny_madeBy_exc hC ?_
    | simp only [bne_self_eq_false, Bool.false_eq_true, if_false]
    | wp_step)
  exact hq
/-- the object that BaseException.__new__ lays: an empty tuple, then the exception -/
abbrev xkHeap (h : Heap) (C : Addr) : Heap := (h.push (kdv_tup [])).push (excO C h.objs.size)
theorem xk_made {R : Result → Shared → Prop} (hx : XCls h C) (hq : R (.ok (.ret (.ref (h.objs.size + 1)))) ⟨xkHeap h C, g, d, t, os⟩) : codeAny (model prog w) A (.builtin "ValueError.__new__" ⟨[.ref C], kw⟩) R ⟨h, g, d, t, os⟩ := by
  obtain ⟨nm, q, N, bs, bm, hd, sn, sub, ab, col, dd, k0, k1, k2, k3, k5, hC, hb⟩ := hx.ex
  have has : ∀ T : String, (Value.ref C :: bm).contains (.type T) = veTail.contains (.type T) := fun T => by
    rw [List.contains_cons, refsVE_contains T bm hb]
    rfl
  have en := VEF.ends
  have s1 := (has "ValueError").trans (by decide +kernel : veTail.contains (Value.type "ValueError") = true)
  have s2 := (has "AttributeError").trans (by decide +kernel : veTail.contains (Value.type "AttributeError") = false)
  have s3 := (has "NameError").trans (by decide +kernel : veTail.contains (Value.type "NameError") = false)
  apply codeAny_builtinAt VEF.entry
  unfold Builtin.«BaseException.__new__»
  apply PySem.wpAt_bind
  show PySem.wpAt _ _ _ (stack >>= _) _ _ _
  apply PySem.wpAt_bind
  apply PySem.wpAt_stack
  intro p below
  apply PySem.wpAt_of_wpAny
  wp_walk
  apply PySem.wpAt_of_wpAny
  rw [VEF.owner]
  repeat (first
    | with_reducible refine wpAny_madeHere_exc VEF.canon hC ?_
    | with_reducible refine wpAny_loadPart_at hC ?_
    | (with_reducible refine wpAny_isSubtype_exc hC ?_; first | rw [s1] | rw [s2] | rw [s3])
    | wp_step)
  show R _ _
  rw [Heap.size_push]
  exact hq
theorem xk_type {fI : Addr} {Q : Fin → Shared → Prop} (hx : XCls h C) (hi : Looks (model prog w) h (typeLookup (.ref C) "__init__") (some (.ref fI))) (hb : ∀ self, Looks (model prog w) h (bindSpecial (.ref fI) self) (.ref fI, [self]))
    (hq : codeAny (model prog w) A (.call (.ref fI) ⟨[.ref (h.objs.size + 1)], kw⟩) (fun r s' => match r with
      | .ok (.ret v) => v = .none ∧ Q (.done (.ret (.ref (h.objs.size + 1)))) s'
      | .ok _ => False
      | .error e => E e s') ⟨xkHeap h C, g, d, t, os⟩) : wpAny (model prog w) A (Builtin.«type.__call__» ⟨[.ref C], kw⟩) Q E ⟨h, g, d, t, os⟩ := by
  obtain ⟨nm, q, N, bs, bm, hd, sn, sub, ab, col, dd, k0, k1, k2, k3, k5, hC, hm⟩ := id hx.ex
  repeat (first
    | with_reducible refine wpAny_loadPart_at hC ?_
    | with_reducible refine wpAny_madeBy_exc hC ?_
    | wp_step)
  refine codeAny_call_builtin_code (Code.quiet_builtin _ VEF.quiet) (xk_new_ok hx (xk_made hx ?_))
  show wpAny _ _ _ _ _ _
  have kp : ∀ b o, h.get? b = some o → (xkHeap h C).get? b = some o := fun b o z => Heap.get?_push_of_some _ (Heap.get?_push_of_some _ z)
  have me : (xkHeap h C).get? (h.objs.size + 1) = some (excO C h.objs.size) := by heap_get
  have self : (Value.ref C :: bm).contains (.ref C) = true := by simp
  have hC' := kp _ _ hC
  unfold isInstance
  repeat (first
    | with_reducible refine wpAny_loadPart_at me ?_
    | (with_reducible refine wpAny_isSubtype_exc hC' ?_; rw [self])
    | wp_step)
  show wpAny _ _ (typeLookup (.ref C) _) _ _ _
  refine (hi.keeps kp).at (wpAny_holding (wpAny_bind (((hb _).keeps kp).at (wpAny_bind (wpAny_call (codeAny_mono hq ?_))))))
  intro r s' z
  match r, z with
  | .error e, z => exact z
  | .ok (.ret v), ⟨e, z⟩ =>
    subst e
    first
      | exact wpAny_pure (wpAny_pure z)
      | (wp_walk; exact z)
/-- C(k = v, ..) of an own exception class with an own __init__ -/
theorem xk_call {R : Result → Shared → Prop} {fI : Addr} (hx : XCls h C) (hi : Looks (model prog w) h (typeLookup (.ref C) "__init__") (some (.ref fI))) (hb : ∀ self, Looks (model prog w) h (bindSpecial (.ref fI) self) (.ref fI, [self]))
    (hq : codeAny (model prog w) (A.under (.builtin "type.__call__" ⟨[.ref C], kw⟩)) (.call (.ref fI) ⟨[.ref (h.objs.size + 1)], kw⟩) (InitBack (h.objs.size + 1) R) ⟨xkHeap h C, g, d, t, os⟩) : codeAny (model prog w) A (.call (.ref C) ⟨[], kw⟩) R ⟨h, g, d, t, os⟩ := by
  obtain ⟨nm, q, N, bs, bm, hd, sn, sub, ab, col, dd, k0, k1, k2, k3, k5, hC, hm⟩ := id hx.ex
  have f1 := tc_lookup
  have f2 := tc_bind (.ref C)
  have f3 := tc_sub
  have ty : (⟨h, g, d, t, os⟩ : Shared).TypeIs (.ref C) "type" := ⟨_, hC, rfl⟩
  apply codeAny_of_tree
  show wpAny _ _ (callAny (.ref C) _) _ _ _
  repeat (any_goals (first
    | assumption
    | with_reducible refine wpAny_loadPart_at hC ?_
    | wp_step))
  refine ⟨rfl, ?_⟩
  refine codeAny_call_builtin_at (Code.quiet_builtin _ (by decide +kernel)) entry_typeCall ?_
  have chk : ∀ {Q : Unit → Shared → Prop} {A : Around} {E : Value → Shared → Prop}, Q () ⟨h, g, d, t, os⟩ → wpAny (model prog w) A (checkBuiltinCall "type.__call__" ⟨[.ref C], kw⟩) Q E ⟨h, g, d, t, os⟩ := fun {Q A E} hq => by
    simp only [checkBuiltinCall, tc_kind, tc_split]
    repeat (any_goals (first
      | assumption
      | with_reducible refine wpAny_loadPart_at hC ?_
      | with_reducible refine wpAny_onRaise ?_
      | with_reducible refine wpAny_map ?_
      | wp_step))
  refine chk (xk_type hx hi hb (codeAny_mono hq ?_))
  intro r s' z
  match r, z with
  | .error e, z => exact z
  | .ok (.ret v), z => exact z
  | .ok .next, z => exact z
  | .ok .brk, z => exact z
  | .ok .cont, z => exact z
end
end AE
/-! AE19: exceptions held as values: made, asked for their class, their fields read. -/
namespace AE
open PySem L2
section
variable {X : Cx} {C fI : Addr} {fd : FuncData} {f pn : Str} {pins : List (Addr × Obj)} {σ : St} {H : Hp} {s : Shared} {Q : VK} {us : List Value} {kw : List (Str × Value)} {u : Value} {v : V}
/-- the heap behind BaseException.__new__ -/
abbrev xHeap (h : Heap) (C : Addr) (us : List Value) : Heap := (h.push (PySem.W.kdv_tup us)).push (PySem.HandSPX.excO C h.objs.size)
theorem x_at (T : OexC X.K C) (F : FnOk X.prog X.w X.K X.mg X.base (L2N.CX X.prog X.w) 1 fI fd ["self", pn] (spXI C f)) (hr : Room 2 X.A) (I : Inv X pins σ H s) (rv : RelV v u) (bd : ∀ (s : Shared) (a : Addr), X.K.In s.heap → BindsTo s fd ⟨.ref a :: us, kw⟩ ((["self", pn] : List Str).zip [.ref a, u]))
    (hc : ∀ R, codeAny (model X.prog X.w) (X.A.under (.builtin "type.__call__" ⟨.ref C :: us, kw⟩)) (.call (.ref fI) ⟨.ref (s.heap.objs.size + 1) :: us, kw⟩) (PySem.W.InitBack (s.heap.objs.size + 1) R) ⟨xHeap s.heap C us, s.gens, s.drawn, s.toks, s.os⟩ → codeAny (model X.prog X.w) X.A (.call (.ref C) ⟨us, kw⟩) R s)
    (h : ∀ a p, H a = none → H p = none → p ≠ a → Q (.ref a) (upd (upd H p (exd p [(f, v)])) a (exv a (.ref C) (some p)))) : wpAny (model X.prog X.w) X.A (call (.ref C) us kw) (EP X pins σ Q) X.xe s := by
  apply wpAny_call
  apply hc
  have new : s.heap.objs.size ≤ s.heap.objs.size + 1 := Nat.le_succ _
  have na : H (s.heap.objs.size + 1) = none := I.hok.fresh new
  have kp : ∀ b o, s.heap.get? b = some o → (xHeap s.heap C us).get? b = some o := fun b o z => Heap.get?_push_of_some _ (Heap.get?_push_of_some _ z)
  have me : (xHeap s.heap C us).get? (s.heap.objs.size + 1) = some (PySem.HandSPX.excO C s.heap.objs.size) := by heap_get
  have J := I.laid (t' := s.toks) (a := s.heap.objs.size + 1) (o := exo (s.heap.objs.size + 1) C none) (h' := xHeap s.heap C us) kp new (exo_ok me)
  have sp : spXI C f [.ref (s.heap.objs.size + 1), v] (upd H (s.heap.objs.size + 1) (exo (s.heap.objs.size + 1) C none)) (fun z H2 => z = .non ∧ Q (.ref (s.heap.objs.size + 1)) H2) (fun _ _ _ => False) := by
    refine ⟨_, v, rfl, upd_same, fun p hp ne => ⟨rfl, ?_⟩⟩
    have hp' : H p = none := by rw [upd_ne ne] at hp; exact hp
    have q := h _ p na hp' ne
    have e : upd (upd (upd H (s.heap.objs.size + 1) (exo (s.heap.objs.size + 1) C none)) p (exd p [(f, v)])) (s.heap.objs.size + 1) (exo (s.heap.objs.size + 1) C (some p)) = upd (upd H p (exd p [(f, v)])) (s.heap.objs.size + 1) (exv (s.heap.objs.size + 1) (.ref C) (some p)) := by
      funext b
      by_cases b1 : b = s.heap.objs.size + 1
      · subst b1; rw [upd_same, upd_same]; rfl
      · rw [upd_ne b1, upd_ne b1]
        by_cases b2 : b = p
        · subst b2; rw [upd_same, upd_same]
        · rw [upd_ne b2, upd_ne b2, upd_ne b1]
    rw [e]
    exact q
  apply codeAny_mono (F.run _ X.stack _ _ ⟨.ref (s.heap.objs.size + 1) :: us, kw⟩ [.ref (s.heap.objs.size + 1), u] [.ref (s.heap.objs.size + 1), v] _ _ (hr.make C us kw) (J.env0.make C us kw) (bd _ _ J.kIn) (.cons rfl (.cons rv .nil)) sp)
  intro res s' q
  match res, q with
  | .error e, q => exact passE0N pins σ _ _ e s' J q
  | .ok (.ret u), q =>
    obtain ⟨z, H2, J2, rz, e, q2⟩ := J.after q
    subst e
    exact ⟨rz, .ref (s.heap.objs.size + 1), H2, J2, rfl, q2⟩
  | .ok .next, q => exact q.elim
  | .ok .brk, q => exact q.elim
  | .ok .cont, q => exact q.elim
theorem OexC.heap {K : PySem.W.Frag} {h : Heap} {C : Addr} (T : OexC K C) (I : K.In h) : XCls h C := by
  obtain ⟨nm, q, N, bs, bm, sn, sub, ab, col, dd, k0, k1, k2, k3, k5, e, r⟩ := T.cls
  exact ⟨nm, q, N, bs, bm, true, sn, sub, ab, col, dd, k0, k1, k2, k3, k5, I _ _ e, r⟩
end
/-- what a new exception value is -/
theorem New.exv1 {K : PySem.W.Frag} {HF H : Hp} {a p : Addr} {cls : Value} {f : Str} {d : D} {v : V} (s : Same HF H) (ha : H a = none) (hp : H p = none) (ne : p ≠ a) (r : Rep K HF d v) :
    New K HF H (upd (upd HF p (exd p [(f, v)])) a (exv a cls (some p))) (upd (upd H p (exd p [(f, v)])) a (exv a cls (some p))) (.fz (.xo cls [(f, d)])) (.ref a) [] := by
  have ha' : upd H p (exd p [(f, v)]) a = none := by rw [upd_ne (Ne.symm ne)]; exact ha
  have s1 : Same (upd HF p (exd p [(f, v)])) (upd H p (exd p [(f, v)])) := Same.up s hp
  have g1 : Same HF (upd HF p (exd p [(f, v)])) := Same.new (s.free hp)
  have g2 : Same (upd HF p (exd p [(f, v)])) (upd (upd HF p (exd p [(f, v)])) a (exv a cls (some p))) := Same.new (s1.free ha')
  refine ⟨⟨g1.trans g2, fun q o e _ => upd_eq ha' (upd_eq hp e), fun q o e _ z => ?_, fun _ z => by cases z⟩, ⟨Same.up s1 ha', List.nodup_nil, fun _ z => by cases z⟩, rfl, a, rfl, .inr ⟨p, [(f, v)], upd_same, ?_, (f, v), [], rfl, ⟨rfl, Rep.mono (g1.trans g2) d r⟩, rfl⟩⟩
  · rw [upd_ne (ne_of_none e ha), upd_ne (ne_of_none e hp)]; exact z
  · rw [upd_ne ne, upd_same]
theorem New.exv0 {K : PySem.W.Frag} {HF H : Hp} {a : Addr} {cls : Value} (s : Same HF H) (ha : H a = none) : New K HF H (upd HF a (exv a cls none)) (upd H a (exv a cls none)) (.fz (.xo cls [])) (.ref a) [] :=
  New.pure s ha ⟨a, rfl, .inl ⟨rfl, upd_same⟩⟩
section
variable {X : Cx} {W : WX} {x : Str} {C : Addr} {p pos kp : Pos} {f pn : Str} {e : Expr} {te : TD}
def tX0 (cls : Value) : TD := fun ρ Kd _ => Kd (.ow (.fz (.xo cls []))) ρ
theorem exv_ok {P : Program} {w : World} {H : Hp} {h : Heap} {a t1 : Addr} {cls : Value} {d : Option Addr} (he : h.get? a = some ({ cls := cls, dict := d, data := .fields #[.ref t1, .none, .none, .none, .bool false, .none] } : Obj)) : ObjOk P w H h a (exv a cls d) :=
  ⟨⟨t1, he⟩, ⟨_, he⟩, fun _ _ ⟨z, q⟩ k => ⟨z, k _ q⟩⟩
/-- C(), a class without attributes -/
theorem ae_x0 (h : XPlain X.K X.mg x C) (hg : Gl X x) (hdb : (x == ("__debug__" : Str)) = false := by decide) : AE X W (.Call (.Name x p) [] [] pos) (tX0 (.ref C)) := by
  constructor
  intro pins s σ H Q I q
  obtain ⟨HF, ρ, A, Kd, Ed, w, en, t, k, x⟩ := q
  apply wpAny_Call_Name_kw
  apply ld_glob I hg h.mgC _ hdb
  refine PySem.W.callWith_K0 I.kIn h.keep ?_
  show wpAny _ _ (call (.ref C) []) _ _ _
  obtain ⟨bm, N, nm, qn, bs, hdct, sn, sub, ab, col, dd, k0, k1, k2, k3, k5, mN, hC, hN, hni, T⟩ := exc_obj I.kIn h.exc
  apply wpAny_call_exc_subT PySem.F.excBase_ValueError T hC hN hni _ (by show 0 ≤ sizeLine; exact Nat.zero_le _)
  intro h' a hm
  have hn : H a = none := I.hok.gone hm.new
  obtain ⟨tu, ht, _, _⟩ := hm.there
  refine ⟨.ref a, upd H a (exv a (.ref C) none), I.laidN hm.keeps hm.new hn (exv_ok ht), rfl, ?_⟩
  refine KOk.new (A := A) (Av := []) (by rw [List.append_nil]; exact k) (by rw [List.append_nil]; exact w) en t (New.exv0 w.same hn)
def tX1 (C : Addr) (f : Str) (te : TD) : TD := fun ρ Kd Ed => te ρ (fun ev ρ1 => match ev with
  | .ow o => Kd (.ow (.fz (.xo (.ref C) [(f, frz o)]))) ρ1
  | .pt _ => False) Ed
theorem x1_ok {σ : St} {H H1 HF HF1 : Hp} {A A1 Av : List Addr} {Kd : KD} {Q : VK} {ρ1 : Env} {o : O} {v : V} (k : KOk X.K σ H HF A Kd Q) (f1 : Fr H H1 HF HF1 A (A1 ++ Av)) (w1 : WR HF1 H1 (A1 ++ Av)) (en1 : EnvR X.K HF1 H1 ρ1 σ A1) (r1 : RepO X.K HF1 H1 o v Av) (q1 : Kd (.ow (.fz (.xo (.ref C) [(f, frz o)]))) ρ1) :
    ∀ a p, H1 a = none → H1 p = none → p ≠ a → Q (.ref a) (upd (upd H1 p (exd p [(f, v)])) a (exv a (.ref C) (some p))) := fun a p ha hp ne => by
  obtain ⟨sg, wg, fg⟩ := grow_ok (w1.perm List.perm_append_comm)
  have rg : Rep X.K (grow HF1 H1 Av) (frz o) v := RepO.frz sg o r1 fun p hp => grow_in hp
  have k2 := (k.step f1).step (fg.mono (B := A1 ++ Av) (B' := A1) (fun p hp => (List.mem_append.mp hp).elim (fun z => List.mem_append_right _ z) (fun z => List.mem_append_left _ z)) fun p hp => .inl hp)
  exact KOk.new (A := A1) (Av := []) (by rw [List.append_nil]; exact k2) (by rw [List.append_nil]; exact wg) (EnvR.keep sg _ en1 fun _ _ => rfl) q1 (New.exv1 wg.same ha hp ne rg)
/-- C(e), a class with one attribute -/
theorem ae_x1 (h : XOne X.prog X.w X.K X.mg X.base x C f pn) (hr : Room 2 X.A) (hg : Gl X x) (he : AE X W e te) (hs : starEach [e] X.env = (false, eval e X.env) :: starEach [] X.env := by rfl) (hdb : (x == ("__debug__" : Str)) = false := by decide) : AE X W (.Call (.Name x p) [e] [] pos) (tX1 C f te) := by
  obtain ⟨fI, fd, iC, tI, hb, F1⟩ := h.ex
  constructor
  intro pins s σ H Q I q
  obtain ⟨HF, ρ, A, Kd, Ed, w, en, t, k, x⟩ := q
  apply wpAny_Call_Name_kw
  apply ld_glob I hg h.mgC _ hdb
  refine PySem.W.callWith_K (h₀ := X.base) I.ok.mod.kin h.oex.kC (thn ((pa_cons he pa_nil hs).run pos pins s σ H (fun vs H1 => ∃ v, vs = [v] ∧ ∀ a p, H1 a = none → H1 p = none → p ≠ a → Q (.ref a) (upd (upd H1 p (exd p [(f, v)])) a (exv a (.ref C) (some p)))) I ⟨HF, ρ, A, _, Ed, w, en, t, fun ev ρ1 q1 HF1 H1 A1 v Av f1 w1 en1 r1 => ?_, x⟩) fun us s1 ⟨vs, H1, I1, r, v, ev, q1⟩ => ⟨I1.kIn, ?_⟩) hs rfl
  · cases ev with
    | pt j => exact q1.elim
    | ow o => exact ⟨v, rfl, x1_ok k f1 w1 en1 r1 q1⟩
  · subst ev
    obtain ⟨u, rfl, ru⟩ := vals1 r
    obtain ⟨nm, q, N, bs, bm, sn, sub, ab, col, dd, k0, k1, k2, k3, k5, hC, hbm⟩ := h.oex.cls
    refine x_at (us := [u]) (kw := []) h.oex F1 hr I1 ru (fun s a hk => hb s [.ref a, u] hk rfl) (fun R z => ?_) q1
    exact PySem.HandSPX.call_own PySem.F.excBase_ValueError (fun Y => PySem.HandSPX.refsVE_contains Y bm hbm) (I1.kIn _ _ hC) (PySem.W.looks_findIn I1.kIn iC) (fun self => PySem.W.bind_fn I1.kIn self tI) (by rw [sizeLine_eq]; show 1 ≤ _; omega) z
end
end AE
/-! AE20: keywords; exceptions as values: C(k = e), ValueError(), isinstance, e.f. -/
namespace AE
open PySem L2
def AK (X : Cx) (W : WX) (ks : List Keyword) (t : TDs) : Prop := PK X ks (tAs X.K W t)
theorem PK.imp {X : Cx} {ks : List Keyword} {t u : TA} (h : PK X ks t) (i : ∀ σ H Q, u σ H Q → t σ H Q) : PK X ks u := ⟨fun pos pins s σ H Q I q => h.run pos pins s σ H Q I (i σ H Q q)⟩
section
variable {X : Cx} {W : WX}
theorem ak_nil : AK X W [] tNilD := PK.imp pk_nil fun σ H Q q => by
  obtain ⟨HF, ρ, A, Kd, Ed, w, en, t, k, x⟩ := q
  exact k [] ρ t HF H A [] [] (by rw [List.append_nil]; exact Fr.refl) (by rw [List.append_nil]; exact w) en ⟨rfl, rfl⟩
theorem ak_cons {e : Expr} {ks : List Keyword} {nm : Option Str} {kp : Pos} {t : TD} {ts : TDs} (ha : AE X W e t) (hr : AK X W ks ts) : AK X W (⟨nm, e, kp⟩ :: ks) (tConsD t ts) := PK.imp (pk_cons ha hr) fun σ H Q q => by
  obtain ⟨HF, ρ, A, Kd, Ed, w, en, t, k, x⟩ := q
  refine ⟨HF, ρ, A, _, Ed, w, en, t, fun e1 ρ1 q1 HF1 H1 A1 v1 Av1 f1 w1 en1 r1 => ?_, x⟩
  refine ⟨HF1, ρ1, A1, _, Ed, w1.left, en1, q1, fun es2 ρ2 q2 HF2 H2 A2 vs2 Av2 f2 w2 en2 r2 => ?_, (x.step f1).step (Fr.drop fun p hp => List.mem_append_left _ hp)⟩
  obtain ⟨w3, f3, k3⟩ := join w1 (EVR.there r1) f2 w2
  exact (k.step f1).step f3 (e1 :: es2) ρ2 q2 HF2 H2 A2 (v1 :: vs2) (Av1 ++ Av2) Fr.refl w3 en2 ⟨v1, vs2, Av1, Av2, rfl, rfl, EVR.keep f2.same r1 k3, r2⟩
/-- as XOne, by a keyword too -/
structure XOneK (P : Program) (w : World) (K : PySem.W.Frag) (mg : Str → Option Value) (base : Heap) (x : Str) (C : Addr) (f pn : Str) : Prop where
  mgC : mg x = some (.ref C)
  oex : OexC K C
  ex : ∃ fI fd, PySem.W.findIn K (.ref C) "__init__" = some (some (.ref fI)) ∧ PySem.W.typeIn K (.ref fI) = some (.type "function") ∧ Binds K fd ["self", pn] [] ∧ (∀ (s : Shared) (a u : Value), BindsTo s fd ⟨[a], [(pn, u)]⟩ [("self", a), (pn, u)]) ∧ FnOk P w K mg base (L2N.CX P w) 1 fI fd ["self", pn] (spXI C f)
theorem XOneK.one {P : Program} {w : World} {K : PySem.W.Frag} {mg : Str → Option Value} {base : Heap} {x : Str} {C : Addr} {f pn : Str} (h : XOneK P w K mg base x C f pn) : XOne P w K mg base x C f pn :=
  ⟨h.mgC, h.oex, let ⟨fI, fd, a, b, c, _, e⟩ := h.ex; ⟨fI, fd, a, b, c, e⟩⟩
variable {x : Str} {C : Addr} {p pos kp : Pos} {f pn : Str} {e : Expr} {te : TD}
/-- C(n = e), a class with one attribute -/
theorem ae_x1k (h : XOneK X.prog X.w X.K X.mg X.base x C f pn) (hr : Room 2 X.A) (hg : Gl X x) (he : AE X W e te) (hdb : (x == ("__debug__" : Str)) = false := by decide) : AE X W (.Call (.Name x p) [] [⟨some pn, e, kp⟩] pos) (tX1 C f te) := by
  obtain ⟨fI, fd, iC, tI, _, hk, F1⟩ := h.ex
  constructor
  intro pins s σ H Q I q
  obtain ⟨HF, ρ, A, Kd, Ed, w, en, t, k, x⟩ := q
  apply wpAny_Call_Name_kw
  apply ld_glob I hg h.mgC _ hdb
  refine PySem.W.callWith_KW0 (h₀ := X.base) I.ok.mod.kin h.oex.kC rfl (thn ((pk_cons he pk_nil).run pos pins s σ H (fun vs H1 => ∃ v, vs = [v] ∧ ∀ a p, H1 a = none → H1 p = none → p ≠ a → Q (.ref a) (upd (upd H1 p (exd p [(f, v)])) a (exv a (.ref C) (some p)))) I ⟨HF, ρ, A, _, Ed, w, en, t, fun ev ρ1 q1 HF1 H1 A1 v Av f1 w1 en1 r1 => ?_, x⟩) fun us s1 ⟨vs, H1, I1, r, v, ev, q1⟩ => ⟨I1.kIn, ?_⟩) rfl
  · cases ev with
    | pt j => exact q1.elim
    | ow o => exact ⟨v, rfl, x1_ok k f1 w1 en1 r1 q1⟩
  · subst ev
    obtain ⟨u, rfl, ru⟩ := vals1 r
    refine x_at (us := []) (kw := [(pn, u)]) h.oex F1 hr I1 ru (fun s a _ => hk s (.ref a) u) (fun R z => ?_) q1
    exact xk_call (OexC.heap h.oex I1.kIn) (PySem.W.looks_findIn I1.kIn iC) (fun self => PySem.W.bind_fn I1.kIn self tI) z
/-- ValueError() -/
theorem ae_xve {T N I : String} (F : ExcB T N I) (hg : Gl X x) (hm : X.mg x = none) (hv : bootBuiltins x = some (.type T)) (hn : x ≠ "__name__" := by decide) (hdb : (x == ("__debug__" : Str)) = false := by decide) : AE X W (.Call (.Name x p) [] [] pos) (tX0 (.type T)) := by
  constructor
  intro pins s σ H Q J q
  obtain ⟨HF, ρ, A, Kd, Ed, w, en, t, k, x⟩ := q
  apply wpAny_Call_Name_kw
  apply ld_blt J hg hm hv _ hn hdb
  obtain ⟨hp1, g1, d1, tk1, os1⟩ := s
  apply PyProof.Rows.callWith_type0
  refine wpAny_call_exc F.call (fun h' a mk => ?_) (Nat.zero_le _)
  have hn : H a = none := J.hok.gone mk.new
  obtain ⟨tu, ht, _, _⟩ := (PySem.Heap.MadeExc.of mk).there
  exact ⟨.ref a, upd H a (exv a (.type T) none), J.laidN mk.keeps mk.new hn (exv_ok ht), rfl, KOk.new (A := A) (Av := []) (by rw [List.append_nil]; exact k) (by rw [List.append_nil]; exact w) en t (New.exv0 w.same hn)⟩
/-! ### isinstance -/
/-- what the class must say, so that isinstance asks its exceptions rightly -/
structure XIs (K : PySem.W.Frag) (C : Addr) : Prop where
  cl : (PySem.W.clsIn K C).isSome = true
  ga : PySem.W.findIn K (.ref C) "__getattribute__" = some (some (.builtin "BaseException.__getattribute__"))
  gg : PySem.W.findIn K (.ref C) "__getattr__" = some none
  sb : PySem.W.subIn K (.ref C) (.type "BaseException") = some true
  ca : PySem.W.findIn K (.ref C) "__class__" = some (some (.builtin "object.__class__"))
  sg : PySem.W.specialIn K (.builtin "object.__class__") "__get__" = some (some (.builtin "getset_descriptor.__get__"))
  tk : PySem.W.takesIn K (.builtin "object.__class__") = some true
  mo : PySem.W.mroIn K C (.type "object") = some true
structure InsIs (K : PySem.W.Frag) (C : Addr) : Prop where
  cl : Cls K C
  ca : PySem.W.findIn K (.ref C) "__class__" = some (some (.builtin "object.__class__"))
  sg : PySem.W.specialIn K (.builtin "object.__class__") "__get__" = some (some (.builtin "getset_descriptor.__get__"))
  tk : PySem.W.takesIn K (.builtin "object.__class__") = some true
  mo : PySem.W.mroIn K C (.type "object") = some true
/-- a datum's type -/
def tyD (K : PySem.W.Frag) : D → Value → Prop
  | .non, t => t = .type "NoneType"
  | .bl _, t => t = .type "bool"
  | .int _, t => t = .type "int"
  | .str _, t => t = .type "str"
  | .lst _, t => t = .type "list"
  | .tup _, t => t = .type "tuple"
  | .dic _, t => t = .type "dict"
  | .ins C _, t => t = .ref C ∧ InsIs K C
  | .xo cls _, t => t = cls ∧ (cls = .type "ValueError" ∨ ∃ C, cls = .ref C ∧ XIs K C)
  | _, _ => False
def clsD : D → Option Value
  | .cl a => some (.ref a)
  | .ty n => some (.type n)
  | _ => none
def clsDs : List D → Option (List Value)
  | [] => some []
  | d :: ds => match clsD d, clsDs ds with
    | some c, some cs => some (c :: cs)
    | _, _ => none
/-- v is of the type t, as the library's isinstance asks -/
def KitV (X : Cx) (H : Hp) (v : V) (t : Value) : Prop := ∀ pins σ s u, Inv X pins σ H s → RelV v u → ∃ P : Heap → Prop, PySem.W.KitX X.K u t P ∧ P s.heap ∧ u ≠ .builtin "__main__.__loader__#opaque"
theorem KitV.of {H : Hp} {v : V} {t : Value} (h : TyX X.K H v t) : KitV X H v t := fun pins σ s u I r => kit_of I r h
theorem KitV.xo {H : Hp} {a : Addr} {C : Addr} {d : Option Addr} {fvs : List (Str × V)} (z : XIs X.K C) (ha : H a = some (exv a (.ref C) d)) (hd : ∀ p, d = some p → H p = some (exd p fvs)) : KitV X H (.ref a) (.ref C) := fun pins σ s u I r => by
  obtain rfl : u = Value.ref a := r
  obtain ⟨⟨tu, h1⟩, _, _⟩ := I.hok a _ ha
  cases d with
  | none => exact ⟨_, PySem.W.kitx_exc (od := none) z.cl z.ga z.gg z.sb z.ca z.sg z.tk z.mo, ⟨h1, rfl, rfl, trivial⟩, fun y => nomatch y⟩
  | some p =>
    obtain ⟨⟨mA, hns, _⟩, _, _⟩ := I.hok p _ (hd p rfl)
    obtain ⟨od, ho, _⟩ := lookIn_ns hns
    exact ⟨_, PySem.W.kitx_exc (od := some od) z.cl z.ga z.gg z.sb z.ca z.sg z.tk z.mo, ⟨h1, rfl, rfl, ho⟩, fun y => nomatch y⟩
theorem KitV.ve {H : Hp} {a : Addr} {d : Option Addr} (ha : H a = some (exv a (.type "ValueError") d)) : KitV X H (.ref a) (.type "ValueError") := fun pins σ s u I r => by
  obtain rfl : u = Value.ref a := r
  obtain ⟨⟨tu, h1⟩, _, _⟩ := I.hok a _ ha
  exact ⟨_, PySem.W.kitx_bexc PySem.F.excAttr_ValueError PySem.F.lkClass_ValueError PySem.F.soClass_ValueError (by decide +kernel), ⟨_, h1, rfl⟩, fun y => nomatch y⟩
def rIsiV (X : Cx) : List V → Hp → VK → Prop := fun xs H Q => ∃ (x c : V) (t u : Value) (b : Bool), xs = [x, c] ∧ ClsV c u ∧ KitV X H x t ∧ PySem.W.kitOne X.K t u = some b ∧ Q (.bl b) H
theorem call_isiV : CallR X (.builtin "isinstance") (rIsiV X) := fun pins s σ H xs us Q I r h => by
  obtain ⟨x, c, t, u, b, rfl, k, kv, e, q⟩ := h
  obtain ⟨u1, u2, rfl, r1, r2⟩ := vals2 r
  obtain rfl := k.eq r2
  obtain ⟨P, Z, p, hx⟩ := kv pins σ s u1 I r1
  exact PySem.W.kia_one Z I.kIn p e hx fun tk => ⟨.bl b, H, I.tok tk, rfl, q⟩
def rIsiVT (X : Cx) : List V → Hp → VK → Prop := fun xs H Q => ∃ (x : V) (tp : Addr) (cs : List V) (t : Value) (us : List Value) (b : Bool), xs = [x, .ref tp] ∧ H tp = some (.tup cs) ∧ Paired ClsV cs us ∧ KitV X H x t ∧ PySem.W.kitAny X.K t us = some b ∧ Q (.bl b) H
theorem call_isiVT : CallR X (.builtin "isinstance") (rIsiVT X) := fun pins s σ H xs us Q I r h => by
  obtain ⟨x, tp, cs, t, ws, b, rfl, hT, k, kv, e, q⟩ := h
  obtain ⟨u1, u2, rfl, r1, r2⟩ := vals2 r
  obtain rfl : u2 = Value.ref tp := r2
  obtain ⟨P, Z, p, hx⟩ := kv pins σ s u1 I r1
  obtain ⟨_, its, rv, ⟨oc, od, dt, sl⟩, h1, h2, n, h3⟩ := (show ObjOk X.prog X.w H s.heap tp (.tup cs) from I.hok tp _ hT)
  obtain rfl := ClsV.all k rv
  dsimp only at h2 h3
  subst h2 h3
  exact PySem.W.kia_tup Z I.kIn p h1 e hx fun tk => ⟨.bl b, H, I.tok tk, rfl, q⟩
def gIsi (K : PySem.W.Frag) : GN := fun ds P => match ds with
  | [d, .tup cs] => ∃ t us b, tyD K d t ∧ clsDs cs = some us ∧ PySem.W.kitAny K t us = some b ∧ P (.fz (.bl b))
  | [d, c] => ∃ t u b, tyD K d t ∧ clsD c = some u ∧ PySem.W.kitOne K t u = some b ∧ P (.fz (.bl b))
  | _ => False
theorem clsD_ok {K : PySem.W.Frag} {HF : Hp} {d : D} {v : V} {u : Value} (h : clsD d = some u) (r : Rep K HF d v) : ClsV v u := by
  unfold clsD at h
  split at h
  · cases h; obtain rfl := r; exact .own _
  · cases h; obtain rfl := r; exact .ty _
  · cases h
theorem clsDs_ok {K : PySem.W.Frag} {HF : Hp} : ∀ {ds : List D} {vs : List V} {us : List Value}, clsDs ds = some us → Reps K HF ds vs → Paired ClsV vs us
  | [], vs, us, h, r => by cases h; rw [show vs = [] from r]; exact .nil
  | d :: ds, vs, us, h, r => by
    obtain ⟨v, ws, rfl, r1, r2⟩ := r
    unfold clsDs at h
    split at h
    · rename_i c cs e1 e2
      cases h
      exact .cons (clsD_ok e1 r1) (clsDs_ok e2 r2)
    · cases h
theorem Vw.ofC {K : PySem.W.Frag} {HF H : Hp} {d : D} {v : V} {u : Value} (h : clsD d = some u) (r : Vw K HF H d v) : Rep K HF d v := by
  unfold clsD at h
  split at h
  · exact r
  · exact r
  · cases h
theorem tyD_ok {HF H : Hp} {d : D} {v : V} {t : Value} (s : Same HF H) (h : tyD X.K d t) (r : Vw X.K HF H d v) : KitV X H v t := by
  cases d with
  | non => obtain rfl := h; obtain rfl := r; exact .of (.base .non)
  | bl b => obtain rfl := h; obtain rfl := r; exact .of (.base (.bl _))
  | int i => obtain rfl := h; obtain rfl := r; exact .of (.base (.int _))
  | str x => obtain rfl := h; obtain rfl := r; exact .of (.base (.str _))
  | lst xs => obtain rfl := h; obtain ⟨a, vs, rfl, e, _⟩ := r; exact .of (.base (.lst e))
  | tup xs => obtain rfl := h; obtain ⟨a, vs, rfl, e, _⟩ := r; exact .of (.base (.tup (s _ _ e)))
  | dic xs =>
    obtain rfl := h
    obtain ⟨a, vs, rfl, e, _⟩ := r
    rcases e with e | ⟨o, e⟩
    · exact .of (.base (.dK e))
    · exact .of (.fDict e)
  | ins C fs =>
    obtain ⟨rfl, z⟩ := h
    obtain ⟨a, dx, vs, rfl, e, _⟩ := r
    exact .of (.base (.ins e z.cl z.ca z.sg z.tk z.mo))
  | xo cls fs =>
    obtain ⟨rfl, z⟩ := h
    obtain ⟨a, rfl, y⟩ := r
    rcases z with rfl | ⟨C, rfl, z⟩
    · rcases y with ⟨_, e⟩ | ⟨p, fvs, e, _, _⟩
      · exact KitV.ve (s _ _ e)
      · exact KitV.ve (s _ _ e)
    · rcases y with ⟨_, e⟩ | ⟨p, fvs, e, e2, _⟩
      · exact KitV.xo (fvs := []) z (s _ _ e) fun _ q => by cases q
      · exact KitV.xo z (s _ _ e) fun _ q => by cases q; exact s _ _ e2
  | _ => exact h.elim
theorem do_isi : DoN X.K (fun xs H Q => rIsiV X xs H Q ∨ rIsiVT X xs H Q) (gIsi X.K) := fun HF H vs ds P Q s r g k => by
  unfold gIsi at g
  split at g
  · obtain ⟨v, v', rfl, r1, r2⟩ := r.two
    obtain ⟨t, us, b, ty, hc, e, q⟩ := g
    obtain ⟨tp, cs, rfl, ht, rs⟩ := r2
    exact .inr ⟨v, tp, cs, t, us, b, rfl, s _ _ ht, clsDs_ok hc rs, tyD_ok s ty r1, e, k _ _ _ _ _ q (New.imm s rfl)⟩
  · obtain ⟨v, v', rfl, r1, r2⟩ := r.two
    obtain ⟨t, u, b, ty, hc, e, q⟩ := g
    exact .inl ⟨v, v', t, u, b, rfl, clsD_ok hc (Vw.ofC hc r2), tyD_ok s ty r1, e, k _ _ _ _ _ q (New.imm s rfl)⟩
  · exact g.elim
theorem ae_isi {es : List Expr} {ts : TDs} (hg : Gl X "isinstance") (hm : X.mg "isinstance" = none) (ha : AA X W (e :: es) ts) (he : starEach (e :: es) X.env = (false, eval e X.env) :: starEach es X.env := by rfl) (hpl : (backTo pos (starEach es X.env)).any (·.1) = false := by rfl) :
    AE X W (.Call (.Name "isinstance" p) (e :: es) [] pos) (tN (pN (gIsi X.K)) ts) := ae_callB (CallR.or call_isiV call_isiVT) (primN do_isi) hg hm (by decide +kernel) ha (by decide) (by decide) he hpl
/-! ### e.f of an exception value -/
def gXf (K : PySem.W.Frag) (f : Str) : G1 := fun d P => match d with
  | .xo (.ref C) fs => XfD K C f ∧ ∃ v, fs.lookup f = some v ∧ P (.fz v)
  | _ => False
def tXo (K : PySem.W.Frag) (f : Str) (te : TD) : TD := fun ρ Kd Ed => te ρ (fun e ρ1 => match dOf ρ1 e with
  | some (.xo (.ref C) fs) => XfD K C f ∧ ∃ v, fs.lookup f = some v ∧ Kd (.ow (.fz v)) ρ1
  | _ => False) Ed
theorem ae_xo (he : AE X W e te) (hb : attributeBase e f X.env (eval e X.env) = eval e X.env := by rfl) : AE X W (.Attribute e f pos) (tXo X.K f te) := by
  constructor
  intro pins s σ H Q I q
  obtain ⟨HF, ρ, A, Kd, Ed, w, en, t, k, x⟩ := q
  refine attr_of hb (thn (he.run pins s σ H (fun v H1 => ∃ a C p fvs v1, v = .ref a ∧ XfD X.K C f ∧ H1 a = some (exv a (.ref C) (some p)) ∧ H1 p = some (exd p fvs) ∧ fvs.lookup f = some v1 ∧ Q v1 H1) I ⟨HF, ρ, A, _, Ed, w, en, t, fun e1 ρ1 q1 HF1 H1 A1 v1 Av1 f1 w1 en1 r1 => ?_, x⟩) fun u s1 ⟨v, H1, I1, ru, a, C, p, fvs, v1, ev, T, ha, hp, hl, q⟩ => ?_)
  · dsimp only at q1
    split at q1
    · rename_i C fs e2
      obtain ⟨T, v, hv, q⟩ := q1
      obtain ⟨a, rfl, rx⟩ := Vw.ev w1.same en1 r1 e2
      rcases rx with ⟨rfl, _⟩ | ⟨p, fvs, h1, h2, rs⟩
      · cases hv
      · obtain ⟨u, hu, ru⟩ := rs.look hv
        exact ⟨a, C, p, fvs, u, rfl, T, w1.same _ _ h1, w1.same _ _ h2, hu, k _ ρ1 q HF1 H1 A1 u [] (by rw [List.append_nil]; exact f1.mono (fun _ h => h) fun p hp => .inl (List.mem_append_left _ hp)) (by rw [List.append_nil]; exact w1.left) en1 ⟨rfl, ru⟩⟩
    · exact q1.elim
  · subst ev
    obtain rfl : u = Value.ref a := ru
    obtain ⟨⟨tu, h1⟩, _, _⟩ := I1.hok a _ ha
    obtain ⟨⟨mA, hns, hr⟩, _, _⟩ := I1.hok p _ hp
    obtain ⟨od, ho, hl2⟩ := lookIn_ns hns
    obtain ⟨u2, hu, ru2⟩ := RelO.some_of (v := v1) (o := mA f) (by rw [← hl]; exact hr f)
    exact HandSPX.exc_get I1.kIn (⟨h1, rfl, rfl, ho⟩ : PySem.W.InstAt s1.heap a _ C (some od)) T.xf.ga T.xf.gg T.xf.exC (PySem.W.findObj_own T.xf.hdC T.no rfl (by rw [hl2, hu])) (handed_of ru2) ⟨v1, H1, I1.tok _, ru2, q⟩
end
end AE
/-! AE21: sums of truth values; a text times a number. -/
namespace AE
open PySem PySem.Spec PyProof.Rows L2
/-- how many of the first i are true -/
def cntB (v : Nat → Bool) : Nat → Int
  | 0 => 0
  | i + 1 => cntB v i + (if v i then 1 else 0)
theorem cntB_le (v : Nat → Bool) : ∀ i : Nat, 0 ≤ cntB v i ∧ cntB v i ≤ i
  | 0 => ⟨Int.le_refl _, Int.le_refl _⟩
  | i + 1 => by
    have ⟨h1, h2⟩ := cntB_le v i
    unfold cntB
    split <;> omega
section
variable {prog : Program} {w : World} {A : Around} {E : Value → Shared → Prop} {R : Result → Shared → Prop} {I : Addr} {fp wr : List Addr} {G : Array GenState → Array GenState → Prop} {n : Nat} {P : Nat → Value → Prop} {St : Nat → Shared → Prop}
theorem bsum_loop (Wk : WalksS prog w A.in1 I fp wr G n P St) (v : Nat → Bool) (hv : ∀ i u, P i u → u = .bool (v i)) (hn : n ≤ 1000000) (T : Addr) (hT : T ∉ fp) : ∀ (k i : Nat) (s : Shared) (ta : Tok) (c : Nat), i + k = n → St i s →
    s.heap.get? T = some { cls := .type "list", dict := none, data := .seq #[.int (cntB v i) ta] c, slots := #[] } → (∀ s' t', Moved (T :: wr) G s s' → R (.ok (.ret (.int (cntB v n) t'))) s') → codeAny (model prog w) A (.builtin "sum.loop" ⟨[.ref I, .ref T, rawInt 0, rawInt 0], []⟩) R s
  | 0, i, s, ta, c, e, st, hS, hR => by
    obtain rfl : i = n := by omega
    apply codeAny_builtin F.entry_sum_loop
    rw [Around.under_plainId F.plain_sum_loop _]
    show wpAny _ A.in1 (seqItems? (.ref T) >>= _) _ _ s
    apply wpAny_bind
    apply wpAny_seqItems hS rfl
    show wpAny _ A.in1 (tryCatch (pyNext (.ref I)) _ >>= _) _ _ s
    apply wpAny_bind
    apply wpAny_tryCatch
    exact Wk.done s _ _ st fun s' hm => wpAny_pure (hR s' ta (hm.mono fun b hb => List.mem_cons_of_mem _ hb))
  | k + 1, i, s, ta, c, e, st, hS, hR => by
    have hi : i < n := by omega
    have nw : T ∉ wr := fun z => hT (Wk.sub _ z)
    apply codeAny_builtin F.entry_sum_loop
    rw [Around.under_plainId F.plain_sum_loop _]
    show wpAny _ A.in1 (seqItems? (.ref T) >>= _) _ _ s
    apply wpAny_bind
    apply wpAny_seqItems hS rfl
    show wpAny _ A.in1 (tryCatch (pyNext (.ref I)) _ >>= _) _ _ s
    apply wpAny_bind
    apply wpAny_tryCatch
    refine Wk.item i s _ _ hi st fun u s' pu st' hm => ?_
    obtain rfl := hv i u pu
    have hS' := hm.heap T _ nw hS
    obtain ⟨b1, b2⟩ := cntB_le v i
    have fits : ((decide (-(2 ^ 63) ≤ (if v i then (1 : Int) else 0)) && decide ((if v i then (1 : Int) else 0) < 2 ^ 63)) && (decide (-(2 ^ 63) ≤ cntB v i + (if v i then (1 : Int) else 0)) && decide (cntB v i + (if v i then (1 : Int) else 0) < 2 ^ 63))) = true := by
      simp only [Bool.and_eq_true, decide_eq_true_eq]
      split <;> omega
    show wpAny _ A.in1 (if (_ : Bool) = true then (mkInt (cntB v i + (if v i then (1 : Int) else 0)) >>= _) else _) _ _ _
    have ec : cntB v (i + 1) = cntB v i + (if v i then (1 : Int) else 0) := rfl
    generalize (if v i then (1 : Int) else 0) = b at fits ec ⊢
    split
    · apply wpAny_bind
      apply wpAny_mkInt
      show wpAny _ A.in1 (updateSeq T (fun _ => #[.int (cntB v i + b) s'.toks]) >>= _) _ _ _
      rw [← ec]
      apply wpAny_bind
      refine wpAny_updateSeq hS' rfl (wpAny_pure ⟨plainId_quiet F.plain_sum_loop _, bsum_loop Wk v hv hn T hT k (i + 1) _ s'.toks _ (by omega) (Wk.frame _ s' _ _ st' (by first | exact Nat.le_refl _ | exact Nat.le_succ _ | omega) fun b hb o z => ?_) (Heap.get?_update_self _ hS' rfl) fun s2 t2 m2 => ?_⟩)
      · exact (Heap.get?_update_other _ _ (fun q : T = b => hT (q ▸ hb))).trans z
      · refine hR s2 t2 (Moved.trans Wk.gtrans ((hm.mono fun b hb => List.mem_cons_of_mem _ hb).then_heap (by first | exact Nat.le_refl _ | exact Nat.le_succ _ | omega) fun b o hb z => ?_) m2)
        exact (Heap.get?_update_other _ _ (fun q : T = b => hb (q ▸ List.mem_cons_self))).trans z
    · rename_i no
      exact absurd fits no
end
theorem cntB_get : ∀ (bs : List Bool) (n : Nat), n ≤ bs.length → cntB (fun i => bs.getD i false) n = (((bs.take n).filter id).length : Int)
  | bs, 0, _ => rfl
  | bs, n + 1, h => by
    have h1 : n < bs.length := h
    have e : bs.take (n + 1) = bs.take n ++ [bs[n]] := by rw [List.take_succ, List.getElem?_eq_getElem h1]; rfl
    have e2 : bs.getD n false = bs[n] := by rw [List.getD_eq_getElem?_getD, List.getElem?_eq_getElem h1]; rfl
    unfold cntB
    rw [cntB_get bs n (Nat.le_of_lt h1), e, List.filter_append, List.length_append]
    show _ + (if bs.getD n false = true then (1 : Int) else 0) = _
    rw [e2]
    cases bs[n] <;> simp
section
variable {X : Cx}
theorem cr_sumB (hc : X.calm = true) : CallR X (.builtin "sum") (fun vs H Q => ∃ (a : Addr) (bs : List Bool), vs = [V.ref a] ∧ SqL X.K H a (bs.map V.bl) ∧ bs.length ≤ 1000000 ∧ Q (.int ((bs.filter id).length : Int)) H) := by
  intro pins s σ H vs us Q I r h
  obtain ⟨a, bs, rfl, hs, hn, q⟩ := h
  obtain ⟨its, rv, hl, _⟩ := I.list hs
  rw [Vals.ref1 r]
  have hb := rv.bls
  have hz : its.toArray.size = bs.length := by
    have := rv.length
    simpa using this.symm
  apply call_function_tree F.kind_sum F.plain_sum F.entry_sum (F.args_sum1 _)
  unfold Builtin.«sum»
  simp only [List.length_cons, List.length_nil]
  rw [if_neg (by decide)]
  apply wpAny_bind
  apply wpAny_of_eq (show Builtin.Builtins.bindParams "sum" ["start"] 0 { } = pure [none] from rfl)
  apply wpAny_bind
  refine PySem.W.iter_listW (A := X.A.in1) (I.ok.hd hc) hl.isList fun s₂ e2 Wk st hfp hnew kp => ?_
  subst e2
  apply wpAny_bind
  apply wpAny_mkInt
  apply wpAny_bind
  apply wpAny_pure
  simp only [List.forIn_cons, List.forIn_nil]
  refine wpAny_bind (wpAny_bind (wpAny_bind (wpAny_isInstance (T := "int") (b := false) (typeIs_int _ _ _) PySem.sub_int_str ?_)))
  simp only [Bool.false_eq_true, if_false]
  refine wpAny_pure (wpAny_bind (wpAny_bind (wpAny_isInstance (T := "int") (b := false) (typeIs_int _ _ _) PySem.sub_int_bytes ?_)))
  simp only [Bool.false_eq_true, if_false]
  refine wpAny_pure (wpAny_bind (wpAny_bind (wpAny_isInstance (T := "int") (b := false) (typeIs_int _ _ _) PySem.sub_int_bytearray ?_)))
  simp only [Bool.false_eq_true, if_false]
  apply wpAny_pure
  apply wpAny_pure
  apply wpAny_bind
  refine wpAny_newObj_type ?_
  apply wpAny_pure
  refine ⟨plainId_quiet F.plain_sum_loop _, bsum_loop Wk (fun i => bs.getD i false) (fun i u z => ?_) (by rw [hz]; exact hn) _ (fun z => Nat.lt_irrefl _ (hfp _ z)) _ 0 _ _ 0 (Nat.zero_add _) (Wk.frame 0 _ _ _ st (Nat.le_refl _) fun b _ o e => Heap.get?_push_of_some _ e) (Heap.get?_push_size _ rfl) fun s' t' hm => ?_⟩
  · rw [hb, List.getElem?_toArray, List.getElem?_map] at z
    cases e : bs[i]? with
    | none => rw [e] at z; cases z
    | some b =>
      rw [e] at z
      have z2 : some (Value.bool b) = some u := z
      rw [← Option.some.inj z2, List.getD_eq_getElem?_getD, e]
      rfl
  · have e := cntB_get bs bs.length (Nat.le_refl _)
    rw [List.take_length] at e
    rw [hz, e]
    have m2 := hm.drop_new (Nat.le_succ _)
    rw [Moved.eq_with m2]
    exact ⟨.int _, H, I.kept fun b o eo => m2.heap b o (hnew b o eo) (kp b o eo), ⟨_, rfl⟩, q⟩
variable {W : WX} {p pos : Pos} {e : Expr} {es : List Expr} {ts : TDs} {a b : Expr} {ta tb : TD}
def gSum : GN := fun ds P => match ds with
  | [.lst xs] => ∃ bs : List Bool, xs = bs.map D.bl ∧ bs.length ≤ 1000000 ∧ P (.fz (.int ((bs.filter id).length : Int)))
  | _ => False
theorem ae_sum (hc : X.calm = true) (hg : Gl X "sum") (hm : X.mg "sum" = none) (ha : AA X W (e :: es) ts) (he : starEach (e :: es) X.env = (false, eval e X.env) :: starEach es X.env := by rfl) (hpl : (backTo pos (starEach es X.env)).any (·.1) = false := by rfl) :
    AE X W (.Call (.Name "sum" p) (e :: es) [] pos) (tN (pN gSum) ts) := ae_callB (cr_sumB hc) (primN fun HF H vs ds P Q s r g k => by
      unfold gSum at g
      split at g
      · obtain ⟨v, rfl, rv⟩ := r.one
        obtain ⟨p, vs, rfl, h1, r1⟩ := rv
        obtain ⟨bs, rfl, hn, q⟩ := g
        obtain rfl := reps_bl r1
        exact ⟨p, bs, rfl, SqL.of h1, hn, k _ _ _ _ _ q (New.imm s rfl)⟩
      · exact g.elim) hg hm (by decide +kernel) ha (by decide) (by decide) he hpl
/-! ### a text times a number -/
def repS (x : Str) (n : Int) : Str := ⟨(List.replicate n.toNat x.cps).foldl (· ++ ·) #[]⟩
theorem foldl_nil : ∀ n : Nat, (List.replicate n (#[] : Array Nat)).foldl (· ++ ·) #[] = #[]
  | 0 => rfl
  | n + 1 => by rw [List.replicate_succ, List.foldl_cons]; exact foldl_nil n
theorem foldl_size (a : Array Nat) : ∀ (n : Nat) (z : Array Nat), ((List.replicate n a).foldl (· ++ ·) z).size = z.size + n * a.size
  | 0, z => by simp
  | n + 1, z => by rw [List.replicate_succ, List.foldl_cons, foldl_size a n, Array.size_append, Nat.succ_mul]; omega
def rMulS : R2 := fun x y H Q => ∃ z n, x = .str z ∧ y = .int n ∧ -1000000 ≤ n ∧ n ≤ 1000000 ∧ z.length ≤ 16 ∧ Q (.str (repS z n)) H
theorem op_mulS : OpR X (binaryOp .Mult) rMulS := by
  intro pins s σ H x y v u Q I rx ry h
  obtain ⟨z, n, rfl, rfl, h1, h2, h3, q⟩ := h
  obtain ⟨t, rfl⟩ := rx
  obtain ⟨t2, rfl⟩ := ry
  refine PySem.P.mul_str ?_ ?_ ?_ ?_
  · rw [decide_eq_false (by omega), decide_eq_false (by omega)]; rfl
  · intro a1 a2 a3
    have : (16 : Int) ≤ (2 ^ 63 - 1) / n := by
      rw [Int.le_ediv_iff_mul_le (by omega)]
      omega
    omega
  · intro a1 a2
    have : z.length * n.toNat ≤ 16 * 1000000 := Nat.mul_le_mul h3 (by omega)
    unfold Builtin.Str.tooLong
    rw [sizeLine_eq]
    simp only [gt_iff_lt, decide_eq_false_iff_not]
    omega
  · split
    · rename_i c
      have e : repS z n = Str.empty := by unfold repS; rw [show n.toNat = 0 by omega]; rfl
      rw [e] at q
      exact ⟨by decide, .str Str.empty, H, I.tok _, ⟨_, rfl⟩, q⟩
    · split
      · rename_i c d
        have e : repS z n = z := by
          unfold repS
          simp only [Bool.or_eq_true, beq_iff_eq] at d
          rcases d with d | d
          · rw [d]; simp
          · have e0 : z.cps = #[] := Array.eq_empty_of_size_eq_zero d
            rw [e0, foldl_nil]
            cases z; simp at e0; rw [e0]
        rw [e] at q
        exact ⟨.str z, H, I, ⟨_, rfl⟩, q⟩
      · have lz : (repS z n).length ≤ 16 * 1000000 := by
          show ((List.replicate n.toNat z.cps).foldl (· ++ ·) #[]).size ≤ _
          rw [foldl_size]
          have : n.toNat * z.cps.size ≤ 1000000 * 16 := Nat.mul_le_mul (by omega) h3
          show 0 + _ ≤ _
          omega
        have lw : (repS z n).length ≤ sizeLine := by rw [sizeLine_eq]; omega
        exact ⟨lw, .str (repS z n), H, I.tok _, ⟨_, rfl⟩, q⟩
def gMulS : G2 := fun d d' P => match d, d' with
  | .str z, .int n => -1000000 ≤ n ∧ n ≤ 1000000 ∧ z.length ≤ 16 ∧ P (.fz (.str (repS z n)))
  | _, _ => False
theorem ae_mulS (ha : AE X W a ta) (hb : AE X W b tb) : AE X W (.BinOp a .Mult b pos) (t2 (p2 gMulS) ta tb) := ae_op op_mulS (prim2 fun HF H v v' d d' P Q s r r' g k => by
  unfold gMulS at g
  split at g
  · obtain rfl := r
    obtain rfl := r'
    obtain ⟨h1, h2, h3, q⟩ := g
    exact ⟨_, _, rfl, rfl, h1, h2, h3, k _ _ _ _ _ q (New.imm s rfl)⟩
  · exact g.elim) ha hb
end
end AE
/-! AH1: a head that checks one Bool of one's own over the written part, and the defs. -/
namespace AH
open PySem L2
def seeB (n : Nat) (chk : PySem.W.Frag → Bool) (fn : List He.DefD) (g : Addr → Option Obj) : Bool × He.AlD :=
  let K := He.frG g (He.asD g n)
  (chk K, He.obsD [] fn K)
def SaysB (chk : PySem.W.Frag → Bool) (fn : List He.DefD) (K : PySem.W.Frag) : Prop := chk K = true ∧ He.SaysD [] fn K
def hookB (n : Nat) (chk : PySem.W.Frag → Bool) (fn : List He.DefD) : PySem.W.Hook where
  α := Bool × He.AlD
  obs := fun s => seeB n chk fn s.heap.get?
  val := fun _ => (true, He.valD fn)
  says := fun _ h => ∃ K : PySem.W.Frag, K.In h ∧ SaysB chk fn K
  of := fun _ _ e => ⟨_, He.frG_in, congrArg Prod.fst e, congrArg Prod.snd e⟩
  keeps := fun _ _ _ ⟨K, hK, c⟩ k => ⟨K, PySem.W.Frag.In.keeps hK k, c⟩
theorem seeB_eq {n : Nat} {chk : PySem.W.Frag → Bool} {fn : List He.DefD} (s : PySem.W.SharedT) : seeB n chk fn (HandSHeadRun.getT s) = (hookB n chk fn).obs s.abs := by
  have e : HandSHeadRun.getT s = s.abs.heap.get? := funext (HandSHeadRun.getT_eq s)
  rw [e]
  rfl
end AH
/-! AH2: what the head tells, as Bools over the written part. -/
namespace AH
open PySem L2 AE
theorem fun_of {K : PySem.W.Frag} {x qual : Str} {st : Stmt} {f : Addr} {fd : FuncData} (F : FunD K x qual (defArgs st) (defBody st) (defScope st) [] [] f fd) : L2.Fun K x qual st f fd := by
  obtain ⟨oc, od, dV, kV, doc, pm, an, cdv, ct, osl, e, lk, hc, hD, _⟩ := F.ex
  rcases hD with ⟨_, rfl⟩ | ⟨z, _⟩
  · exact ⟨⟨oc, od, kV, doc, pm, an, cdv, ct, osl, e, lk, hc⟩, F.kp⟩
  · exact absurd rfl z
theorem andB {a b : Bool} (h : (a && b) = true) : a = true ∧ b = true := Bool.and_eq_true_iff.mp h
abbrev C (K : PySem.W.Frag) (x : Str) : Addr := He.ga K x
/-- the module's name x stands for an object -/
def gloB (K : PySem.W.Frag) (x : Str) : Bool := decide (PySem.W.nsIn K mainGlobals x = some (some (.ref (C K x))))
def freeB (K : PySem.W.Frag) (x : Str) : Bool := decide (PySem.W.nsIn K mainGlobals x = some none)
section
variable {K : PySem.W.Frag} {h : Heap} {mg : Str → Option Value} {x : Str}
theorem gloB_ok (X : K.In h) (G : h.Ns mainGlobals mg) (c : gloB K x = true) : mg x = some (.ref (C K x)) := PySem.W.mg_of X G (of_decide_eq_true c)
theorem freeB_ok (X : K.In h) (G : h.Ns mainGlobals mg) (c : freeB K x = true) : mg x = none := PySem.W.mg_none_of X G (of_decide_eq_true c)
end
/-! ### exception classes -/
/-- the class object's own form: over ValueError, made by ValueError.__new__ -/
def xobjB (K : PySem.W.Frag) (C : Addr) : Bool := match K.lookup C with
  | some o => (match o.cls, o.data, o.slots.toList with
    | .type t, .cls cd, [_, _, _, _, some (.builtin n), _] => (match cd.mro with
      | .ref C' :: bm => t == "type" && (C' == C && (n == "ValueError.__new__" && (!cd.hasDel && (cd.hasDict && PySem.HandSPX.refsVE bm))))
      | _ => false)
    | _, _, _ => false)
  | none => false
theorem xobjB_ok {K : PySem.W.Frag} {C : Addr} (c : xobjB K C = true) : ∃ nm q N bs bm sn sub ab col dd k0 k1 k2 k3 k5, K.lookup C = some (excClassObj nm q C N bs bm true sn sub ab col dd k0 k1 k2 k3 k5 "ValueError.__new__") ∧ PySem.HandSPX.refsVE bm = true := by
  unfold xobjB at c
  split at c
  · rename_i o lk
    obtain ⟨oc, od, dt, sl⟩ := o
    dsimp only at c
    split at c
    · rename_i t cd k0 k1 k2 k3 n k5 e1
      split at c
      · rename_i C' bm em
        obtain ⟨c1, c⟩ := andB c
        obtain ⟨c2, c⟩ := andB c
        obtain ⟨c3, c⟩ := andB c
        obtain ⟨c4, c⟩ := andB c
        obtain ⟨c5, c6⟩ := andB c
        obtain rfl : t = "type" := beq_iff_eq.mp c1
        obtain rfl : C' = C := beq_iff_eq.mp c2
        obtain rfl : n = "ValueError.__new__" := beq_iff_eq.mp c3
        obtain ⟨nm, bs, mro, ns, qn, hd, sn, sub, ab, col, del⟩ := cd
        dsimp only at em c4 c5
        subst em
        obtain rfl : hd = true := c5
        obtain rfl : del = false := by simpa using c4
        have es : sl = #[k0, k1, k2, k3, some (.builtin "ValueError.__new__"), k5] := by
          apply Array.toList_inj.mp
          exact e1
        subst es
        exact ⟨nm, qn, ns, bs, bm, sn, sub, ab, col, od, k0, k1, k2, k3, k5, lk, c6⟩
      · cases c
    · cases c
  · cases c
/-- an exception class that is raised, asked and read -/
def excB (K : PySem.W.Frag) (C : Addr) : Bool := xobjB K C && (decide (PySem.W.findIn K (.ref C) "__setattr__" = some (some (.builtin "object.__setattr__"))) && (decide (PySem.W.subIn K (.ref C) (.type "BaseException") = some true) && (decide (PySem.W.typeIn K (.ref C) = some (.type "type")) && (PySem.W.keepIn K (.ref C) &&
  (decide (PySem.W.findIn K (.ref C) "__getattribute__" = some (some (.builtin "BaseException.__getattribute__"))) && (decide (PySem.W.findIn K (.ref C) "__getattr__" = some none) && (PySem.W.hasDictIn K C && ((PySem.W.clsIn K C).isSome &&
  (decide (PySem.W.findIn K (.ref C) "__class__" = some (some (.builtin "object.__class__"))) && (decide (PySem.W.specialIn K (.builtin "object.__class__") "__get__" = some (some (.builtin "getset_descriptor.__get__"))) && (decide (PySem.W.takesIn K (.builtin "object.__class__") = some true) && decide (PySem.W.mroIn K C (.type "object") = some true))))))))))))
structure ExcOk (K : PySem.W.Frag) (C : Addr) : Prop where
  oex : OexC K C
  xf : XfC K C
  xi : XIs K C
theorem excB_ok {K : PySem.W.Frag} {C : Addr} (c : excB K C = true) : ExcOk K C := by
  obtain ⟨c1, c⟩ := andB c
  obtain ⟨c2, c⟩ := andB c
  obtain ⟨c3, c⟩ := andB c
  obtain ⟨c4, c⟩ := andB c
  obtain ⟨c5, c⟩ := andB c
  obtain ⟨c6, c⟩ := andB c
  obtain ⟨c7, c⟩ := andB c
  obtain ⟨c8, c⟩ := andB c
  obtain ⟨c9, c⟩ := andB c
  obtain ⟨d1, c⟩ := andB c
  obtain ⟨d2, c⟩ := andB c
  obtain ⟨d3, d4⟩ := andB c
  have c2 := of_decide_eq_true c2
  have c3 := of_decide_eq_true c3
  have c4 := of_decide_eq_true c4
  have c6 := of_decide_eq_true c6
  have c7 := of_decide_eq_true c7
  exact ⟨⟨xobjB_ok c1, c2, c3, c4, c5⟩, ⟨c6, c7, c3, c8⟩, ⟨c9, c6, c7, c3, of_decide_eq_true d1, of_decide_eq_true d2, of_decide_eq_true d3, of_decide_eq_true d4⟩⟩
/-- a class without an __init__ of its own -/
def plainB (K : PySem.W.Frag) (C : Addr) : Bool := PySem.W.excIn K C PySem.HandSPX.veTail "ValueError.__new__"
theorem plain_ok {K : PySem.W.Frag} {h : Heap} {mg : Str → Option Value} {x : Str} (X : K.In h) (G : h.Ns mainGlobals mg) (g : gloB K x = true) (e : ExcOk K (C K x)) (p : plainB K (C K x) = true) : XPlain K mg x (C K x) :=
  ⟨gloB_ok X G g, p, e.oex.kC, e.oex.exC, e.oex.tyC⟩
/-- a class with an __init__(self, n): self.f = n -/
def oneB (K : PySem.W.Frag) (C : Addr) (f : Str) : Bool := decide (PySem.W.findIn K (.ref C) "__init__" = some (some (.ref (He.ma K C "__init__")))) && (decide (PySem.W.typeIn K (.ref (He.ma K C "__init__")) = some (.type "function")) && decide (PySem.W.findIn K (.ref C) f = some none))
theorem one_ok {P : Program} {w : World} {K : PySem.W.Frag} {base h : Heap} {mg : Str → Option Value} {x : Str} {st : Stmt} {qual f pn : Str} {fd : FuncData} {p1 p2 p3 p4 : Pos} (X : K.In h) (G : h.Ns mainGlobals mg) (g : gloB K x = true) (e : ExcOk K (C K x)) (o : oneB K (C K x) f = true)
    (Fn : L2.Fun K "__init__" qual st (He.ma K (C K x) "__init__") fd) (S : FnScope ["self", pn] ["self", pn] (defScope st)) (hb : defBody st = [.Assign [.Attribute (.Name "self" p1) f p2] (.Name pn p3) p4]) (hp : (pn == ("__debug__" : Str)) = false) (hp' : (pn == ("__classdict__" : Str)) = false) (v0 : Vis (defScope st) "self") (v1 : Vis (defScope st) pn)
    (b1 : Binds K fd ["self", pn] []) (b2 : ∀ (s : Shared) (a u : Value), BindsTo s fd ⟨[a], [(pn, u)]⟩ [("self", a), (pn, u)]) : XOneK P w K mg base x (C K x) f pn ∧ XfD K (C K x) f := by
  obtain ⟨o1, o⟩ := andB o
  obtain ⟨o2, o3⟩ := andB o
  exact ⟨⟨gloB_ok X G g, e.oex, _, fd, of_decide_eq_true o1, of_decide_eq_true o2, b1, b2, ok_xinit Fn S hb hp hp' e.oex (of_decide_eq_true o3) v0 v1⟩, e.xf, of_decide_eq_true o3⟩
end AH
/-! AE22: names for readings; a def's contract by its own reading. -/
namespace AE
open PySem L2
section
variable {X : Cx} {W : WX} {pos : Pos}
theorem ae_ty {x : Str} {T : String} (hg : Gl X x) (hm : X.mg x = none) (hv : bootBuiltins x = some (.type T)) (hn : x ≠ "__name__" := by decide) (hd : (x == ("__debug__" : Str)) = false := by decide) : AE X W (.Name x pos) (tK (.ty T)) := ae_const (pe_bltn (v := .ty T) hg hm hv rfl hn hd) fun _ _ => rfl
end
abbrev gSub : G2 := gI0 fun i j => .int (i - j)
abbrev gMod : G2 := gI (fun _ j => 0 < j) fun i j => .int (i % j)
abbrev gDiv : G2 := gI CDivW fun i j => .int (i / j)
abbrev gMul : G2 := gI CMulW fun i j => .int (i * j)
abbrev gPow : G2 := gI CPowW fun i j => .int (i ^ j.toNat)
abbrev gXor : G2 := gI0 fun i j => .int (Builtin.bitXor i j)
abbrev gLt : G2 := gI0 fun i j => .bl (decide (i < j))
abbrev gLe : G2 := gI0 fun i j => .bl (decide (i ≤ j))
abbrev gGt : G2 := gI0 fun i j => .bl (decide (j < i))
abbrev gGe : G2 := gI0 fun i j => .bl (decide (j ≤ i))
abbrev mkT : List D → O := fun ds => .fz (.tup ds)
abbrev mkL : List D → O := fun ds => .ls ds
/-- what a def does, by its body's reading -/
def mkF (pr : Prot) (n m : Nat) (t : TSD) : AFn := fun os Kd Ed => os.length = n ∧ t { nx := fun ρ => Kd (.fz .non) (leftD pr 0 os ρ), rt := fun o ρ => Kd o (leftD pr 0 os ρ) } (fun x ρ => Ed x (leftD pr 0 os ρ)) (startD m os)
theorem mkF_len {pr : Prot} {n m : Nat} {t : TSD} {os : List O} {Kd : O → Env → Prop} {Ed : XD → Env → Prop} (h : mkF pr n m t os Kd Ed) : os.length = n := h.1
end AE
namespace AE
open PySem L2
abbrev KO := O → Env → Prop
abbrev KXc := XD → Env → Prop
theorem iteB {b : Bool} {P Q : Prop} (h1 : b = true → P) (h2 : b = false → Q) : (if b = true then P else Q) := by
  cases b
  · exact h2 rfl
  · exact h1 rfl
theorem bits_le {x : Int} {n : Nat} (h : x.natAbs < 2 ^ n) : Builtin.Int.intBits x ≤ n := by
  unfold Builtin.Int.intBits
  split
  · exact Nat.zero_le _
  · rename_i hx
    have hx : x ≠ 0 := fun e => hx (by rw [e]; rfl)
    have : x.natAbs ≠ 0 := fun e => hx (Int.natAbs_eq_zero.mp e)
    have := (Nat.log2_lt this).mpr h
    omega
theorem log_lt {x : Int} {n : Nat} (hn : 0 < n) (h : x.natAbs < 2 ^ n) : x.natAbs.log2 < n := by
  by_cases e : x.natAbs = 0
  · rw [e]; simpa using hn
  · exact (Nat.log2_lt e).mpr h
theorem mulW {i j : Int} (hi : i.natAbs < 2 ^ 200) (hj : j.natAbs < 2 ^ 200) : CMulW i j := by
  have a := log_lt (by decide) hi
  have b := log_lt (by decide) hj
  show i.natAbs.log2 + j.natAbs.log2 < 1000000
  omega
end AE
namespace AE
open PySem L2
theorem szB {n : Nat} (h : Nat.ble n sizeLine = true) : n ≤ sizeLine := Nat.le_of_ble_eq_true h
theorem powW {i j : Int} (h0 : 0 ≤ j) (h1 : j ≤ 1000) (hi : i.natAbs < 2 ^ 200) : CPowW i j := by
  have b := bits_le hi
  refine ⟨h0, ?_⟩
  have : (Builtin.Int.intBits i : Int) * j ≤ 200 * 1000 := Int.mul_le_mul (by omega) h1 h0 (by omega)
  omega
theorem divW {i j : Int} (h : 0 < j) (hj : j.natAbs < 2 ^ 200) : CDivW i j := ⟨h, by have := log_lt (by decide) hj; omega⟩
theorem atI_lt {α : Type} {xs : List α} {k : Int} (h0 : 0 ≤ k) (h1 : k < xs.length) : ∃ x, x ∈ xs ∧ atI xs k = some x := by
  have hk : k.toNat < xs.length := by omega
  refine ⟨xs[k.toNat], List.getElem_mem _, ?_⟩
  unfold atI ixN
  rw [if_pos h0, if_pos h1]
  simp [hk]
end AE
namespace AE
open PySem L2
/-- the slots written out, then k -/
def force : Env → (Env → Prop) → Prop
  | [], k => k []
  | x :: xs, k => force xs (fun ys => k (x :: ys))
theorem force_eq : ∀ (ρ : Env) (k : Env → Prop), force ρ k = k ρ
  | [], k => rfl
  | x :: xs, k => force_eq xs (fun ys => k (x :: ys))
def tSeqF (t u : TSD) : TSD := fun E Ed ρ => t { E with nx := fun ρ1 => force ρ1 (fun ρ => u E Ed ρ) } Ed ρ
theorem tSeqF_eq (t u : TSD) : tSeqF t u = tSeqD t u := by
  funext E Ed ρ
  unfold tSeqF tSeqD
  simp only [force_eq]
theorem ass_consF {X : Cx} {W : WX} {P : Prot} {st : Stmt} {rest : List Stmt} {t u : TSD} (h1 : AS X W P st t) (h2 : ASs X W P rest u) : ASs X W P (st :: rest) (tSeqF t u) := by
  rw [tSeqF_eq]; exact ass_cons h1 h2
end AE
namespace AE
open PySem L2
/-- the name's thing made pure; what is pure already stays as it is written -/
def tNameF (i : Nat) : TD := fun ρ Kd _ => match ρ[i]? with
  | some (some (.fz d)) => Kd (.ow (.fz d)) ρ
  | some (some o) => Kd (.ow (.fz (frz o))) (ρ.set i (some (.fz (frz o))))
  | _ => False
theorem ae_nameF {X : Cx} {W : WX} {e : Expr} {i : Nat} (h : PE X e (tVar i)) : AE X W e (tNameF i) := PE.imp (ae_nameZ (W := W) h) fun σ H Q q => by
  obtain ⟨HF, ρ, A, Kd, Ed, w, en, t, k, x⟩ := q
  refine ⟨HF, ρ, A, Kd, Ed, w, en, ?_, k, x⟩
  unfold tNameF at t
  unfold tNameZ
  split at t
  · rename_i d e1
    rw [e1]
    dsimp only [frz]
    rw [set_get e1]
    exact t
  · rename_i o _ e1
    rw [e1]
    exact t
  · exact t.elim
end AE
/-! AH3: the end of a law. -/
namespace AH
open PySem PySem.Spec PyProof.Rows L2
theorem walk_ofW {l : PySem.W.OpenLaw} {n k : Nat} {q : Program} {loose : List Str} {XP : (Str → Option Value) → Heap → Prop} {YP : World → Heap → Prop} {d : DefRec} {CX : World → CXT} {x : Str}
    (hn : l.most = some n) (hn2 : n ≤ sizeLine) (hdf : d.params.defaults = []) (hr : Room k callerA)
    (F : ∀ (w : World) (mg : Str → Option Value) (fa : Addr) (h : Heap), YP w h → h.Ns mainGlobals mg → mg d.name = some (.ref fa) →
      ∃ (K : PySem.W.Frag) (fd : FuncData) (sp : Sp), K.In h ∧ (∀ (s : Shared) (u : Value), BindsTo s fd ⟨[u], []⟩ [(x, u)]) ∧
        (∀ (H : Hp) (a : Addr) (ns : List Int), ns.length ≤ n → Only H → SqL K H a (ns.map V.int) → sp [.ref a] H (fun v _ => v = .bl true) fun _ _ _ => False) ∧
        ∀ base : Heap, K.In base → base.Ns mainGlobals mg → FnOk l.prog w K mg base (CX w) k fa fd [x] sp)
    (hCX : ∀ (w : World) (H : Hp) (s : Shared) (e : Value) (s' : Shared), CX w [] H s (fun _ _ _ => False) e s' → False) :
    PySem.W.WalkO q loose XP YP l.row.toRowW d [] (fun f vs => PySem.call f vs) := by
  refine Att.attach_call hn hdf fun w s₀ s₁ mg mb fa o pm cd doc a vs ns G Y ho hd hcd hmg hobj hints hlen hg => ?_
  obtain ⟨K, fd, sp, KX, hb, hsp, hF⟩ := F w mg fa _ Y G.T.g hmg
  exact law_call KX G.T.g G.T.b G.T.builtins G.T.nolimit hg hobj hints (Nat.le_trans hlen hn2) hr hF hb (fun H hO hS => hsp H a ns hlen hO hS) fun H e s' => hCX w H s₁ e s'
theorem noCX {P : Program} {w : World} {H : Hp} {s : Shared} {e : Value} {s' : Shared} (z : L2N.CX P w [] H s (fun _ _ _ => False) e s') : False := by
  obtain ⟨_, _, _, _, _, _, _, _, _, _, _, _, z⟩ := z
  exact z
/-- one positional value, one keyword -/
theorem bindsK {K : PySem.W.Frag} {x qual : Str} {params : Arguments} {body : List Stmt} {scope : Scope} {kws : List (Str × V)} {f : Addr} {fd : FuncData} {pn : Str} (F : FunD K x qual params body scope [] kws f fd)
    (h : ∀ (kV doc pm : Value) (an : Option Addr) (cdv ct a u : Value), bindArgs (PySem.W.fnOf x qual params body scope .none kV doc pm an cdv ct) ⟨[a], [(pn, u)]⟩ = pure ([("self", a), (pn, u)] : List (Str × Value))) (s : Shared) (a u : Value) : BindsTo s fd ⟨[a], [(pn, u)]⟩ [("self", a), (pn, u)] := by
  obtain ⟨oc, od, dV, kV, doc, pm, an, cdv, ct, osl, rfl, lk, hcd, hD, hK⟩ := F.ex
  rcases hD with ⟨_, rfl⟩ | ⟨e, _⟩
  · exact .of_eq (h kV doc pm an cdv ct a u)
  · exact absurd rfl e
open AE in
theorem spLaw {K : PySem.W.Frag} {n : Nat} {F : AFn} (pure_ : ∀ ns : List Int, ns.length ≤ n → F [.fz (.scr ns)] (fun o _ => o = .fz (.bl true)) (fun _ _ => False)) (H : Hp) (a : Addr) (ns : List Int) (hl : ns.length ≤ n) (hS : SqL K H a (ns.map V.int)) : spA K 1 F [.ref a] H (fun v _ => v = .bl true) fun _ _ _ => False := by
  refine ⟨H, [.fz (.scr ns)], [], _, _, rfl, ⟨.refl _, List.nodup_nil, fun _ h => by cases h⟩, ⟨.ref a, [], [], [], rfl, rfl, ⟨rfl, a, rfl, hS⟩, rfl, rfl⟩, pure_ ns hl, fun o ρ q HF' H' A' v Av f w en r => ?_, fun x ρ q => q.elim⟩
  subst q
  exact r.2
end AH
/-! AE23: x.f = e; methods and properties of own classes. -/
namespace AE
open PySem L2
def putFO (f : Str) (o : O) : List (Str × O) → List (Str × O)
  | [] => [(f, o)]
  | (g, x) :: r => if g = f then (g, o) :: r else (g, x) :: putFO f o r
section
variable {K : PySem.W.Frag} {HF H : Hp}
theorem RepOFs.put {f : Str} {o : O} {y : V} {Ay : List Addr} (r : RepO K HF H o y Ay) : ∀ {fs : List (Str × O)} {vs : List (Str × V)} {B : List Addr}, RepOFs K HF H fs vs B → ∃ B' R, (B ++ Ay).Perm (B' ++ R) ∧ RepOFs K HF H (putFO f o fs) (putF f y vs) B'
  | [], vs, B, h => by
    obtain ⟨rfl, rfl⟩ := h
    exact ⟨Ay, [], by simp, (f, y), [], Ay, [], rfl, by simp, ⟨rfl, r⟩, rfl, rfl⟩
  | (g, x) :: fs, vs, B, h => by
    obtain ⟨⟨g', v⟩, ws, A1, A2, rfl, rfl, ⟨eg, r1⟩, r2⟩ := h
    obtain rfl : g' = g := eg
    unfold putFO putF
    by_cases e : g' = f
    · rw [if_pos e, if_pos e]
      refine ⟨Ay ++ A2, A1, ?_, (g', y), ws, Ay, A2, rfl, rfl, ⟨rfl, r⟩, r2⟩
      have h1 : (A1 ++ A2 ++ Ay).Perm ((A2 ++ Ay) ++ A1) := by rw [List.append_assoc]; exact List.perm_append_comm
      exact h1.trans (List.Perm.append_right A1 List.perm_append_comm)
    · rw [if_neg e, if_neg e]
      obtain ⟨B', R, pm, r3⟩ := RepOFs.put r r2
      refine ⟨A1 ++ B', R, ?_, (g', v), _, A1, B', rfl, rfl, ⟨rfl, r1⟩, r3⟩
      rw [List.append_assoc, List.append_assoc]
      exact List.Perm.append_left A1 pm
theorem RepOFs.length : ∀ {fs : List (Str × O)} {vs : List (Str × V)} {B : List Addr}, RepOFs K HF H fs vs B → vs.length = fs.length
  | [], vs, B, h => by rw [h.1]; rfl
  | _ :: fs, vs, B, h => by obtain ⟨v, ws, A1, A2, rfl, rfl, _, r⟩ := h; simp [RepOFs.length r]
end
def tFldS (K : PySem.W.Frag) (f : Str) (j : Nat) (te : TD) : TSD := fun E Ed ρ => te ρ (fun ev ρ1 => match ev with
  | .ow o => (match ρ1[j]? with
    | some (some (.ob C fs)) => FldOk K C f ∧ fs.length < 1000 ∧ E.nx (ρ1.set j (some (.ob C (putFO f o fs))))
    | _ => False)
  | .pt _ => False) Ed
section
variable {X : Cx} {W : WX} {P : Prot} {o e : Expr} {te : TD} {f : Str} {j : Nat} {pos' pos : Pos}
theorem as_fld (ho : PE X o (tVar j)) (he : AE X W e te) (hs : swapsWith e (some (.Attribute o f pos')) pos.line X.env = pure false := by rfl) : AS X W P (.Assign [.Attribute o f pos'] e pos) (tFldS X.K f j te) := PS.imp (ps_fld ho he hs) fun D σ H q => by
  obtain ⟨HF, ρ, A, E, Ed, w, en, t, k, x⟩ := q
  refine ⟨HF, ρ, A, _, Ed, w, en, t, fun ev ρ1 q1 HF1 H1 A1 y Ay f1 w1 en1 r1 => ?_, x.x⟩
  cases ev with
  | pt i => exact q1.elim
  | ow o1 =>
    dsimp only at q1
    split at q1
    · rename_i C fs e1
      obtain ⟨hf, hl, n⟩ := q1
      obtain ⟨v, B, R, h1, r, pm, en2⟩ := en1.get e1
      obtain ⟨a, dx, vs, B', rfl, rfl, hH, rs⟩ := r
      refine ⟨_, h1, a, C, dx, vs, rfl, hH, hf.cl, hf.no, by rw [rs.length]; exact hl, ?_⟩
      -- the new tree
      have pmA : (A1 ++ Ay).Perm (a :: (R ++ (B' ++ Ay))) := by
        have := List.Perm.append_right Ay pm
        refine this.trans ?_
        simp only [List.cons_append]
        refine List.Perm.cons a ?_
        rw [List.append_assoc]
        exact (List.perm_append_comm_assoc B' R Ay)
      have wA : WR HF1 H1 (a :: (R ++ (B' ++ Ay))) := w1.perm pmA
      obtain ⟨na, nd⟩ := List.nodup_cons.mp wA.nodup
      obtain ⟨B2, R2, pm2, rs2⟩ := RepOFs.put (f := f) r1 rs
      have mem2 : ∀ p ∈ B2, p ∈ B' ++ Ay := fun p hp => pm2.mem_iff.mpr (List.mem_append_left _ hp)
      have ne2 : ∀ p ∈ B2, p ≠ a := fun p hp z => na (List.mem_append_right _ (z ▸ mem2 p hp))
      have neR : ∀ p ∈ R, p ≠ a := fun p hp z => na (List.mem_append_left _ (z ▸ hp))
      have hHF : HF1 a = none := wA.out a (by simp)
      have rep : RepO X.K HF1 (upd H1 a (.ins C dx (putF f y vs))) (.ob C (putFO f o1 fs)) (.ref a) (a :: B2) := ⟨a, dx, _, B2, rfl, rfl, upd_same, RepOFs.keep (.refl _) _ rs2 fun p hp => by rw [upd_ne (ne2 p hp)]⟩
      have hi : j < ρ1.length := (List.getElem?_eq_some_iff.mp e1).1
      obtain ⟨A', pm3, en3⟩ := EnvR.put (EnvR.keep (H' := upd H1 a (.ins C dx (putF f y vs))) (.refl _) _ en2 fun p hp => by rw [upd_ne (neR p hp)]) hi rep
      rw [set_get h1] at en3
      have pm4 : (a :: (R ++ (B' ++ Ay))).Perm (A' ++ R2) := by
        have z : (A' ++ R2).Perm ((a :: B2 ++ R) ++ R2) := List.Perm.append_right R2 pm3
        refine List.Perm.trans ?_ z.symm
        simp only [List.cons_append]
        refine List.Perm.cons a ?_
        refine (List.Perm.append_left R pm2).trans ?_
        rw [← List.append_assoc]
        exact List.Perm.append_right R2 List.perm_append_comm
      have w2 : WR HF1 (upd H1 a (.ins C dx (putF f y vs))) A' := by
        refine ⟨fun b u eb => ?_, ((pm4.nodup_iff.mp wA.nodup).sublist (List.sublist_append_left _ _)), fun p hp => wA.out p (pm4.mem_iff.mpr (List.mem_append_left _ hp))⟩
        have : b ≠ a := fun z => by rw [z, hHF] at eb; cases eb
        rw [upd_ne this]; exact w1.same b u eb
      refine k.nx _ n HF1 _ σ A' .refl (f1.trans ⟨.refl _, fun p u ep np => ?_, fun _ _ _ _ h => h, fun p hp => .inl (pmA.mem_iff.mpr (pm4.mem_iff.mpr (List.mem_append_left _ hp)))⟩) w2 en3
      have : p ≠ a := fun z => np (pmA.mem_iff.mpr (by simp [z]))
      rw [upd_ne this]; exact ep
    · exact q1.elim
end

/-! ### methods -/
/-- a method of a class, and what it does -/
structure Met (P : Program) (w : World) (K : PySem.W.Frag) (mg : Str → Option Value) (base : Heap) (lv : Nat) (C : Addr) (m : Str) (ps : List Str) (F : AFn) : Prop where
  cl : Cls K C
  ex : ∃ f fd, Meth K C m f ∧ Binds K fd ps [] ∧ FnOk P w K mg base (L2N.CX P w) lv f fd ps (spA K ps.length F)
  len : ∀ os Kd Ed, F os Kd Ed → os.length = ps.length
def insAt (ρ : Env) (e : EV) (C : Addr) (m : Str) : Prop := match deref ρ e with
  | some (.fz (.ins C' fs)) => C' = C ∧ fs.lookup m = none
  | some (.ob C' fs) => C' = C ∧ fs.lookup m = none
  | _ => False
def callK (F : AFn) (es : List EV) (ρ : Env) (Kd : KD) (Ed : XC) : Prop := match takeD ρ es with
  | some (os, ρ2) => F os (fun o ρx => Kd (.ow o) (backD ρ2 es ρx)) (fun x ρx => Ed x (backD ρ2 es ρx))
  | none => False
def tMethA (C : Addr) (m : Str) (F : AFn) (ta : TD) (ts : TDs) : TD := fun ρ Kd Ed => ta ρ (fun e1 ρ1 => insAt ρ1 e1 C m ∧ ts ρ1 (fun es ρ2 => callK F (e1 :: es) ρ2 Kd Ed) Ed) Ed
theorem RepFs.lookN {K : PySem.W.Frag} {HF : Hp} {f : Str} : ∀ {fs : List (Str × D)} {vs : List (Str × V)}, RepFs K HF fs vs → fs.lookup f = none → vs.lookup f = none
  | [], vs, h, _ => by rw [show vs = [] from h]; rfl
  | (g, d) :: fs, vs, h, e => by
    obtain ⟨⟨g', v⟩, ws, rfl, ⟨eg, _⟩, r⟩ := h
    obtain rfl : g' = g := eg
    rw [List.lookup_cons] at e ⊢
    split
    · rename_i z; rw [z] at e; cases e
    · rename_i z; rw [z] at e; exact RepFs.lookN r e
theorem RepOFs.lookN {K : PySem.W.Frag} {HF H : Hp} {f : Str} : ∀ {fs : List (Str × O)} {vs : List (Str × V)} {A : List Addr}, RepOFs K HF H fs vs A → fs.lookup f = none → vs.lookup f = none
  | [], vs, A, h, _ => by rw [h.1]; rfl
  | (g, d) :: fs, vs, A, h, e => by
    obtain ⟨⟨g', v⟩, ws, A1, A2, rfl, rfl, ⟨eg, _⟩, r⟩ := h
    obtain rfl : g' = g := eg
    rw [List.lookup_cons] at e ⊢
    split
    · rename_i z; rw [z] at e; cases e
    · rename_i z; rw [z] at e; exact RepOFs.lookN r e
theorem insAt_ok {K : PySem.W.Frag} {HF H : Hp} {ρ : Env} {σ : St} {A Av : List Addr} {ev : EV} {v : V} {C : Addr} {m : Str} (s : Same HF H) (en : EnvR K HF H ρ σ A) (r : EVR K HF H σ ev v Av) (h : insAt ρ ev C m) : ∃ a dx fs, v = .ref a ∧ H a = some (.ins C dx fs) ∧ fs.lookup m = none := by
  unfold insAt at h
  split at h
  · rename_i C' fs e
    obtain ⟨B, rb⟩ := deref_ok en r e
    obtain ⟨rfl, hl⟩ := h
    obtain ⟨_, a, dx, vs, rfl, hH, rs⟩ := rb
    exact ⟨a, dx, vs, rfl, s _ _ hH, rs.lookN hl⟩
  · rename_i C' fs e
    obtain ⟨B, rb⟩ := deref_ok en r e
    obtain ⟨rfl, hl⟩ := h
    obtain ⟨a, dx, vs, B', rfl, _, hH, rs⟩ := rb
    exact ⟨a, dx, vs, rfl, hH, rs.lookN hl⟩
  · exact h.elim
section
variable {X : Cx} {W : WX} {lv : Nat} {C : Addr} {m : Str} {ps : List Str} {F : AFn} {o e : Expr} {es : List Expr} {to : TD} {ts : TDs} {apos pos : Pos}
theorem pe_methSD {CX : CXT} {k : Nat} {f : Addr} {fd : FuncData} {sp : Sp} {E : St → XK} {ta : TE} {t : TA} {pl : Sem Bool} (he : PE X o ta) (c : Cls X.K C) (hm : Meth X.K C m f) (F : FnOk X.prog X.w X.K X.mg X.base CX k f fd ps sp) (hr : Room k X.A) (hb : Binds X.K fd ps []) (hx : ∀ σ, PassesAt CX X σ (E σ)) (ha : PA X (e :: es) t)
    (hst : starEach (e :: es) X.env = (false, eval e X.env) :: starEach es X.env) (hpl : (backTo pos (starEach es X.env)).any (·.1) = false)
    (ht : eval (.Call (.Attribute o m apos) (e :: es) [] pos) X.env = (do
      let ov ← eval o X.env
      standAt apos.atName
      let (f, first) ← holding [ov] (getMethod ov m pl)
      callWith pos f first (backTo pos (starEach (e :: es) X.env)) (backToKw pos (keywordEach [] X.env)))) :
    PE X (.Call (.Attribute o m apos) (e :: es) [] pos) (fun σ H Q => ta σ H fun x H1 => ∃ a dx fs, x = .ref a ∧ H1 a = some (.ins C dx fs) ∧ fs.lookup m = none ∧ t σ H1 fun vs H2 => sp (x :: vs) H2 Q (E σ)) := by
  refine ⟨fun pins s σ H Q I h => ?_⟩
  refine PySem.W.methodCall_KW (pl := pl) (thn (he.run pins s σ H _ I h) fun u s1 ⟨x, H1, I1, rx, a, dx, fs, ex, ea, l, q⟩ => ?_) ht
  subst ex
  obtain rfl : u = Value.ref a := rx
  refine getmeth_ok I1 ea c hm l ?_
  refine PySem.W.callWith_K (first := [.ref a]) (h₀ := X.base) I.ok.mod.kin hm.kp (thn (ha.run pos pins s1 σ H1 _ I1 q) fun us s2 ⟨vs, H2, I2, r, q2⟩ => ⟨I2.kIn, ?_⟩) hst hpl
  exact run_fnSD (us := .ref a :: us) (vs := .ref a :: vs) F hr hb .nil (hx σ) I2 (.cons rfl r) (by rw [List.append_nil]; exact q2)
theorem pe_meth0SD {CX : CXT} {k : Nat} {f : Addr} {fd : FuncData} {sp : Sp} {E : St → XK} {ta : TE} {pl : Sem Bool} (he : PE X o ta) (c : Cls X.K C) (hm : Meth X.K C m f) (F : FnOk X.prog X.w X.K X.mg X.base CX k f fd ps sp) (hr : Room k X.A) (hb : Binds X.K fd ps []) (hx : ∀ σ, PassesAt CX X σ (E σ))
    (ht : eval (.Call (.Attribute o m apos) [] [] pos) X.env = (do
      let ov ← eval o X.env
      standAt apos.atName
      let (f, first) ← holding [ov] (getMethod ov m pl)
      callWith pos f first (backTo pos (starEach [] X.env)) (backToKw pos (keywordEach [] X.env)))) :
    PE X (.Call (.Attribute o m apos) [] [] pos) (fun σ H Q => ta σ H fun x H1 => ∃ a dx fs, x = .ref a ∧ H1 a = some (.ins C dx fs) ∧ fs.lookup m = none ∧ sp [x] H1 Q (E σ)) := by
  refine ⟨fun pins s σ H Q I h => ?_⟩
  refine PySem.W.methodCall_KW (pl := pl) (thn (he.run pins s σ H _ I h) fun u s1 ⟨x, H1, I1, rx, a, dx, fs, ex, ea, l, q⟩ => ?_) ht
  subst ex
  obtain rfl : u = Value.ref a := rx
  refine getmeth_ok I1 ea c hm l ?_
  exact PySem.W.callWith_K0 (first := [.ref a]) I1.kIn hm.kp (run_fnSD (us := [.ref a]) (vs := [.ref a]) F hr hb .nil (hx σ) I1 (.cons rfl .nil) (by rw [List.append_nil]; exact q))
theorem ae_meth {pl : Sem Bool} (M : Met X.prog X.w X.K X.mg X.base lv C m ps F) (hr : Room lv X.A) (tk : L2N.Takes X W) (ho : AE X W o to) (ha : AA X W (e :: es) ts) (hst : starEach (e :: es) X.env = (false, eval e X.env) :: starEach es X.env := by rfl) (hpl : (backTo pos (starEach es X.env)).any (·.1) = false := by rfl)
    (ht : eval (.Call (.Attribute o m apos) (e :: es) [] pos) X.env = (do
      let ov ← eval o X.env
      standAt apos.atName
      let (f, first) ← holding [ov] (getMethod ov m pl)
      callWith pos f first (backTo pos (starEach (e :: es) X.env)) (backToKw pos (keywordEach [] X.env))) := by rfl) : AE X W (.Call (.Attribute o m apos) (e :: es) [] pos) (tMethA C m F to ts) := by
  obtain ⟨f, fd, hm, hb, G⟩ := M.ex
  refine PE.imp (pe_methSD (E := WE W) ho M.cl hm G hr hb (fun σ => L2N.passAt tk σ) ha hst hpl ht) fun σ H Q q => ?_
  obtain ⟨HF, ρ, A, Kd, Ed, w, en, t, k, x⟩ := q
  refine ⟨HF, ρ, A, _, Ed, w, en, t, fun e1 ρ1 q1 HF1 H1 A1 v1 Av1 f1 w1 en1 r1 => ?_, x⟩
  obtain ⟨a, dx, fs, rfl, hH, hl⟩ := insAt_ok w1.same en1 r1 q1.1
  have x1 : XOk X.K σ H1 HF1 A1 Ed W := (x.step f1).step (Fr.drop fun p hp => List.mem_append_left _ hp)
  refine ⟨a, dx, fs, rfl, hH, hl, HF1, ρ1, A1, _, Ed, w1.left, en1, q1.2, fun es2 ρ2 q2 HF2 H2 A2 vs2 Av2 f2 w2 en2 r2 => ?_, x1⟩
  obtain ⟨w3, f3, k3⟩ := join w1 (EVR.there r1) f2 w2
  have rr : EVRs X.K HF2 H2 σ (e1 :: es2) (.ref a :: vs2) (Av1 ++ Av2) := ⟨_, _, Av1, Av2, rfl, rfl, EVR.keep f2.same r1 k3, r2⟩
  exact call_sp M.len w3 en2 rr q2 ((k.step f1).step f3) (fun xd ρ3 q3 HF3 H3 A3 cls d f4 w4 en4 r4 => x xd ρ3 q3 HF3 H3 A3 cls d ((f1.trans f3).trans f4) w4 en4 r4)
theorem ae_meth0 {pl : Sem Bool} (M : Met X.prog X.w X.K X.mg X.base lv C m ps F) (hr : Room lv X.A) (tk : L2N.Takes X W) (ho : AE X W o to)
    (ht : eval (.Call (.Attribute o m apos) [] [] pos) X.env = (do
      let ov ← eval o X.env
      standAt apos.atName
      let (f, first) ← holding [ov] (getMethod ov m pl)
      callWith pos f first (backTo pos (starEach [] X.env)) (backToKw pos (keywordEach [] X.env))) := by rfl) : AE X W (.Call (.Attribute o m apos) [] [] pos) (tMethA C m F to tNilD) := by
  obtain ⟨f, fd, hm, hb, G⟩ := M.ex
  refine PE.imp (pe_meth0SD (E := WE W) ho M.cl hm G hr hb (fun σ => L2N.passAt tk σ) ht) fun σ H Q q => ?_
  obtain ⟨HF, ρ, A, Kd, Ed, w, en, t, k, x⟩ := q
  refine ⟨HF, ρ, A, _, Ed, w, en, t, fun e1 ρ1 q1 HF1 H1 A1 v1 Av1 f1 w1 en1 r1 => ?_, x⟩
  obtain ⟨a, dx, fs, rfl, hH, hl⟩ := insAt_ok w1.same en1 r1 q1.1
  have rr : EVRs X.K HF1 H1 σ [e1] [.ref a] Av1 := ⟨_, [], Av1, [], rfl, by simp, r1, rfl, rfl⟩
  exact ⟨a, dx, fs, rfl, hH, hl, call_sp M.len w1 en1 rr q1.2 (k.step f1) (fun xd ρ3 q3 HF3 H3 A3 cls d f4 w4 en4 r4 => x xd ρ3 q3 HF3 H3 A3 cls d (f1.trans f4) w4 en4 r4)⟩
/-! ### properties (a getter that raises nothing) -/
structure Prp (P : Program) (w : World) (K : PySem.W.Frag) (mg : Str → Option Value) (base : Heap) (lv : Nat) (C : Addr) (f : Str) (F : AFn) : Prop where
  cl : Cls K C
  ex : ∃ p g fd ps, PropOf K C f p g ∧ Binds K fd ps [] ∧ ps.length = 1 ∧ FnOk P w K mg base (L2N.CX P w) lv g fd ps (spA K ps.length F)
  len : ∀ os Kd Ed, F os Kd Ed → os.length = 1
def isIns (ρ : Env) (e : EV) (C : Addr) : Prop := match deref ρ e with
  | some (.fz (.ins C' _)) => C' = C
  | some (.ob C' _) => C' = C
  | _ => False
theorem isIns_ok {K : PySem.W.Frag} {HF H : Hp} {ρ : Env} {σ : St} {A Av : List Addr} {ev : EV} {v : V} {C : Addr} (s : Same HF H) (en : EnvR K HF H ρ σ A) (r : EVR K HF H σ ev v Av) (h : isIns ρ ev C) : ∃ a dx fs, v = .ref a ∧ H a = some (.ins C dx fs) := by
  unfold isIns at h
  split at h
  · rename_i C' fs e
    obtain ⟨B, rb⟩ := deref_ok en r e
    obtain rfl := h
    obtain ⟨_, a, dx, vs, rfl, hH, rs⟩ := rb
    exact ⟨a, dx, vs, rfl, s _ _ hH⟩
  · rename_i C' fs e
    obtain ⟨B, rb⟩ := deref_ok en r e
    obtain rfl := h
    obtain ⟨a, dx, vs, B', rfl, _, hH, rs⟩ := rb
    exact ⟨a, dx, vs, rfl, hH⟩
  · exact h.elim
def tPropA (C : Addr) (F : AFn) (ta : TD) : TD := fun ρ Kd Ed => ta ρ (fun e1 ρ1 => isIns ρ1 e1 C ∧ callK F [e1] ρ1 Kd NoX) Ed
theorem ae_prop {f : Str} (M : Prp X.prog X.w X.K X.mg X.base lv C f F) (hr : Room (lv + 1) X.A) (ho : AE X W o to) (hab : attributeBase o f X.env (eval o X.env) = eval o X.env := by rfl) : AE X W (.Attribute o f pos) (tPropA C F to) := by
  obtain ⟨p, g, fd, ps, hp, hb, hl, G⟩ := M.ex
  refine PE.imp (pe_prop (E := fun _ _ _ => False) ho M.cl hp G hr hb .nil passE0N hab) fun σ H Q q => ?_
  obtain ⟨HF, ρ, A, Kd, Ed, w, en, t, k, x⟩ := q
  refine ⟨HF, ρ, A, _, Ed, w, en, t, fun e1 ρ1 q1 HF1 H1 A1 v1 Av1 f1 w1 en1 r1 => ?_, x⟩
  obtain ⟨a, dx, fs, rfl, hH⟩ := isIns_ok w1.same en1 r1 q1.1
  have rr : EVRs X.K HF1 H1 σ [e1] [.ref a] Av1 := ⟨_, [], Av1, [], rfl, by simp, r1, rfl, rfl⟩
  exact ⟨a, dx, fs, rfl, hH, call_sp (fun os Kd Ed h => (M.len os Kd Ed h).trans hl.symm) w1 en1 rr q1.2 (k.step f1) (fun xd ρ3 q3 => q3.elim)⟩
end
end AE
/-! AE24: name = [..]; methods of lists and texts; {}. -/
namespace AE
open PySem L2
section
variable {X : Cx} {W : WX} {P : Prot}
theorem PS.impL {st : Stmt} {t u : TS} (h : PS X st t) (i : ∀ D σ H, σ.length = X.N.length → u D σ H → t D σ H) : PS X st u := ⟨fun pins s σ H D I q => h.run pins s σ H D I (i D σ H I.len q)⟩
theorem as_setLc {i : Nat} {y : Str} {py : Pos} {elt tg iter : Expr} {ifs : List Expr} {scope : Scope} {own : List (Str × Nat)} {vs : List Nat} {pos spos : Pos} {ti : TId} {g : TGD} {tt : TDt} {te : TD} (hc : X.calm = true) (hN : X.N.Nodup) (hy : X.N[i]? = some y) (hyl : X.env.scope.names.lookup y = some .local) (hp : P i = false)
    (hsw : swapsWith (.ListComp elt [⟨tg, iter, ifs, 0⟩] scope pos) (some (.Name y py)) spos.line X.env = pure true) (hi : AI X W tg iter ti) (ok : BlkOk X.N X.env.scope scope own) (hvs : own.map (·.2) = vs) (nd : vs.Nodup) (hlt : ∀ v ∈ vs, v < X.N.length)
    (hg : ∀ (s : Shared) (H : Hp) (C : Addr) (cl : List (Str × Addr)) (fp : List Addr), AG (X.blk s H scope (compEnvC scope cl C X.env) fp) (butP vs) tg g) (ht : ∀ (s : Shared) (H : Hp) (C : Addr) (cl : List (Str × Addr)) (fp : List Addr), ATs (X.blk s H scope (compEnvC scope cl C X.env) fp) WF ifs tt)
    (he : ∀ (s : Shared) (H : Hp) (C : Addr) (cl : List (Str × Addr)) (fp : List Addr), AE (X.blk s H scope (compEnvC scope cl C X.env) fp) WF elt te) (hs : ∀ x, foldedSetIterable iter X.env x = pure x := by intro _; rfl) :
    AS X W P (.Assign [.Name y py] (.ListComp elt [⟨tg, iter, ifs, 0⟩] scope pos) spos) (tAsgD (tLcD ti vs g tt te) (gNameD i)) := by
  have base : PS X (.Assign [.Name y py] (.ListComp elt [⟨tg, iter, ifs, 0⟩] scope pos) spos) (tAsg (tLc (tAI X.K W ti) (tG X.K (butP vs) g) (tAt X.K WF tt) (tA X.K WF te) vs) (gName i)) := by
    subst hvs
    exact ps_setLc (own := own) (g := tG X.K _ g) (tt := tAt X.K WF tt) (te := tA X.K WF te) hc hN hy hyl hsw hi ok hg ht he hs
  refine PS.impL base fun D σ H hσ q => ?_
  obtain ⟨HF, ρ, A, E, Ed, w, en, t, k, x⟩ := q
  refine lc_red nd hlt σ H _ hσ ⟨HF, ρ, A, _, Ed, w, en, t, fun ev ρ1 q1 HF1 H1 A1 v Av f1 w1 en1 r1 => ?_, x.x⟩
  dsimp only at q1
  split at q1
  · rename_i o ρ2 e2
    obtain ⟨A', B, pm, en2, r2⟩ := moved_ok w1 en1 r1 e2
    have g' : (match ρ2[i]? with | some _ => E.nx (ρ2.set i (some o)) | none => False) := q1
    obtain ⟨hl, n⟩ : i < ρ2.length ∧ E.nx (ρ2.set i (some o)) := by
      cases e : ρ2[i]? with
      | none => rw [e] at g'; exact g'.elim
      | some y => rw [e] at g'; exact ⟨(List.getElem?_eq_some_iff.mp e).1, g'⟩
    obtain ⟨A2, w2, f2, en3⟩ := EnvR.store (w1.perm pm) en2 r2 hl
    refine k.nx _ n HF1 H1 _ A2 ⟨by simp, fun j hj => ?_⟩ (f1.mono (fun _ hp => hp) fun p hp => .inl (pm.mem_iff.mpr (f2 p hp))) w2 en3
    have : i ≠ j := fun e => by rw [e, hj] at hp; cases hp
    rw [List.getElem?_set_ne this]
  · exact q1.elim
end

/-! ### lists that a slot owns: pop, clear -/
theorem Reps.eraseIdx {K : PySem.W.Frag} {HF : Hp} : ∀ {ds : List D} {vs : List V} (n : Nat), Reps K HF ds vs → Reps K HF (ds.eraseIdx n) (vs.eraseIdx n)
  | [], vs, n, h => by obtain rfl : vs = [] := h; exact rfl
  | d :: ds, vs, 0, h => by obtain ⟨v, ws, rfl, r, t⟩ := h; exact t
  | d :: ds, vs, n + 1, h => by obtain ⟨v, ws, rfl, r, t⟩ := h; exact ⟨v, _, rfl, r, Reps.eraseIdx n t⟩
def fPopAt : Env → List EV → KD → Prop := fun ρ es Kd => match es with
  | [.pt i, e] => (match ρ[i]? with
    | some (some (.ls xs)) => (match dOf ρ e with
      | some (.int k) => (-(2 ^ 63) ≤ k ∧ k < 2 ^ 63) ∧ ∃ n d, ixN xs.length k = some n ∧ xs[n]? = some d ∧ Kd (.ow (.fz d)) (ρ.set i (some (.ls (xs.eraseIdx n))))
      | _ => False)
    | _ => False)
  | _ => False
def fPop0 : Env → List EV → KD → Prop := fun ρ es Kd => match es with
  | [.pt i] => (match ρ[i]? with
    | some (some (.ls xs)) => ∃ d, xs[xs.length - 1]? = some d ∧ Kd (.ow (.fz d)) (ρ.set i (some (.ls (xs.eraseIdx (xs.length - 1)))))
    | _ => False)
  | _ => False
def fClear : Env → List EV → KD → Prop := fun ρ es Kd => match es with
  | [.pt i] => (match ρ[i]? with
    | some (some (.ls xs)) => Kd (.ow (.fz .non)) (ρ.set i (some (.ls [])))
    | _ => False)
  | [.ow (.ls xs)] => Kd (.ow (.fz .non)) ρ
  | _ => False
section
variable {K : PySem.W.Frag}
theorem prim_popAt : Prim K (rML rPopAt) fPopAt := fun σ HF H ρ A Av evs vs Kd Q w en r q k => by
  unfold fPopAt at q
  split at q
  · rename_i i e
    split at q
    · rename_i xs e1
      split at q
      · rename_i kk e2
        obtain ⟨hb, n, d, hn, hd, q⟩ := q
        obtain ⟨v, ws, A1, A2, rfl, rfl, r1, v2, ws2, A3, A4, rfl, rfl, r2, rfl, rfl⟩ := r
        obtain ⟨rfl, hv⟩ := r1
        cases (show v2 = .int kk from Vw.ev w.same en r2 e2)
        obtain ⟨a, s1, ro, upd1⟩ := slot_one en e1 trivial
        rw [hv] at s1
        obtain rfl := Option.some.inj (Option.some.inj s1)
        simp only [List.nil_append, List.append_nil] at w k
        obtain ⟨a', us, ee, e3, hH, rs⟩ := ro
        cases ee
        obtain ⟨u, hu, ru⟩ := rs.get hd
        obtain ⟨A', w', f', en'⟩ := upd1 HF (.lst (us.eraseIdx n)) (.ls (xs.eraseIdx n)) (.refl _) w.left ⟨a, _, rfl, rfl, upd_same, Reps.eraseIdx n rs⟩
        refine ⟨a, us, kk, n, u, rfl, rfl, hH, hb.1, hb.2, by rw [rs.length]; exact (ixN_seq hn).1, hu, ?_⟩
        exact k _ _ q HF _ A' u [] (by rw [List.append_nil]; exact f'.mono (fun p hp => List.mem_append_left _ hp) fun p hp => .inl hp) (by rw [List.append_nil]; exact w') en' ⟨rfl, ru⟩
      · exact q.elim
    · exact q.elim
  · exact q.elim
theorem dropLast_erase {α : Type} : ∀ (l : List α), l.dropLast = l.eraseIdx (l.length - 1)
  | [] => rfl
  | [_] => rfl
  | a :: b :: l => by
    have := dropLast_erase (b :: l)
    simp only [List.dropLast_cons₂, List.length_cons] at this ⊢
    rw [this]; rfl
theorem prim_pop0 : Prim K (rML rPop) fPop0 := fun σ HF H ρ A Av evs vs Kd Q w en r q k => by
  unfold fPop0 at q
  split at q
  · rename_i i
    split at q
    · rename_i xs e1
      obtain ⟨d, hd, q⟩ := q
      obtain ⟨v, ws, A1, A2, rfl, rfl, r1, rfl, rfl⟩ := r
      obtain ⟨rfl, hv⟩ := r1
      obtain ⟨a, s1, ro, upd1⟩ := slot_one en e1 trivial
      rw [hv] at s1
      obtain rfl := Option.some.inj (Option.some.inj s1)
      simp only [List.nil_append, List.append_nil] at w k
      obtain ⟨a', us, ee, e3, hH, rs⟩ := ro
      cases ee
      obtain ⟨u, hu, ru⟩ := rs.get hd
      obtain ⟨A', w', f', en'⟩ := upd1 HF (.lst us.dropLast) (.ls (xs.eraseIdx (xs.length - 1))) (.refl _) w ⟨a, _, rfl, rfl, upd_same, by rw [dropLast_erase, rs.length]; exact Reps.eraseIdx _ rs⟩
      refine ⟨a, us, u, rfl, rfl, hH, by rw [rs.length]; exact hu, ?_⟩
      exact k _ _ q HF _ A' u [] (by rw [List.append_nil]; exact f') (by rw [List.append_nil]; exact w') en' ⟨rfl, ru⟩
    · exact q.elim
  · exact q.elim
theorem prim_clear : Prim K (rML rClear) fClear := fun σ HF H ρ A Av evs vs Kd Q w en r q k => by
  unfold fClear at q
  split at q
  · rename_i i
    split at q
    · rename_i xs e1
      obtain ⟨v, ws, A1, A2, rfl, rfl, r1, rfl, rfl⟩ := r
      obtain ⟨rfl, hv⟩ := r1
      obtain ⟨a, s1, ro, upd1⟩ := slot_one en e1 trivial
      rw [hv] at s1
      obtain rfl := Option.some.inj (Option.some.inj s1)
      simp only [List.nil_append, List.append_nil] at w k
      obtain ⟨a', us, ee, e3, hH, rs⟩ := ro
      cases ee
      obtain ⟨A', w', f', en'⟩ := upd1 HF (.lst []) (.ls []) (.refl _) w ⟨a, _, rfl, rfl, upd_same, rfl⟩
      exact ⟨a, us, rfl, rfl, hH, k _ _ q HF _ A' .non [] (by rw [List.append_nil]; exact f') (by rw [List.append_nil]; exact w') en' ⟨rfl, rfl⟩⟩
    · exact q.elim
  · rename_i xs
    obtain ⟨v, ws, A1, A2, rfl, rfl, r1, rfl, rfl⟩ := r
    obtain ⟨a, us, rfl, rfl, hH, rs⟩ := r1
    simp only [List.append_nil] at w k
    obtain ⟨w2, f2, k2⟩ := putD (K := K) (u := .lst []) w
    exact ⟨a, us, rfl, rfl, hH, k _ _ q HF _ A .non [] (by rw [List.append_nil]; exact f2.mono (fun _ h => h) fun p hp => .inl (List.mem_append_left _ hp)) (by rw [List.append_nil]; exact w2.left) (k2 _ _ en) ⟨rfl, rfl⟩⟩
  · exact q.elim
end
section
variable {X : Cx} {W : WX} {o e : Expr} {to : TD} {ts : TDs} {apos cpos : Pos}
theorem ae_popAt (ho : AE X W o to) (ha : AA X W [e] ts) (hbase : attributeBase o "pop" X.env (eval o X.env) = eval o X.env := by rfl)
    (hfew : ((backTo cpos (starEach [e] X.env)).all (fun x => !x.1) && (backToKw cpos (keywordEach [] X.env)).all (fun x => x.1.isSome)
      && decide (([e] : List Expr).length + ([] : List Keyword).length + (if ([] : List Keyword).isEmpty then 0 else 1) < 30)) = true := by rfl)
    (hline : (apos.endLine == cpos.line) = true := by rfl) (hs : starEach [e] X.env = (false, eval e X.env) :: starEach [] X.env := by rfl) :
    AE X W (.Call (.Attribute o "pop" apos) [e] [] cpos) (tMtL fPopAt to ts) := ae_mtL PySem.F.slot_list_pop PySem.F.type_list_pop mt_popAt prim_popAt ho ha hbase hfew hline hs rfl
theorem ae_pop0 (ho : AE X W o to) (hbase : attributeBase o "pop" X.env (eval o X.env) = eval o X.env := by rfl) (hline : (apos.endLine == cpos.line) = true := by rfl) :
    AE X W (.Call (.Attribute o "pop" apos) [] [] cpos) (tMtL0 fPop0 to) := ae_mtL0 PySem.F.slot_list_pop PySem.F.type_list_pop mt_pop prim_pop0 ho hbase hline
theorem ae_clear0 (ho : AE X W o to) (hbase : attributeBase o "clear" X.env (eval o X.env) = eval o X.env := by rfl) (hline : (apos.endLine == cpos.line) = true := by rfl) :
    AE X W (.Call (.Attribute o "clear" apos) [] [] cpos) (tMtL0 fClear to) := ae_mtL0 PySem.F.slot_list_clear PySem.F.type_list_clear mt_clear prim_clear ho hbase hline
end

/-! ### methods of texts with one argument -/
abbrev GS1 := Str → D → (O → Prop) → Prop
def tM1D (g : GS1) (ta tb : TD) : TD := fun ρ Kd Ed => ta ρ (fun e1 ρ1 => match dOf ρ1 e1 with
  | some (.str a) => tb ρ1 (fun e2 ρ2 => match dOf ρ2 e2 with
    | some d => g a d (fun o => Kd (.ow o) ρ2)
    | none => False) Ed
  | _ => False) Ed
def DoS (K : PySem.W.Frag) (r : V → List V → Hp → VK → Prop) (g : GS1) : Prop := ∀ HF H a v d P Q, Same HF H → Vw K HF H d v → g a d P → (∀ o z HF' H' Az, P o → New K HF H HF' H' o z Az → Q z H') → r (.str a) [v] H Q
section
variable {X : Cx} {W : WX} {o e : Expr} {to te : TD} {apos pos : Pos} {id : String} {name : Str} {r : V → List V → Hp → VK → Prop} {g : GS1}
theorem ae_m1 (slot : Slot "str" name id) (ty : typeOf (.builtin id) = pure (.type "method_descriptor")) (rule : MtR X id r) (hd : DoS X.K r g) (ho : AE X W o to) (he : AE X W e te)
    (hs : starEach [e] X.env = [(false, eval e X.env)] := by rfl) (hbase : attributeBase o name X.env (eval o X.env) = eval o X.env := by rfl) (hline : (apos.endLine == pos.line) = true := by rfl) :
    AE X W (.Call (.Attribute o name apos) [e] [] pos) (tM1D g to te) := PE.imp (pe_m1 slot ty rule ho he hs hbase hline) fun σ H Q q => by
  obtain ⟨HF, ρ, A, Kd, Ed, w, en, t, k, x⟩ := q
  refine ⟨HF, ρ, A, _, Ed, w, en, t, fun e1 ρ1 q1 HF1 H1 A1 v1 Av1 f1 w1 en1 r1 => ?_, x⟩
  dsimp only at q1
  split at q1
  · rename_i a ea
    obtain rfl : v1 = .str a := Vw.ev w1.same en1 r1 ea
    have x1 : XOk X.K σ H1 HF1 A1 Ed W := (x.step f1).step (Fr.drop fun p hp => List.mem_append_left _ hp)
    have f1' : Fr H H1 HF HF1 A A1 := f1.mono (fun _ h => h) fun p hp => .inl (List.mem_append_left _ hp)
    refine ⟨⟨a, rfl⟩, HF1, ρ1, A1, _, Ed, w1.left, en1, q1, fun e2 ρ2 q2 HF2 H2 A2 v2 Av2 f2 w2 en2 r2 => ?_, x1⟩
    dsimp only at q2
    split at q2
    · rename_i d ed
      exact hd HF2 H2 a v2 d _ Q w2.same (Vw.ev w2.same en2 r2 ed) q2 fun o z HF' H' Az po n => ((k.step f1').step f2).new w2 en2 po n
    · exact q2.elim
  · exact q1.elim
end
theorem reps_str {K : PySem.W.Frag} {HF : Hp} : ∀ {ys : List Str} {vs : List V}, Reps K HF (ys.map D.str) vs → vs = ys.map V.str
  | [], vs, h => h
  | y :: ys, vs, h => by obtain ⟨v, ws, rfl, r, t⟩ := h; rw [show v = .str y from r, reps_str t]; rfl
theorem reps_strs {K : PySem.W.Frag} {HF : Hp} : ∀ (ys : List Str), Reps K HF (ys.map D.str) (ys.map V.str)
  | [] => rfl
  | y :: ys => ⟨.str y, ys.map V.str, rfl, rfl, reps_strs ys⟩
def gSplit : GS1 := fun a d P => match d with
  | .str b => (b.length == 0) = false ∧ a.length + 2 ≤ sizeLine ∧ P (.ls ((Txt.split a b).map D.str))
  | _ => False
def gJoin : GS1 := fun a d P => match d with
  | .lst xs => ∃ ys : List Str, xs = ys.map D.str ∧ (ys.map (·.length)).sum + ys.length * a.length ≤ 16777216 ∧ P (.fz (.str (Txt.join a ys)))
  | .tup xs => ∃ ys : List Str, xs = ys.map D.str ∧ (ys.map (·.length)).sum + ys.length * a.length ≤ 16777216 ∧ P (.fz (.str (Txt.join a ys)))
  | _ => False
def gPart : GS1 := fun a d P => match d with
  | .str b => (b.length == 0) = false ∧ a.length ≤ sizeLine ∧ P (.fz (.tup [.str (Txt.partition a b).1, .str (Txt.partition a b).2.1, .str (Txt.partition a b).2.2]))
  | _ => False
def gStarts : GS1 := fun a d P => match d with
  | .str b => P (.fz (.bl (Txt.startswith a b)))
  | _ => False
section
variable {X : Cx} {W : WX} {o e : Expr} {to te : TD} {apos pos : Pos}
theorem ae_split (ho : AE X W o to) (he : AE X W e te) (hs : starEach [e] X.env = [(false, eval e X.env)] := by rfl) (hbase : attributeBase o "split" X.env (eval o X.env) = eval o X.env := by rfl) (hline : (apos.endLine == pos.line) = true := by rfl) :
    AE X W (.Call (.Attribute o "split" apos) [e] [] pos) (tM1D gSplit to te) := ae_m1 PySem.F.slot_str_split PySem.F.type_str_split mt_split (fun HF H a v d P Q s r g k => by
      unfold gSplit at g
      split at g
      · obtain rfl := (show v = .str _ from r)
        exact ⟨a, _, rfl, rfl, g.1, g.2.1, fun p hp => k _ _ _ _ _ g.2.2 (New.lst s hp (reps_strs _))⟩
      · exact g.elim) ho he hs hbase hline
theorem ae_join (ho : AE X W o to) (he : AE X W e te) (hs : starEach [e] X.env = [(false, eval e X.env)] := by rfl) (hbase : attributeBase o "join" X.env (eval o X.env) = eval o X.env := by rfl) (hline : (apos.endLine == pos.line) = true := by rfl) :
    AE X W (.Call (.Attribute o "join" apos) [e] [] pos) (tM1D gJoin to te) := ae_m1 PySem.F.slot_str_join PySem.F.type_str_join mt_join (fun HF H a v d P Q s r g k => by
      unfold gJoin at g
      split at g
      · obtain ⟨ys, rfl, hz, q⟩ := g
        obtain ⟨p, vs, rfl, h1, r1⟩ := r
        obtain rfl := reps_str r1
        exact ⟨a, p, ys, rfl, rfl, .inl (SqL.of h1), hz, k _ _ _ _ _ q (New.imm s rfl)⟩
      · obtain ⟨ys, rfl, hz, q⟩ := g
        obtain ⟨p, vs, rfl, h1, r1⟩ := r
        obtain rfl := reps_str r1
        exact ⟨a, p, ys, rfl, rfl, .inr (SqT.of (s _ _ h1)), hz, k _ _ _ _ _ q (New.imm s rfl)⟩
      · exact g.elim) ho he hs hbase hline
theorem ae_partition (ho : AE X W o to) (he : AE X W e te) (hs : starEach [e] X.env = [(false, eval e X.env)] := by rfl) (hbase : attributeBase o "partition" X.env (eval o X.env) = eval o X.env := by rfl) (hline : (apos.endLine == pos.line) = true := by rfl) :
    AE X W (.Call (.Attribute o "partition" apos) [e] [] pos) (tM1D gPart to te) := ae_m1 PySem.F.slot_str_partition PySem.F.type_str_partition mt_partition (fun HF H a v d P Q s r g k => by
      unfold gPart at g
      split at g
      · obtain rfl := (show v = .str _ from r)
        exact ⟨a, _, rfl, rfl, g.1, g.2.1, fun p hp => k _ _ _ _ _ g.2.2 (New.tup s hp ⟨_, _, rfl, rfl, _, _, rfl, rfl, _, _, rfl, rfl, rfl⟩)⟩
      · exact g.elim) ho he hs hbase hline
theorem ae_startswith (ho : AE X W o to) (he : AE X W e te) (hs : starEach [e] X.env = [(false, eval e X.env)] := by rfl) (hbase : attributeBase o "startswith" X.env (eval o X.env) = eval o X.env := by rfl) (hline : (apos.endLine == pos.line) = true := by rfl) :
    AE X W (.Call (.Attribute o "startswith" apos) [e] [] pos) (tM1D gStarts to te) := ae_m1 PySem.F.slot_str_startswith PySem.F.type_str_startswith mt_startswith (fun HF H a v d P Q s r g k => by
      unfold gStarts at g
      split at g
      · obtain rfl := (show v = .str _ from r)
        exact ⟨a, _, rfl, rfl, k _ _ _ _ _ g (New.imm s rfl)⟩
      · exact g.elim) ho he hs hbase hline
/-! ### {} -/
def tDNew : TD := fun ρ Kd _ => Kd (.ow (.dc [])) ρ
theorem ae_dnew : AE X W (.Dict [] [] pos) tDNew := PE.imp pe_dnewK fun σ H Q q => by
  obtain ⟨HF, ρ, A, Kd, Ed, w, en, t, k, x⟩ := q
  intro p hp
  have k' : KOk X.K σ H HF (A ++ []) Kd Q := by rw [List.append_nil]; exact k
  exact k'.new (by rw [List.append_nil]; exact w) en t (New.own (o := .dc []) w.same hp ⟨p, [], rfl, rfl, upd_same, rfl⟩)
end
end AE
/-! AE25: comprehensions with two clauses; dict comprehensions. -/
namespace AE
open PySem L2
/-- within a comprehension: the new thing at D is held beside the slots -/
structure Cp (K : PySem.W.Frag) (H0 HF0 : Hp) (C : List Addr) (D : Addr) (u : HO) (σ' : St) (ρ' : Env) (H2 HF2 : Hp) (A2 : List Addr) : Prop where
  fr : Fr H0 H2 HF0 HF2 (C ++ [D]) (A2 ++ [D])
  wr : WR HF2 H2 (A2 ++ [D])
  en : EnvR K HF2 H2 ρ' σ' A2
  at_ : H2 D = some u
section
variable {K : PySem.W.Frag} {H0 HF0 : Hp} {C : List Addr} {D : Addr} {u : HO} {σ' : St} {ρ' : Env} {H2 HF2 : Hp} {A2 : List Addr}
theorem Cp.step {H3 HF3 : Hp} {A3 : List Addr} {σ3 : St} {ρ3 : Env} (c : Cp K H0 HF0 C D u σ' ρ' H2 HF2 A2) (f : Fr H2 H3 HF2 HF3 A2 A3) (w : WR HF3 H3 A3) (en : EnvR K HF3 H3 ρ3 σ3 A3) : Cp K H0 HF0 C D u σ3 ρ3 H3 HF3 A3 := by
  obtain ⟨h1, w', f'⟩ := hold c.wr c.at_ f w
  exact ⟨c.fr.trans f', w', en, h1⟩
theorem Cp.item {H3 HF3 : Hp} (c : Cp K H0 HF0 C D u σ' ρ' H2 HF2 A2) (f3 : Fr H2 H3 HF2 HF3 [] []) (s3 : Same HF3 H3) : Cp K H0 HF0 C D u σ' ρ' H3 HF3 A2 := by
  obtain ⟨k1, k2, k3⟩ := f3.frame (EnvR.there _ c.en) (fun _ _ h => by cases h)
  exact c.step (f3.mono (fun _ h => by cases h) fun p hp => .inr hp) ⟨s3, c.wr.left.nodup, fun a ha => k2 a ha (c.wr.left.out a ha)⟩ (EnvR.keep f3.same _ c.en k1)
theorem Cp.tgt {P : Prot} {g : TGD} {d : AE.D} {x : V} {N : Env → Prop} {Q : St → Hp → Prop} (c : Cp K H0 HF0 C D u σ' ρ' H2 HF2 A2) (rd : Rep K HF2 d x) (hg : g (.fz d) ρ' N)
    (k : ∀ ρ5 σ5 H5 HF5 A5, N ρ5 → Pr P σ' σ5 → Same HF2 HF5 → Cp K H0 HF0 C D u σ5 ρ5 H5 HF5 A5 → Q σ5 H5) : tG K P g x σ' H2 Q := by
  refine ⟨HF2, ρ', A2, .fz d, [], N, by rw [List.append_nil]; exact c.wr.left, c.en, ⟨rfl, rd⟩, hg, fun ρ4 n4 HF4 H4 σ4 A4 p4 f4 w4 en4 => ?_⟩
  rw [List.append_nil] at f4
  exact k ρ4 σ4 H4 HF4 A4 n4 p4 f4.same (c.step f4 w4 en4)
theorem Cp.test {tt : TDt} {Kd : Bool → Env → Prop} {Q : Bool → Hp → Prop} (c : Cp K H0 HF0 C D u σ' ρ' H2 HF2 A2) (ht : tt ρ' Kd NoX)
    (k : ∀ b ρ6 H6 HF6 A6, Kd b ρ6 → Same HF2 HF6 → Cp K H0 HF0 C D u σ' ρ6 H6 HF6 A6 → Q b H6) : tAt K WF tt σ' H2 Q :=
  ⟨HF2, ρ', A2, Kd, NoX, c.wr.left, c.en, ht, fun b ρ6 q6 HF6 H6 A6 f6 w6 en6 => k b ρ6 H6 HF6 A6 q6 f6.same (c.step f6 w6 en6), fun _ _ z => z.elim⟩
theorem Cp.elt {te : TD} {Kd : KD} {Q : VK} (c : Cp K H0 HF0 C D u σ' ρ' H2 HF2 A2) (he : te ρ' Kd NoX) (hpt : ∀ i ρ, Kd (.pt i) ρ → False)
    (k : ∀ o ρ6 H6 HF6 A6 y, Kd (.ow o) ρ6 → Same HF2 HF6 → Rep K HF6 (frz o) y → Cp K H0 HF0 C D u σ' ρ6 H6 HF6 A6 → Q y H6) : tA K WF te σ' H2 Q := by
  refine ⟨HF2, ρ', A2, Kd, NoX, c.wr.left, c.en, he, fun ev ρ6 q6 HF6 H6 A6 y6 Ay f6 w6 en6 r6 => ?_, fun _ _ z => z.elim⟩
  cases ev with
  | pt j => exact (hpt j ρ6 q6).elim
  | ow o =>
    obtain ⟨sg, wg, fg⟩ := grow_ok (w6.perm List.perm_append_comm)
    have rg : Rep K (grow HF6 H6 Ay) (frz o) y6 := RepO.frz sg o r6 fun p hp => grow_in hp
    have f6' : Fr H2 H6 HF2 (grow HF6 H6 Ay) A2 A6 := f6.trans (fg.mono (fun p hp => (List.mem_append.mp hp).elim (fun z => List.mem_append_right _ z) (fun z => List.mem_append_left _ z)) fun p hp => .inl hp)
    exact k o ρ6 H6 _ A6 y6 q6 f6'.same rg (c.step f6' wg (EnvR.keep sg _ en6 fun _ _ => rfl))
theorem Cp.wipe (c : Cp K H0 HF0 C D u σ' ρ' H2 HF2 A2) (vs : List Nat) (nd : vs.Nodup) (hlt : ∀ v ∈ vs, v < ρ'.length) : ∃ A7, Cp K H0 HF0 C D u (L2.wipe σ' vs) (wipeD ρ' vs) H2 HF2 A7 := by
  obtain ⟨C5, B5, pm5, _, enw5, _⟩ := holes c.en vs nd hlt
  have sub : ∀ p ∈ C5, p ∈ A2 := fun p hp => pm5.mem_iff.mpr (List.mem_append_left _ hp)
  have w7 : WR HF2 H2 (C5 ++ [D]) := by
    have : (A2 ++ [D]).Perm ((C5 ++ [D]) ++ B5) := (List.Perm.append_right [D] pm5).trans (by rw [List.append_assoc, List.append_assoc]; exact List.Perm.append_left C5 List.perm_append_comm)
    exact (c.wr.perm this).left
  exact ⟨C5, c.fr.mono (fun _ h => h) fun p hp => .inl ((List.mem_append.mp hp).elim (fun z => List.mem_append_left _ (sub p z)) fun z => List.mem_append_right _ z), w7, enw5, c.at_⟩
theorem Cp.put (c : Cp K H0 HF0 C D u σ' ρ' H2 HF2 A2) (u' : HO) : Cp K H0 HF0 C D u' σ' ρ' (upd H2 D u') HF2 A2 := by
  obtain ⟨w8, f8, k8⟩ := putD (K := K) (u := u') c.wr
  exact ⟨c.fr.trans f8, w8, k8 _ _ c.en, upd_same⟩
theorem Cp.rebase (c : Cp K H0 HF0 C D u σ' ρ' H2 HF2 A2) : Cp K H2 HF2 A2 D u σ' ρ' H2 HF2 A2 := ⟨.refl, c.wr, c.en, c.at_⟩
theorem Cp.over {u' : HO} {σ3 : St} {ρ3 : Env} {H3 HF3 : Hp} {A3 : List Addr} (c : Cp K H0 HF0 C D u σ' ρ' H2 HF2 A2) (c2 : Cp K H2 HF2 A2 D u' σ3 ρ3 H3 HF3 A3) : Cp K H0 HF0 C D u' σ3 ρ3 H3 HF3 A3 := ⟨c.fr.trans c2.fr, c2.wr, c2.en, c2.at_⟩
/-- what lies beside is kept -/
theorem Cp.side (c : Cp K H0 HF0 C D u σ' ρ' H2 HF2 A2) {p : Addr} {o : HO} (h : H0 p = some o) (n : p ∉ C ++ [D]) : H2 p = some o ∧ (HF0 p = none → HF2 p = none) ∧ p ∉ A2 ++ [D] :=
  ⟨c.fr.keep p o h n, c.fr.free p o h n, fun z => (c.fr.new p z).elim n fun q => by rw [h] at q; cases q⟩
theorem Cp.src {ti : TId} {Kd : List AE.D → Env → Prop} {R : It → Hp → Prop} (c : Cp K H0 HF0 C D u σ' ρ' H2 HF2 A2) (hi : ti ρ' Kd NoX)
    (k : ∀ items ρ6 J H6 HF6 A6 Av, Kd items ρ6 → Same HF2 HF6 → Cp K H0 HF0 C D u σ' ρ6 H6 HF6 A6 → (∀ p ∈ Av, ∃ o, H6 p = some o ∧ p ∉ A6 ++ [D]) → SrcR K HF6 H6 items Av J → R J H6) : tAI K WF ti σ' H2 R := by
  refine ⟨HF2, ρ', A2, Kd, NoX, c.wr.left, c.en, hi, fun items ρ6 q6 HF6 H6 A6 Av J f6 w6 tv en6 src => ?_, fun _ _ z => z.elim⟩
  obtain ⟨h1, w', f'⟩ := hold c.wr c.at_ f6 w6
  have ff : Fr H2 H6 HF2 HF6 (A2 ++ [D]) (A6 ++ [D]) := f'.mono (fun _ h => h) fun p hp => .inl ((List.mem_append.mp hp).elim (fun z => List.mem_append_left _ (List.mem_append_left _ z)) fun z => List.mem_append_right _ z)
  have pmw : ((A6 ++ Av) ++ [D]).Perm ((A6 ++ [D]) ++ Av) := by
    rw [List.append_assoc, List.append_assoc]
    exact List.Perm.append_left A6 List.perm_append_comm
  have w2 := w'.perm pmw
  refine k items ρ6 J H6 HF6 A6 Av q6 f6.same ⟨c.fr.trans ff, w2.left, en6, h1⟩ (fun p hp => ?_) src
  obtain ⟨o, ho⟩ := tv p hp
  exact ⟨o, ho, fun z => w2.disj p z hp⟩
/-- a comprehension's start and end -/
theorem comp_frame {HF1 H1 : Hp} {A1 Av : List Addr} {ρ1 : Env} {σ : St} {vs : List Nat} (w1 : WR HF1 H1 (A1 ++ Av)) (tv : ∀ p ∈ Av, ∃ o, H1 p = some o) (en1 : EnvR K HF1 H1 ρ1 σ A1) (hD : H1 D = none) (u0 : HO) (nd : vs.Nodup) (hlt : ∀ v ∈ vs, v < ρ1.length) :
    ∃ C, Cp K (upd H1 D u0) HF1 C D u0 (L2.wipe σ vs) (wipeD ρ1 vs) (upd H1 D u0) HF1 C ∧ (∀ {u σ' ρ' H2 HF2 A2}, Cp K (upd H1 D u0) HF1 C D u σ' ρ' H2 HF2 A2 → ∀ p ∈ Av, H2 p = H1 p) ∧
      ∀ {u ρ' H2 HF2 A2}, Cp K (upd H1 D u0) HF1 C D u (L2.wipe σ vs) (wipeD ρ' vs) H2 HF2 A2 → ρ'.length = ρ1.length → ∃ A3, Fr H1 H2 HF1 HF2 (A1 ++ Av) (A3 ++ [D]) ∧ WR HF2 H2 (A3 ++ [D]) ∧ EnvR K HF2 H2 (backL ρ1 (wipeD ρ' vs) vs) σ A3 := by
  obtain ⟨C, B, pm, tB, enw, back⟩ := holes en1 vs nd hlt
  have memC : ∀ p ∈ C, p ∈ A1 := fun p hp => pm.mem_iff.mpr (List.mem_append_left _ hp)
  have memB : ∀ p ∈ B, p ∈ A1 := fun p hp => pm.mem_iff.mpr (List.mem_append_right _ hp)
  have wCB : WR HF1 H1 (C ++ B) := w1.left.perm pm
  have tA1 := EnvR.there _ en1
  have nD : ∀ p o, H1 p = some o → p ≠ D := fun p o e z => by rw [z, hD] at e; cases e
  have w0 : WR HF1 (upd H1 D u0) (C ++ [D]) := by
    refine ⟨fun b o e => by rw [upd_ne (nD b o (w1.same b o e))]; exact w1.same b o e, List.nodup_append.mpr ⟨wCB.left.nodup, by simp, fun a ha b hb e => ?_⟩, fun a ha => ?_⟩
    · rw [List.mem_singleton.mp hb] at e
      obtain ⟨o, ho⟩ := tA1 a (memC a ha)
      exact nD a o ho e
    · rcases List.mem_append.mp ha with z | z
      · exact wCB.left.out a z
      · rw [List.mem_singleton.mp z]; exact w1.same.free hD
  have en0 : EnvR K HF1 (upd H1 D u0) (wipeD ρ1 vs) (L2.wipe σ vs) C := EnvR.keep (.refl _) _ enw fun p hp => by
    obtain ⟨o, ho⟩ := tA1 p (memC p hp)
    rw [upd_ne (nD p o ho)]
  have side : ∀ {u σ' ρ' H2 HF2 A2}, Cp K (upd H1 D u0) HF1 C D u σ' ρ' H2 HF2 A2 → ∀ p, (p ∈ B ∨ p ∈ Av) → H2 p = H1 p ∧ (HF1 p = none → HF2 p = none) ∧ p ∉ A2 ++ [D] := fun {u σ' ρ' H2 HF2 A2} c p hp => by
    obtain ⟨o, ho, hn⟩ : ∃ o, H1 p = some o ∧ p ∉ C := by
      rcases hp with hp | hp
      · obtain ⟨o, ho⟩ := tB p hp
        exact ⟨o, ho, fun z => wCB.disj p z hp⟩
      · obtain ⟨o, ho⟩ := tv p hp
        exact ⟨o, ho, fun z => w1.disj p (memC p z) hp⟩
    have e0 : upd H1 D u0 p = some o := by rw [upd_ne (nD p o ho)]; exact ho
    have n0 : p ∉ C ++ [D] := fun z => (List.mem_append.mp z).elim hn fun z => nD p o ho (List.mem_singleton.mp z)
    obtain ⟨s1, s2, s3⟩ := c.side e0 n0
    exact ⟨by rw [ho]; exact s1, s2, s3⟩
  refine ⟨C, ⟨.refl, w0, en0, upd_same⟩, fun c p hp => (side c p (.inr hp)).1, fun {u ρ' H2 HF2 A2} c hl2 => ?_⟩
  obtain ⟨A3, pm3, en3⟩ := back HF2 H2 (wipeD ρ' vs) A2 c.fr.same (fun p hp => (side c p (.inl hp)).1) c.en fun v hv => wipeD_none ρ' hv (by rw [hl2]; exact hlt v hv)
  have pm4 : (A3 ++ [D]).Perm ((A2 ++ [D]) ++ B) := (List.Perm.append_right [D] pm3).trans (by rw [List.append_assoc, List.append_assoc]; exact List.Perm.append_left A2 List.perm_append_comm)
  have w4 : WR HF2 H2 (A3 ++ [D]) := WR.perm (A := (A2 ++ [D]) ++ B) ⟨c.wr.same, List.nodup_append.mpr ⟨c.wr.nodup, wCB.right.nodup, fun a ha b hb e => (side c b (.inl hb)).2.2 (e ▸ ha)⟩, fun a ha => (List.mem_append.mp ha).elim (c.wr.out a) fun z => (side c a (.inl z)).2.1 (wCB.right.out a z)⟩ pm4.symm
  refine ⟨A3, ⟨c.fr.same, fun p o e n => ?_, fun p o e n fr => ?_, fun p hp => ?_⟩, w4, en3⟩
  · have nd' := nD p o e
    exact c.fr.keep p o (by rw [upd_ne nd']; exact e) fun z => (List.mem_append.mp z).elim (fun z => n (List.mem_append_left _ (memC p z))) fun z => nd' (List.mem_singleton.mp z)
  · have nd' := nD p o e
    exact c.fr.free p o (by rw [upd_ne nd']; exact e) (fun z => (List.mem_append.mp z).elim (fun z => n (List.mem_append_left _ (memC p z))) fun z => nd' (List.mem_singleton.mp z)) fr
  · rcases List.mem_append.mp (pm4.mem_iff.mp hp) with z | z
    · rcases c.fr.new p z with z | z
      · rcases List.mem_append.mp z with z | z
        · exact .inl (List.mem_append_left _ (memC p z))
        · rw [List.mem_singleton.mp z]; exact .inr hD
      · refine .inr ?_
        by_cases hp' : p = D
        · rw [hp']; exact hD
        · rw [upd_ne hp'] at z; exact z
    · exact .inl (List.mem_append_left _ (memB p z))
end
theorem wipe_pr {σ σ4 : St} {vs : List Nat} (p : Pr (butP vs) (wipe σ vs) σ4) : wipe σ4 vs = wipe σ vs ∧ σ4.length = σ.length := by
  refine ⟨?_, by rw [p.1, wipe_length]⟩
  have z : wipe σ4 vs = wipe (wipe σ vs) vs := wipe_eq p.1 fun j hj => p.2 j (by simp [butP]; simpa using hj)
  rw [z]
  exact wipe_eq (wipe_length _ _) fun j hj => wipe_out (by simpa using hj)

/-! ### {k: v for ..} -/
def tDcD (ti : TId) (vs : List Nat) (g : TGD) (tt : TDt) (tk tv : TD) : TD := fun ρ Kd Ed => ti ρ (fun items ρ1 => ∃ I : Nat → List (Key × D) → Env → Prop, I 0 [] (wipeD ρ1 vs) ∧
  (∀ i d acc ρ, items[i]? = some d → I i acc ρ → g (.fz d) ρ (fun ρ2 => tt ρ2 (fun b ρ3 => if b = true then tk ρ3 (fun ek ρ4 => match ek with
    | .ow (.fz dk) => (match keyD dk with
      | some k => tv ρ4 (fun ev ρ5 => match ev with
        | .ow o => acc.length < sizeLine ∧ I (i + 1) (putDk acc k (frz o)) (wipeD ρ5 vs)
        | .pt _ => False) NoX
      | none => False)
    | _ => False) NoX else I (i + 1) acc (wipeD ρ3 vs)) NoX)) ∧
  ∀ acc ρ, I items.length acc ρ → Kd (.ow (.dc acc)) (backL ρ1 ρ vs)) Ed
theorem dc_red {K : PySem.W.Frag} {W : WX} {vs : List Nat} {ti : TId} {g : TGD} {tt : TDt} {tk tv : TD} {n : Nat} (nd : vs.Nodup) (hlt : ∀ v ∈ vs, v < n) (σ : St) (H : Hp) (Q : VK) (hσ : σ.length = n) (q : tA K W (tDcD ti vs g tt tk tv) σ H Q) :
    tDc (tAI K W ti) (tG K (butP vs) g) (tAt K WF tt) (tA K WF tk) (tA K WF tv) vs σ H Q := by
  obtain ⟨HF, ρ, A, Kd, Ed, w, en, t, k, x⟩ := q
  refine ⟨HF, ρ, A, _, Ed, w, en, t, fun items ρ1 q1 HF1 H1 A1 Av J f1 w1 tv1 en1 src => fun D hD => ?_, x⟩
  obtain ⟨I, i0, turn, fin⟩ := q1
  obtain ⟨G, Y, wk, hG, hY⟩ := src
  have hl1 : σ.length = ρ1.length := en1.length
  have hlt1 : ∀ v ∈ vs, v < ρ1.length := fun v hv => by rw [← hl1, hσ]; exact hlt v hv
  obtain ⟨C, c0, side, fin1⟩ := comp_frame w1 tv1 en1 hD (.dK []) nd hlt1
  refine ⟨fun i m H2 => m = items.length - i ∧ i ≤ items.length ∧ ∃ HF2 ρ' A2 acc accv, Cp K (upd H1 D (.dK [])) HF1 C D (.dK accv) (wipe σ vs) (wipeD ρ' vs) H2 HF2 A2 ∧ RepKs K HF2 acc accv ∧ I i acc (wipeD ρ' vs) ∧ ρ'.length = ρ1.length, ⟨items.length, by simp, Nat.zero_le _, HF1, ρ1, C, [], [], c0, rfl, i0, rfl⟩, ?_⟩
  rintro i m H2 ⟨rfl, hi, HF2, ρ', A2, acc, accv, c2, ra, i2, hl2⟩
  have hG2 : G H2 := hG HF2 H2 c2.fr.same c2.wr.same (side c2)
  by_cases hlt2 : i < items.length
  · refine .inr ⟨wk.goes i H2 hlt2 hG2, fun H' => ∃ HF2 ρ' A2 acc accv, Cp K (upd H1 D (.dK [])) HF1 C D (.dK accv) (wipe σ vs) (wipeD ρ' vs) H' HF2 A2 ∧ RepKs K HF2 acc accv ∧ I (i + 1) acc (wipeD ρ' vs) ∧ ρ'.length = ρ1.length, fun H' h => ⟨items.length - (i + 1), by omega, rfl, hlt2, h⟩, fun y H3 yy => ?_⟩
    obtain ⟨d, HF3, hd, f3, s3, rd⟩ := hY i HF2 H2 y H3 c2.fr.same c2.wr.same (side c2) hlt2 (wk.yields i H2 y H3 hlt2 hG2 yy)
    have c3 := c2.item f3 s3
    refine c3.tgt rd (turn i d acc _ hd i2) fun ρ4 σ4 H4 HF4 A4 q4 p4 sm4 c4 => ?_
    obtain ⟨e4, l4⟩ := wipe_pr p4
    refine ⟨e4, c4.test q4 fun b ρ5 H5 HF5 A5 q5 sm5 c5 => ?_⟩
    have lr : ∀ {ρ : Env} {H HF : Hp} {A : List Addr}, Cp K (upd H1 D (.dK [])) HF1 C D (.dK accv) σ4 ρ H HF A → ρ.length = ρ1.length := fun c => by rw [← c.en.length, l4, hl1]
    cases b with
    | false =>
      simp only [Bool.false_eq_true, ↓reduceIte] at q5 ⊢
      obtain ⟨A7, c7⟩ := c5.wipe vs nd fun v hv => by rw [lr c5]; exact hlt1 v hv
      rw [e4] at c7
      exact ⟨HF5, ρ5, A7, acc, accv, c7, RepKs.mono (f3.same.trans (sm4.trans sm5)) _ ra, q5, lr c5⟩
    | true =>
      simp only [↓reduceIte] at q5 ⊢
      refine c5.elt q5 (fun i ρ z => z) fun ok ρ6 H6 HF6 A6 yk q6 sm6 rk c6 => ?_
      cases ok with
      | fz dk =>
        dsimp only at q6
        split at q6
        · rename_i key ek
          obtain rfl := keyD_ok ek (Vw.of (H := H6) c6.wr.same rk)
          refine c6.elt q6 (fun i ρ z => z) fun o ρ7 H7 HF7 A7 y7 q7 sm7 r7 c7 => ?_
          obtain ⟨A8, c8⟩ := c7.wipe vs nd fun v hv => by rw [lr c7]; exact hlt1 v hv
          rw [e4] at c8
          have ra7 := RepKs.mono (f3.same.trans (sm4.trans (sm5.trans (sm6.trans sm7)))) _ ra
          exact ⟨accv, key, rfl, c7.at_, by rw [ra.length]; exact q7.1, HF7, ρ7, A8, _, _, c8.put (.dK (putK accv key y7)), RepKs.put r7 ra7, q7.2, lr c7⟩
        · exact q6.elim
      | _ => exact q6.elim
  · have e : i = items.length := by omega
    subst e
    refine .inl ⟨wk.stops H2 hG2, ?_⟩
    obtain ⟨A3, ff, w4, en3⟩ := fin1 c2 hl2
    exact k _ _ (fin acc _ i2) HF2 H2 A3 (.ref D) [D] (f1.trans ff) w4 en3 ⟨D, accv, rfl, rfl, c2.at_, ra⟩
section
variable {X : Cx} {W : WX}
theorem ae_dc {kx vx tg iter : Expr} {ifs : List Expr} {scope : Scope} {own : List (Str × Nat)} {vs : List Nat} {pos : Pos} {ti : TId} {g : TGD} {tt : TDt} {tk tv : TD} (hc : X.calm = true) (hN : X.N.Nodup) (hi : AI X W tg iter ti) (ok : BlkOk X.N X.env.scope scope own) (hvs : own.map (·.2) = vs) (nd : vs.Nodup) (hlt : ∀ v ∈ vs, v < X.N.length)
    (hg : ∀ (s : Shared) (H : Hp) (C : Addr) (cl : List (Str × Addr)) (fp : List Addr), AG (X.blk s H scope (compEnvC scope cl C X.env) fp) (butP vs) tg g) (ht : ∀ (s : Shared) (H : Hp) (C : Addr) (cl : List (Str × Addr)) (fp : List Addr), ATs (X.blk s H scope (compEnvC scope cl C X.env) fp) WF ifs tt)
    (hk : ∀ (s : Shared) (H : Hp) (C : Addr) (cl : List (Str × Addr)) (fp : List Addr), AE (X.blk s H scope (compEnvC scope cl C X.env) fp) WF kx tk)
    (he : ∀ (s : Shared) (H : Hp) (C : Addr) (cl : List (Str × Addr)) (fp : List Addr), AE (X.blk s H scope (compEnvC scope cl C X.env) fp) WF vx tv) (hs : ∀ x, foldedSetIterable iter X.env x = pure x := by intro _; rfl) :
    AE X W (.DictComp kx vx [⟨tg, iter, ifs, 0⟩] scope pos) (tDcD ti vs g tt tk tv) := by
  have base : PE X (.DictComp kx vx [⟨tg, iter, ifs, 0⟩] scope pos) (tDc (tAI X.K W ti) (tG X.K (butP vs) g) (tAt X.K WF tt) (tA X.K WF tk) (tA X.K WF tv) vs) := by
    subst hvs
    exact pe_dc (own := own) (pos := pos) (g := tG X.K _ g) (tt := tAt X.K WF tt) (tk := tA X.K WF tk) (tv := tA X.K WF tv) hc hN hi ok hg ht hk he hs
  exact PE.impL base fun σ H Q hσ q => dc_red nd hlt σ H Q hσ q
end

/-! ### [e for .. for ..] -/
def tLc2D (ti : TId) (vs : List Nat) (g : TGD) (tt : TDt) (ti1 : TId) (vs1 : List Nat) (g1 : TGD) (tt1 : TDt) (te : TD) : TD := fun ρ Kd Ed => ti ρ (fun items ρ1 => ∃ I : Nat → List D → Env → Prop, I 0 [] (wipeD ρ1 vs) ∧
  (∀ i d acc ρ, items[i]? = some d → I i acc ρ → g (.fz d) ρ (fun ρ2 => tt ρ2 (fun b ρ3 => if b = true then ti1 ρ3 (fun items1 ρ4 => ∃ I1 : Nat → List D → Env → Prop, I1 0 acc (wipeD ρ4 vs1) ∧
      (∀ j d acc ρ, items1[j]? = some d → I1 j acc ρ → g1 (.fz d) ρ (fun ρ5 => tt1 ρ5 (fun b ρ6 => if b = true then te ρ6 (fun ev ρ7 => match ev with
        | .ow o => acc.length < sizeLine ∧ I1 (j + 1) (acc ++ [frz o]) (wipeD ρ7 vs1)
        | .pt _ => False) NoX else I1 (j + 1) acc (wipeD ρ6 vs1)) NoX)) ∧
      ∀ acc ρ, I1 items1.length acc ρ → I (i + 1) acc (wipeD ρ vs)) NoX
    else I (i + 1) acc (wipeD ρ3 vs)) NoX)) ∧
  ∀ acc ρ, I items.length acc ρ → Kd (.ow (.ls acc)) (backL ρ1 ρ vs)) Ed
theorem lc2_red {K : PySem.W.Frag} {W : WX} {vs vs1 : List Nat} {ti ti1 : TId} {g g1 : TGD} {tt tt1 : TDt} {te : TD} {n : Nat} (nd : vs.Nodup) (nd1 : vs1.Nodup) (hsub : ∀ v ∈ vs1, v ∈ vs) (hlt : ∀ v ∈ vs, v < n) (σ : St) (H : Hp) (Q : VK) (hσ : σ.length = n) (q : tA K W (tLc2D ti vs g tt ti1 vs1 g1 tt1 te) σ H Q) :
    tLc2 (tAI K W ti) (tG K (butP vs) g) (tAt K WF tt) (tAI K WF ti1) (tG K (butP vs1) g1) (tAt K WF tt1) (tA K WF te) vs vs1 σ H Q := by
  obtain ⟨HF, ρ, A, Kd, Ed, w, en, t, k, x⟩ := q
  refine ⟨HF, ρ, A, _, Ed, w, en, t, fun items ρ1 q1 HF1 H1 A1 Av J f1 w1 tv1 en1 src => fun D hD => ?_, x⟩
  obtain ⟨I, i0, turn, fin⟩ := q1
  obtain ⟨G, Y, wk, hG, hY⟩ := src
  have hl1 : σ.length = ρ1.length := en1.length
  have hlt1 : ∀ v ∈ vs, v < ρ1.length := fun v hv => by rw [← hl1, hσ]; exact hlt v hv
  obtain ⟨C, c0, side, fin1⟩ := comp_frame w1 tv1 en1 hD (.lst []) nd hlt1
  refine ⟨fun i m H2 => m = items.length - i ∧ i ≤ items.length ∧ ∃ HF2 ρ' A2 acc accv, Cp K (upd H1 D (.lst [])) HF1 C D (.lst accv) (wipe σ vs) (wipeD ρ' vs) H2 HF2 A2 ∧ Reps K HF2 acc accv ∧ I i acc (wipeD ρ' vs) ∧ ρ'.length = ρ1.length, ⟨items.length, by simp, Nat.zero_le _, HF1, ρ1, C, [], [], c0, rfl, i0, rfl⟩, ?_⟩
  rintro i m H2 ⟨rfl, hi, HF2, ρ', A2, acc, accv, c2, ra, i2, hl2⟩
  have hG2 : G H2 := hG HF2 H2 c2.fr.same c2.wr.same (side c2)
  by_cases hlt2 : i < items.length
  · refine .inr ⟨wk.goes i H2 hlt2 hG2, fun H' => ∃ HF2 ρ' A2 acc accv, Cp K (upd H1 D (.lst [])) HF1 C D (.lst accv) (wipe σ vs) (wipeD ρ' vs) H' HF2 A2 ∧ Reps K HF2 acc accv ∧ I (i + 1) acc (wipeD ρ' vs) ∧ ρ'.length = ρ1.length, fun H' h => ⟨items.length - (i + 1), by omega, rfl, hlt2, h⟩, fun y H3 yy => ?_⟩
    obtain ⟨d, HF3, hd, f3, s3, rd⟩ := hY i HF2 H2 y H3 c2.fr.same c2.wr.same (side c2) hlt2 (wk.yields i H2 y H3 hlt2 hG2 yy)
    have c3 := c2.item f3 s3
    refine c3.tgt rd (turn i d acc _ hd i2) fun ρ4 σ4 H4 HF4 A4 q4 p4 sm4 c4 => ?_
    obtain ⟨e4, l4⟩ := wipe_pr p4
    refine ⟨e4, c4.test q4 fun b ρ5 H5 HF5 A5 q5 sm5 c5 => ?_⟩
    have ra5 := Reps.mono (f3.same.trans (sm4.trans sm5)) _ ra
    have lr : ∀ {u : HO} {σ' : St} {ρ : Env} {H0 HF0 H HF : Hp} {C A : List Addr}, σ'.length = σ.length → Cp K H0 HF0 C D u σ' ρ H HF A → ρ.length = ρ1.length := fun hl c => by rw [← c.en.length, hl, hl1]
    -- a turn's end
    have fin2 : ∀ {u : HO} {ρ : Env} {H HF : Hp} {A : List Addr} {σ' : St}, Cp K (upd H1 D (.lst [])) HF1 C D u σ' ρ H HF A → wipe σ' vs = wipe σ vs → σ'.length = σ.length → ∃ A7, Cp K (upd H1 D (.lst [])) HF1 C D u (wipe σ vs) (wipeD ρ vs) H HF A7 := fun {u ρ H HF A σ'} c e l => by
      obtain ⟨A7, c7⟩ := c.wipe vs nd fun v hv => by rw [lr l c]; exact hlt1 v hv
      rw [e] at c7
      exact ⟨A7, c7⟩
    cases b with
    | false =>
      simp only [Bool.false_eq_true, ↓reduceIte] at q5 ⊢
      obtain ⟨A7, c7⟩ := fin2 c5 e4 l4
      exact ⟨HF5, ρ5, A7, acc, accv, c7, ra5, q5, lr l4 c5⟩
    | true =>
      simp only [↓reduceIte] at q5 ⊢
      refine c5.src q5 fun items1 ρ6 J1 H6 HF6 A6 Av1 q6 sm6 c6 hav src1 => ?_
      obtain ⟨I1, i01, turn1, fin1'⟩ := q6
      obtain ⟨G1, Y1, wk1, hG1, hY1⟩ := src1
      have hlv1 : ∀ v ∈ vs1, v < ρ6.length := fun v hv => by rw [lr l4 c6]; exact hlt1 v (hsub v hv)
      obtain ⟨A6', c6'⟩ := (c6.rebase).wipe vs1 nd1 hlv1
      have side1 : ∀ {u σ' ρ' H2 HF2 A2}, Cp K H6 HF6 A6 D u σ' ρ' H2 HF2 A2 → ∀ p ∈ Av1, H2 p = H6 p := fun c p hp => by
        obtain ⟨o, ho, hn⟩ := hav p hp
        rw [ho]; exact (c.side ho hn).1
      have ww : wipe (wipe σ4 vs1) vs = wipe σ vs := by
        rw [← e4]
        exact wipe_eq (wipe_length _ _) fun j hj => wipe_out (fun z => by have := hsub j z; simp [this] at hj)
      refine ⟨fun j kk H7 => kk = items1.length - j ∧ j ≤ items1.length ∧ ∃ HF7 ρ'' A7 acc accv, Cp K H6 HF6 A6 D (.lst accv) (wipe σ4 vs1) (wipeD ρ'' vs1) H7 HF7 A7 ∧ Reps K HF7 acc accv ∧ I1 j acc (wipeD ρ'' vs1) ∧ ρ''.length = ρ1.length, ⟨items1.length, by simp, Nat.zero_le _, HF6, ρ6, A6', acc, accv, c6', Reps.mono sm6 _ ra5, i01, lr l4 c6⟩, ?_⟩
      rintro j kk H7 ⟨rfl, hj, HF7, ρ'', A7, acc7, accv7, c7, ra7, i7, hl7⟩
      have hG7 : G1 H7 := hG1 HF7 H7 c7.fr.same c7.wr.same (side1 c7)
      by_cases hlt7 : j < items1.length
      · refine .inr ⟨wk1.goes j H7 hlt7 hG7, fun H' => ∃ HF7 ρ'' A7 acc accv, Cp K H6 HF6 A6 D (.lst accv) (wipe σ4 vs1) (wipeD ρ'' vs1) H' HF7 A7 ∧ Reps K HF7 acc accv ∧ I1 (j + 1) acc (wipeD ρ'' vs1) ∧ ρ''.length = ρ1.length, fun H' h => ⟨items1.length - (j + 1), by omega, rfl, hlt7, h⟩, fun y H8 yy => ?_⟩
        obtain ⟨d8, HF8, hd8, f8, s8, rd8⟩ := hY1 j HF7 H7 y H8 c7.fr.same c7.wr.same (side1 c7) hlt7 (wk1.yields j H7 y H8 hlt7 hG7 yy)
        have c8 := c7.item f8 s8
        refine c8.tgt rd8 (turn1 j d8 acc7 _ hd8 i7) fun ρ9 σ9 H9 HF9 A9 q9 p9 sm9 c9 => ?_
        obtain ⟨e9, l9⟩ := wipe_pr p9
        have l9' : σ9.length = σ.length := l9.trans l4
        refine ⟨e9, c9.test q9 fun b ρa Ha HFa Aa qa sma ca => ?_⟩
        have raa := Reps.mono (f8.same.trans (sm9.trans sma)) _ ra7
        have hlva : ∀ {ρ : Env}, ρ.length = ρ1.length → ∀ v ∈ vs1, v < ρ.length := fun hl v hv => by rw [hl]; exact hlt1 v (hsub v hv)
        cases b with
        | false =>
          simp only [Bool.false_eq_true, ↓reduceIte] at qa ⊢
          obtain ⟨Ab, cb⟩ := ca.wipe vs1 nd1 (hlva (lr l9' ca))
          rw [e9] at cb
          exact ⟨HFa, ρa, Ab, acc7, accv7, cb, raa, qa, lr l9' ca⟩
        | true =>
          simp only [↓reduceIte] at qa ⊢
          refine ca.elt qa (fun i ρ z => z) fun o ρb Hb HFb Ab y qb smb rb cb => ?_
          obtain ⟨Ac, cc⟩ := cb.wipe vs1 nd1 (hlva (lr l9' cb))
          rw [e9] at cc
          exact ⟨accv7, cb.at_, by rw [ra7.length]; exact qb.1, HFb, ρb, Ac, acc7 ++ [frz o], accv7 ++ [y], cc.put _, (Reps.mono smb _ raa).append (Reps.one rb), qb.2, lr l9' cb⟩
      · have e : j = items1.length := by omega
        subst e
        refine .inl ⟨wk1.stops H7 hG7, ?_⟩
        have cO : Cp K (upd H1 D (.lst [])) HF1 C D (.lst accv7) (wipe σ4 vs1) (wipeD ρ'' vs1) H7 HF7 A7 := c6.over c7
        obtain ⟨Ae, ce⟩ := fin2 cO ww (by rw [wipe_length]; exact l4)
        exact ⟨HF7, wipeD ρ'' vs1, Ae, acc7, accv7, ce, ra7, fin1' acc7 _ i7, by rw [wipeD_length]; exact hl7⟩
  · have e : i = items.length := by omega
    subst e
    refine .inl ⟨wk.stops H2 hG2, ?_⟩
    obtain ⟨A3, ff, w4, en3⟩ := fin1 c2 hl2
    exact k _ _ (fin acc _ i2) HF2 H2 A3 (.ref D) [D] (f1.trans ff) w4 en3 ⟨D, accv, rfl, rfl, c2.at_, ra⟩
section
variable {X : Cx} {W : WX} {P : Prot}
theorem ae_lc2 {elt tg iter tg1 iter1 : Expr} {ifs ifs1 : List Expr} {scope : Scope} {own : List (Str × Nat)} {vs vs1 : List Nat} {pos : Pos} {ti ti1 : TId} {g g1 : TGD} {tt tt1 : TDt} {te : TD} (hc : X.calm = true) (hN : X.N.Nodup) (hi : AI X W tg iter ti) (ok : BlkOk X.N X.env.scope scope own) (hvs : own.map (·.2) = vs) (nd : vs.Nodup) (nd1 : vs1.Nodup) (hsub : ∀ v ∈ vs1, v ∈ vs) (hlt : ∀ v ∈ vs, v < X.N.length)
    (hg : ∀ (s : Shared) (H : Hp) (C : Addr) (cl : List (Str × Addr)) (fp : List Addr), AG (X.blk s H scope (compEnvC scope cl C X.env) fp) (butP vs) tg g) (ht : ∀ (s : Shared) (H : Hp) (C : Addr) (cl : List (Str × Addr)) (fp : List Addr), ATs (X.blk s H scope (compEnvC scope cl C X.env) fp) WF ifs tt) (hi1 : ∀ (s : Shared) (H : Hp) (C : Addr) (cl : List (Str × Addr)) (fp : List Addr), AI (X.blk s H scope (compEnvC scope cl C X.env) fp) WF tg1 iter1 ti1) (hg1 : ∀ (s : Shared) (H : Hp) (C : Addr) (cl : List (Str × Addr)) (fp : List Addr), AG (X.blk s H scope (compEnvC scope cl C X.env) fp) (butP vs1) tg1 g1) (ht1 : ∀ (s : Shared) (H : Hp) (C : Addr) (cl : List (Str × Addr)) (fp : List Addr), ATs (X.blk s H scope (compEnvC scope cl C X.env) fp) WF ifs1 tt1) (he : ∀ (s : Shared) (H : Hp) (C : Addr) (cl : List (Str × Addr)) (fp : List Addr), AE (X.blk s H scope (compEnvC scope cl C X.env) fp) WF elt te) (hs : ∀ x, foldedSetIterable iter X.env x = pure x := by intro _; rfl) (hs1 : ∀ env x, foldedSetIterable iter1 env x = pure x := by intro _ _; rfl) :
    AE X W (.ListComp elt [⟨tg, iter, ifs, 0⟩, ⟨tg1, iter1, ifs1, 0⟩] scope pos) (tLc2D ti vs g tt ti1 vs1 g1 tt1 te) := by
  have base : PE X (.ListComp elt [⟨tg, iter, ifs, 0⟩, ⟨tg1, iter1, ifs1, 0⟩] scope pos) (tLc2 (tAI X.K W ti) (tG X.K (butP vs) g) (tAt X.K WF tt) (tAI X.K WF ti1) (tG X.K (butP vs1) g1) (tAt X.K WF tt1) (tA X.K WF te) vs vs1) := by
    subst hvs
    exact pe_lc2 (own := own) (pos := pos) (g := tG X.K _ g) (tt := tAt X.K WF tt) (wi1 := tAI X.K WF ti1) (g1 := tG X.K _ g1) (tt1 := tAt X.K WF tt1) (te := tA X.K WF te) hc hN hi ok hsub hg ht hi1 hg1 ht1 he hs hs1
  exact PE.impL base fun σ H Q hσ q => lc2_red nd nd1 hsub hlt σ H Q hσ q
/-- name = comprehension, from its reading -/
theorem setC {tc : TE} {t : TD} {i : Nat} {st : Stmt} (base : PS X st (tAsg tc (gName i))) (red : ∀ σ H Q, σ.length = X.N.length → tA X.K W t σ H Q → tc σ H Q) (hp : P i = false) : AS X W P st (tAsgD t (gNameD i)) := by
  refine PS.impL base fun D σ H hσ q => ?_
  obtain ⟨HF, ρ, A, E, Ed, w, en, t, k, x⟩ := q
  refine red σ H _ hσ ⟨HF, ρ, A, _, Ed, w, en, t, fun ev ρ1 q1 HF1 H1 A1 v Av f1 w1 en1 r1 => ?_, x.x⟩
  dsimp only at q1
  split at q1
  · rename_i o ρ2 e2
    obtain ⟨A', B, pm, en2, r2⟩ := moved_ok w1 en1 r1 e2
    have g' : (match ρ2[i]? with | some _ => E.nx (ρ2.set i (some o)) | none => False) := q1
    obtain ⟨hl, n⟩ : i < ρ2.length ∧ E.nx (ρ2.set i (some o)) := by
      cases e : ρ2[i]? with
      | none => rw [e] at g'; exact g'.elim
      | some y => rw [e] at g'; exact ⟨(List.getElem?_eq_some_iff.mp e).1, g'⟩
    obtain ⟨A2, w2, f2, en3⟩ := EnvR.store (w1.perm pm) en2 r2 hl
    refine k.nx _ n HF1 H1 _ A2 ⟨by simp, fun j hj => ?_⟩ (f1.mono (fun _ hp => hp) fun p hp => .inl (pm.mem_iff.mpr (f2 p hp))) w2 en3
    have : i ≠ j := fun e => by rw [e, hj] at hp; cases hp
    rw [List.getElem?_set_ne this]
  · exact q1.elim
theorem as_setLc2 {i : Nat} {y : Str} {py : Pos} {elt tg iter tg1 iter1 : Expr} {ifs ifs1 : List Expr} {scope : Scope} {own : List (Str × Nat)} {vs vs1 : List Nat} {pos spos : Pos} {ti ti1 : TId} {g g1 : TGD} {tt tt1 : TDt} {te : TD} (hc : X.calm = true) (hN : X.N.Nodup) (hy : X.N[i]? = some y) (hyl : X.env.scope.names.lookup y = some .local) (hp : P i = false)
    (hsw : swapsWith (.ListComp elt [⟨tg, iter, ifs, 0⟩, ⟨tg1, iter1, ifs1, 0⟩] scope pos) (some (.Name y py)) spos.line X.env = pure true) (hi : AI X W tg iter ti) (ok : BlkOk X.N X.env.scope scope own) (hvs : own.map (·.2) = vs) (nd : vs.Nodup) (nd1 : vs1.Nodup) (hsub : ∀ v ∈ vs1, v ∈ vs) (hlt : ∀ v ∈ vs, v < X.N.length)
    (hg : ∀ (s : Shared) (H : Hp) (C : Addr) (cl : List (Str × Addr)) (fp : List Addr), AG (X.blk s H scope (compEnvC scope cl C X.env) fp) (butP vs) tg g) (ht : ∀ (s : Shared) (H : Hp) (C : Addr) (cl : List (Str × Addr)) (fp : List Addr), ATs (X.blk s H scope (compEnvC scope cl C X.env) fp) WF ifs tt) (hi1 : ∀ (s : Shared) (H : Hp) (C : Addr) (cl : List (Str × Addr)) (fp : List Addr), AI (X.blk s H scope (compEnvC scope cl C X.env) fp) WF tg1 iter1 ti1) (hg1 : ∀ (s : Shared) (H : Hp) (C : Addr) (cl : List (Str × Addr)) (fp : List Addr), AG (X.blk s H scope (compEnvC scope cl C X.env) fp) (butP vs1) tg1 g1) (ht1 : ∀ (s : Shared) (H : Hp) (C : Addr) (cl : List (Str × Addr)) (fp : List Addr), ATs (X.blk s H scope (compEnvC scope cl C X.env) fp) WF ifs1 tt1) (he : ∀ (s : Shared) (H : Hp) (C : Addr) (cl : List (Str × Addr)) (fp : List Addr), AE (X.blk s H scope (compEnvC scope cl C X.env) fp) WF elt te) (hs : ∀ x, foldedSetIterable iter X.env x = pure x := by intro _; rfl) (hs1 : ∀ env x, foldedSetIterable iter1 env x = pure x := by intro _ _; rfl) :
    AS X W P (.Assign [.Name y py] (.ListComp elt [⟨tg, iter, ifs, 0⟩, ⟨tg1, iter1, ifs1, 0⟩] scope pos) spos) (tAsgD (tLc2D ti vs g tt ti1 vs1 g1 tt1 te) (gNameD i)) := by
  refine setC (tc := tLc2 (tAI X.K W ti) (tG X.K (butP vs) g) (tAt X.K WF tt) (tAI X.K WF ti1) (tG X.K (butP vs1) g1) (tAt X.K WF tt1) (tA X.K WF te) vs vs1) ?_ (fun σ H Q hσ q => lc2_red nd nd1 hsub hlt σ H Q hσ q) hp
  subst hvs
  exact ps_setLc2 (own := own) (g := tG X.K _ g) (tt := tAt X.K WF tt) (wi1 := tAI X.K WF ti1) (g1 := tG X.K _ g1) (tt1 := tAt X.K WF tt1) (te := tA X.K WF te) hc hN hy hyl hsw hi ok hsub hg ht hi1 hg1 ht1 he hs hs1
end
end AE
/-! AE26: enumerate of a tuple or a list. -/
namespace PySem
open Sem (wp)
set_option maxHeartbeats 4000000 in
theorem ae_enum_newB {v : Value} {o : Obj} {H : Heap → Prop} (B : PySem.Begins v o H) :
    Meets (Builtin.«enumerate.__new__» ⟨[.type "enumerate", v], []⟩) (fun _ R s => H s.heap ∧
      R (.ok (.ret (.ref (s.heap.push o).objs.size))) { s with heap := (s.heap.push o).push { cls := .type "enumerate", data := .fields #[.none, .bool false, .ref s.heap.objs.size, rawInt 0, .none, .none] } }) :=
  .of_wp fun prog w A R s h => by
    obtain ⟨hp, g, d, tk, os⟩ := s; obtain ⟨h1, h⟩ := h
    have hsub := sub_enumerate
    have q1 : ∀ {A' : Around} {E : Value → Shared → Prop} {Q : Value → Shared → Prop}, Q (.ref hp.objs.size) ⟨hp.push o, g, d, tk, os⟩ → wpAny (model prog w) A' (pyIter v) Q E ⟨hp, g, d, tk, os⟩ :=
      fun q => B.iter prog w _ _ ⟨hp, g, d, tk, os⟩ _ h1 q
    wp_walk using q1
    refine wpAny_stack_any fun st => wpAny_pure ?_
    split
    · rename_i c _ _ _ _ _
      cases (c == Value.type "enumerate")
      · wp_walk using q1
        exact ⟨_, rfl, h⟩
      · wp_walk using q1
        exact ⟨_, rfl, h⟩
    · wp_walk using q1
      exact ⟨_, rfl, h⟩
theorem ae_enum_begins {prog : Program} {w : World} {A : Around} {E : Value → Shared → Prop} {s : Shared} {v : Value} {o : Obj} {H : Heap → Prop} {Q : Value → Shared → Prop} (B : PySem.Begins v o H) (h1 : H s.heap)
    (h : ∀ h', IsEnum h' (s.heap.objs.size + 1) s.heap.objs.size 0 .none → h'.get? s.heap.objs.size = some o → h'.objs.size = s.heap.objs.size + 2 →
      (∀ b o, s.heap.get? b = some o → h'.get? b = some o) → Q (.ref (s.heap.objs.size + 1)) { s with heap := h' }) :
    wpAny (model prog w) A (call (.type "enumerate") [v]) Q E s := by
  refine callType_new F.called_enumerate (by decide) (F.typeCall_enumerate_1 _) (F.newCall_enumerate_1 _) (fun obj => F.args_object_init_2 obj _) F.entry_enumerate_new
    (ae_enum_newB B) ⟨h1, ?_⟩
  have hz : (s.heap.push o).objs.size = s.heap.objs.size + 1 := Heap.size_push ..
  show _ ∧ _
  rw [hz]
  have he : IsEnum ((s.heap.push o).push { cls := .type "enumerate", data := .fields #[.none, .bool false, .ref s.heap.objs.size, rawInt 0, .none, .none] }) (s.heap.objs.size + 1) s.heap.objs.size 0 .none := by
    have := Heap.get?_push_size (s.heap.push o) (o := { cls := .type "enumerate", data := .fields #[.none, .bool false, .ref s.heap.objs.size, rawInt 0, .none, .none] }) rfl
    rw [hz] at this; exact this
  refine ⟨⟨_, he, rfl⟩, h _ he (Heap.get?_push_of_some _ (Heap.get?_push_size _ B.free)) (by rw [Heap.size_push, hz]) fun b o x => Heap.get?_push_of_some _ (Heap.get?_push_of_some _ x)⟩
end PySem
namespace AE
open PySem L2
/-- the tuple at a as it stands, each item in a new pair -/
def Itet (K : PySem.W.Frag) (a : Addr) : It :=
  ⟨fun i H => ∃ (xs : List V) (x : V), SqT K H a xs ∧ xs[i]? = some x, fun i H v H' => ∃ T x, v = .ref T ∧ H T = none ∧ H' = upd H T (.tup [.int (i : Nat), x]) ∧ ∀ xs, SqT K H a xs → xs[i]? = some x, fun i H => ∃ xs : List V, SqT K H a xs ∧ xs.length = i⟩
theorem turn_enumT {P : Program} {w : World} {K : PySem.W.Frag} {elts : List Expr} {kk : Nat} {tpos : Pos} (a e it : Addr) :
    Turn P w K (.Tuple elts kk tpos) (Itet K a) [e, it] e (fun i h => (∃ old, IsEnum h e it ((i : Nat) : Int) old) ∧ h.IsTupleIter it a i ∧ e ≠ it) where
  mem := by simp
  obj := fun i h st b hb => by
    obtain ⟨⟨old, he⟩, ⟨o, ho, hc, hd⟩, _⟩ := st
    have e' : b = e ∨ b = it := by simpa using hb
    rcases e' with z | z
    · rw [z]; exact ⟨_, he, fun v q => nomatch q⟩
    · rw [z]; exact ⟨o, ho, fun v q => by rw [hd] at q; cases q⟩
  keep := fun i h h' st k => let ⟨⟨old, he⟩, hi, hne⟩ := st; ⟨⟨old, k e (by simp) _ he⟩, hi.at fun o q => k it (by simp) o q, hne⟩
  item := by
    intro X hP hw hK hc i pins s σ H E I hf st hg
    subst hP hw hK
    obtain ⟨⟨old, he⟩, hit, hne⟩ := st
    obtain ⟨xs, x, hq, hx⟩ := hg
    obtain ⟨its, rv, p, hz⟩ := I.tuple hq
    have pT : s.heap.IsTuple a its.toArray := p
    obtain ⟨u, hu, ru⟩ := rv.get hx
    have hel : e < s.heap.objs.size := Heap.lt_size he
    have hil : it < s.heap.objs.size := by obtain ⟨_, q, _⟩ := hit; exact Heap.lt_size q
    have hai : a ≠ it := fun z => by
      obtain ⟨o1, h1, c1, _⟩ := pT
      obtain ⟨o2, h2, c2, _⟩ := id hit
      rw [z, h2] at h1
      cases h1
      injection c1.symm.trans c2 with zz
      exact absurd zz (by decide)
    have hea : e ≠ a := fun z => by
      obtain ⟨o1, h1, c1, _⟩ := pT
      rw [← z, he] at h1
      cases h1
      injection c1 with zz
      exact absurd zz (by decide)
    have hii : i < its.toArray.size := by
      have := (List.getElem?_eq_some_iff.mp hu).1
      simpa using this
    refine wpAny_pyNext_enum_itemD (PySem.Draws.tuple (show X.A.in1.handled = none from I.ok.hd hc) it a hai its.toArray) he ⟨hit, pT⟩ hii hne (by simp [hne, hea]) fun y h' tk hy ho hst hT hsz hk => ?_
    have ey : y = u := by
      have z : its.toArray[i]? = some u := by simpa using hu
      rw [show its.toArray[i]? = some y from hy] at z
      exact Option.some.inj z
    subst ey
    refine ⟨_, rfl, wpAny_letOwnedTupleGo_enum (s := { s with heap := h', toks := tk + 1 }) ho fun h'' he' sb => ?_⟩
    have hT2 : h''.get? s.heap.objs.size = some { cls := .type "tuple", data := .seq #[.int i tk, y] } := (sb.2 _ (Nat.ne_of_gt hel)).trans hT
    have new : ObjOk X.prog X.w (upd H s.heap.objs.size (.tup [.int (i : Nat), x])) h'' s.heap.objs.size (.tup [.int (i : Nat), x]) :=
      ⟨by show 2 ≤ sizeLine; decide, [.int i tk, y], .cons ⟨_, rfl⟩ (.cons ru .nil), ⟨_, hT2, rfl, _, rfl⟩⟩
    have I1 : Inv X pins σ (upd H s.heap.objs.size (.tup [.int (i : Nat), x])) { s with heap := h'', toks := tk + 1 } :=
      I.turnedNew (ch := [e, it]) (fun b ob hb q => (sb.2 b (fun z => hb (by simp [z]))).trans (hk b ob (fun z => hb (by simp [z])) (fun z => hb (by simp [z])) q)) hf (Nat.le_refl _) new
    refine ⟨.ref s.heap.objs.size, _, I1, rfl, ⟨_, x, rfl, I.hok.fresh (Nat.le_refl _), rfl, fun ys hy => by rw [I.tuple_inj hy hq]; exact hx⟩, ⟨⟨y, ?_⟩, hst.1.at fun o q => (sb.2 it (Ne.symm hne)).trans q, hne⟩, fun b hb => ?_⟩
    · have e1 : ((i + 1 : Nat) : Int) = (i : Int) + 1 := by omega
      rw [e1]; exact he'
    · have hb' : b < s.heap.objs.size := by
        have e' : b = e ∨ b = it := by simpa using hb
        rcases e' with z | z
        · rw [z]; exact hel
        · rw [z]; exact hil
      rw [upd_ne (Nat.ne_of_lt hb')]
      exact (hf b hb).1
  done := by
    intro X hP hw hK hc i pins s σ H E I hf st hg
    subst hP hw hK
    obtain ⟨⟨old, he⟩, hit, hne⟩ := st
    obtain ⟨xs, hq, hx⟩ := hg
    obtain ⟨its, rv, p, hz⟩ := I.tuple hq
    have pT : s.heap.IsTuple a its.toArray := p
    have hai : a ≠ it := fun z => by
      obtain ⟨o1, h1, c1, _⟩ := pT
      obtain ⟨o2, h2, c2, _⟩ := id hit
      rw [z, h2] at h1
      cases h1
      injection c1.symm.trans c2 with zz
      exact absurd zz (by decide)
    obtain ⟨f0, f1, f2, f3, f4, f5⟩ := hf it (by simp)
    have hl := rv.length
    refine wpAny_pyNext_enum_endD (PySem.Draws.tuple (show X.A.in1.handled = none from I.ok.hd hc) it a hai its.toArray) he ⟨?_, pT⟩ fun h' eb => ⟨rfl, I.turned (t' := s.toks) (fun b o hb q => eb b o hb q) f0 f1 f3 f4 f5⟩
    have : its.toArray.size = i := by simp; omega
    rw [this]; exact hit
  self := fun A i s Q E st h => let ⟨⟨_, he⟩, _⟩ := st; wpAny_pyIter_enum he h
theorem walk_enumT {K : PySem.W.Frag} {a : Addr} {xs : List V} : Walk (Itet K a) xs.length (fun H => SqT K H a xs) (YPair (fun i => some (.int (i : Nat))) (fun i => xs[i]?)) := by
  refine ⟨fun i _ hi q => ⟨xs, xs[i], q, by simp [hi]⟩, fun _ q => ⟨xs, q, rfl⟩, fun i H v H' _ q y => ?_⟩
  obtain ⟨T, x, h1, h2, h3, h4⟩ := y
  exact ⟨T, .int (i : Nat), x, h1, h2, h3, rfl, h4 xs q⟩
def iEnumU (K : PySem.W.Frag) (ta : TA) : TI := fun σ H R => ta σ H fun vs H1 => (∃ a xs, vs = [.ref a] ∧ SqL K H1 a xs ∧ R (Ite K a) H1) ∨ ∃ a xs, vs = [.ref a] ∧ SqT K H1 a xs ∧ R (Itet K a) H1
theorem pi_enumU {X : Cx} {e : Expr} {ta : TA} {p pos tpos : Pos} {elts : List Expr} {kk : Nat} (hg : Gl X "enumerate") (hm : X.mg "enumerate" = none) (ha : PA X [e] ta) (hs : starEach [e] X.env = [(false, eval e X.env)]) :
    PI X (.Tuple elts kk tpos) (.Call (.Name "enumerate" p) [e] [] pos) (iEnumU X.K ta) := by
  refine ⟨fun pins s σ H R I h => ?_⟩
  refine PyProof.Rows.Call_ (ld_blt I hg hm PyProof.Rows.boot_enumerate (PyProof.Rows.callWith_type1 (thn (ha.run pos pins s σ H _ I h) fun us s1 ⟨vs, H1, I1, r1, q1⟩ => ?_) hs rfl))
  have fpo : ∀ b ∈ [s1.heap.objs.size + 1, s1.heap.objs.size], FpOk X pins H1 b := fun b hb => by
    have e' : b = s1.heap.objs.size + 1 ∨ b = s1.heap.objs.size := by simpa using hb
    have hle : s1.heap.objs.size ≤ b := by
      rcases e' with z | z
      · rw [z]; exact Nat.le_add_right _ _
      · rw [z]; exact Nat.le_refl _
    exact I1.fpOk hle (I1.hok.fresh hle)
  rcases q1 with ⟨a, xs, ex, hq, q⟩ | ⟨a, xs, ex, hq, q⟩
  · subst ex
    cases r1 with
    | cons r rr =>
      cases rr
      cases r
      obtain ⟨its, rv, p', hz⟩ := I1.list hq
      refine call_enumerate_list p'.isList fun h' he hit hsz hk => wpAny_pyIter_enum he ?_
      have I2 : Inv X pins σ H1 { s1 with heap := h' } := I1.kept (t' := s1.toks) hk
      exact ⟨s1.heap.objs.size + 1, [s1.heap.objs.size + 1, s1.heap.objs.size], _, _, H1, rfl, I2, turn_enum a (s1.heap.objs.size + 1) s1.heap.objs.size, ⟨⟨.none, he⟩, hit, Nat.succ_ne_self _⟩, fpo, q⟩
  · subst ex
    cases r1 with
    | cons r rr =>
      cases rr
      cases r
      obtain ⟨its, rv, p', hz⟩ := I1.tuple hq
      have pT : s1.heap.IsTuple a its.toArray := p'
      refine ae_enum_begins (PySem.begins_tuple a its.toArray) pT fun h' he hit hsz hk => wpAny_pyIter_enum he ?_
      have I2 : Inv X pins σ H1 { s1 with heap := h' } := I1.kept (t' := s1.toks) hk
      exact ⟨s1.heap.objs.size + 1, [s1.heap.objs.size + 1, s1.heap.objs.size], _, _, H1, rfl, I2, turn_enumT a (s1.heap.objs.size + 1) s1.heap.objs.size, ⟨⟨.none, he⟩, ⟨_, hit, rfl, rfl⟩, Nat.succ_ne_self _⟩, fpo, q⟩
/-- pairs of a number and an item -/
def enumD (ds : List D) : List D := (List.range ds.length).zipWith (fun i d => .tup [.int (i : Nat), d]) ds
theorem enumD_len {ds : List D} : (enumD ds).length = ds.length := by simp [enumD]
theorem enumD_get {ds : List D} {i : Nat} {d : D} (h : ds[i]? = some d) : (enumD ds)[i]? = some (.tup [.int (i : Nat), d]) := by
  have hi := (List.getElem?_eq_some_iff.mp h).1
  unfold enumD
  rw [List.getElem?_zipWith, List.getElem?_range hi, h]
def tIEnum (ts : TDs) : TId := fun ρ Kd Ed => ts ρ (fun evs ρ1 => match evs with
  | [.ow (.fz (.lst ds))] => Kd (enumD ds) ρ1
  | [.ow (.fz (.tup ds))] => Kd (enumD ds) ρ1
  | [.ow (.ls ds)] => Kd (enumD ds) ρ1
  | _ => False) Ed
theorem src_enum {K : PySem.W.Frag} {HF H : Hp} {ds : List D} {vs : List V} {Av : List Addr} {J : It} {G : Hp → Prop} (w : Walk J vs.length G (YPair (fun i => some (.int (i : Nat))) (fun i => vs[i]?))) (r : Reps K HF ds vs) (hG : ∀ HF2 H2, Same HF HF2 → Same HF2 H2 → (∀ p ∈ Av, H2 p = H p) → G H2) : SrcR K HF H (enumD ds) Av J := by
  refine ⟨G, _, by rw [enumD_len, ← r.length]; exact w, hG, fun i HF2 H2 x H3 s1 s2 k hi y => ?_⟩
  obtain ⟨T, z, y, rfl, hT, rfl, hz, hy⟩ := y
  obtain ⟨d, hd, rd⟩ := r.getV hy
  cases hz
  have n := New.tup (K := K) (HF := HF2) (H := H2) (ds := [.int (i : Nat), d]) (vs := [.int (i : Nat), y]) (p := T) s2 hT ⟨_, _, rfl, rfl, _, _, rfl, Rep.mono s1 d rd, rfl⟩
  exact ⟨_, _, enumD_get hd, n.fr, n.wr.same, n.rep.2⟩
theorem ai_enum {X : Cx} {W : WX} {e : Expr} {ts : TDs} {p pos tpos : Pos} {elts : List Expr} {kk : Nat} (hg : Gl X "enumerate") (hm : X.mg "enumerate" = none) (ha : AA X W [e] ts) (hs : starEach [e] X.env = [(false, eval e X.env)] := by rfl) :
    AI X W (.Tuple elts kk tpos) (.Call (.Name "enumerate" p) [e] [] pos) (tIEnum ts) := PI.imp (pi_enumU hg hm ha hs) fun σ H R q => by
  obtain ⟨HF, ρ, A, Kd, Ed, w, en, t, k, x⟩ := q
  refine ⟨HF, ρ, A, _, Ed, w, en, t, fun evs ρ1 q1 HF1 H1 A1 vs Av f1 w1 en1 r1 => ?_, x⟩
  dsimp only at q1
  split at q1
  · obtain ⟨v, ws, B1, B2, rfl, rfl, ⟨rfl, a, us, rfl, h1, rs⟩, rfl, rfl⟩ := r1
    exact .inl ⟨a, us, rfl, SqL.of (w1.same _ _ h1), k _ ρ1 q1 HF1 H1 A1 [] _ f1 w1 (fun _ h => by cases h) en1 (src_enum walk_enum rs fun HF2 H2 s1 s2 _ => SqL.of (s2 _ _ (s1 _ _ h1)))⟩
  · obtain ⟨v, ws, B1, B2, rfl, rfl, ⟨rfl, a, us, rfl, h1, rs⟩, rfl, rfl⟩ := r1
    exact .inr ⟨a, us, rfl, SqT.of (w1.same _ _ h1), k _ ρ1 q1 HF1 H1 A1 [] _ f1 w1 (fun _ h => by cases h) en1 (src_enum walk_enumT rs fun HF2 H2 s1 s2 _ => SqT.of (s2 _ _ (s1 _ _ h1)))⟩
  · obtain ⟨v, ws, B1, B2, rfl, rfl, ⟨a, us, rfl, rfl, h1, rs⟩, rfl, rfl⟩ := r1
    rw [List.append_nil] at f1 w1
    exact .inl ⟨a, us, rfl, SqL.of h1, k _ ρ1 q1 HF1 H1 A1 [a] _ f1 w1 (fun p hp => by rw [List.mem_singleton.mp hp]; exact ⟨_, h1⟩) en1 (src_enum walk_enum rs fun HF2 H2 s1 s2 k2 => SqL.of ((k2 a (by simp)).trans h1))⟩
  · exact q1.elim
end AE
/-! AE27: defs with defaults; keywords; classmethods; a class held by a name; own ==. -/
namespace AE
open PySem L2
open PyProof.Rows (envOfC)
section
variable {P : Program} {w : World} {K : PySem.W.Frag} {mg : Str → Option Value} {base : Heap}
/-- a def's promise by its body (with defaults too) -/
theorem FunD.okA {x qual : Str} {params : Arguments} {body : List Stmt} {scope : Scope} {dvs : List V} {kws : List (Str × V)} {f : Addr} {fd : FuncData} {N ps : List Str} {k : Nat} {F : AFn} (Fn : FunD K x qual params body scope dvs kws f fd) (S : FnScope N ps scope) (pr : Prot)
    (hbody : ∀ (cdv : Value) (A : Around) (outer : List PySem.Env) (s : Shared) (H : Hp) (E : XK), Room k (A.deeper (envOfC qual scope s.heap.objs.size f cdv)) →
      ∃ t, ASs (cxOf (L2N.CX P w) P w K mg base N qual scope f cdv A outer s H E) (fun cls d _ H => E cls d H) pr body t ∧
        ∀ os Kd Ed, os.length = ps.length → F os Kd Ed → t { nx := fun ρ => Kd (.fz .non) (leftD pr 0 os ρ), rt := fun o ρ => Kd o (leftD pr 0 os ρ) } (fun x ρ => Ed x (leftD pr 0 os ρ)) (startD N.length os)) :
    FnOk P w K mg base (L2N.CX P w) (k + 1) f fd ps (spA K ps.length F) := by
  obtain ⟨oc, od, dV, kV, doc, pm, an, cdv, ct, osl, rfl, lk, hcd, _, _⟩ := Fn.ex
  refine fn_of lk hcd S (fun vs H Q E h => ?_) (fun A outer s H vs Q E hr h => ?_)
  · obtain ⟨HF, os, A, Kd, Ed, hl, _⟩ := h
    exact hl
  · obtain ⟨HF, os, Af, Kd, Ed, hl, wr, en, hF, hK, hE⟩ := h
    have hol : os.length = ps.length := by
      have := en.length
      simp [ros, svs] at this
      omega
    have hpl : ps.length ≤ N.length := by
      have := congrArg List.length S.pre
      rw [List.length_take] at this
      omega
    have hst : (L2.start N vs).length = N.length := by
      unfold L2.start
      rw [List.length_append, List.length_map, List.length_replicate]
      omega
    have slot : ∀ j, j < os.length → (L2.start N vs)[j]? = (svs vs)[j]? := fun j hj => by
      unfold L2.start svs
      rw [List.getElem?_append_left (by rw [List.length_map]; omega)]
    obtain ⟨t, h1, h2⟩ := hbody cdv A outer s H E hr
    have fin : ∀ {ρ : Env} {HF' H' : Hp} {σ' : St} {A' : List Addr}, Pr pr (L2.start N vs) σ' → Same HF HF' → EnvR K HF' H' ρ σ' A' → ∃ B, B.Sublist A' ∧ EnvR K HF' H' (leftD pr 0 os ρ) (svs vs) B := fun {ρ HF' H' σ' A'} p s' en' => by
      refine leftD_ok s' en en' ?_ fun j hj hP => ?_
      · rw [← en'.length, p.1, hst]; omega
      · rw [Nat.zero_add] at hP
        rw [p.2 j hP, slot j hj]
    refine ⟨_, h1, HF, startD N.length os, Af, _, _, wr, ?_, h2 os Kd Ed hol hF, ⟨fun ρ n HF' H' σ' A' p f w' en' => ?_, fun o ρ n HF' H' σ' A' v Av p f w' en' r => ?_, fun ρ n => n.elim, fun ρ n => n.elim⟩, fun x ρ n HF' H' σ' A' cls d p f w' en' r => ?_⟩
    · show EnvR K HF H (ros os ++ List.replicate (N.length - os.length) none) (L2.start N vs) Af
      unfold L2.start
      rw [show N.length - vs.length = N.length - os.length by omega]
      exact EnvR.pad _ en
    · obtain ⟨B, hs, en2⟩ := fin p f.same en'
      exact hK _ _ n HF' H' B .non [] (by rw [List.append_nil]; exact f.mono (fun _ h => h) fun p hp => .inl (hs.subset hp)) (by rw [List.append_nil]; exact w'.sub hs) en2 ⟨rfl, rfl⟩
    · obtain ⟨B, hs, en2⟩ := fin p f.same en'
      have hs2 : (B ++ Av).Sublist (A' ++ Av) := List.Sublist.append_right hs Av
      exact hK _ _ n HF' H' B v Av (f.mono (fun _ h => h) fun p hp => .inl (hs2.subset hp)) (w'.sub hs2) en2 r
    · obtain ⟨B, hs, en2⟩ := fin p f.same en'
      exact hE _ _ n HF' H' B cls d (f.mono (fun _ h => h) fun p hp => .inl (hs.subset hp)) (w'.sub hs) en2 r
end
/-! ### pure arguments in another order -/
def selI {α : Type} (ix : List Nat) (l : List α) : List α := ix.filterMap fun i => l[i]?
theorem Reps.selI {K : PySem.W.Frag} {HF : Hp} {ds : List D} {vs : List V} (r : Reps K HF ds vs) : ∀ ix : List Nat, Reps K HF (AE.selI ix ds) (AE.selI ix vs)
  | [] => rfl
  | i :: ix => by
    unfold AE.selI
    rw [List.filterMap_cons, List.filterMap_cons]
    cases e : ds[i]? with
    | none =>
      have : vs[i]? = none := by rw [List.getElem?_eq_none_iff] at e ⊢; rw [r.length]; exact e
      rw [this]; exact Reps.selI r ix
    | some d =>
      obtain ⟨v, hv, rv⟩ := r.get e
      rw [hv]; exact ⟨v, _, rfl, rv, Reps.selI r ix⟩
theorem Vals.selI {vs : List V} {us : List Value} (r : Vals vs us) : ∀ ix : List Nat, Vals (AE.selI ix vs) (AE.selI ix us)
  | [] => .nil
  | i :: ix => by
    unfold AE.selI
    rw [List.filterMap_cons, List.filterMap_cons]
    cases e : vs[i]? with
    | none =>
      have : us[i]? = none := by rw [List.getElem?_eq_none_iff] at e ⊢; rw [← r.length]; exact e
      rw [this]; exact Vals.selI r ix
    | some d =>
      obtain ⟨v, hv, rv⟩ := r.get e
      rw [hv]; exact .cons rv (Vals.selI r ix)
theorem envR_pure {K : PySem.W.Frag} {HF H : Hp} : ∀ {ds : List D} {vs : List V}, Reps K HF ds vs → EnvR K HF H (ros (ds.map O.fz)) (svs vs) []
  | [], vs, h => by obtain rfl : vs = [] := h; exact ⟨rfl, rfl⟩
  | d :: ds, vs, h => by obtain ⟨v, ws, rfl, r, t⟩ := h; exact ⟨v, svs ws, [], [], rfl, rfl, ⟨rfl, r⟩, envR_pure t⟩
/-- a callee's promise met by pure arguments -/
theorem call_spZ {K : PySem.W.Frag} {σ : St} {HF1 H1 : Hp} {ρ1 : Env} {A1 Av : List Addr} {evs : List EV} {vs vs' : List V} {ds ds' : List D} {Kd : KD} {Ed : XC} {Q : VK} {E : XK} {F : AFn} {n : Nat} (hF : ∀ os Kd Ed, F os Kd Ed → os.length = n) (w1 : WR HF1 H1 (A1 ++ Av)) (en1 : EnvR K HF1 H1 ρ1 σ A1) (r1 : EVRs K HF1 H1 σ evs vs Av) (e : storedD evs = some ds)
    (hsel : ∀ HG, Reps K HG ds vs → Reps K HG ds' vs') (h : F (ds'.map O.fz) (fun o _ => Kd (.ow o) ρ1) (fun x _ => Ed x ρ1))
    (k : KOk K σ H1 HF1 (A1 ++ Av) Kd Q) (x : XOk K σ H1 HF1 (A1 ++ Av) Ed (fun c d _ H => E c d H)) : spA K n F vs' H1 Q E := by
  obtain ⟨s1, w2, f2⟩ := grow_ok (w1.perm List.perm_append_comm)
  have rs : Reps K (grow HF1 H1 Av) ds vs := stored_ok s1 r1 e fun p hp => grow_in hp
  have rs' := hsel _ rs
  have f3 : Fr H1 H1 HF1 (grow HF1 H1 Av) (A1 ++ Av) A1 := f2.mono (fun p hp => (List.mem_append.mp hp).elim (fun z => List.mem_append_right _ z) (fun z => List.mem_append_left _ z)) fun p hp => .inl hp
  have en2 := EnvR.keep (H' := H1) s1 _ en1 fun _ _ => rfl
  have tA1 := EnvR.there _ en2
  have hn : vs'.length = n := by
    have := hF _ _ _ h
    rw [List.length_map] at this
    rw [rs'.length]; exact this
  refine ⟨grow HF1 H1 Av, ds'.map O.fz, [], _, _, hn, ⟨w2.same, List.nodup_nil, fun _ h => by cases h⟩, envR_pure rs', h, fun o ρx q HF' H' A' v Av' f w' en' ro => ?_, fun xd ρx q HF' H' A' cls d f w' en' rx => ?_⟩
  · obtain ⟨k1, k2, k3⟩ := f.frame tA1 (fun _ _ h => by cases h)
    have k3' : ∀ p ∈ A1, p ∉ Av' := fun p hp z => k3 p hp (List.mem_append_right _ z)
    refine k _ _ q HF' H' A1 v Av' (f3.trans (f.mono (fun _ h => by cases h) fun p hp => (List.mem_append.mp hp).elim .inr fun z => .inl (List.mem_append_right _ z))) ?_ (EnvR.keep f.same _ en2 k1) ro
    exact ⟨w'.same, List.nodup_append.mpr ⟨w2.nodup, w'.right.nodup, fun a ha b hb e => k3' a ha (e ▸ hb)⟩, fun a ha => (List.mem_append.mp ha).elim (fun z => k2 a z (w2.out a z)) (w'.right.out a)⟩
  · obtain ⟨k1, k2, k3⟩ := f.frame tA1 (fun _ _ h => by cases h)
    refine x _ _ q HF' H' A1 cls d (f3.trans (f.mono (fun _ h => by cases h) fun p hp => .inr hp)) ⟨w'.same, w2.nodup, fun a ha => k2 a ha (w2.out a ha)⟩ (EnvR.keep f.same _ en2 k1) rx
/-- all arguments pure: pre, then those of ts by ix, then post -/
def tCallI (F : AFn) (pre : List D) (ix : List Nat) (post : List D) (ts : TDs) : TD := fun ρ Kd Ed => ts ρ (fun evs ρ1 => match storedD evs with
  | some ds => ix.length = ds.length ∧ F ((pre ++ (selI ix ds ++ post)).map O.fz) (fun o _ => Kd (.ow o) ρ1) (fun x _ => Ed x ρ1)
  | none => False) Ed
/-- a call by keywords -/
structure KwB (K : PySem.W.Frag) (fd : FuncData) (ps : List Str) (n : Nat) (ks : List Str) (ix : List Nat) : Prop where
  to : ∀ (s : Shared) (us ws : List Value), K.In s.heap → us.length = n → ws.length = ks.length → BindsTo s fd ⟨us, ks.zip ws⟩ (ps.zip (us ++ selI ix ws))
theorem KwB.of {K : PySem.W.Frag} {x qual : Str} {params : Arguments} {body : List Stmt} {scope : Scope} {kws : List (Str × V)} {f : Addr} {fd : FuncData} {ps ks : List Str} {n : Nat} {ix : List Nat} (F : FunD K x qual params body scope [] kws f fd)
    (h : ∀ (kV doc pm : Value) (an : Option Addr) (cdv ct : Value) (us ws : List Value), us.length = n → ws.length = ks.length → bindArgs (PySem.W.fnOf x qual params body scope .none kV doc pm an cdv ct) ⟨us, ks.zip ws⟩ = pure (ps.zip (us ++ selI ix ws))) : KwB K fd ps n ks ix := by
  obtain ⟨oc, od, dV, kV, doc, pm, an, cdv, ct, osl, rfl, lk, hcd, hD, hK⟩ := F.ex
  rcases hD with ⟨_, rfl⟩ | ⟨e, _⟩
  · exact ⟨fun s us ws _ h1 h2 => .of_eq (h kV doc pm an cdv ct us ws h1 h2)⟩
  · exact absurd rfl e
section
variable {X : Cx} {W : WX} {lv : Nat} {C : Addr} {m : Str} {ps ks : List Str} {F : AFn} {o e : Expr} {es : List Expr} {kws : List Keyword} {to : TD} {ts : TDs} {apos pos : Pos} {mc : Value} {p g : Addr} {ix : List Nat}
/-- a classmethod, and what it does -/
structure CMt (P : Program) (w : World) (K : PySem.W.Frag) (mg : Str → Option Value) (base : Heap) (lv : Nat) (C : Addr) (m : Str) (ps : List Str) (F : AFn) (ks : List Str) (ix : List Nat) : Prop where
  ex : ∃ mc p g fd, ClX.CRead K C mc ∧ ClX.CMet K C mc m p g ∧ Binds K fd ps [] ∧ KwB K fd ps 1 ks ix ∧ FnOk P w K mg base (L2N.CX P w) lv g fd ps (spA K ps.length F)
  len : ∀ os Kd Ed, F os Kd Ed → os.length = ps.length
def tCls (C : Addr) (to ta : TD) : TD := fun ρ Kd Ed => to ρ (fun e1 ρ1 => match e1 with
  | .ow (.fz (.cl C')) => C' = C ∧ ta ρ1 Kd Ed
  | _ => False) Ed
/-- C.m(k = e, ..) -/
theorem ae_cmethK {pl : Sem Bool} (M : CMt X.prog X.w X.K X.mg X.base lv C m ps F ks ix) (hr : Room lv X.A) (tk : L2N.Takes X W) (ho : AE X W o to) (ha : AK X W kws ts) (hall : (backToKw pos (keywordEach kws X.env)).all (·.1.isSome) = true := by rfl) (hks : (backToKw pos (keywordEach kws X.env)).filterMap (·.1) = ks := by rfl)
    (hpl : ((backTo pos (starEach [] X.env)).any (·.1) || (backToKw pos (keywordEach kws X.env)).any (·.1.isNone)) = false := by rfl)
    (ht : eval (.Call (.Attribute o m apos) [] kws pos) X.env = (do
      let ov ← eval o X.env
      standAt apos.atName
      let (f, first) ← holding [ov] (getMethod ov m pl)
      callWith pos f first (backTo pos (starEach [] X.env)) (backToKw pos (keywordEach kws X.env))) := by rfl)
    (hik : ks.length = ix.length := by rfl) : AE X W (.Call (.Attribute o m apos) [] kws pos) (tCls C to (tCallI F [.cl C] ix [] ts)) := by
  obtain ⟨mc, p, g, fd, r, c, _, hb, G⟩ := M.ex
  refine ⟨fun pins s σ H Q I h => ?_⟩
  obtain ⟨HF, ρ, A, Kd, Ed, w, en, t, k, x⟩ := h
  refine PySem.W.methodCall_KW (pl := pl) (thn (ho.run pins s σ H (fun v H1 => v = .ref C ∧ tAs X.K W ts σ H1 fun vs H2 => vs.length = ks.length ∧ spA X.K ps.length F (.ref C :: selI ix vs) H2 Q (WE W σ)) I ⟨HF, ρ, A, _, Ed, w, en, t, fun e1 ρ1 q1 HF1 H1 A1 v1 Av1 f1 w1 en1 r1 => ?_, x⟩) fun u s1 ⟨y, H1, I1, rx, ex, q⟩ => ?_) ht
  · dsimp only at q1
    split at q1
    · obtain ⟨rfl, q1⟩ := q1
      obtain ⟨rfl, rfl⟩ := r1
      rw [List.append_nil] at f1 w1
      refine ⟨rfl, HF1, ρ1, A1, _, Ed, w1, en1, q1, fun evs ρ2 q2 HF2 H2 A2 vs Av f2 w2 en2 r2 => ?_, x.step f1⟩
      dsimp only at q2
      split at q2
      · rename_i ds e
        obtain ⟨hl2, q2⟩ := q2
        have hvl : vs.length = ds.length := (stored_ok (HG := grow HF2 H2 Av) (grow_ok (w2.perm List.perm_append_comm)).1 r2 e fun p hp => grow_in hp).length
        refine ⟨by rw [hvl, ← hl2]; exact hik.symm, ?_⟩
        refine call_spZ (E := WE W σ) M.len w2 en2 r2 e (ds' := [.cl _] ++ (selI ix ds ++ [])) (vs' := _) (fun HG rs => ?_) q2 (k.step (f1.trans f2)) ((x.step f1).step f2)
        rw [List.append_nil]
        exact ⟨_, _, rfl, rfl, Reps.selI rs ix⟩
      · exact q2.elim
    · exact q1.elim
  · subst ex
    obtain rfl : u = Value.ref C := rx
    refine ClX.getmethcm_ok I1 r c fun s2 I2 => ?_
    refine PySem.W.callWith_of (P := PySem.W.MethP X.K _ g (.ref C)) hpl (PySem.W.keeps_M c.fi) (PyProof.Rows.evalArgs_kw2_nil hall (thn (ha.run pos _ s2 σ H1 _ I2 q) fun ws s3 ⟨zs, H2, I3, rz, hl, q2⟩ => ⟨⟨ClX.pin_at I3, I3.kIn⟩, ?_⟩))
    rw [hks]
    have l2 : ws.length = ks.length := rz.length.symm.trans hl
    have rr : Vals (V.ref C :: selI ix zs) (Value.ref C :: selI ix ws) := .cons rfl (Vals.selI rz ix)
    have z : wpAny (model X.prog X.w) X.A (call (.ref _) ([] ++ []) (ks.zip ws)) (EP X ((_, PySem.W.methodObj (.ref g) (.ref C)) :: pins) σ Q) X.xe s3 :=
      wpAny_call (PySem.W.method_call (ClX.pin_at I3) (codeAny_mono (G.run X.A X.stack s3 H2 ⟨[.ref C], ks.zip ws⟩ (.ref C :: selI ix ws) (.ref C :: selI ix zs) Q (WE W σ) hr I3.env0 (hb.to s3 [.ref C] ws I3.kIn rfl l2) rr q2) fun r s' hq => by
        cases r with
        | error e => exact L2N.passAt tk σ _ _ _ e s' I3 hq
        | ok fl =>
          cases fl with
          | ret u => exact I3.after hq
          | next => exact False.elim hq
          | brk => exact False.elim hq
          | cont => exact False.elim hq))
    exact thn z fun _ _ y => ClX.unpinE y
end
end AE
/-! AE28: isinstance in a suite; own ==; list.index; len and in of own classes. -/
namespace AE
open PySem L2
/-! ### isinstance of the exception that a suite holds -/
def rIsX (K : PySem.W.Frag) (a : Addr) (cls : Value) (d : Option Addr) : List V → Hp → VK → Prop := fun xs H Q => ∃ (c : V) (cv : Value) (C : Addr) (b : Bool), xs = [.ref a, c] ∧ ClsV c cv ∧ cls = .ref C ∧ XIs K C ∧ (d = none ∨ ∃ p fvs, d = some p ∧ H p = some (.xd fvs)) ∧ PySem.W.kitOne K cls cv = some b ∧ Q (.bl b) H
theorem call_isX {X : Cx} {a : Addr} {cls : Value} {d : Option Addr} {oe : Obj} {pn : List (Addr × Obj)} (hz : L2N.Zn cls d oe) (hf : ∃ vs, oe.data = .fields vs) : CallR (X.suite a ((a, oe) :: pn)) (.builtin "isinstance") (rIsX X.K a cls d) := by
  intro pins s σ H xs us Q I r h
  obtain ⟨c, cv, C, b, rfl, hcv, rfl, z, hd, e, q⟩ := h
  obtain ⟨u1, u2, rfl, r1, r2⟩ := vals2 r
  obtain rfl : u1 = Value.ref a := r1
  obtain rfl := hcv.eq r2
  obtain ⟨ha, _⟩ := I.pin (a, oe) (List.mem_append_left _ List.mem_cons_self)
  obtain ⟨vs, hv⟩ := hf
  have key : ∃ od, PySem.W.InstAt s.heap a oe C od := by
    rcases hd with rfl | ⟨p, fvs, rfl, hp⟩
    · exact ⟨none, ha, hz.1, by unfold PySem.W.notCls; rw [hv], by rw [hz.2.1]; trivial⟩
    · have hx : ObjOk X.prog X.w H s.heap p (.xd fvs) := I.hok p _ hp
      obtain ⟨mA, hns, hr⟩ := hx
      obtain ⟨od, ho, hl⟩ := lookIn_ns hns
      exact ⟨some od, ha, hz.1, by unfold PySem.W.notCls; rw [hv], by rw [hz.2.1]; exact ho⟩
  obtain ⟨od, J⟩ := key
  exact PySem.W.kia_one (PySem.W.kitx_exc (od := od) z.cl z.ga z.gg z.sb z.ca z.sg z.tk z.mo) I.kIn J e (fun y => nomatch y) fun tk => ⟨.bl b, H, I.tok tk, rfl, q⟩
def fIsX (K : PySem.W.Frag) (a : Addr) (cls : Value) (d : Option Addr) : Env → List EV → KD → Prop := fun ρ es Kd => match es with
  | [e1, e2] => (match dOf ρ e1 with
    | some (.exc a' _ d' _) => a' = a ∧ d' = d ∧ (match dOf ρ e2 with
      | some c => ∃ C cv b, cls = .ref C ∧ XIs K C ∧ clsD c = some cv ∧ PySem.W.kitOne K cls cv = some b ∧ Kd (.ow (.fz (.bl b))) ρ
      | none => False)
    | _ => False)
  | _ => False
theorem prim_isX {K : PySem.W.Frag} {a : Addr} {cls : Value} {d : Option Addr} : Prim K (rIsX K a cls d) (fIsX K a cls d) := fun σ HF H ρ A Av evs vs Kd Q w en r q k => by
  unfold fIsX at q
  split at q
  · rename_i e1 e2
    split at q
    · rename_i a' cls' d' fs ed
      obtain ⟨rfl, rfl, q⟩ := q
      split at q
      · rename_i c ec
        obtain ⟨C, cv, b, rfl, hz, hc, e, q⟩ := q
        obtain ⟨v, ws, A1, A2, rfl, rfl, r1, v2, ws2, A3, A4, rfl, rfl, r2, rfl, rfl⟩ := r
        have rv : Vw K HF H (.exc a' cls' d' fs) v := Vw.ev w.same en r1 ed
        obtain ⟨rfl, rx⟩ := rv
        refine ⟨v2, cv, C, b, rfl, clsD_ok hc (Vw.ofC hc (Vw.ev w.same en r2 ec)), rfl, hz, ?_, e, k.new w en q (New.imm w.same rfl)⟩
        rcases rx with ⟨h1, _⟩ | ⟨p, fvs, h1, h2, _⟩
        · exact .inl h1
        · exact .inr ⟨p, fvs, h1, w.same _ _ h2⟩
      · exact q.elim
    · exact q.elim
  · exact q.elim
theorem ae_isiX {X : Cx} {W : WX} {a : Addr} {cls : Value} {d : Option Addr} {oe : Obj} {pn : List (Addr × Obj)} {e : Expr} {es : List Expr} {ts : TDs} {p pos : Pos} (hz : L2N.Zn cls d oe) (hf : ∃ vs, oe.data = .fields vs) (hg : Gl (X.suite a ((a, oe) :: pn)) "isinstance") (hm : X.mg "isinstance" = none) (ha : AA (X.suite a ((a, oe) :: pn)) W (e :: es) ts)
    (he : starEach (e :: es) X.env = (false, eval e X.env) :: starEach es X.env := by rfl) (hpl : (backTo pos (starEach es X.env)).any (·.1) = false := by rfl) :
    AE (X.suite a ((a, oe) :: pn)) W (.Call (.Name "isinstance" p) (e :: es) [] pos) (tN (fIsX X.K a cls d) ts) := ae_callB (call_isX hz hf) prim_isX hg hm (by decide +kernel) ha (by decide) (by decide) he hpl

/-! ### own == -/
structure EqO (P : Program) (w : World) (K : PySem.W.Frag) (mg : Str → Option Value) (base : Heap) (lv : Nat) (C : Addr) (F : AFn) : Prop where
  ex : ∃ f fd ps, PySem.W.findIn K (.ref C) "__eq__" = some (some (.ref f)) ∧ PySem.W.isFn K (.ref f) = true ∧ Binds K fd ps [] ∧ ps.length = 2 ∧ FnOk P w K mg base (L2N.CX P w) lv f fd ps (spA K ps.length F)
  len : ∀ os Kd Ed, F os Kd Ed → os.length = 2
  nf : PySem.W.notFirst K C (.ref C) = true
def rEqO (K : PySem.W.Frag) (C : Addr) (F : AFn) : R2 := fun x y H Q => ∃ a b dx dy fs gs, x = .ref a ∧ y = .ref b ∧ H a = some (.ins C dx fs) ∧ H b = some (.ins C dy gs) ∧ spA K 2 F [x, y] H (fun v H' => ∃ z, v = .bl z ∧ Q v H') (fun _ _ _ => False)
theorem op_eqO {X : Cx} {lv : Nat} {C : Addr} {F : AFn} (M : EqO X.prog X.w X.K X.mg X.base lv C F) (hr : Room lv X.A) : OpR X (compareOp .Eq) (rEqO X.K C F) := by
  intro pins s σ H x y v u Q I rx ry h
  obtain ⟨a, b, dx, dy, fs, gs, rfl, rfl, ha, hb', hsp⟩ := h
  obtain ⟨f, fd, ps, hs, hf, hb, hl2, G⟩ := M.ex
  rw [← hl2] at hsp
  cases rx
  cases ry
  obtain ⟨mA, J, _⟩ := ins_get I.hok ha
  obtain ⟨mB, J', _⟩ := ins_get I.hok hb'
  obtain ⟨od, J, _⟩ := J.look
  obtain ⟨od', J', _⟩ := J'.look
  obtain ⟨m, hF⟩ := I.fr
  show wpAny (model X.prog X.w) X.A (richCompare .Eq (.ref a) (.ref b)) (EP X pins σ Q) X.xe s
  refine PySem.W.cmp_K (op := .Eq) (tb := .ref C) hr.units0 hF I.ok.mod.kin J J'.type M.nf hs hf ?_
  refine thn (run_fnSD (E := fun _ _ _ _ => False) (us := [.ref a, .ref b]) (vs := [.ref a, .ref b]) G hr hb .nil (fun pins H s e s' I c => (passE0N pins σ H s e s' I c)) I (.cons rfl (.cons rfl .nil)) hsp) fun r s' hq => ?_
  obtain ⟨v, H', I', rv, z, rfl, q⟩ := hq
  obtain rfl : r = .bool z := rv
  exact ⟨.bl z, H', I', rfl, q⟩
def boolK (Kd : KD) : KD := fun ev ρ => match ev with
  | .ow (.fz (.bl b)) => Kd (.ow (.fz (.bl b))) ρ
  | _ => False
def fEqO (C : Addr) (F : AFn) : Env → List EV → KD → Prop := fun ρ es Kd => match es with
  | [e1, e2] => isIns ρ e1 C ∧ isIns ρ e2 C ∧ callK F [e1, e2] ρ (boolK Kd) NoX
  | _ => False
theorem prim_eqO {K : PySem.W.Frag} {C : Addr} {F : AFn} (hlen : ∀ os Kd Ed, F os Kd Ed → os.length = 2) : Prim K (r2L (rEqO K C F)) (fEqO C F) := fun σ HF H ρ A Av evs vs Kd Q w en r q k => by
  unfold fEqO at q
  split at q
  · rename_i e1 e2
    obtain ⟨q1, q2, q3⟩ := q
    have r0 := r
    obtain ⟨v, ws, A1, A2, rfl, rfl, r1, v2, ws2, A3, A4, rfl, rfl, r2, rfl, rfl⟩ := r
    obtain ⟨a, dx, fs, rfl, ha⟩ := isIns_ok w.same en r1 q1
    obtain ⟨b, dy, gs, rfl, hb⟩ := isIns_ok w.same en r2 q2
    refine ⟨a, b, dx, dy, fs, gs, rfl, rfl, ha, hb, call_sp hlen w en r0 q3 (fun ev ρ1 q4 HF1 H1 A1 v Av f1 w1 en1 r1 => ?_) (fun xd ρ3 q3 => q3.elim)⟩
    unfold boolK at q4
    split at q4
    · rename_i z
      obtain ⟨rfl, rfl⟩ := id r1
      exact ⟨z, rfl, k _ _ q4 HF1 H1 A1 _ _ f1 w1 en1 r1⟩
    · exact q4.elim
  · exact q.elim
theorem c_eqO {X : Cx} {lv : Nat} {C : Addr} {F : AFn} (M : EqO X.prog X.w X.K X.mg X.base lv C F) (hr : Room lv X.A) : CR X .Eq (fEqO C F) := ⟨_, op_eqO M hr, prim_eqO M.len⟩

/-! ### xs.index(x) -/
def fIndex : Env → List EV → KD → Prop := fun ρ es Kd => match es with
  | [e1, e2] => (match dOf ρ e1 with
    | some (.lst ys) => (match dOf ρ e2 with
      | some d => flatD d = true ∧ ys.all flatD = true ∧ ∃ (j : Nat) (z : D), ys[j]? = some z ∧ dEq z d = true ∧ (∀ (m : Nat) (z' : D), m < j → ys[m]? = some z' → dEq z' d = false) ∧ Kd (.ow (.fz (.int (j : Nat)))) ρ
      | none => False)
    | _ => False)
  | _ => False
theorem prim_index {K : PySem.W.Frag} : Prim K (rML (rIndex K)) fIndex := fun σ HF H ρ A Av evs vs Kd Q w en r q k => by
  unfold fIndex at q
  split at q
  · rename_i e1 e2
    split at q
    · rename_i ys ey
      split at q
      · rename_i d ed
        obtain ⟨fd, fys, j, z, hz, hzd, hno, q⟩ := q
        obtain ⟨v, ws, A1, A2, rfl, rfl, r1, v2, ws2, A3, A4, rfl, rfl, r2, rfl, rfl⟩ := r
        obtain ⟨a, us, rfl, hH, rs⟩ := (show Vw K HF H (.lst ys) v from Vw.ev w.same en r1 ey)
        have rd := flat_vw fd (Vw.ev w.same en r2 ed)
        obtain ⟨u, hu, ru⟩ := rs.get hz
        have fz : flatD z = true := List.all_eq_true.mp fys z (List.mem_of_getElem? hz)
        have allf : us.all flatV = true := (inV_dIn fd rd fys rs).1
        refine ⟨a, us, v2, j, u, rfl, rfl, SqL.of hH, (eqV_dEq fd fz rd ru).1, allf, hu, by rw [(eqV_dEq fz fd ru rd).2]; exact hzd, fun m z' hm hz' => ?_, k.new w en q (New.imm w.same rfl)⟩
        obtain ⟨d', hd', rd'⟩ := rs.getV hz'
        have fd' : flatD d' = true := List.all_eq_true.mp fys d' (List.mem_of_getElem? hd')
        rw [(eqV_dEq fd' fd rd' rd).2]
        exact hno m d' hm hd'
      · exact q.elim
    · exact q.elim
  · exact q.elim
section
variable {X : Cx} {W : WX} {o e : Expr} {to : TD} {ts : TDs} {apos cpos : Pos}
theorem ae_index (ho : AE X W o to) (ha : AA X W [e] ts) (hbase : attributeBase o "index" X.env (eval o X.env) = eval o X.env := by rfl)
    (hfew : ((backTo cpos (starEach [e] X.env)).all (fun x => !x.1) && (backToKw cpos (keywordEach [] X.env)).all (fun x => x.1.isSome)
      && decide (([e] : List Expr).length + ([] : List Keyword).length + (if ([] : List Keyword).isEmpty then 0 else 1) < 30)) = true := by rfl)
    (hline : (apos.endLine == cpos.line) = true := by rfl) (hs : starEach [e] X.env = (false, eval e X.env) :: starEach [] X.env := by rfl) :
    AE X W (.Call (.Attribute o "index" apos) [e] [] cpos) (tMtL fIndex to ts) := ae_mtL PySem.F.slot_list_index PySem.F.type_list_index mt_index prim_index ho ha hbase hfew hline hs rfl
end
end AE
/-! AH4: a head with classes: defs at any address; what classes must say, as Bools over the written part. -/
namespace AH
open PySem L2 AE
def seeC (n : Nat) (chk : PySem.W.Frag → Bool) (fn : List He5.DefA) (g : Addr → Option Obj) : Bool × He.AlD :=
  let K := He.frG g (He5.asA g n)
  (chk K, He5.obsA [] fn K)
def SaysC (chk : PySem.W.Frag → Bool) (fn : List He5.DefA) (K : PySem.W.Frag) : Prop := chk K = true ∧ He5.SaysA [] fn K
def hookC (n : Nat) (chk : PySem.W.Frag → Bool) (fn : List He5.DefA) : PySem.W.Hook where
  α := Bool × He.AlD
  obs := fun s => seeC n chk fn s.heap.get?
  val := fun _ => (true, He5.valA fn)
  says := fun _ h => ∃ K : PySem.W.Frag, K.In h ∧ SaysC chk fn K
  of := fun _ _ e => ⟨_, He.frG_in, congrArg Prod.fst e, congrArg Prod.snd e⟩
  keeps := fun _ _ _ ⟨K, hK, c⟩ k => ⟨K, PySem.W.Frag.In.keeps hK k, c⟩
theorem seeC_eq {n : Nat} {chk : PySem.W.Frag → Bool} {fn : List He5.DefA} (s : PySem.W.SharedT) : seeC n chk fn (HandSHeadRun.getT s) = (hookC n chk fn).obs s.abs := by
  have e : HandSHeadRun.getT s = s.abs.heap.get? := funext (HandSHeadRun.getT_eq s)
  rw [e]
  rfl
/-! ### classes -/
abbrev ma (K : PySem.W.Frag) (C : Addr) (m : Str) : Addr := He.ma K C m
def clsB (K : PySem.W.Frag) (C : Addr) : Bool := PySem.W.plainGet K C Str.empty && (PySem.W.hasDictIn K C && (PySem.W.plainOver K C && decide (PySem.W.findIn K (.ref C) "__setattr__" = some (some (.builtin "object.__setattr__")))))
theorem clsB_ok {K : PySem.W.Frag} {C : Addr} (c : clsB K C = true) : Cls K C := by
  obtain ⟨c1, c⟩ := andB c
  obtain ⟨c2, c⟩ := andB c
  obtain ⟨c3, c4⟩ := andB c
  exact ⟨c1, c2, c3, of_decide_eq_true c4⟩
def fldB (K : PySem.W.Frag) (C : Addr) (f : Str) : Bool := decide (PySem.W.findIn K (.ref C) f = some none)
theorem fldB_ok {K : PySem.W.Frag} {C : Addr} {f : Str} (c : Cls K C) (h : fldB K C f = true) : FldOk K C f := ⟨c, show PySem.W.findIn K (.ref C) f = some none from of_decide_eq_true h⟩
def insB (K : PySem.W.Frag) (C : Addr) : Bool := decide (PySem.W.findIn K (.ref C) "__class__" = some (some (.builtin "object.__class__"))) && (decide (PySem.W.specialIn K (.builtin "object.__class__") "__get__" = some (some (.builtin "getset_descriptor.__get__"))) && (decide (PySem.W.takesIn K (.builtin "object.__class__") = some true) && decide (PySem.W.mroIn K C (.type "object") = some true)))
theorem insB_ok {K : PySem.W.Frag} {C : Addr} (c : Cls K C) (h : insB K C = true) : InsIs K C := by
  obtain ⟨c1, h⟩ := andB h
  obtain ⟨c2, h⟩ := andB h
  obtain ⟨c3, c4⟩ := andB h
  exact ⟨c, of_decide_eq_true c1, of_decide_eq_true c2, of_decide_eq_true c3, of_decide_eq_true c4⟩
def mkB (K : PySem.W.Frag) (C : Addr) : Bool := PySem.W.makesIn K C && (decide (PySem.W.findIn K (.ref C) "__init__" = some (some (.ref (ma K C "__init__")))) && (PySem.W.isFn K (.ref (ma K C "__init__")) && PySem.W.keepIn K (.ref C)))
theorem mkB_ok {K : PySem.W.Frag} {C : Addr} (c : mkB K C = true) : Mk K C (ma K C "__init__") := by
  obtain ⟨c1, c⟩ := andB c
  obtain ⟨c2, c⟩ := andB c
  obtain ⟨c3, c4⟩ := andB c
  exact ⟨c1, of_decide_eq_true c2, c3, c4⟩
def methB (K : PySem.W.Frag) (C : Addr) (m : Str) : Bool := decide (PySem.W.findIn K (.ref C) m = some (some (.ref (ma K C m)))) && (PySem.W.isFn K (.ref (ma K C m)) && PySem.W.keepIn K (.ref (ma K C m)))
theorem methB_ok {K : PySem.W.Frag} {C : Addr} {m : Str} (c : methB K C m = true) : Meth K C m (ma K C m) := by
  obtain ⟨c1, c⟩ := andB c
  obtain ⟨c2, c3⟩ := andB c
  exact ⟨of_decide_eq_true c1, c2, c3⟩
/-- a property's getter, a classmethod's def -/
abbrev wf (T : String) (x m : Str) (K : PySem.W.Frag) : Addr := He5.wf K (C K x) T m
def propB (K : PySem.W.Frag) (C : Addr) (m : Str) : Bool := decide (PySem.W.findIn K (.ref C) m = some (some (.ref (ma K C m)))) && (decide (PySem.W.specialIn K (.ref (ma K C m)) "__get__" = some (some (.builtin "property.__get__"))) && (decide (PySem.W.takesIn K (.ref (ma K C m)) = some true) && (match PySem.W.recIn K (ma K C m) "property" with
  | some (.ref _ :: _) => true
  | _ => false)))
theorem propB_ok {K : PySem.W.Frag} {C : Addr} {m : Str} (c : propB K C m = true) : PropOf K C m (ma K C m) (He5.wf K C "property" m) := by
  obtain ⟨c1, c⟩ := andB c
  obtain ⟨c2, c⟩ := andB c
  obtain ⟨c3, c4⟩ := andB c
  refine ⟨of_decide_eq_true c1, of_decide_eq_true c2, of_decide_eq_true c3, ?_⟩
  unfold He5.wf
  split at c4
  · rename_i f r e
    exact ⟨r, by rw [show He.ma K C m = ma K C m from rfl, e]⟩
  · cases c4
def creadB (K : PySem.W.Frag) (C : Addr) : Bool := PySem.W.readsIn K C (.type "type") && decide (PySem.W.specialIn K (.ref C) "__getattribute__" = some (some (.builtin "type.__getattribute__")))
theorem creadB_ok {K : PySem.W.Frag} {C : Addr} (c : creadB K C = true) : ClX.CRead K C (.type "type") := by
  obtain ⟨c1, c2⟩ := andB c
  exact ⟨c1, of_decide_eq_true c2⟩
def cmetB (K : PySem.W.Frag) (C : Addr) (m : Str) : Bool := He5.wrapB K C "classmethod" "classmethod.__get__" m && PySem.W.fnIn K (He5.wf K C "classmethod" m)
theorem cmetB_ok {K : PySem.W.Frag} {C : Addr} {m : Str} (c : cmetB K C m = true) : ClX.CMet K C (.type "type") m (ma K C m) (He5.wf K C "classmethod" m) := by
  obtain ⟨c1, c2⟩ := andB c
  exact He5.cmet_of c1 c2
/-- the module's name x is a constant -/
def conB (K : PySem.W.Frag) (x : Str) (v : V) : Bool := match PySem.W.nsIn K mainGlobals x with
  | some (some u) => He.relB v u
  | _ => false
theorem conB_ok {K : PySem.W.Frag} {h : Heap} {mg : Str → Option Value} {x : Str} {v : V} {d : D} (X : K.In h) (G : h.Ns mainGlobals mg) (c : conB K x v = true) (r : ∀ H, Rep K H d v) : GlobD K mg x d := by
  unfold conB at c
  split at c
  · rename_i u e
    exact ⟨u, v, PySem.W.mg_of X G e, He.relB_ok c, r⟩
  · cases c
theorem tup_ok {K : PySem.W.Frag} {h : Heap} {mg : Str → Option Value} {x : Str} {vs : List He.Dv} {ds : List D} (X : K.In h) (G : h.Ns mainGlobals mg) (g : gloB K x = true) (c : He.tupB K x vs = true) (r : ∀ H, Reps K H ds (vs.map (He.Dv.v K))) : GlobD K mg x (.kt ds) :=
  ⟨_, .ref _, gloB_ok X G g, rfl, fun H => ⟨_, _, rfl, He.tupB_ok c H, r H⟩⟩
end AH
namespace AH
open PySem L2 AE
/-- the i-th default of the def at a, if it is an object -/
def dflA (a : PySem.W.Frag → Addr) (i : Nat) (K : PySem.W.Frag) : Addr := match K.lookup (a K) with
  | some ⟨_, _, .func fd, _⟩ => (match fd.defaults with
    | .ref T => (match K.lookup T with
      | some ⟨_, _, .seq its _, _⟩ => (match its.toList[i]? with
        | some (.ref a) => a
        | _ => 0)
      | _ => 0)
    | _ => 0)
  | _ => 0
/-- every parameter is given, though there are defaults -/
theorem bindsAll {K : PySem.W.Frag} {x qual : Str} {params : Arguments} {body : List Stmt} {scope : Scope} {dvs : List V} {kws : List (Str × V)} {f : Addr} {fd : FuncData} {ps : List Str} (F : FunD K x qual params body scope dvs kws f fd) (hd : dvs ≠ [])
    (h : ∀ (T : Addr) (kV doc pm : Value) (an : Option Addr) (cdv ct : Value) (us its : List Value), us.length = ps.length → its.length = dvs.length →
      ∃ k, bindArgs (PySem.W.fnOf x qual params body scope (.ref T) kV doc pm an cdv ct) ⟨us, []⟩ = seqItems? (.ref T) >>= k ∧ k (some its.toArray) = pure (ps.zip us)) : Binds K fd ps [] := by
  obtain ⟨ds, hv, hb⟩ := FunD.binds1 (ps := ps) F ps.length dvs.length hd (by simp) (fun T kV doc pm an cdv ct us its h1 h2 => by
    obtain ⟨k, e1, e2⟩ := h T kV doc pm an cdv ct us its h1 h2
    refine ⟨k, e1, ?_⟩
    rw [e2, ← h2, List.drop_length, List.append_nil])
  rw [List.drop_length] at hv
  cases hv
  exact hb
end AH
theorem AE.ltAll {vs : List Nat} {n : Nat} (h : (vs.all fun v => Nat.blt v n) = true) : ∀ v ∈ vs, v < n := fun v hv => by
  have := List.all_eq_true.mp h v hv
  exact Nat.blt_eq.mp this
/-! AP1: plain lemmas for readings: comprehensions and loops. -/
namespace AE
open PySem L2
theorem take_succ_of {α : Type} {l : List α} {i : Nat} {d : α} (h : l[i]? = some d) : l.take (i + 1) = l.take i ++ [d] := by
  obtain ⟨hi, e⟩ := List.getElem?_eq_some_iff.mp h
  rw [List.take_succ_eq_append_getElem hi, e]
/-- a comprehension: what is kept of each item; the slots stay -/
theorem compFM {items : List D} {ρ0 : Env} {f : D → Option D} {step : (Nat → List D → Env → Prop) → Nat → D → List D → Env → Prop} {Kd : List D → Env → Prop}
    (hstep : ∀ I i d acc, items[i]? = some d → acc.length ≤ i → I (i + 1) (acc ++ (f d).toList) ρ0 → step I i d acc ρ0) (fin : Kd (items.filterMap f) ρ0) :
    ∃ I : Nat → List D → Env → Prop, I 0 [] ρ0 ∧ (∀ i d acc ρ, items[i]? = some d → I i acc ρ → step I i d acc ρ) ∧ ∀ acc ρ, I items.length acc ρ → Kd acc ρ := by
  refine ⟨fun i acc ρ => acc = (items.take i).filterMap f ∧ ρ = ρ0, ⟨rfl, rfl⟩, ?_, ?_⟩
  · rintro i d acc ρ hd ⟨rfl, rfl⟩
    refine hstep _ i d _ hd (Nat.le_trans (List.length_filterMap_le _ _) (List.length_take_le _ _)) ⟨?_, rfl⟩
    rw [take_succ_of hd, List.filterMap_append]
    cases e : f d <;> simp [e]
  · rintro acc ρ ⟨rfl, rfl⟩
    rw [List.take_length]; exact fin
theorem compMap {items : List D} {ρ0 : Env} {f : D → D} {step : (Nat → List D → Env → Prop) → Nat → D → List D → Env → Prop} {Kd : List D → Env → Prop}
    (hstep : ∀ I i d acc, items[i]? = some d → acc.length = i → I (i + 1) (acc ++ [f d]) ρ0 → step I i d acc ρ0) (fin : Kd (items.map f) ρ0) :
    ∃ I : Nat → List D → Env → Prop, I 0 [] ρ0 ∧ (∀ i d acc ρ, items[i]? = some d → I i acc ρ → step I i d acc ρ) ∧ ∀ acc ρ, I items.length acc ρ → Kd acc ρ := by
  refine ⟨fun i acc ρ => acc = (items.take i).map f ∧ ρ = ρ0, ⟨rfl, rfl⟩, ?_, ?_⟩
  · rintro i d acc ρ hd ⟨rfl, rfl⟩
    have hi := (List.getElem?_eq_some_iff.mp hd).1
    refine hstep _ i d _ hd (by rw [List.length_map, List.length_take]; omega) ⟨?_, rfl⟩
    rw [take_succ_of hd, List.map_append]; rfl
  · rintro acc ρ ⟨rfl, rfl⟩
    rw [List.take_length]; exact fin
/-- the inner clause of a comprehension: it starts with acc0 -/
theorem compIn {items : List D} {ρ0 : Env} {acc0 : List D} {f : D → Option D} {step : (Nat → List D → Env → Prop) → Nat → D → List D → Env → Prop} {Kd : List D → Env → Prop}
    (hstep : ∀ I i d acc, items[i]? = some d → acc.length ≤ acc0.length + i → I (i + 1) (acc ++ (f d).toList) ρ0 → step I i d acc ρ0) (fin : Kd (acc0 ++ items.filterMap f) ρ0) :
    ∃ I : Nat → List D → Env → Prop, I 0 acc0 ρ0 ∧ (∀ i d acc ρ, items[i]? = some d → I i acc ρ → step I i d acc ρ) ∧ ∀ acc ρ, I items.length acc ρ → Kd acc ρ := by
  refine ⟨fun i acc ρ => acc = acc0 ++ (items.take i).filterMap f ∧ ρ = ρ0, ⟨by simp, rfl⟩, ?_, ?_⟩
  · rintro i d acc ρ hd ⟨rfl, rfl⟩
    refine hstep _ i d _ hd ?_ ⟨?_, rfl⟩
    · rw [List.length_append]
      have := List.length_filterMap_le f (items.take i)
      have := List.length_take_le i items
      omega
    rw [take_succ_of hd, List.filterMap_append, List.append_assoc]
    cases e : f d <;> simp [e]
  · rintro acc ρ ⟨rfl, rfl⟩
    rw [List.take_length]; exact fin
/-- the outer clause: each item adds a list; at most w a turn -/
theorem compOut {items : List D} {ρ0 : Env} {f : D → List D} {step : (Nat → List D → Env → Prop) → Nat → D → List D → Env → Prop} {Kd : List D → Env → Prop} (w : Nat) (hw : ∀ d ∈ items, (f d).length ≤ w)
    (hstep : ∀ I i d acc, items[i]? = some d → acc.length ≤ w * i → I (i + 1) (acc ++ f d) ρ0 → step I i d acc ρ0) (fin : Kd (items.flatMap f) ρ0) :
    ∃ I : Nat → List D → Env → Prop, I 0 [] ρ0 ∧ (∀ i d acc ρ, items[i]? = some d → I i acc ρ → step I i d acc ρ) ∧ ∀ acc ρ, I items.length acc ρ → Kd acc ρ := by
  refine ⟨fun i acc ρ => acc = (items.take i).flatMap f ∧ acc.length ≤ w * i ∧ ρ = ρ0, ⟨rfl, by simp, rfl⟩, ?_, ?_⟩
  · rintro i d acc ρ hd ⟨rfl, hl, rfl⟩
    have hi := (List.getElem?_eq_some_iff.mp hd).1
    refine hstep _ i d _ hd hl ⟨?_, ?_, rfl⟩
    · rw [take_succ_of hd, List.flatMap_append]; simp
    · rw [List.length_append]
      have := hw d (List.mem_of_getElem? hd)
      rw [Nat.mul_succ]; omega
  · rintro acc ρ ⟨rfl, _, rfl⟩
    rw [List.take_length]; exact fin
/-- a dict comprehension -/
theorem compDict {items : List D} {ρ0 : Env} {f : D → Key × D} {step : (Nat → List (Key × D) → Env → Prop) → Nat → D → List (Key × D) → Env → Prop} {Kd : List (Key × D) → Env → Prop}
    (hstep : ∀ I i d acc, items[i]? = some d → acc.length ≤ i → I (i + 1) (putDk acc (f d).1 (f d).2) ρ0 → step I i d acc ρ0) (fin : Kd (items.foldl (fun acc d => putDk acc (f d).1 (f d).2) []) ρ0) :
    ∃ I : Nat → List (Key × D) → Env → Prop, I 0 [] ρ0 ∧ (∀ i d acc ρ, items[i]? = some d → I i acc ρ → step I i d acc ρ) ∧ ∀ acc ρ, I items.length acc ρ → Kd acc ρ := by
  have put_len : ∀ (l : List (Key × D)) k v, (putDk l k v).length ≤ l.length + 1 := fun l k v => by
    unfold putDk
    split <;> simp
  refine ⟨fun i acc ρ => acc = (items.take i).foldl (fun acc d => putDk acc (f d).1 (f d).2) [] ∧ acc.length ≤ i ∧ ρ = ρ0, ⟨rfl, by simp, rfl⟩, ?_, ?_⟩
  · rintro i d acc ρ hd ⟨rfl, hl, rfl⟩
    refine hstep _ i d _ hd hl ⟨?_, Nat.le_trans (put_len _ _ _) (by omega), rfl⟩
    rw [take_succ_of hd, List.foldl_append]; rfl
  · rintro acc ρ ⟨rfl, _, rfl⟩
    rw [List.take_length]; exact fin
/-- a for that checks each item -/
theorem forAll {items : List D} {Inv : Env → Prop} {step : (Nat → Env → Prop) → Nat → D → Env → Prop} {N : Env → Prop} {ρ1 : Env} (h0 : Inv ρ1)
    (hstep : ∀ I i d ρ, items[i]? = some d → Inv ρ → (∀ ρ', Inv ρ' → I (i + 1) ρ') → step I i d ρ) (fin : ∀ ρ, Inv ρ → N ρ) :
    ∃ I : Nat → Env → Prop, I 0 ρ1 ∧ (∀ i d ρ, items[i]? = some d → I i ρ → step I i d ρ) ∧ ∀ ρ, I items.length ρ → N ρ :=
  ⟨fun _ ρ => Inv ρ, h0, fun i d ρ hd hI => hstep _ i d ρ hd hI fun ρ' h => h, fin⟩
theorem xorB_false {b : Bool} : xorB false b = b := rfl
theorem xorB_true {b : Bool} : xorB true b = !b := rfl
theorem sz_lt {n : Nat} (h : n < 1000000) : n < sizeLine := by rw [sizeLine_eq]; omega
theorem sz_le {n : Nat} (h : n ≤ 1000000) : n ≤ sizeLine := by rw [sizeLine_eq]; omega
theorem dEq_str {x y : Str} : dEq (.str x) (.str y) = (x == y) := rfl
theorem dIn_str {x : Str} {ys : List Str} : dIn (.str x) (ys.map D.str) = decide (x ∈ ys) := by
  unfold dIn
  rw [List.any_map]
  by_cases h : x ∈ ys
  · rw [decide_eq_true h, List.any_eq_true]
    exact ⟨x, h, by simp [dEq]⟩
  · rw [decide_eq_false h, List.any_eq_false]
    intro y hy
    simp only [Function.comp, dEq_str, beq_iff_eq]
    exact fun e => h (e ▸ hy)
theorem flat_strs {ys : List Str} : (ys.map D.str).all flatD = true := by
  rw [List.all_eq_true]
  intro d hd
  obtain ⟨y, _, rfl⟩ := List.mem_map.mp hd
  rfl
end AE
namespace AE
open PySem L2
theorem storedD_fz : ∀ (xs : List D) {es : List EV} {ds : List D}, storedD es = some ds → storedD (xs.map (fun d => EV.ow (.fz d)) ++ es) = some (xs ++ ds)
  | [], es, ds, h => h
  | x :: xs, es, ds, h => by
    show (match storedD (xs.map (fun d => EV.ow (.fz d)) ++ es) with | some ds => some (frz (.fz x) :: ds) | none => none) = _
    rw [storedD_fz xs h]; rfl
theorem tDisp_at {mk : List D → O} {evs : List EV} {ds : List D} {Kd : KD} {ρ : Env} (h : storedD evs = some ds) (k : ds.length ≤ sizeLine ∧ Kd (.ow (mk ds)) ρ) : (match storedD evs with
  | some ds => ds.length ≤ sizeLine ∧ Kd (.ow (mk ds)) ρ
  | none => False) := by rw [h]; exact k
theorem enumD_inv {ds : List D} {i : Nat} {d : D} (h : (enumD ds)[i]? = some d) : ∃ x, ds[i]? = some x ∧ d = .tup [.int (i : Nat), x] := by
  have hl := (List.getElem?_eq_some_iff.mp h).1
  rw [enumD_len] at hl
  have e := enumD_get (List.getElem?_eq_getElem hl)
  rw [h] at e
  exact ⟨_, List.getElem?_eq_getElem hl, Option.some.inj e⟩
end AE
/-! AP2: plain lemmas: split and join by one blank; texts that == takes; dicts. -/
namespace AE
open PySem L2 TL
theorem pre1 {s c : Nat} {r : List Nat} : pre [s] (c :: r) = (c == s) := by
  show ([c] == [s]) = _
  by_cases h : c = s
  · subst h; simp
  · simp [h]
theorem spl_ne {s : Nat} : ∀ (l acc : List Nat), spl [s] 0 acc l ≠ []
  | [], acc => by rw [spl_nil]; simp
  | c :: r, acc => by
    cases h : pre [s] (c :: r) with
    | true => rw [spl_hit h]; simp
    | false => rw [spl_miss h]; exact spl_ne r _
theorem joinL_cons {S p : List Nat} {l : List (List Nat)} (h : l ≠ []) : joinL S (p :: l) = p ++ (S ++ joinL S l) := by
  cases l with
  | nil => exact absurd rfl h
  | cons q r => rfl
theorem joinL_spl {s : Nat} : ∀ (l acc : List Nat), joinL [s] (spl [s] 0 acc l) = acc ++ l
  | [], acc => by rw [spl_nil, List.append_nil]; rfl
  | c :: r, acc => by
    cases h : pre [s] (c :: r) with
    | true =>
      rw [spl_hit h]
      show joinL [s] (acc :: spl [s] 0 [] r) = _
      rw [joinL_cons (spl_ne r []), joinL_spl r []]
      rw [pre1, beq_iff_eq] at h
      subst h; simp
    | false => rw [spl_miss h, joinL_spl r _, List.append_assoc]; rfl
theorem spl_sum {s : Nat} : ∀ (l acc : List Nat), ((spl [s] 0 acc l).map List.length).sum + (spl [s] 0 acc l).length = acc.length + l.length + 1
  | [], acc => by rw [spl_nil]; simp
  | c :: r, acc => by
    cases h : pre [s] (c :: r) with
    | true =>
      rw [spl_hit h]
      have := spl_sum (s := s) r []
      show ((acc :: spl [s] 0 [] r).map List.length).sum + (acc :: spl [s] 0 [] r).length = _
      simp only [List.map_cons, List.sum_cons, List.length_cons, List.length_nil] at this ⊢
      omega
    | false =>
      rw [spl_miss h, spl_sum r _]
      simp; omega
theorem spl_mem {s : Nat} : ∀ (l acc : List Nat), ∀ p ∈ spl [s] 0 acc l, ∀ c ∈ p, c ∈ acc ∨ c ∈ l
  | [], acc => by rw [spl_nil]; intro p hp c hc; rw [List.mem_singleton.mp hp] at hc; exact .inl hc
  | c :: r, acc => by
    cases h : pre [s] (c :: r) with
    | true =>
      rw [spl_hit h]
      intro p hp z hz
      rcases List.mem_cons.mp hp with rfl | hp
      · exact .inl hz
      · rcases spl_mem r [] p hp z hz with h | h
        · cases h
        · exact .inr (List.mem_cons_of_mem _ h)
    | false =>
      rw [spl_miss h]
      intro p hp z hz
      rcases spl_mem r _ p hp z hz with h | h
      · rcases List.mem_append.mp h with h | h
        · exact .inl h
        · rw [List.mem_singleton.mp h]; exact .inr List.mem_cons_self
      · exact .inr (List.mem_cons_of_mem _ h)
def blank : Str := " "
theorem tl_blank : tl blank = [32] := by rfl
theorem split_tl (x : Str) : (Txt.split x blank).map tl = spl [32] 0 [] (tl x) := by
  rw [split_spl x blank (by rw [tl_blank]; simp) (kind_ok (by decide +kernel)), tl_blank]
/-- a line split at blanks and joined again -/
theorem join_split (x : Str) : Txt.join blank (Txt.split x blank) = x := by
  apply ext_tl
  rw [join_eq, tl_join, split_tl, tl_blank, joinL_spl]
  simp
theorem map_len (l : List Str) : l.map (·.length) = (l.map tl).map List.length := by
  rw [List.map_map]
  apply List.map_congr_left
  intro a _
  exact len_tl a
theorem split_sum (x : Str) : ((Txt.split x blank).map (·.length)).sum + (Txt.split x blank).length = x.length + 1 := by
  have := spl_sum (s := 32) (tl x) []
  rw [map_len, len_tl x]
  rw [← split_tl, List.length_map] at this
  simpa using this
def okS (x : Str) : Prop := PyData.strOk x = true
theorem okS_iff {x : Str} : okS x ↔ ∀ c ∈ tl x, c < 0x110000 := by
  unfold okS PyData.strOk
  rw [← Array.all_toList, List.all_eq_true]
  simp
theorem split_ok {x : Str} (h : okS x) : ∀ p ∈ Txt.split x blank, okS p := fun p hp => by
  rw [okS_iff] at h ⊢
  intro c hc
  have : tl p ∈ spl [32] 0 [] (tl x) := by rw [← split_tl]; exact List.mem_map_of_mem hp
  rcases spl_mem _ _ _ this c hc with e | e
  · cases e
  · exact h c e
theorem okS_app {x y : Str} (hx : okS x) (hy : okS y) : okS (x ++ y) := by
  rw [okS_iff] at hx hy ⊢
  intro c hc
  rw [tl_append] at hc
  rcases List.mem_append.mp hc with h | h
  · exact hx c h
  · exact hy c h
theorem strs_ok : ∀ {l : List Str}, (∀ x ∈ l, okS x) → pyOks (l.map D.str) = true ∧ dDeps (l.map D.str) ≤ 1
  | [], _ => ⟨rfl, by decide⟩
  | p :: l, h => by
    obtain ⟨h1, h2⟩ := strs_ok fun x hx => h x (List.mem_cons_of_mem _ hx)
    refine ⟨?_, ?_⟩
    · show (PyData.strOk p && pyOks (l.map D.str)) = true
      rw [h1, h p List.mem_cons_self]; rfl
    · show max 1 (dDeps (l.map D.str)) ≤ 1
      omega
theorem shp_lst {l : List Str} (h : ∀ x ∈ l, okS x) : Shp (.lst (l.map D.str)) := ⟨(strs_ok h).1, by
  have := (strs_ok h).2
  show dDeps (l.map D.str) + 1 ≤ 60
  omega⟩
theorem shp_tup {l : List Str} (h : ∀ x ∈ l, okS x) : Shp (.tup (l.map D.str)) := ⟨(strs_ok h).1, by
  have := (strs_ok h).2
  show dDeps (l.map D.str) + 1 ≤ 60
  omega⟩
theorem dEqs_refl : ∀ (l : List Str), dEqs (l.map D.str) (l.map D.str) = true
  | [] => rfl
  | x :: l => by
    show (dEq (.str x) (.str x) && dEqs (l.map D.str) (l.map D.str)) = true
    rw [dEqs_refl l]
    simp [dEq]
theorem dEqs_nil {l : List D} : dEqs l [] = decide (l = []) := by
  cases l <;> simp [dEqs]
/-! dicts -/
section
variable {κ : Type} [DecidableEq κ]
theorem val_put {kvs : List (κ × D)} {k k' : κ} {v : D} : valD (putDk kvs k v) k' = if k = k' then some v else valD kvs k' := by
  unfold putDk
  split
  · rename_i h
    unfold valD
    rw [List.find?_map]
    have ep : ((fun kv : κ × D => decide (kv.1 = k')) ∘ fun kv => if kv.1 = k then (kv.1, v) else kv) = fun kv => decide (kv.1 = k') := by
      funext kv
      simp only [Function.comp]
      split <;> rfl
    rw [ep]
    by_cases e : k = k'
    · subst e
      rw [if_pos rfl]
      cases hf : kvs.find? (fun kv => decide (kv.1 = k)) with
      | none =>
        rw [List.find?_eq_none] at hf
        obtain ⟨x, hx, hk⟩ := List.any_eq_true.mp h
        exact absurd hk (hf x hx)
      | some kv =>
        have := List.find?_some hf
        have : kv.1 = k := of_decide_eq_true this
        simp [this]
    · rw [if_neg e]
      cases hf : kvs.find? (fun kv => decide (kv.1 = k')) with
      | none => rfl
      | some kv =>
        have := List.find?_some hf
        have : kv.1 = k' := of_decide_eq_true this
        have : ¬ kv.1 = k := fun z => e (z.symm.trans this)
        simp [this]
  · rename_i h
    unfold valD
    rw [List.find?_append]
    by_cases e : k = k'
    · subst e
      have : kvs.find? (fun kv => decide (kv.1 = k)) = none := by
        rw [List.find?_eq_none]
        intro x hx hk
        exact h (List.any_eq_true.mpr ⟨x, hx, hk⟩)
      rw [this]; simp
    · simp [e]
end
end AE
namespace T
open PySem L2 AE AH
def g_LETTERS : D := .str "abcdefghijklmnopqrstuvwxyz"
def g_MOST_LETTERS : D := .int 6
def g_MOST_STEPS : D := .int 5
def g_RESERVED : D := .kt [.str "else", .str "can", .str "cannot", .str "skip"]
def pr_Book___eq__ : Prot := fun i => i == 0 || i == 1
def t_Book___eq__ (K : PySem.W.Frag) : TSD :=
  (tRetD (tAndE (tN (pN (gIsi K)) (tConsD (tName 1) (tConsD (tK (.cl (C K "Book"))) tNilD))) (tAndE (t2 (p2 gEq) (tFldD K "names" (tName 0)) (tFldD K "names" (tName 1))) (t2 (p2 gEq) (tFldD K "kept" (tName 0)) (tFldD K "kept" (tName 1))))))
@[irreducible] def F_Book___eq__ (K : PySem.W.Frag) : AFn := mkF pr_Book___eq__ 2 2 (t_Book___eq__ K)

def pr_Word___eq__ : Prot := fun i => i == 0 || i == 1
def t_Word___eq__ (K : PySem.W.Frag) : TSD :=
  (tRetD (tAndE (tN (pN (gIsi K)) (tConsD (tName 1) (tConsD (tK (.cl (C K "Word"))) tNilD))) (tAndE (t2 (p2 gEq) (tFldD K "kept" (tName 0)) (tFldD K "kept" (tName 1))) (t2 (fEqO (C K "Book") (F_Book___eq__ K)) (tFldD K "book" (tName 0)) (tFldD K "book" (tName 1))))))
@[irreducible] def F_Word___eq__ (K : PySem.W.Frag) : AFn := mkF pr_Word___eq__ 2 2 (t_Word___eq__ K)

def pr_Book_number_of : Prot := fun i => i == 0 || i == 1
def t_Book_number_of (K : PySem.W.Frag) : TSD :=
  (tSeqF (tIfSD (tVal (t2 (p2 (gIn true)) (tName 1) (tFldD K "numbers" (tName 0)))) (tRaise1 (C K "BadMove") "move" (tNameF 1)) tNextD)
    (tRetD (t2 (p2 gIxD) (tFldD K "numbers" (tName 0)) (tName 1))))
@[irreducible] def F_Book_number_of (K : PySem.W.Frag) : AFn := mkF pr_Book_number_of 2 2 (t_Book_number_of K)

def pr_Word___init__ : Prot := fun i => i == 0 || i == 1 || i == 2
def t_Word___init__ (K : PySem.W.Frag) : TSD :=
  (tSeqF (tFldS K "numbers" 0 (tN (pN gTuple) (tConsD (tLcD (tISeq (tNameF 2)) [3] (gNameD 3) tYesD (tMethA (C K "Book") "number_of" (F_Book_number_of K) (tName 1) (tConsD (tName 3) tNilD))) tNilD)))
    (tSeqF (tFldS K "book" 0 (tNameF 1))
    (tFldS K "kept" 0 (tN (pN gTuple) (tConsD (tLcD (tISeq (tFldD K "numbers" (tName 0))) [4] (gNameD 4) tYesD (t2 (p2 gIxD) (tFldD K "signs" (tName 1)) (tName 4))) tNilD)))))
@[irreducible] def F_Word___init__ (K : PySem.W.Frag) : AFn := mkF pr_Word___init__ 3 5 (t_Word___init__ K)

def pr_Word_text : Prot := fun i => i == 0
def t_Word_text (K : PySem.W.Frag) : TSD :=
  (tRetD (tM1D gJoin (tK (.str " ")) (tFldD K "kept" (tName 0))))
@[irreducible] def F_Word_text (K : PySem.W.Frag) : AFn := mkF pr_Word_text 1 1 (t_Word_text K)

def pr_Word_moves : Prot := fun i => i == 0
def t_Word_moves (K : PySem.W.Frag) : TSD :=
  (tRetD (tN (pN gList) (tConsD (tFldD K "kept" (tName 0)) tNilD)))
@[irreducible] def F_Word_moves (K : PySem.W.Frag) : AFn := mkF pr_Word_moves 1 1 (t_Word_moves K)

def pr_Word_read : Prot := fun i => i == 0 || i == 1 || i == 2
def t_Word_read (K : PySem.W.Frag) : TSD :=
  (tSeqF (tAsgD (tIfD (tVal (t2 (p2 gGt) (tN (pN gLen) (tConsD (tName 2) tNilD)) (tK (.int 0)))) (tM1D gSplit (tName 2) (tK (.str " "))) (tDisp mkL tNilD)) (gNameD 3))
    (tSeqF (tIfSD (tNotT (tVal (tN (pN gAll) (tConsD (tLcD (tISeq (tNameF 3)) [4] (gNameD 4) tYesD (t2 (p2 (gIn false)) (tName 4) (tFldD K "signs" (tName 1)))) tNilD)))) (tRaise0 (C K "BadText")) tNextD)
    (tRetD (tMakeL 0 (C K "Word") (F_Word___init__ K) (tConsD (tNameF 1) (tConsD (tNameF 3) tNilD))))))
@[irreducible] def F_Word_read (K : PySem.W.Frag) : AFn := mkF pr_Word_read 3 5 (t_Word_read K)

def pr__law_right : Prot := fun i => i == 0 || i == 1 || i == 2
def t__law_right (K : PySem.W.Frag) : TSD :=
  (tSeqF (tAsgD (tIfD (tVal (t2 (p2 gNe) (tName 2) (tK (.str "")))) (tM1D gSplit (tName 2) (tK (.str " "))) (tDisp mkL tNilD)) (gNameD 3))
    (tSeqF (tAsgD (t2 (p2 gEq) (tLcD (tISeq (tNameF 3)) [5] (gNameD 5) (tVal (t2 (p2 (gIn true)) (tName 5) (tName 1))) (tNameF 5)) (tDisp mkL tNilD)) (gNameD 4))
    (tSeqF (tTryD K (tAsgD (tCls (C K "Word") (tK (.cl (C K "Word"))) (tCallI (F_Word_read K) [.cl (C K "Word")] [1, 0] [] (tConsD (tNameF 2) (tConsD (tNameF 0) tNilD)))) (gNameD 6)) [⟨.ref (C K "BadText"), 7, fun a cls d => (tRetD (tAndE (tNotE (tName 4)) (tN (fIsX K a cls d) (tConsD (tName 7) (tConsD (tK (.cl (C K "StepError"))) tNilD)))))⟩])
    (tRetD (tAndE (tName 4) (tAndE (t2 (p2 gEq) (tMethA (C K "Word") "moves" (F_Word_moves K) (tName 6) tNilD) (tName 3)) (tAndE (t2 (p2 gEq) (tMethA (C K "Word") "text" (F_Word_text K) (tName 6) tNilD) (tName 2)) (t2 (fEqO (C K "Word") (F_Word___eq__ K)) (tName 6) (tMakeA (C K "Word") (F_Word___init__ K) (tConsD (tNameF 0) (tConsD (tNameF 3) tNilD)))))))))))
@[irreducible] def F__law_right (K : PySem.W.Frag) : AFn := mkF pr__law_right 3 8 (t__law_right K)

def pr__law_take : Prot := fun i => i == 0 || i == 1
def t__law_take (K : PySem.W.Frag) : TSD :=
  (tSeqF (tIfSD (tVal (t2 (p2 gGe) (t2 (p2 gIxD) (tName 0) (tK (.int 0))) (t2 (p2 gPow) (tK (.int 10)) (tK (.int 18))))) (tSeqF (tAsgD (t2 (p2 gMod) (tN (pN gInt) (tConsD (t2 (p2 gIxD) (tName 0) (tK (.int 0))) tNilD)) (tName 1)) (gNameD 2))
    (tSeqF (tAsgD (t2 (p2 gDiv) (t2 (p2 gIxD) (tName 0) (tK (.int 0))) (tName 1)) (gSubD (tName 0) (tK (.int 0))))
    (tRetD (tName 2)))) tNextD)
    (tSeqF (tAsgD (t2 (p2 gAdd) (t2 (p2 gIxD) (tName 0) (tK (.int 1))) (tK (.int 1))) (gSubD (tName 0) (tK (.int 1))))
    (tSeqF (tAsgD (t2 (p2 gMod) (t2 (p2 gPow) (tN (pN gInt) (tConsD (t2 (p2 gAdd) (t2 (p2 gAdd) (t2 (p2 gMul) (t2 (p2 gAdd) (t2 (p2 gIxD) (tName 0) (tK (.int 0))) (tK (.int 7))) (tK (.int 69069))) (t2 (p2 gMul) (t2 (p2 gIxD) (tName 0) (tK (.int 1))) (tK (.int 40692)))) (t2 (p2 gIxD) (tName 0) (tK (.int 2)))) tNilD)) (tK (.int 3))) (tK (.int 2147483647))) (gNameD 3))
    (tSeqF (tAsgD (t2 (p2 gMod) (t2 (p2 gPow) (tN (pN gInt) (tConsD (t2 (p2 gAdd) (tName 3) (t2 (p2 gMul) (t2 (p2 gIxD) (tName 0) (tK (.int 1))) (tK (.int 17389)))) tNilD)) (tK (.int 3))) (tK (.int 2147483399))) (gNameD 3))
    (tRetD (t2 (p2 gMod) (tN (pN gInt) (tConsD (t2 (p2 gDiv) (tName 3) (tK (.int 64))) tNilD)) (tName 1)))))))
@[irreducible] def F__law_take (K : PySem.W.Frag) : AFn := mkF pr__law_take 2 4 (t__law_take K)

def pr__law_spoiled : Prot := fun i => i == 0 || i == 1
def t__law_spoiled (K : PySem.W.Frag) : TSD :=
  (tSeqF (tAsgD (tCallA (F__law_take K) (tConsD (tName 0) (tConsD (t2 (p2 gAdd) (tN (pN gLen) (tConsD (tName 1) tNilD)) (tK (.int 1))) tNilD))) (gNameD 2))
    (tSeqF (tAsgD (tK (.str " -abgopux!&'()*+,./0123456789:;<=>?@ABCXYZ[]^_{|}~cdefhijklmnqrstvwyz")) (gNameD 3))
    (tSeqF (tAsgD (t2 (p2 gIxD) (tName 3) (tIfD (tVal (t2 (p2 gEq) (tCallA (F__law_take K) (tConsD (tName 0) (tConsD (tK (.int 2)) tNilD))) (tK (.int 1)))) (tCallA (F__law_take K) (tConsD (tName 0) (tConsD (tN (pN gLen) (tConsD (tName 3) tNilD)) tNilD))) (tCallA (F__law_take K) (tConsD (tName 0) (tConsD (tK (.int 9)) tNilD))))) (gNameD 4))
    (tSeqF (tAsgD (tCallA (F__law_take K) (tConsD (tName 0) (tConsD (tK (.int 3)) tNilD))) (gNameD 5))
    (tSeqF (tIfSD (tVal (t2 (p2 gEq) (tName 5) (tK (.int 0)))) (tRetD (t2 (p2 gAdd) (t2 (p2 gAdd) (tSlD (tName 1) tNoD (tPartD (tName 2))) (tName 4)) (tSlD (tName 1) (tPartD (tName 2)) tNoD))) tNextD)
    (tRetD (tIfD (tVal (t2 (p2 gEq) (tName 5) (tK (.int 1)))) (t2 (p2 gAdd) (tSlD (tName 1) tNoD (tPartD (tName 2))) (tSlD (tName 1) (tPartD (t2 (p2 gAdd) (tName 2) (tK (.int 1)))) tNoD)) (t2 (p2 gAdd) (t2 (p2 gAdd) (tSlD (tName 1) tNoD (tPartD (tName 2))) (tName 4)) (tSlD (tName 1) (tPartD (t2 (p2 gAdd) (tName 2) (tK (.int 1)))) tNoD)))))))))
@[irreducible] def F__law_spoiled (K : PySem.W.Frag) : AFn := mkF pr__law_spoiled 2 6 (t__law_spoiled K)

def pr__law_opposite : Prot := fun i => i == 0
def t__law_opposite (K : PySem.W.Frag) : TSD :=
  (tRetD (tIfD (tVal (t2 (p2 gEq) (tSlD (tName 0) tNoD (tPartD (tK (.int 1)))) (tK (.str "-")))) (tSlD (tName 0) (tPartD (tK (.int 1))) tNoD) (t2 (p2 gAdd) (tK (.str "-")) (tName 0))))
@[irreducible] def F__law_opposite (K : PySem.W.Frag) : AFn := mkF pr__law_opposite 1 1 (t__law_opposite K)

def pr__law_signs : Prot := fun i => i == 0
def t__law_signs (K : PySem.W.Frag) : TSD :=
  (tSeqF (tAsgD (tDisp mkL tNilD) (gNameD 1))
    (tSeqF (tForD (tISeq (t2 (p2 gIxD) (tName 0) (tK (.int 0)))) (gNameD 2) (tAsgD (t2 (p2 gAdd) (tName 1) (tDisp mkL (tConsD (tNameF 2) (tConsD (t2 (p2 gAdd) (tK (.str "-")) (tName 2)) tNilD)))) (gNameD 1)))
    (tRetD (tName 1))))
@[irreducible] def F__law_signs (K : PySem.W.Frag) : AFn := mkF pr__law_signs 1 3 (t__law_signs K)

def pr__law_moves : Prot := fun i => i == 0 || i == 1 || i == 2
def t__law_moves (K : PySem.W.Frag) : TSD :=
  (tSeqF (tAsgD (tCallA (F__law_signs K) (tConsD (tName 1) tNilD)) (gNameD 3))
    (tSeqF (tAsgD (tDisp mkL tNilD) (gNameD 4))
    (tSeqF (tForD (tIRng1 (tConsD (tCallA (F__law_take K) (tConsD (tName 0) (tConsD (t2 (p2 gAdd) (tName 2) (tK (.int 1))) tNilD))) tNilD)) (gNameD 5) (tIfSD (tAndT (tVal (t2 (p2 gNe) (tName 4) (tDisp mkL tNilD))) (tVal (t2 (p2 gEq) (tCallA (F__law_take K) (tConsD (tName 0) (tConsD (tK (.int 3)) tNilD))) (tK (.int 0))))) (tExprD (tMtL fApp (tName 4) (tConsD (tCallA (F__law_opposite K) (tConsD (t2 (p2 gIxD) (tName 4) (tCallA (F__law_take K) (tConsD (tName 0) (tConsD (tN (pN gLen) (tConsD (tName 4) tNilD)) tNilD)))) tNilD)) tNilD))) (tExprD (tMtL fApp (tName 4) (tConsD (t2 (p2 gIxD) (tName 3) (tCallA (F__law_take K) (tConsD (tName 0) (tConsD (tN (pN gLen) (tConsD (tName 3) tNilD)) tNilD)))) tNilD)))))
    (tRetD (tName 4)))))
@[irreducible] def F__law_moves (K : PySem.W.Frag) : AFn := mkF pr__law_moves 3 6 (t__law_moves K)

def pr_pair_places : Prot := fun i => i == 0 || i == 1
def t_pair_places (K : PySem.W.Frag) : TSD :=
  (tSeqF (tIfSD (tOrT (tNotT (tVal (tN (pN (gIsi K)) (tConsD (tName 1) (tConsD (tK (.ty "tuple")) tNilD))))) (tVal (t2 (p2 gNe) (tN (pN gLen) (tConsD (tName 1) tNilD)) (tK (.int 2))))) (tRaise1 (C K "BadPair") "pair" (tNameF 1)) tNextD)
    (tSeqF (tIfSD (tOrT (tVal (t2 (p2 (gIn true)) (t2 (p2 gIxD) (tName 1) (tK (.int 0))) (tName 0))) (tOrT (tVal (t2 (p2 (gIn true)) (t2 (p2 gIxD) (tName 1) (tK (.int 1))) (tName 0))) (tVal (t2 (p2 gEq) (t2 (p2 gIxD) (tName 1) (tK (.int 0))) (t2 (p2 gIxD) (tName 1) (tK (.int 1))))))) (tRaise1 (C K "BadPair") "pair" (tNameF 1)) tNextD)
    (tSeqF (tAsgD (tMtL fIndex (tName 0) (tConsD (t2 (p2 gIxD) (tName 1) (tK (.int 0))) tNilD)) (gNameD 2))
    (tSeqF (tAsgD (tMtL fIndex (tName 0) (tConsD (t2 (p2 gIxD) (tName 1) (tK (.int 1))) tNilD)) (gNameD 3))
    (tRetD (tIfD (tVal (t2 (p2 gLt) (tName 2) (tName 3))) (tDisp mkT (tConsD (tNameF 2) (tConsD (tNameF 3) tNilD))) (tDisp mkT (tConsD (tNameF 3) (tConsD (tNameF 2) tNilD)))))))))
@[irreducible] def F_pair_places (K : PySem.W.Frag) : AFn := mkF pr_pair_places 2 4 (t_pair_places K)

def pr_is_step_name : Prot := fun i => i == 0
def t_is_step_name (K : PySem.W.Frag) : TSD :=
  (tSeqF (tIfSD (tOrT (tVal (t2 (p2 gEq) (tN (pN gLen) (tConsD (tName 0) tNilD)) (tK (.int 0)))) (tOrT (tVal (t2 (p2 gGt) (tN (pN gLen) (tConsD (tName 0) tNilD)) (tK (g_MOST_LETTERS)))) (tVal (t2 (p2 (gIn false)) (tName 0) (tK (g_RESERVED)))))) (tRetD (tK (.bl false))) tNextD)
    (tRetD (tN (pN gAll) (tConsD (tLcD (tISeq (tNameF 0)) [1] (gNameD 1) tYesD (t2 (p2 (gIn false)) (tName 1) (tK (g_LETTERS)))) tNilD))))
@[irreducible] def F_is_step_name (K : PySem.W.Frag) : AFn := mkF pr_is_step_name 1 2 (t_is_step_name K)

def pr_Book___init__ : Prot := fun i => i == 0 || i == 1 || i == 2
def t_Book___init__ (K : PySem.W.Frag) : TSD :=
  (tSeqF (tAsgD (tN (pN gList) (tConsD (tName 1) tNilD)) (gNameD 3))
    (tSeqF (tIfSD (tOrT (tVal (t2 (p2 gEq) (tN (pN gLen) (tConsD (tName 3) tNilD)) (tK (.int 0)))) (tVal (t2 (p2 gGt) (tN (pN gLen) (tConsD (tName 3) tNilD)) (tK (g_MOST_STEPS))))) (tRaise0 (C K "BadBook")) tNextD)
    (tSeqF (tForD (tISeq (tNameF 3)) (gNameD 4) (tIfSD (tNotT (tVal (tCallA (F_is_step_name K) (tConsD (tName 4) tNilD)))) (tRaise1 (C K "BadName") "name" (tNameF 4)) tNextD))
    (tSeqF (tForD (tIRng1 (tConsD (tN (pN gLen) (tConsD (tName 3) tNilD)) tNilD)) (gNameD 5) (tIfSD (tVal (t2 (p2 (gIn false)) (t2 (p2 gIxD) (tName 3) (tName 5)) (tSlD (tName 3) tNoD (tPartD (tName 5))))) (tRaise1 (C K "Repeated") "name" (t2 (p2 gIxD) (tName 3) (tName 5))) tNextD))
    (tSeqF (tAsgD (tLcD (tISeq (tNameF 2)) [7] (gNameD 7) tYesD (tCallA (F_pair_places K) (tConsD (tName 3) (tConsD (tName 7) tNilD)))) (gNameD 6))
    (tSeqF (tAsgD (tLc2D (tIRng1 (tConsD (tN (pN gLen) (tConsD (tName 3) tNilD)) tNilD)) [9, 10] (gNameD 9) tYesD (tIRng1 (tConsD (tN (pN gLen) (tConsD (tName 3) tNilD)) tNilD)) [10] (gNameD 10) (tVal (t2 (p2 (gIn false)) (tDisp mkT (tConsD (tNameF 9) (tConsD (tNameF 10) tNilD))) (tName 6))) (tDisp mkT (tConsD (tNameF 9) (tConsD (tNameF 10) tNilD)))) (gNameD 8))
    (tSeqF (tFldS K "names" 0 (tN (pN gTuple) (tConsD (tName 3) tNilD)))
    (tSeqF (tFldS K "kept" 0 (tN (pN gTuple) (tConsD (tLcD (tISeq (tNameF 8)) [9, 10] (gTupD 2 (gConsD (gNameD 9) (gConsD (gNameD 10) gNilD))) tYesD (tDisp mkT (tConsD (t2 (p2 gIxD) (tName 3) (tName 9)) (tConsD (t2 (p2 gIxD) (tName 3) (tName 10)) tNilD)))) tNilD)))
    (tSeqF (tFldS K "signs" 0 (tN (pN gTuple) (tConsD (tLc2D (tISeq (tNameF 3)) [4, 11] (gNameD 4) tYesD (tISeq (tDisp mkT (tConsD (tK (.str "")) (tConsD (tK (.str "-")) tNilD)))) [11] (gNameD 11) tYesD (t2 (p2 gAdd) (tName 11) (tName 4))) tNilD)))
    (tSeqF (tFldS K "numbers" 0 (tDcD (tIEnum (tConsD (tFldD K "signs" (tName 0)) tNilD)) [12, 11] (gTupD 2 (gConsD (gNameD 12) (gConsD (gNameD 11) gNilD))) tYesD (tNameF 11) (tNameF 12)))
    (tSeqF (tAsgD (tDisp mkL (tStarD (tName 8) (tStarD (tLcD (tISeq (tNameF 8)) [9, 10] (gTupD 2 (gConsD (gNameD 9) (gConsD (gNameD 10) gNilD))) tYesD (tDisp mkT (tConsD (tNameF 10) (tConsD (tNameF 9) tNilD)))) tNilD))) (gNameD 13))
    (tSeqF (tAsgD (tN (pN gLen) (tConsD (tFldD K "signs" (tName 0)) tNilD)) (gNameD 14))
    (tFldS K "apart" 0 (tLcD (tIRng1 (tConsD (tName 14) tNilD)) [16] (gNameD 16) tYesD (tLcD (tIRng1 (tConsD (tName 14) tNilD)) [15] (gNameD 15) tYesD (t2 (p2 (gIn false)) (tDisp mkT (tConsD (t2 (p2 gDiv) (tName 16) (tK (.int 2))) (tConsD (t2 (p2 gDiv) (tName 15) (tK (.int 2))) tNilD))) (tName 13)))))))))))))))))
@[irreducible] def F_Book___init__ (K : PySem.W.Frag) : AFn := mkF pr_Book___init__ 3 17 (t_Book___init__ K)

def pr__law_model : Prot := fun i => i == 0 || i == 1
def t__law_model (K : PySem.W.Frag) : TSD :=
  (tSeqF (tAsgD (tDisp mkL (tConsD (tK (.str "a")) (tConsD (tK (.str "ab")) (tConsD (tK (.str "b")) (tConsD (tK (.str "go")) (tConsD (tK (.str "up")) (tConsD (tK (.str "quartz")) tNilD))))))) (gNameD 2))
    (tSeqF (tAsgD (tLcD (tIRng1 (tConsD (t2 (p2 gAdd) (tK (.int 1)) (tCallA (F__law_take K) (tConsD (tName 0) (tConsD (tName 1) tNilD)))) tNilD)) [4] (gNameD 4) tYesD (tMtL fPopAt (tName 2) (tConsD (tCallA (F__law_take K) (tConsD (tName 0) (tConsD (tN (pN gLen) (tConsD (tName 2) tNilD)) tNilD))) tNilD))) (gNameD 3))
    (tSeqF (tAsgD (tCallA (F__law_take K) (tConsD (tName 0) (tConsD (tK (.int 4)) tNilD))) (gNameD 5))
    (tSeqF (tAsgD (tDisp mkL tNilD) (gNameD 6))
    (tSeqF (tForD (tIRng1 (tConsD (tN (pN gLen) (tConsD (tName 3) tNilD)) tNilD)) (gNameD 7) (tForD (tIRng1 (tConsD (tName 7) tNilD)) (gNameD 8) (tIfSD (tOrT (tVal (t2 (p2 gEq) (tName 5) (tK (.int 1)))) (tAndT (tVal (t2 (p2 gGt) (tName 5) (tK (.int 1)))) (tVal (t2 (p2 gEq) (tCallA (F__law_take K) (tConsD (tName 0) (tConsD (tK (.int 2)) tNilD))) (tK (.int 1)))))) (tExprD (tMtL fApp (tName 6) (tConsD (tDisp mkT (tConsD (t2 (p2 gIxD) (tName 3) (tName 8)) (tConsD (t2 (p2 gIxD) (tName 3) (tName 7)) tNilD))) tNilD))) tNextD)))
    (tSeqF (tAsgD tDNew (gNameD 9))
    (tSeqF (tForD (tISeq (tNameF 3)) (gNameD 10) (tAsgD (tLcD (tISeq (tNameF 3)) [11] (gNameD 11) (tAndT (tVal (t2 (p2 gNe) (tName 11) (tName 10))) (tNotT (tOrT (tVal (t2 (p2 (gIn false)) (tDisp mkT (tConsD (tNameF 11) (tConsD (tNameF 10) tNilD))) (tName 6))) (tVal (t2 (p2 (gIn false)) (tDisp mkT (tConsD (tNameF 10) (tConsD (tNameF 11) tNilD))) (tName 6)))))) (tNameF 11)) (gSubD (tName 9) (tName 10))))
    (tRetD (tDisp mkL (tConsD (tNameF 3) (tConsD (tNameF 6) (tConsD (tNameF 9) tNilD))))))))))))
@[irreducible] def F__law_model (K : PySem.W.Frag) : AFn := mkF pr__law_model 2 12 (t__law_model K)

def pr__law_cell : Prot := fun i => i == 0 || i == 1
def t__law_cell (K : PySem.W.Frag) : TSD :=
  (tRetD (tIfD (tVal (t2 (p2 gLt) (tName 1) (tN (pN gLen) (tConsD (tName 0) tNilD)))) (t2 (p2 gIxD) (tName 0) (tName 1)) (tK (.int 0))))
@[irreducible] def F__law_cell (K : PySem.W.Frag) : AFn := mkF pr__law_cell 2 2 (t__law_cell K)

def pr__law_box : Prot := fun i => i == 0 || i == 1
def t__law_box (K : PySem.W.Frag) : TSD :=
  (tRetD (tDisp mkL (tConsD (tN (pN gAbs) (tConsD (tN (pN gInt) (tConsD (tCallA (F__law_cell K) (tConsD (tName 0) (tConsD (tName 1) tNilD))) tNilD)) tNilD)) (tConsD (tK (.int 0)) (tConsD (t2 (p2 gAdd) (t2 (p2 gMul) (tK (.int 40503)) (tName 1)) (tK (.int 911))) tNilD)))))
@[irreducible] def F__law_box (K : PySem.W.Frag) : AFn := mkF pr__law_box 2 2 (t__law_box K)

def pr_law : Prot := fun i => i == 0
def t_law (K : PySem.W.Frag) : TSD :=
  (tSeqF (tAsgD (tCallA (F__law_box K) (tConsD (tName 0) (tConsD (tK (.int 0)) tNilD))) (gNameD 1))
    (tSeqF (tAsgD (tCallA (F__law_model K) (tConsD (tName 1) (tConsD (tK (.int 5)) tNilD))) (gNameD 2))
    (tSeqF (tAsgD (tMakeA (C K "Book") (F_Book___init__ K) (tConsD (t2 (p2 gIxD) (tName 2) (tK (.int 0))) (tConsD (t2 (p2 gIxD) (tName 2) (tK (.int 1))) tNilD))) (gNameD 3))
    (tSeqF (tAsgD (tCallA (F__law_signs K) (tConsD (tName 2) tNilD)) (gNameD 4))
    (tSeqF (tAsgD (tM1D gJoin (tK (.str " ")) (tCallA (F__law_moves K) (tConsD (tName 1) (tConsD (tName 2) (tConsD (tK (.int 8)) tNilD))))) (gNameD 5))
    (tSeqF (tIfSD (tNotT (tVal (tCallA (F__law_right K) (tConsD (tNameF 3) (tConsD (tNameF 4) (tConsD (tNameF 5) tNilD)))))) (tRetD (tK (.bl false))) tNextD)
    (tSeqF (tForD (tIRng1 (tConsD (tK (.int 8)) tNilD)) (gNameD 6) (tSeqF (tAsgD (tCallA (F__law_spoiled K) (tConsD (tName 1) (tConsD (tName 5) tNilD))) (gNameD 7))
    (tIfSD (tOrT (tNotT (tVal (tCallA (F__law_right K) (tConsD (tNameF 3) (tConsD (tNameF 4) (tConsD (tNameF 7) tNilD)))))) (tNotT (tVal (tCallA (F__law_right K) (tConsD (tNameF 3) (tConsD (tNameF 4) (tConsD (tCallA (F__law_spoiled K) (tConsD (tName 1) (tConsD (tName 7) tNilD))) tNilD))))))) (tRetD (tK (.bl false))) tNextD)))
    (tRetD (tAndE (tCallA (F__law_right K) (tConsD (tNameF 3) (tConsD (tNameF 4) (tConsD (tK (.str "")) tNilD)))) (tAndE (tCallA (F__law_right K) (tConsD (tNameF 3) (tConsD (tNameF 4) (tConsD (tK (.str " ")) tNilD)))) (tCallA (F__law_right K) (tConsD (tNameF 3) (tConsD (tNameF 4) (tConsD (tK (.str "-")) tNilD))))))))))))))
@[irreducible] def F_law (K : PySem.W.Frag) : AFn := mkF pr_law 1 8 (t_law K)
end T
namespace T
open PySem L2 AE AH
def top (i : Nat) : Stmt := PySem.Challenge.pw_stephulls_k07_texts_of_words.main.body.getD i (.Pass ⟨0, 0, 0, 0⟩)
structure Blt (mg : Str → Option Value) : Prop where
  abs_ : mg "abs" = none
  all_ : mg "all" = none
  enumerate_ : mg "enumerate" = none
  int_ : mg "int" = none
  isinstance_ : mg "isinstance" = none
  len_ : mg "len" = none
  list_ : mg "list" = none
  range_ : mg "range" = none
  tuple_ : mg "tuple" = none
abbrev s_Book___eq__ : Stmt := inClass (top 20) 4
theorem sc_Book___eq__ : FnScope ["self", "other"] ["self", "other"] (defScope s_Book___eq__) := ⟨rfl, rfl, rfl, by decide +kernel, rfl, by decide +kernel, by decide +kernel⟩
theorem ok_Book___eq__ {P : Program} {w : World} {K : PySem.W.Frag} {mg : Str → Option Value} {base : Heap} {f : Addr} {fd : FuncData} {dvs : List V} {kws : List (Str × V)} (B : Blt mg) (G_Book : GlobD K mg "Book" (.cl (C K "Book")))
    (Fn : FunD K "__eq__" "Book.__eq__" (defArgs s_Book___eq__) (defBody s_Book___eq__) (defScope s_Book___eq__) dvs kws f fd) : FnOk P w K mg base (L2N.CX P w) 1 f fd ["self", "other"] (spA K 2 (F_Book___eq__ K)) :=
  AE.FunD.okA Fn sc_Book___eq__ pr_Book___eq__ fun cdv A outer s H E hr => ⟨t_Book___eq__ K,
    (ass_one (as_ret (ae_and (ae_isi rfl B.isinstance_ (aa_cons (ae_name (pv 1)) (aa_cons (ae_glob G_Book rfl) aa_nil))) (ae_and (ae_c (c_eq (room64 hr)) (ae_fld (ae_name (pv 0))) (ae_fld (ae_name (pv 1)))) (ae_one (ae_c (c_eq (room64 hr)) (ae_fld (ae_name (pv 0))) (ae_fld (ae_name (pv 1))))))))),
    fun os Kd Ed _ h => by unfold F_Book___eq__ at h; exact h.2⟩
abbrev s_Word___eq__ : Stmt := inClass (top 12) 5
theorem sc_Word___eq__ : FnScope ["self", "other"] ["self", "other"] (defScope s_Word___eq__) := ⟨rfl, rfl, rfl, by decide +kernel, rfl, by decide +kernel, by decide +kernel⟩
theorem ok_Word___eq__ {P : Program} {w : World} {K : PySem.W.Frag} {mg : Str → Option Value} {base : Heap} {f : Addr} {fd : FuncData} {dvs : List V} {kws : List (Str × V)} (B : Blt mg) (E_Book : EqO P w K mg base 1 (C K "Book") (F_Book___eq__ K))
    (G_Word : GlobD K mg "Word" (.cl (C K "Word")))
    (Fn : FunD K "__eq__" "Word.__eq__" (defArgs s_Word___eq__) (defBody s_Word___eq__) (defScope s_Word___eq__) dvs kws f fd) : FnOk P w K mg base (L2N.CX P w) 2 f fd ["self", "other"] (spA K 2 (F_Word___eq__ K)) :=
  AE.FunD.okA Fn sc_Word___eq__ pr_Word___eq__ fun cdv A outer s H E hr => ⟨t_Word___eq__ K,
    (ass_one (as_ret (ae_and (ae_isi rfl B.isinstance_ (aa_cons (ae_name (pv 1)) (aa_cons (ae_glob G_Word rfl) aa_nil))) (ae_and (ae_c (c_eq (room64 hr)) (ae_fld (ae_name (pv 0))) (ae_fld (ae_name (pv 1)))) (ae_one (ae_c (c_eqO E_Book (hr.mono (by decide))) (ae_fld (ae_name (pv 0))) (ae_fld (ae_name (pv 1))))))))),
    fun os Kd Ed _ h => by unfold F_Word___eq__ at h; exact h.2⟩
abbrev s_Book_number_of : Stmt := inClass (top 20) 9
theorem sc_Book_number_of : FnScope ["self", "move"] ["self", "move"] (defScope s_Book_number_of) := ⟨rfl, rfl, rfl, by decide +kernel, rfl, by decide +kernel, by decide +kernel⟩
theorem ok_Book_number_of {P : Program} {w : World} {K : PySem.W.Frag} {mg : Str → Option Value} {base : Heap} {f : Addr} {fd : FuncData} {dvs : List V} {kws : List (Str × V)} (B : Blt mg) (X_BadMove : XOneK P w K mg base "BadMove" (C K "BadMove") "move" "move")
    (Fn : FunD K "number_of" "Book.number_of" (defArgs s_Book_number_of) (defBody s_Book_number_of) (defScope s_Book_number_of) dvs kws f fd) : FnOk P w K mg base (L2N.CX P w) 3 f fd ["self", "move"] (spA K 2 (F_Book_number_of K)) :=
  AE.FunD.okA Fn sc_Book_number_of pr_Book_number_of fun cdv A outer s H E hr => ⟨t_Book_number_of K,
    (ass_consF (as_if (at_c (c_notin (room65 hr)) (ae_name (pv 1)) (ae_fld (ae_name (pv 0)))) (ass_one (as_raise1 (k := 0) rfl (L2N.takes_of rfl rfl rfl rfl) X_BadMove.one (hr.mono (by decide)) rfl (ae_nameF (pv 1)))) ass_nil)
    (ass_one (as_ret (ae_at (room64 hr) (ae_fld (ae_name (pv 0))) (ae_name (pv 1)))))),
    fun os Kd Ed _ h => by unfold F_Book_number_of at h; exact h.2⟩
abbrev s_Word___init__ : Stmt := inClass (top 12) 0
theorem sc_Word___init__ : FnScope ["self", "book", "moves", "move", "number"] ["self", "book", "moves"] (defScope s_Word___init__) := ⟨rfl, rfl, rfl, by decide +kernel, rfl, by decide +kernel, by decide +kernel⟩
theorem ok_Word___init__ {P : Program} {w : World} {K : PySem.W.Frag} {mg : Str → Option Value} {base : Heap} {f : Addr} {fd : FuncData} {dvs : List V} {kws : List (Str × V)} (B : Blt mg) (T_Book_number_of : Met P w K mg base 3 (C K "Book") "number_of" ["self", "move"] (F_Book_number_of K))
    (Fn : FunD K "__init__" "Word.__init__" (defArgs s_Word___init__) (defBody s_Word___init__) (defScope s_Word___init__) dvs kws f fd) : FnOk P w K mg base (L2N.CX P w) 4 f fd ["self", "book", "moves"] (spA K 3 (F_Word___init__ K)) :=
  AE.FunD.okA Fn sc_Word___init__ pr_Word___init__ fun cdv A outer s H E hr => ⟨t_Word___init__ K,
    (ass_consF (as_fld (pv 0) (ae_tuple1 rfl B.tuple_ (aa_cons (ae_lc (own := [("move", 3)]) (vs := [3]) rfl sc_Word___init__.nd (ai_seq (ae_nameF (pv 2))) (blkOk_by (by kernel_rfl)) rfl (by decide) (ltAll rfl) (fun _ _ _ _ _ => (ag_name (i := 3) sc_Word___init__.nd rfl (by first | exact .inl rfl | exact .inr rfl) rfl)) (fun _ _ _ _ _ => ats_nil) (fun _ _ _ _ _ => (ae_meth T_Book_number_of (hr.mono (by decide)) takesF (ae_name (pv 1)) (aa_cons (ae_name (pv 3)) aa_nil)))) aa_nil)))
    (ass_consF (as_fld (pv 0) (ae_nameF (pv 1)))
    (ass_one (as_fld (pv 0) (ae_tuple1 rfl B.tuple_ (aa_cons (ae_lc (own := [("number", 4)]) (vs := [4]) rfl sc_Word___init__.nd (ai_seq (ae_fld (ae_name (pv 0)))) (blkOk_by (by kernel_rfl)) rfl (by decide) (ltAll rfl) (fun _ _ _ _ _ => (ag_name (i := 4) sc_Word___init__.nd rfl (by first | exact .inl rfl | exact .inr rfl) rfl)) (fun _ _ _ _ _ => ats_nil) (fun _ _ _ _ _ => (ae_at (room64 hr) (ae_fld (ae_name (pv 1))) (ae_name (pv 4))))) aa_nil)))))),
    fun os Kd Ed _ h => by unfold F_Word___init__ at h; exact h.2⟩
abbrev s_Word_text : Stmt := inClass (top 12) 9
theorem sc_Word_text : FnScope ["self"] ["self"] (defScope s_Word_text) := ⟨rfl, rfl, rfl, by decide +kernel, rfl, by decide +kernel, by decide +kernel⟩
theorem ok_Word_text {P : Program} {w : World} {K : PySem.W.Frag} {mg : Str → Option Value} {base : Heap} {f : Addr} {fd : FuncData} {dvs : List V} {kws : List (Str × V)} (B : Blt mg) 
    (Fn : FunD K "text" "Word.text" (defArgs s_Word_text) (defBody s_Word_text) (defScope s_Word_text) dvs kws f fd) : FnOk P w K mg base (L2N.CX P w) 1 f fd ["self"] (spA K 1 (F_Word_text K)) :=
  AE.FunD.okA Fn sc_Word_text pr_Word_text fun cdv A outer s H E hr => ⟨t_Word_text K,
    (ass_one (as_ret (ae_join ae_str (ae_fld (ae_name (pv 0)))))),
    fun os Kd Ed _ h => by unfold F_Word_text at h; exact h.2⟩
abbrev s_Word_moves : Stmt := inClass (top 12) 8
theorem sc_Word_moves : FnScope ["self"] ["self"] (defScope s_Word_moves) := ⟨rfl, rfl, rfl, by decide +kernel, rfl, by decide +kernel, by decide +kernel⟩
theorem ok_Word_moves {P : Program} {w : World} {K : PySem.W.Frag} {mg : Str → Option Value} {base : Heap} {f : Addr} {fd : FuncData} {dvs : List V} {kws : List (Str × V)} (B : Blt mg) 
    (Fn : FunD K "moves" "Word.moves" (defArgs s_Word_moves) (defBody s_Word_moves) (defScope s_Word_moves) dvs kws f fd) : FnOk P w K mg base (L2N.CX P w) 1 f fd ["self"] (spA K 1 (F_Word_moves K)) :=
  AE.FunD.okA Fn sc_Word_moves pr_Word_moves fun cdv A outer s H E hr => ⟨t_Word_moves K,
    (ass_one (as_ret (ae_list1 rfl B.list_ (aa_cons (ae_fld (ae_name (pv 0))) aa_nil)))),
    fun os Kd Ed _ h => by unfold F_Word_moves at h; exact h.2⟩
abbrev s_Word_read : Stmt := inClass (top 12) 1
theorem sc_Word_read : FnScope ["cls", "book", "text", "moves", "move"] ["cls", "book", "text"] (defScope s_Word_read) := ⟨rfl, rfl, rfl, by decide +kernel, rfl, by decide +kernel, by decide +kernel⟩
theorem ok_Word_read {P : Program} {w : World} {K : PySem.W.Frag} {mg : Str → Option Value} {base : Heap} {f : Addr} {fd : FuncData} {dvs : List V} {kws : List (Str × V)} (B : Blt mg) (M_Word : Mak P w K mg base 4 "Word" (C K "Word") ["self", "book", "moves"] (F_Word___init__ K))
    (X_BadText : XPlain K mg "BadText" (C K "BadText"))
    (Fn : FunD K "read" "Word.read" (defArgs s_Word_read) (defBody s_Word_read) (defScope s_Word_read) dvs kws f fd) : FnOk P w K mg base (L2N.CX P w) 6 f fd ["cls", "book", "text"] (spA K 3 (F_Word_read K)) :=
  AE.FunD.okA Fn sc_Word_read pr_Word_read fun cdv A outer s H E hr => ⟨t_Word_read K,
    (ass_consF (as_asg (ae_if (at_c c_gt (ae_len rfl B.len_ (aa_cons (ae_name (pv 2)) aa_nil)) ae_int) (ae_split (ae_name (pv 2)) ae_str) (ae_lst aa_nil)) (ag_name (i := 3) sc_Word_read.nd rfl (by first | exact .inl rfl | exact .inr rfl) rfl))
    (ass_consF (as_if (at_not (at_val (ae_all rfl rfl B.all_ (aa_cons (ae_lc (own := [("move", 4)]) (vs := [4]) rfl sc_Word_read.nd (ai_seq (ae_nameF (pv 3))) (blkOk_by (by kernel_rfl)) rfl (by decide) (ltAll rfl) (fun _ _ _ _ _ => (ag_name (i := 4) sc_Word_read.nd rfl (by first | exact .inl rfl | exact .inr rfl) rfl)) (fun _ _ _ _ _ => ats_nil) (fun _ _ _ _ _ => (ae_c (c_in (room65 hr)) (ae_name (pv 4)) (ae_fld (ae_name (pv 1)))))) aa_nil)))) (ass_one (as_raise0 rfl (L2N.takes_of rfl rfl rfl rfl) X_BadText rfl)) ass_nil)
    (ass_one (as_ret (ae_makeL M_Word (hr.mono (by decide)) (L2N.takes_of rfl rfl rfl rfl) (pv 0) (aa_cons (ae_nameF (pv 1)) (aa_cons (ae_nameF (pv 3)) aa_nil))))))),
    fun os Kd Ed _ h => by unfold F_Word_read at h; exact h.2⟩
abbrev s__law_right : Stmt := top 32
theorem sc__law_right : FnScope ["_law_sheet", "_law_signs_here", "_law_line", "_law_moves_here", "_law_good", "_law_move", "_law_word", "e"] ["_law_sheet", "_law_signs_here", "_law_line"] (defScope s__law_right) := ⟨rfl, rfl, rfl, by decide +kernel, rfl, by decide +kernel, by decide +kernel⟩
theorem ok__law_right {P : Program} {w : World} {K : PySem.W.Frag} {mg : Str → Option Value} {base : Heap} {f : Addr} {fd : FuncData} {dvs : List V} {kws : List (Str × V)} (B : Blt mg) (E_Word : EqO P w K mg base 2 (C K "Word") (F_Word___eq__ K))
    (M_Word : Mak P w K mg base 4 "Word" (C K "Word") ["self", "book", "moves"] (F_Word___init__ K))
    (T_Word_text : Met P w K mg base 1 (C K "Word") "text" ["self"] (F_Word_text K))
    (T_Word_moves : Met P w K mg base 1 (C K "Word") "moves" ["self"] (F_Word_moves K))
    (K_Word_read : CMt P w K mg base 6 (C K "Word") "read" ["cls", "book", "text"] (F_Word_read K) ["text", "book"] [1, 0])
    (G_Word : GlobD K mg "Word" (.cl (C K "Word")))
    (X_BadText : XPlain K mg "BadText" (C K "BadText"))
    (G_StepError : GlobD K mg "StepError" (.cl (C K "StepError")))
    (Fn : FunD K "_law_right" "_law_right" (defArgs s__law_right) (defBody s__law_right) (defScope s__law_right) dvs kws f fd) : FnOk P w K mg base (L2N.CX P w) 7 f fd ["_law_sheet", "_law_signs_here", "_law_line"] (spA K 3 (F__law_right K)) :=
  AE.FunD.okA Fn sc__law_right pr__law_right fun cdv A outer s H E hr => ⟨t__law_right K,
    (ass_consF (as_asg (ae_if (at_c (c_ne (room64 hr)) (ae_name (pv 2)) ae_str) (ae_split (ae_name (pv 2)) ae_str) (ae_lst aa_nil)) (ag_name (i := 3) sc__law_right.nd rfl (by first | exact .inl rfl | exact .inr rfl) rfl))
    (ass_consF (as_asg (ae_c (c_eq (room64 hr)) (ae_lc (own := [("_law_move", 5)]) (vs := [5]) rfl sc__law_right.nd (ai_seq (ae_nameF (pv 3))) (blkOk_by (by kernel_rfl)) rfl (by decide) (ltAll rfl) (fun _ _ _ _ _ => (ag_name (i := 5) sc__law_right.nd rfl (by first | exact .inl rfl | exact .inr rfl) rfl)) (fun _ _ _ _ _ => (ats_one (at_c (c_notin (room65 hr)) (ae_name (pv 5)) (ae_name (pv 1))))) (fun _ _ _ _ _ => (ae_nameF (pv 5)))) (ae_lst aa_nil)) (ag_name (i := 4) sc__law_right.nd rfl (by first | exact .inl rfl | exact .inr rfl) rfl))
    (ass_consF (as_try rfl rfl sc__law_right.nd (L2N.takes_of rfl rfl rfl rfl) (fun W' pn xe tk' hp' => (ass_one (as_asg (ae_cmethK K_Word_read (hr.mono (by decide)) tk' (ae_glob G_Word rfl) (ak_cons (ae_nameF (pv 2)) (ak_cons (ae_nameF (pv 0)) ak_nil))) (ag_name (i := 6) sc__law_right.nd rfl (by first | exact .inl rfl | exact .inr rfl) rfl)))) (.cons ⟨rfl, by decide, .inl X_BadText.mgC⟩ rfl rfl rfl (fun a oe cls d pn hz hf => (ass_one (as_ret (ae_and (ae_not (ae_name (pv 4))) (ae_one (by exact ae_isiX hz hf rfl B.isinstance_ (aa_cons (ae_name (pv 7)) (aa_cons (ae_glob G_StepError rfl) aa_nil)))))))) .nil))
    (ass_one (as_ret (ae_and (ae_name (pv 4)) (ae_and (ae_c (c_eq (room64 hr)) (ae_meth0 T_Word_moves (hr.mono (by decide)) (L2N.takes_of rfl rfl rfl rfl) (ae_name (pv 6))) (ae_name (pv 3))) (ae_and (ae_c (c_eq (room64 hr)) (ae_meth0 T_Word_text (hr.mono (by decide)) (L2N.takes_of rfl rfl rfl rfl) (ae_name (pv 6))) (ae_name (pv 2))) (ae_one (ae_c (c_eqO E_Word (hr.mono (by decide))) (ae_name (pv 6)) (ae_make M_Word (hr.mono (by decide)) (L2N.takes_of rfl rfl rfl rfl) rfl (aa_cons (ae_nameF (pv 0)) (aa_cons (ae_nameF (pv 3)) aa_nil))))))))))))),
    fun os Kd Ed _ h => by unfold F__law_right at h; exact h.2⟩
abbrev s__law_take : Stmt := top 24
theorem sc__law_take : FnScope ["_law_box_here", "_law_many", "_law_digit", "_law_mixed"] ["_law_box_here", "_law_many"] (defScope s__law_take) := ⟨rfl, rfl, rfl, by decide +kernel, rfl, by decide +kernel, by decide +kernel⟩
theorem ok__law_take {P : Program} {w : World} {K : PySem.W.Frag} {mg : Str → Option Value} {base : Heap} {f : Addr} {fd : FuncData} {dvs : List V} {kws : List (Str × V)} (B : Blt mg) 
    (Fn : FunD K "_law_take" "_law_take" (defArgs s__law_take) (defBody s__law_take) (defScope s__law_take) dvs kws f fd) : FnOk P w K mg base (L2N.CX P w) 1 f fd ["_law_box_here", "_law_many"] (spA K 2 (F__law_take K)) :=
  AE.FunD.okA Fn sc__law_take pr__law_take fun cdv A outer s H E hr => ⟨t__law_take K,
    (ass_consF (as_if (at_c c_ge (ae_at (room64 hr) (ae_name (pv 0)) ae_int) (ae_pow ae_int ae_int)) (ass_consF (as_asg (ae_mod (ae_int1 rfl B.int_ (aa_cons (ae_at (room64 hr) (ae_name (pv 0)) ae_int) aa_nil)) (ae_name (pv 1))) (ag_name (i := 2) sc__law_take.nd rfl (by first | exact .inl rfl | exact .inr rfl) rfl))
    (ass_consF (as_asg (ae_fdiv (ae_at (room64 hr) (ae_name (pv 0)) ae_int) (ae_name (pv 1))) (ag_sub (room64 hr) (ae_name (pv 0)) ae_int))
    (ass_one (as_ret (ae_name (pv 2)))))) ass_nil)
    (ass_consF (as_asg (ae_add (ae_at (room64 hr) (ae_name (pv 0)) ae_int) ae_int) (ag_sub (room64 hr) (ae_name (pv 0)) ae_int))
    (ass_consF (as_asg (ae_mod (ae_pow (ae_int1 rfl B.int_ (aa_cons (ae_add (ae_add (ae_mul (ae_add (ae_at (room64 hr) (ae_name (pv 0)) ae_int) ae_int) ae_int) (ae_mul (ae_at (room64 hr) (ae_name (pv 0)) ae_int) ae_int)) (ae_at (room64 hr) (ae_name (pv 0)) ae_int)) aa_nil)) ae_int) ae_int) (ag_name (i := 3) sc__law_take.nd rfl (by first | exact .inl rfl | exact .inr rfl) rfl))
    (ass_consF (as_asg (ae_mod (ae_pow (ae_int1 rfl B.int_ (aa_cons (ae_add (ae_name (pv 3)) (ae_mul (ae_at (room64 hr) (ae_name (pv 0)) ae_int) ae_int)) aa_nil)) ae_int) ae_int) (ag_name (i := 3) sc__law_take.nd rfl (by first | exact .inl rfl | exact .inr rfl) rfl))
    (ass_one (as_ret (ae_mod (ae_int1 rfl B.int_ (aa_cons (ae_fdiv (ae_name (pv 3)) ae_int) aa_nil)) (ae_name (pv 1))))))))),
    fun os Kd Ed _ h => by unfold F__law_take at h; exact h.2⟩
abbrev s__law_spoiled : Stmt := top 31
theorem sc__law_spoiled : FnScope ["_law_box_here", "_law_line", "_law_at", "_law_chars", "_law_char", "_law_way"] ["_law_box_here", "_law_line"] (defScope s__law_spoiled) := ⟨rfl, rfl, rfl, by decide +kernel, rfl, by decide +kernel, by decide +kernel⟩
theorem ok__law_spoiled {P : Program} {w : World} {K : PySem.W.Frag} {mg : Str → Option Value} {base : Heap} {f : Addr} {fd : FuncData} {dvs : List V} {kws : List (Str × V)} (B : Blt mg) (C__law_take : Cal P w K mg base 1 "_law_take" ["_law_box_here", "_law_many"] (F__law_take K))
    (Fn : FunD K "_law_spoiled" "_law_spoiled" (defArgs s__law_spoiled) (defBody s__law_spoiled) (defScope s__law_spoiled) dvs kws f fd) : FnOk P w K mg base (L2N.CX P w) 2 f fd ["_law_box_here", "_law_line"] (spA K 2 (F__law_spoiled K)) :=
  AE.FunD.okA Fn sc__law_spoiled pr__law_spoiled fun cdv A outer s H E hr => ⟨t__law_spoiled K,
    (ass_consF (as_asg (ae_call C__law_take (hr.mono (by decide)) (L2N.takes_of rfl rfl rfl rfl) rfl (aa_cons (ae_name (pv 0)) (aa_cons (ae_add (ae_len rfl B.len_ (aa_cons (ae_name (pv 1)) aa_nil)) ae_int) aa_nil))) (ag_name (i := 2) sc__law_spoiled.nd rfl (by first | exact .inl rfl | exact .inr rfl) rfl))
    (ass_consF (as_asg ae_str (ag_name (i := 3) sc__law_spoiled.nd rfl (by first | exact .inl rfl | exact .inr rfl) rfl))
    (ass_consF (as_asg (ae_at (room64 hr) (ae_name (pv 3)) (ae_if (at_c (c_eq (room64 hr)) (ae_call C__law_take (hr.mono (by decide)) (L2N.takes_of rfl rfl rfl rfl) rfl (aa_cons (ae_name (pv 0)) (aa_cons ae_int aa_nil))) ae_int) (ae_call C__law_take (hr.mono (by decide)) (L2N.takes_of rfl rfl rfl rfl) rfl (aa_cons (ae_name (pv 0)) (aa_cons (ae_len rfl B.len_ (aa_cons (ae_name (pv 3)) aa_nil)) aa_nil))) (ae_call C__law_take (hr.mono (by decide)) (L2N.takes_of rfl rfl rfl rfl) rfl (aa_cons (ae_name (pv 0)) (aa_cons ae_int aa_nil))))) (ag_name (i := 4) sc__law_spoiled.nd rfl (by first | exact .inl rfl | exact .inr rfl) rfl))
    (ass_consF (as_asg (ae_call C__law_take (hr.mono (by decide)) (L2N.takes_of rfl rfl rfl rfl) rfl (aa_cons (ae_name (pv 0)) (aa_cons ae_int aa_nil))) (ag_name (i := 5) sc__law_spoiled.nd rfl (by first | exact .inl rfl | exact .inr rfl) rfl))
    (ass_consF (as_if (at_c (c_eq (room64 hr)) (ae_name (pv 5)) ae_int) (ass_one (as_ret (ae_add (ae_add (ae_slice (ae_name (pv 1)) ao_none (ao_some (ae_name (pv 2)))) (ae_name (pv 4))) (ae_slice (ae_name (pv 1)) (ao_some (ae_name (pv 2))) ao_none)))) ass_nil)
    (ass_one (as_ret (ae_if (at_c (c_eq (room64 hr)) (ae_name (pv 5)) ae_int) (ae_add (ae_slice (ae_name (pv 1)) ao_none (ao_some (ae_name (pv 2)))) (ae_slice (ae_name (pv 1)) (ao_some (ae_add (ae_name (pv 2)) ae_int)) ao_none)) (ae_add (ae_add (ae_slice (ae_name (pv 1)) ao_none (ao_some (ae_name (pv 2)))) (ae_name (pv 4))) (ae_slice (ae_name (pv 1)) (ao_some (ae_add (ae_name (pv 2)) ae_int)) ao_none)))))))))),
    fun os Kd Ed _ h => by unfold F__law_spoiled at h; exact h.2⟩
abbrev s__law_opposite : Stmt := top 27
theorem sc__law_opposite : FnScope ["_law_move"] ["_law_move"] (defScope s__law_opposite) := ⟨rfl, rfl, rfl, by decide +kernel, rfl, by decide +kernel, by decide +kernel⟩
theorem ok__law_opposite {P : Program} {w : World} {K : PySem.W.Frag} {mg : Str → Option Value} {base : Heap} {f : Addr} {fd : FuncData} {dvs : List V} {kws : List (Str × V)} (B : Blt mg) 
    (Fn : FunD K "_law_opposite" "_law_opposite" (defArgs s__law_opposite) (defBody s__law_opposite) (defScope s__law_opposite) dvs kws f fd) : FnOk P w K mg base (L2N.CX P w) 1 f fd ["_law_move"] (spA K 1 (F__law_opposite K)) :=
  AE.FunD.okA Fn sc__law_opposite pr__law_opposite fun cdv A outer s H E hr => ⟨t__law_opposite K,
    (ass_one (as_ret (ae_if (at_c (c_eq (room64 hr)) (ae_slice (ae_name (pv 0)) ao_none (ao_some ae_int)) ae_str) (ae_slice (ae_name (pv 0)) (ao_some ae_int) ao_none) (ae_add ae_str (ae_name (pv 0)))))),
    fun os Kd Ed _ h => by unfold F__law_opposite at h; exact h.2⟩
abbrev s__law_signs : Stmt := top 29
theorem sc__law_signs : FnScope ["_law_model_here", "_law_found", "_law_name"] ["_law_model_here"] (defScope s__law_signs) := ⟨rfl, rfl, rfl, by decide +kernel, rfl, by decide +kernel, by decide +kernel⟩
theorem ok__law_signs {P : Program} {w : World} {K : PySem.W.Frag} {mg : Str → Option Value} {base : Heap} {f : Addr} {fd : FuncData} {dvs : List V} {kws : List (Str × V)} (B : Blt mg) 
    (Fn : FunD K "_law_signs" "_law_signs" (defArgs s__law_signs) (defBody s__law_signs) (defScope s__law_signs) dvs kws f fd) : FnOk P w K mg base (L2N.CX P w) 1 f fd ["_law_model_here"] (spA K 1 (F__law_signs K)) :=
  AE.FunD.okA Fn sc__law_signs pr__law_signs fun cdv A outer s H E hr => ⟨t__law_signs K,
    (ass_consF (as_asg (ae_lst aa_nil) (ag_name (i := 1) sc__law_signs.nd rfl (by first | exact .inl rfl | exact .inr rfl) rfl))
    (ass_consF (as_for (passes_of rfl) rfl (ai_seq (ae_at (room64 hr) (ae_name (pv 0)) ae_int)) (ag_name (i := 2) sc__law_signs.nd rfl (by first | exact .inl rfl | exact .inr rfl) rfl) (ass_one (as_asg (ae_add (ae_name (pv 1)) (ae_lst (aa_cons (ae_nameF (pv 2)) (aa_cons (ae_add ae_str (ae_name (pv 2))) aa_nil)))) (ag_name (i := 1) sc__law_signs.nd rfl (by first | exact .inl rfl | exact .inr rfl) rfl))))
    (ass_one (as_ret (ae_name (pv 1)))))),
    fun os Kd Ed _ h => by unfold F__law_signs at h; exact h.2⟩
abbrev s__law_moves : Stmt := top 30
theorem sc__law_moves : FnScope ["_law_box_here", "_law_model_here", "_law_most", "_law_signs_here", "_law_found", "_law_k"] ["_law_box_here", "_law_model_here", "_law_most"] (defScope s__law_moves) := ⟨rfl, rfl, rfl, by decide +kernel, rfl, by decide +kernel, by decide +kernel⟩
theorem ok__law_moves {P : Program} {w : World} {K : PySem.W.Frag} {mg : Str → Option Value} {base : Heap} {f : Addr} {fd : FuncData} {dvs : List V} {kws : List (Str × V)} (B : Blt mg) (C__law_take : Cal P w K mg base 1 "_law_take" ["_law_box_here", "_law_many"] (F__law_take K))
    (C__law_opposite : Cal P w K mg base 1 "_law_opposite" ["_law_move"] (F__law_opposite K))
    (C__law_signs : Cal P w K mg base 1 "_law_signs" ["_law_model_here"] (F__law_signs K))
    (Fn : FunD K "_law_moves" "_law_moves" (defArgs s__law_moves) (defBody s__law_moves) (defScope s__law_moves) dvs kws f fd) : FnOk P w K mg base (L2N.CX P w) 2 f fd ["_law_box_here", "_law_model_here", "_law_most"] (spA K 3 (F__law_moves K)) :=
  AE.FunD.okA Fn sc__law_moves pr__law_moves fun cdv A outer s H E hr => ⟨t__law_moves K,
    (ass_consF (as_asg (ae_call C__law_signs (hr.mono (by decide)) (L2N.takes_of rfl rfl rfl rfl) rfl (aa_cons (ae_name (pv 1)) aa_nil)) (ag_name (i := 3) sc__law_moves.nd rfl (by first | exact .inl rfl | exact .inr rfl) rfl))
    (ass_consF (as_asg (ae_lst aa_nil) (ag_name (i := 4) sc__law_moves.nd rfl (by first | exact .inl rfl | exact .inr rfl) rfl))
    (ass_consF (as_for (passes_of rfl) rfl (ai_range1 rfl B.range_ (aa_cons (ae_call C__law_take (hr.mono (by decide)) (L2N.takes_of rfl rfl rfl rfl) rfl (aa_cons (ae_name (pv 0)) (aa_cons (ae_add (ae_name (pv 2)) ae_int) aa_nil))) aa_nil)) (ag_name (i := 5) sc__law_moves.nd rfl (by first | exact .inl rfl | exact .inr rfl) rfl) (ass_one (as_if (AW.at (aw_and (at_c (c_ne (room64 hr)) (ae_name (pv 4)) (ae_lst aa_nil)) (aw_and1 (at_c (c_eq (room64 hr)) (ae_call C__law_take (hr.mono (by decide)) (L2N.takes_of rfl rfl rfl rfl) rfl (aa_cons (ae_name (pv 0)) (aa_cons ae_int aa_nil))) ae_int)))) (ass_one (as_expr (ae_append (ae_name (pv 4)) (aa_cons (ae_call C__law_opposite (hr.mono (by decide)) (L2N.takes_of rfl rfl rfl rfl) rfl (aa_cons (ae_at (room64 hr) (ae_name (pv 4)) (ae_call C__law_take (hr.mono (by decide)) (L2N.takes_of rfl rfl rfl rfl) rfl (aa_cons (ae_name (pv 0)) (aa_cons (ae_len rfl B.len_ (aa_cons (ae_name (pv 4)) aa_nil)) aa_nil)))) aa_nil)) aa_nil)))) (ass_one (as_expr (ae_append (ae_name (pv 4)) (aa_cons (ae_at (room64 hr) (ae_name (pv 3)) (ae_call C__law_take (hr.mono (by decide)) (L2N.takes_of rfl rfl rfl rfl) rfl (aa_cons (ae_name (pv 0)) (aa_cons (ae_len rfl B.len_ (aa_cons (ae_name (pv 3)) aa_nil)) aa_nil)))) aa_nil)))))))
    (ass_one (as_ret (ae_name (pv 4))))))),
    fun os Kd Ed _ h => by unfold F__law_moves at h; exact h.2⟩
abbrev s_pair_places : Stmt := top 19
theorem sc_pair_places : FnScope ["names", "pair", "first", "second"] ["names", "pair"] (defScope s_pair_places) := ⟨rfl, rfl, rfl, by decide +kernel, rfl, by decide +kernel, by decide +kernel⟩
theorem ok_pair_places {P : Program} {w : World} {K : PySem.W.Frag} {mg : Str → Option Value} {base : Heap} {f : Addr} {fd : FuncData} {dvs : List V} {kws : List (Str × V)} (B : Blt mg) (X_BadPair : XOneK P w K mg base "BadPair" (C K "BadPair") "pair" "pair")
    (Fn : FunD K "pair_places" "pair_places" (defArgs s_pair_places) (defBody s_pair_places) (defScope s_pair_places) dvs kws f fd) : FnOk P w K mg base (L2N.CX P w) 3 f fd ["names", "pair"] (spA K 2 (F_pair_places K)) :=
  AE.FunD.okA Fn sc_pair_places pr_pair_places fun cdv A outer s H E hr => ⟨t_pair_places K,
    (ass_consF (as_if (AW.at (aw_or (at_not (at_val (ae_isi rfl B.isinstance_ (aa_cons (ae_name (pv 1)) (aa_cons (ae_ty (T := "tuple") rfl B.tuple_ (by decide +kernel)) aa_nil))))) (aw_or1 (at_c (c_ne (room64 hr)) (ae_len rfl B.len_ (aa_cons (ae_name (pv 1)) aa_nil)) ae_int)))) (ass_one (as_raise1 (k := 0) rfl (L2N.takes_of rfl rfl rfl rfl) X_BadPair.one (hr.mono (by decide)) rfl (ae_nameF (pv 1)))) ass_nil)
    (ass_consF (as_if (AW.at (aw_or (at_c (c_notin (room65 hr)) (ae_at (room64 hr) (ae_name (pv 1)) ae_int) (ae_name (pv 0))) (aw_or (at_c (c_notin (room65 hr)) (ae_at (room64 hr) (ae_name (pv 1)) ae_int) (ae_name (pv 0))) (aw_or1 (at_c (c_eq (room64 hr)) (ae_at (room64 hr) (ae_name (pv 1)) ae_int) (ae_at (room64 hr) (ae_name (pv 1)) ae_int)))))) (ass_one (as_raise1 (k := 0) rfl (L2N.takes_of rfl rfl rfl rfl) X_BadPair.one (hr.mono (by decide)) rfl (ae_nameF (pv 1)))) ass_nil)
    (ass_consF (as_asg (ae_index (ae_name (pv 0)) (aa_cons (ae_at (room64 hr) (ae_name (pv 1)) ae_int) aa_nil)) (ag_name (i := 2) sc_pair_places.nd rfl (by first | exact .inl rfl | exact .inr rfl) rfl))
    (ass_consF (as_asg (ae_index (ae_name (pv 0)) (aa_cons (ae_at (room64 hr) (ae_name (pv 1)) ae_int) aa_nil)) (ag_name (i := 3) sc_pair_places.nd rfl (by first | exact .inl rfl | exact .inr rfl) rfl))
    (ass_one (as_ret (ae_if (at_c c_lt (ae_name (pv 2)) (ae_name (pv 3))) (ae_tup (aa_cons (ae_nameF (pv 2)) (aa_cons (ae_nameF (pv 3)) aa_nil))) (ae_tup (aa_cons (ae_nameF (pv 3)) (aa_cons (ae_nameF (pv 2)) aa_nil)))))))))),
    fun os Kd Ed _ h => by unfold F_pair_places at h; exact h.2⟩
abbrev s_is_step_name : Stmt := top 18
theorem sc_is_step_name : FnScope ["name", "char"] ["name"] (defScope s_is_step_name) := ⟨rfl, rfl, rfl, by decide +kernel, rfl, by decide +kernel, by decide +kernel⟩
theorem ok_is_step_name {P : Program} {w : World} {K : PySem.W.Frag} {mg : Str → Option Value} {base : Heap} {f : Addr} {fd : FuncData} {dvs : List V} {kws : List (Str × V)} (B : Blt mg) (G_LETTERS : GlobD K mg "LETTERS" (g_LETTERS))
    (G_RESERVED : GlobD K mg "RESERVED" (g_RESERVED))
    (G_MOST_LETTERS : GlobD K mg "MOST_LETTERS" (g_MOST_LETTERS))
    (Fn : FunD K "is_step_name" "is_step_name" (defArgs s_is_step_name) (defBody s_is_step_name) (defScope s_is_step_name) dvs kws f fd) : FnOk P w K mg base (L2N.CX P w) 1 f fd ["name"] (spA K 1 (F_is_step_name K)) :=
  AE.FunD.okA Fn sc_is_step_name pr_is_step_name fun cdv A outer s H E hr => ⟨t_is_step_name K,
    (ass_consF (as_if (AW.at (aw_or (at_c (c_eq (room64 hr)) (ae_len rfl B.len_ (aa_cons (ae_name (pv 0)) aa_nil)) ae_int) (aw_or (at_c c_gt (ae_len rfl B.len_ (aa_cons (ae_name (pv 0)) aa_nil)) (ae_glob G_MOST_LETTERS rfl)) (aw_or1 (at_c (c_in (room65 hr)) (ae_name (pv 0)) (ae_glob G_RESERVED rfl)))))) (ass_one (as_ret ae_bl)) ass_nil)
    (ass_one (as_ret (ae_all rfl rfl B.all_ (aa_cons (ae_lc (own := [("char", 1)]) (vs := [1]) rfl sc_is_step_name.nd (ai_seq (ae_nameF (pv 0))) (blkOk_by (by kernel_rfl)) rfl (by decide) (ltAll rfl) (fun _ _ _ _ _ => (ag_name (i := 1) sc_is_step_name.nd rfl (by first | exact .inl rfl | exact .inr rfl) rfl)) (fun _ _ _ _ _ => ats_nil) (fun _ _ _ _ _ => (ae_c (c_in (room65 hr)) (ae_name (pv 1)) (ae_glob G_LETTERS rfl)))) aa_nil))))),
    fun os Kd Ed _ h => by unfold F_is_step_name at h; exact h.2⟩
abbrev s_Book___init__ : Stmt := inClass (top 20) 0
theorem sc_Book___init__ : FnScope ["self", "steps", "independent", "names", "name", "at", "found", "pair", "ordered", "i", "j", "sign", "number", "both", "many", "n", "m"] ["self", "steps", "independent"] (defScope s_Book___init__) := ⟨rfl, rfl, rfl, by decide +kernel, rfl, by decide +kernel, by decide +kernel⟩
theorem ok_Book___init__ {P : Program} {w : World} {K : PySem.W.Frag} {mg : Str → Option Value} {base : Heap} {f : Addr} {fd : FuncData} {dvs : List V} {kws : List (Str × V)} (B : Blt mg) (C_pair_places : Cal P w K mg base 3 "pair_places" ["names", "pair"] (F_pair_places K))
    (X_Repeated : XOneK P w K mg base "Repeated" (C K "Repeated") "name" "name")
    (C_is_step_name : Cal P w K mg base 1 "is_step_name" ["name"] (F_is_step_name K))
    (X_BadName : XOneK P w K mg base "BadName" (C K "BadName") "name" "name")
    (G_MOST_STEPS : GlobD K mg "MOST_STEPS" (g_MOST_STEPS))
    (X_BadBook : XPlain K mg "BadBook" (C K "BadBook"))
    (Fn : FunD K "__init__" "Book.__init__" (defArgs s_Book___init__) (defBody s_Book___init__) (defScope s_Book___init__) dvs kws f fd) : FnOk P w K mg base (L2N.CX P w) 4 f fd ["self", "steps", "independent"] (spA K 3 (F_Book___init__ K)) :=
  AE.FunD.okA Fn sc_Book___init__ pr_Book___init__ fun cdv A outer s H E hr => ⟨t_Book___init__ K,
    (ass_consF (as_asg (ae_list1 rfl B.list_ (aa_cons (ae_name (pv 1)) aa_nil)) (ag_name (i := 3) sc_Book___init__.nd rfl (by first | exact .inl rfl | exact .inr rfl) rfl))
    (ass_consF (as_if (AW.at (aw_or (at_c (c_eq (room64 hr)) (ae_len rfl B.len_ (aa_cons (ae_name (pv 3)) aa_nil)) ae_int) (aw_or1 (at_c c_gt (ae_len rfl B.len_ (aa_cons (ae_name (pv 3)) aa_nil)) (ae_glob G_MOST_STEPS rfl))))) (ass_one (as_raise0 rfl (L2N.takes_of rfl rfl rfl rfl) X_BadBook rfl)) ass_nil)
    (ass_consF (as_for (passes_of rfl) rfl (ai_seq (ae_nameF (pv 3))) (ag_name (i := 4) sc_Book___init__.nd rfl (by first | exact .inl rfl | exact .inr rfl) rfl) (ass_one (as_if (at_not (at_val (ae_call C_is_step_name (hr.mono (by decide)) (L2N.takes_of rfl rfl rfl rfl) rfl (aa_cons (ae_name (pv 4)) aa_nil)))) (ass_one (as_raise1 (k := 0) rfl (L2N.takes_of rfl rfl rfl rfl) X_BadName.one (hr.mono (by decide)) rfl (ae_nameF (pv 4)))) ass_nil)))
    (ass_consF (as_for (passes_of rfl) rfl (ai_range1 rfl B.range_ (aa_cons (ae_len rfl B.len_ (aa_cons (ae_name (pv 3)) aa_nil)) aa_nil)) (ag_name (i := 5) sc_Book___init__.nd rfl (by first | exact .inl rfl | exact .inr rfl) rfl) (ass_one (as_if (at_c (c_in (room65 hr)) (ae_at (room64 hr) (ae_name (pv 3)) (ae_name (pv 5))) (ae_slice (ae_name (pv 3)) ao_none (ao_some (ae_name (pv 5))))) (ass_one (as_raise1 (k := 0) rfl (L2N.takes_of rfl rfl rfl rfl) X_Repeated.one (hr.mono (by decide)) rfl (ae_at (room64 hr) (ae_name (pv 3)) (ae_name (pv 5))))) ass_nil)))
    (ass_consF (by first | exact as_setLc (i := 6) (own := [("pair", 7)]) (vs := [7]) rfl sc_Book___init__.nd rfl rfl rfl rfl (ai_seq (ae_nameF (pv 2))) (blkOk_by (by kernel_rfl)) rfl (by decide) (ltAll rfl) (fun _ _ _ _ _ => (ag_name (i := 7) sc_Book___init__.nd rfl (by first | exact .inl rfl | exact .inr rfl) rfl)) (fun _ _ _ _ _ => ats_nil) (fun _ _ _ _ _ => (ae_call C_pair_places (hr.mono (by decide)) takesF rfl (aa_cons (ae_name (pv 3)) (aa_cons (ae_name (pv 7)) aa_nil)))) | exact as_asg (ae_lc (own := [("pair", 7)]) (vs := [7]) rfl sc_Book___init__.nd (ai_seq (ae_nameF (pv 2))) (blkOk_by (by kernel_rfl)) rfl (by decide) (ltAll rfl) (fun _ _ _ _ _ => (ag_name (i := 7) sc_Book___init__.nd rfl (by first | exact .inl rfl | exact .inr rfl) rfl)) (fun _ _ _ _ _ => ats_nil) (fun _ _ _ _ _ => (ae_call C_pair_places (hr.mono (by decide)) takesF rfl (aa_cons (ae_name (pv 3)) (aa_cons (ae_name (pv 7)) aa_nil))))) (ag_name (i := 6) sc_Book___init__.nd rfl (by first | exact .inl rfl | exact .inr rfl) rfl))
    (ass_consF (by first | exact as_setLc2 (i := 8) (own := [("i", 9), ("j", 10)]) (vs := [9, 10]) (vs1 := [10]) rfl sc_Book___init__.nd rfl rfl rfl rfl (ai_range1 rfl B.range_ (aa_cons (ae_len rfl B.len_ (aa_cons (ae_name (pv 3)) aa_nil)) aa_nil)) (blkOk_by (by kernel_rfl)) rfl (by decide) (by decide) (by decide) (ltAll rfl) (fun _ _ _ _ _ => (ag_name (i := 9) sc_Book___init__.nd rfl (by first | exact .inl rfl | exact .inr rfl) rfl)) (fun _ _ _ _ _ => ats_nil) (fun _ _ _ _ _ => (ai_range1 rfl B.range_ (aa_cons (ae_len rfl B.len_ (aa_cons (ae_name (pv 3)) aa_nil)) aa_nil))) (fun _ _ _ _ _ => (ag_name (i := 10) sc_Book___init__.nd rfl (by first | exact .inl rfl | exact .inr rfl) rfl)) (fun _ _ _ _ _ => (ats_one (at_c (c_in (room65 hr)) (ae_tup (aa_cons (ae_nameF (pv 9)) (aa_cons (ae_nameF (pv 10)) aa_nil))) (ae_name (pv 6))))) (fun _ _ _ _ _ => (ae_tup (aa_cons (ae_nameF (pv 9)) (aa_cons (ae_nameF (pv 10)) aa_nil)))) | exact as_asg (ae_lc2 (own := [("i", 9), ("j", 10)]) (vs := [9, 10]) (vs1 := [10]) rfl sc_Book___init__.nd (ai_range1 rfl B.range_ (aa_cons (ae_len rfl B.len_ (aa_cons (ae_name (pv 3)) aa_nil)) aa_nil)) (blkOk_by (by kernel_rfl)) rfl (by decide) (by decide) (by decide) (ltAll rfl) (fun _ _ _ _ _ => (ag_name (i := 9) sc_Book___init__.nd rfl (by first | exact .inl rfl | exact .inr rfl) rfl)) (fun _ _ _ _ _ => ats_nil) (fun _ _ _ _ _ => (ai_range1 rfl B.range_ (aa_cons (ae_len rfl B.len_ (aa_cons (ae_name (pv 3)) aa_nil)) aa_nil))) (fun _ _ _ _ _ => (ag_name (i := 10) sc_Book___init__.nd rfl (by first | exact .inl rfl | exact .inr rfl) rfl)) (fun _ _ _ _ _ => (ats_one (at_c (c_in (room65 hr)) (ae_tup (aa_cons (ae_nameF (pv 9)) (aa_cons (ae_nameF (pv 10)) aa_nil))) (ae_name (pv 6))))) (fun _ _ _ _ _ => (ae_tup (aa_cons (ae_nameF (pv 9)) (aa_cons (ae_nameF (pv 10)) aa_nil))))) (ag_name (i := 8) sc_Book___init__.nd rfl (by first | exact .inl rfl | exact .inr rfl) rfl))
    (ass_consF (as_fld (pv 0) (ae_tuple1 rfl B.tuple_ (aa_cons (ae_name (pv 3)) aa_nil)))
    (ass_consF (as_fld (pv 0) (ae_tuple1 rfl B.tuple_ (aa_cons (ae_lc (own := [("i", 9), ("j", 10)]) (vs := [9, 10]) rfl sc_Book___init__.nd (ai_seq (ae_nameF (pv 8))) (blkOk_by (by kernel_rfl)) rfl (by decide) (ltAll rfl) (fun _ _ _ _ _ => (ag_tup rfl (ags_cons (ag_name (i := 9) sc_Book___init__.nd rfl (by first | exact .inl rfl | exact .inr rfl) rfl) (ags_cons (ag_name (i := 10) sc_Book___init__.nd rfl (by first | exact .inl rfl | exact .inr rfl) rfl) ags_nil)))) (fun _ _ _ _ _ => ats_nil) (fun _ _ _ _ _ => (ae_tup (aa_cons (ae_at (room64 hr) (ae_name (pv 3)) (ae_name (pv 9))) (aa_cons (ae_at (room64 hr) (ae_name (pv 3)) (ae_name (pv 10))) aa_nil))))) aa_nil)))
    (ass_consF (as_fld (pv 0) (ae_tuple1 rfl B.tuple_ (aa_cons (ae_lc2 (own := [("name", 4), ("sign", 11)]) (vs := [4, 11]) (vs1 := [11]) rfl sc_Book___init__.nd (ai_seq (ae_nameF (pv 3))) (blkOk_by (by kernel_rfl)) rfl (by decide) (by decide) (by decide) (ltAll rfl) (fun _ _ _ _ _ => (ag_name (i := 4) sc_Book___init__.nd rfl (by first | exact .inl rfl | exact .inr rfl) rfl)) (fun _ _ _ _ _ => ats_nil) (fun _ _ _ _ _ => (ai_seq (ae_tup (aa_cons ae_str (aa_cons ae_str aa_nil))))) (fun _ _ _ _ _ => (ag_name (i := 11) sc_Book___init__.nd rfl (by first | exact .inl rfl | exact .inr rfl) rfl)) (fun _ _ _ _ _ => ats_nil) (fun _ _ _ _ _ => (ae_add (ae_name (pv 11)) (ae_name (pv 4))))) aa_nil)))
    (ass_consF (as_fld (pv 0) (ae_dc (own := [("number", 12), ("sign", 11)]) (vs := [12, 11]) rfl sc_Book___init__.nd (ai_enum rfl B.enumerate_ (aa_cons (ae_fld (ae_name (pv 0))) aa_nil)) (blkOk_by (by kernel_rfl)) rfl (by decide) (ltAll rfl) (fun _ _ _ _ _ => (ag_tup rfl (ags_cons (ag_name (i := 12) sc_Book___init__.nd rfl (by first | exact .inl rfl | exact .inr rfl) rfl) (ags_cons (ag_name (i := 11) sc_Book___init__.nd rfl (by first | exact .inl rfl | exact .inr rfl) rfl) ags_nil)))) (fun _ _ _ _ _ => ats_nil) (fun _ _ _ _ _ => (ae_nameF (pv 11))) (fun _ _ _ _ _ => (ae_nameF (pv 12)))))
    (ass_consF (as_asg (ae_lst (aa_star (ae_name (pv 8)) (aa_star (ae_lc (own := [("i", 9), ("j", 10)]) (vs := [9, 10]) rfl sc_Book___init__.nd (ai_seq (ae_nameF (pv 8))) (blkOk_by (by kernel_rfl)) rfl (by decide) (ltAll rfl) (fun _ _ _ _ _ => (ag_tup rfl (ags_cons (ag_name (i := 9) sc_Book___init__.nd rfl (by first | exact .inl rfl | exact .inr rfl) rfl) (ags_cons (ag_name (i := 10) sc_Book___init__.nd rfl (by first | exact .inl rfl | exact .inr rfl) rfl) ags_nil)))) (fun _ _ _ _ _ => ats_nil) (fun _ _ _ _ _ => (ae_tup (aa_cons (ae_nameF (pv 10)) (aa_cons (ae_nameF (pv 9)) aa_nil))))) aa_nil))) (ag_name (i := 13) sc_Book___init__.nd rfl (by first | exact .inl rfl | exact .inr rfl) rfl))
    (ass_consF (as_asg (ae_len rfl B.len_ (aa_cons (ae_fld (ae_name (pv 0))) aa_nil)) (ag_name (i := 14) sc_Book___init__.nd rfl (by first | exact .inl rfl | exact .inr rfl) rfl))
    (ass_one (as_fld (pv 0) (ae_lc (own := [("m", 16)]) (vs := [16]) rfl sc_Book___init__.nd (ai_range1 rfl B.range_ (aa_cons (ae_name (pv 14)) aa_nil)) (blkOk_by (by kernel_rfl)) rfl (by decide) (ltAll rfl) (fun _ _ _ _ _ => (ag_name (i := 16) sc_Book___init__.nd rfl (by first | exact .inl rfl | exact .inr rfl) rfl)) (fun _ _ _ _ _ => ats_nil) (fun _ _ _ _ _ => (ae_lc (own := [("n", 15)]) (vs := [15]) rfl sc_Book___init__.nd (ai_range1 rfl B.range_ (aa_cons (ae_name (pv 14)) aa_nil)) (blkOk_by (by kernel_rfl)) rfl (by decide) (ltAll rfl) (fun _ _ _ _ _ => (ag_name (i := 15) sc_Book___init__.nd rfl (by first | exact .inl rfl | exact .inr rfl) rfl)) (fun _ _ _ _ _ => ats_nil) (fun _ _ _ _ _ => (ae_c (c_in (room65 hr)) (ae_tup (aa_cons (ae_fdiv (ae_name (pv 16)) ae_int) (aa_cons (ae_fdiv (ae_name (pv 15)) ae_int) aa_nil))) (ae_name (pv 13))))))))))))))))))))),
    fun os Kd Ed _ h => by unfold F_Book___init__ at h; exact h.2⟩
abbrev s__law_model : Stmt := top 25
theorem sc__law_model : FnScope ["_law_box_here", "_law_most", "_law_left", "_law_names", "_law_k", "_law_way", "_law_pairs", "_law_i", "_law_j", "_law_beside", "_law_one", "_law_name"] ["_law_box_here", "_law_most"] (defScope s__law_model) := ⟨rfl, rfl, rfl, by decide +kernel, rfl, by decide +kernel, by decide +kernel⟩
theorem ok__law_model {P : Program} {w : World} {K : PySem.W.Frag} {mg : Str → Option Value} {base : Heap} {f : Addr} {fd : FuncData} {dvs : List V} {kws : List (Str × V)} (B : Blt mg) (C__law_take : Cal P w K mg base 1 "_law_take" ["_law_box_here", "_law_many"] (F__law_take K))
    (Fn : FunD K "_law_model" "_law_model" (defArgs s__law_model) (defBody s__law_model) (defScope s__law_model) dvs kws f fd) : FnOk P w K mg base (L2N.CX P w) 2 f fd ["_law_box_here", "_law_most"] (spA K 2 (F__law_model K)) :=
  AE.FunD.okA Fn sc__law_model pr__law_model fun cdv A outer s H E hr => ⟨t__law_model K,
    (ass_consF (as_asg (ae_lst (aa_cons ae_str (aa_cons ae_str (aa_cons ae_str (aa_cons ae_str (aa_cons ae_str (aa_cons ae_str aa_nil))))))) (ag_name (i := 2) sc__law_model.nd rfl (by first | exact .inl rfl | exact .inr rfl) rfl))
    (ass_consF (by first | exact as_setLc (i := 3) (own := [("_law_k", 4)]) (vs := [4]) rfl sc__law_model.nd rfl rfl rfl rfl (ai_range1 rfl B.range_ (aa_cons (ae_add ae_int (ae_call C__law_take (hr.mono (by decide)) (L2N.takes_of rfl rfl rfl rfl) rfl (aa_cons (ae_name (pv 0)) (aa_cons (ae_name (pv 1)) aa_nil)))) aa_nil)) (blkOk_by (by kernel_rfl)) rfl (by decide) (ltAll rfl) (fun _ _ _ _ _ => (ag_name (i := 4) sc__law_model.nd rfl (by first | exact .inl rfl | exact .inr rfl) rfl)) (fun _ _ _ _ _ => ats_nil) (fun _ _ _ _ _ => (ae_popAt (ae_name (pv 2)) (aa_cons (ae_call C__law_take (hr.mono (by decide)) takesF rfl (aa_cons (ae_name (pv 0)) (aa_cons (ae_len rfl B.len_ (aa_cons (ae_name (pv 2)) aa_nil)) aa_nil))) aa_nil))) | exact as_asg (ae_lc (own := [("_law_k", 4)]) (vs := [4]) rfl sc__law_model.nd (ai_range1 rfl B.range_ (aa_cons (ae_add ae_int (ae_call C__law_take (hr.mono (by decide)) (L2N.takes_of rfl rfl rfl rfl) rfl (aa_cons (ae_name (pv 0)) (aa_cons (ae_name (pv 1)) aa_nil)))) aa_nil)) (blkOk_by (by kernel_rfl)) rfl (by decide) (ltAll rfl) (fun _ _ _ _ _ => (ag_name (i := 4) sc__law_model.nd rfl (by first | exact .inl rfl | exact .inr rfl) rfl)) (fun _ _ _ _ _ => ats_nil) (fun _ _ _ _ _ => (ae_popAt (ae_name (pv 2)) (aa_cons (ae_call C__law_take (hr.mono (by decide)) takesF rfl (aa_cons (ae_name (pv 0)) (aa_cons (ae_len rfl B.len_ (aa_cons (ae_name (pv 2)) aa_nil)) aa_nil))) aa_nil)))) (ag_name (i := 3) sc__law_model.nd rfl (by first | exact .inl rfl | exact .inr rfl) rfl))
    (ass_consF (as_asg (ae_call C__law_take (hr.mono (by decide)) (L2N.takes_of rfl rfl rfl rfl) rfl (aa_cons (ae_name (pv 0)) (aa_cons ae_int aa_nil))) (ag_name (i := 5) sc__law_model.nd rfl (by first | exact .inl rfl | exact .inr rfl) rfl))
    (ass_consF (as_asg (ae_lst aa_nil) (ag_name (i := 6) sc__law_model.nd rfl (by first | exact .inl rfl | exact .inr rfl) rfl))
    (ass_consF (as_for (passes_of rfl) rfl (ai_range1 rfl B.range_ (aa_cons (ae_len rfl B.len_ (aa_cons (ae_name (pv 3)) aa_nil)) aa_nil)) (ag_name (i := 7) sc__law_model.nd rfl (by first | exact .inl rfl | exact .inr rfl) rfl) (ass_one (as_for (passes_of rfl) rfl (ai_range1 rfl B.range_ (aa_cons (ae_name (pv 7)) aa_nil)) (ag_name (i := 8) sc__law_model.nd rfl (by first | exact .inl rfl | exact .inr rfl) rfl) (ass_one (as_if (AW.at (aw_or (at_c (c_eq (room64 hr)) (ae_name (pv 5)) ae_int) (aw_or1 (AW.at (aw_and (at_c c_gt (ae_name (pv 5)) ae_int) (aw_and1 (at_c (c_eq (room64 hr)) (ae_call C__law_take (hr.mono (by decide)) (L2N.takes_of rfl rfl rfl rfl) rfl (aa_cons (ae_name (pv 0)) (aa_cons ae_int aa_nil))) ae_int))))))) (ass_one (as_expr (ae_append (ae_name (pv 6)) (aa_cons (ae_tup (aa_cons (ae_at (room64 hr) (ae_name (pv 3)) (ae_name (pv 8))) (aa_cons (ae_at (room64 hr) (ae_name (pv 3)) (ae_name (pv 7))) aa_nil))) aa_nil)))) ass_nil)))))
    (ass_consF (as_asg ae_dnew (ag_name (i := 9) sc__law_model.nd rfl (by first | exact .inl rfl | exact .inr rfl) rfl))
    (ass_consF (as_for (passes_of rfl) rfl (ai_seq (ae_nameF (pv 3))) (ag_name (i := 10) sc__law_model.nd rfl (by first | exact .inl rfl | exact .inr rfl) rfl) (ass_one (as_asg (ae_lc (own := [("_law_name", 11)]) (vs := [11]) rfl sc__law_model.nd (ai_seq (ae_nameF (pv 3))) (blkOk_by (by kernel_rfl)) rfl (by decide) (ltAll rfl) (fun _ _ _ _ _ => (ag_name (i := 11) sc__law_model.nd rfl (by first | exact .inl rfl | exact .inr rfl) rfl)) (fun _ _ _ _ _ => (ats_one (AW.at (aw_and (at_c (c_ne (room64 hr)) (ae_name (pv 11)) (ae_name (pv 10))) (aw_and1 (at_not (AW.at (aw_or (at_c (c_in (room65 hr)) (ae_tup (aa_cons (ae_nameF (pv 11)) (aa_cons (ae_nameF (pv 10)) aa_nil))) (ae_name (pv 6))) (aw_or1 (at_c (c_in (room65 hr)) (ae_tup (aa_cons (ae_nameF (pv 10)) (aa_cons (ae_nameF (pv 11)) aa_nil))) (ae_name (pv 6)))))))))))) (fun _ _ _ _ _ => (ae_nameF (pv 11)))) (ag_sub (room64 hr) (ae_name (pv 9)) (ae_name (pv 10))))))
    (ass_one (as_ret (ae_lst (aa_cons (ae_nameF (pv 3)) (aa_cons (ae_nameF (pv 6)) (aa_cons (ae_nameF (pv 9)) aa_nil))))))))))))),
    fun os Kd Ed _ h => by unfold F__law_model at h; exact h.2⟩
abbrev s__law_cell : Stmt := top 22
theorem sc__law_cell : FnScope ["_law_script", "_law_k"] ["_law_script", "_law_k"] (defScope s__law_cell) := ⟨rfl, rfl, rfl, by decide +kernel, rfl, by decide +kernel, by decide +kernel⟩
theorem ok__law_cell {P : Program} {w : World} {K : PySem.W.Frag} {mg : Str → Option Value} {base : Heap} {f : Addr} {fd : FuncData} {dvs : List V} {kws : List (Str × V)} (B : Blt mg) 
    (Fn : FunD K "_law_cell" "_law_cell" (defArgs s__law_cell) (defBody s__law_cell) (defScope s__law_cell) dvs kws f fd) : FnOk P w K mg base (L2N.CX P w) 1 f fd ["_law_script", "_law_k"] (spA K 2 (F__law_cell K)) :=
  AE.FunD.okA Fn sc__law_cell pr__law_cell fun cdv A outer s H E hr => ⟨t__law_cell K,
    (ass_one (as_ret (ae_if (at_c c_lt (ae_name (pv 1)) (ae_len rfl B.len_ (aa_cons (ae_name (pv 0)) aa_nil))) (ae_at (room64 hr) (ae_name (pv 0)) (ae_name (pv 1))) ae_int))),
    fun os Kd Ed _ h => by unfold F__law_cell at h; exact h.2⟩
abbrev s__law_box : Stmt := top 23
theorem sc__law_box : FnScope ["_law_script", "_law_k"] ["_law_script", "_law_k"] (defScope s__law_box) := ⟨rfl, rfl, rfl, by decide +kernel, rfl, by decide +kernel, by decide +kernel⟩
theorem ok__law_box {P : Program} {w : World} {K : PySem.W.Frag} {mg : Str → Option Value} {base : Heap} {f : Addr} {fd : FuncData} {dvs : List V} {kws : List (Str × V)} (B : Blt mg) (C__law_cell : Cal P w K mg base 1 "_law_cell" ["_law_script", "_law_k"] (F__law_cell K))
    (Fn : FunD K "_law_box" "_law_box" (defArgs s__law_box) (defBody s__law_box) (defScope s__law_box) dvs kws f fd) : FnOk P w K mg base (L2N.CX P w) 2 f fd ["_law_script", "_law_k"] (spA K 2 (F__law_box K)) :=
  AE.FunD.okA Fn sc__law_box pr__law_box fun cdv A outer s H E hr => ⟨t__law_box K,
    (ass_one (as_ret (ae_lst (aa_cons (ae_abs rfl B.abs_ (aa_cons (ae_int1 rfl B.int_ (aa_cons (ae_call C__law_cell (hr.mono (by decide)) (L2N.takes_of rfl rfl rfl rfl) rfl (aa_cons (ae_name (pv 0)) (aa_cons (ae_name (pv 1)) aa_nil))) aa_nil)) aa_nil)) (aa_cons ae_int (aa_cons (ae_add (ae_mul ae_int (ae_name (pv 1))) ae_int) aa_nil)))))),
    fun os Kd Ed _ h => by unfold F__law_box at h; exact h.2⟩
abbrev s_law : Stmt := top 33
theorem sc_law : FnScope ["_law_script", "_law_box_here", "_law_model_here", "_law_sheet", "_law_signs_here", "_law_line", "_law_k", "_law_spoiled_here"] ["_law_script"] (defScope s_law) := ⟨rfl, rfl, rfl, by decide +kernel, rfl, by decide +kernel, by decide +kernel⟩
theorem ok_law {P : Program} {w : World} {K : PySem.W.Frag} {mg : Str → Option Value} {base : Heap} {f : Addr} {fd : FuncData} {dvs : List V} {kws : List (Str × V)} (B : Blt mg) (C__law_right : Cal P w K mg base 7 "_law_right" ["_law_sheet", "_law_signs_here", "_law_line"] (F__law_right K))
    (C__law_spoiled : Cal P w K mg base 2 "_law_spoiled" ["_law_box_here", "_law_line"] (F__law_spoiled K))
    (C__law_moves : Cal P w K mg base 2 "_law_moves" ["_law_box_here", "_law_model_here", "_law_most"] (F__law_moves K))
    (C__law_signs : Cal P w K mg base 1 "_law_signs" ["_law_model_here"] (F__law_signs K))
    (M_Book : Mak P w K mg base 4 "Book" (C K "Book") ["self", "steps", "independent"] (F_Book___init__ K))
    (C__law_model : Cal P w K mg base 2 "_law_model" ["_law_box_here", "_law_most"] (F__law_model K))
    (C__law_box : Cal P w K mg base 2 "_law_box" ["_law_script", "_law_k"] (F__law_box K))
    (Fn : FunD K "law" "law" (defArgs s_law) (defBody s_law) (defScope s_law) dvs kws f fd) : FnOk P w K mg base (L2N.CX P w) 8 f fd ["_law_script"] (spA K 1 (F_law K)) :=
  AE.FunD.okA Fn sc_law pr_law fun cdv A outer s H E hr => ⟨t_law K,
    (ass_consF (as_asg (ae_call C__law_box (hr.mono (by decide)) (L2N.takes_of rfl rfl rfl rfl) rfl (aa_cons (ae_name (pv 0)) (aa_cons ae_int aa_nil))) (ag_name (i := 1) sc_law.nd rfl (by first | exact .inl rfl | exact .inr rfl) rfl))
    (ass_consF (as_asg (ae_call C__law_model (hr.mono (by decide)) (L2N.takes_of rfl rfl rfl rfl) rfl (aa_cons (ae_name (pv 1)) (aa_cons ae_int aa_nil))) (ag_name (i := 2) sc_law.nd rfl (by first | exact .inl rfl | exact .inr rfl) rfl))
    (ass_consF (as_asg (ae_make M_Book (hr.mono (by decide)) (L2N.takes_of rfl rfl rfl rfl) rfl (aa_cons (ae_at (room64 hr) (ae_name (pv 2)) ae_int) (aa_cons (ae_at (room64 hr) (ae_name (pv 2)) ae_int) aa_nil))) (ag_name (i := 3) sc_law.nd rfl (by first | exact .inl rfl | exact .inr rfl) rfl))
    (ass_consF (as_asg (ae_call C__law_signs (hr.mono (by decide)) (L2N.takes_of rfl rfl rfl rfl) rfl (aa_cons (ae_name (pv 2)) aa_nil)) (ag_name (i := 4) sc_law.nd rfl (by first | exact .inl rfl | exact .inr rfl) rfl))
    (ass_consF (as_asg (ae_join ae_str (ae_call C__law_moves (hr.mono (by decide)) (L2N.takes_of rfl rfl rfl rfl) rfl (aa_cons (ae_name (pv 1)) (aa_cons (ae_name (pv 2)) (aa_cons ae_int aa_nil))))) (ag_name (i := 5) sc_law.nd rfl (by first | exact .inl rfl | exact .inr rfl) rfl))
    (ass_consF (as_if (at_not (at_val (ae_call C__law_right (hr.mono (by decide)) (L2N.takes_of rfl rfl rfl rfl) rfl (aa_cons (ae_nameF (pv 3)) (aa_cons (ae_nameF (pv 4)) (aa_cons (ae_nameF (pv 5)) aa_nil)))))) (ass_one (as_ret ae_bl)) ass_nil)
    (ass_consF (as_for (passes_of rfl) rfl (ai_range1 rfl B.range_ (aa_cons ae_int aa_nil)) (ag_name (i := 6) sc_law.nd rfl (by first | exact .inl rfl | exact .inr rfl) rfl) (ass_consF (as_asg (ae_call C__law_spoiled (hr.mono (by decide)) (L2N.takes_of rfl rfl rfl rfl) rfl (aa_cons (ae_name (pv 1)) (aa_cons (ae_name (pv 5)) aa_nil))) (ag_name (i := 7) sc_law.nd rfl (by first | exact .inl rfl | exact .inr rfl) rfl))
    (ass_one (as_if (AW.at (aw_or (at_not (at_val (ae_call C__law_right (hr.mono (by decide)) (L2N.takes_of rfl rfl rfl rfl) rfl (aa_cons (ae_nameF (pv 3)) (aa_cons (ae_nameF (pv 4)) (aa_cons (ae_nameF (pv 7)) aa_nil)))))) (aw_or1 (at_not (at_val (ae_call C__law_right (hr.mono (by decide)) (L2N.takes_of rfl rfl rfl rfl) rfl (aa_cons (ae_nameF (pv 3)) (aa_cons (ae_nameF (pv 4)) (aa_cons (ae_call C__law_spoiled (hr.mono (by decide)) (L2N.takes_of rfl rfl rfl rfl) rfl (aa_cons (ae_name (pv 1)) (aa_cons (ae_name (pv 7)) aa_nil))) aa_nil))))))))) (ass_one (as_ret ae_bl)) ass_nil))))
    (ass_one (as_ret (ae_and (ae_call C__law_right (hr.mono (by decide)) (L2N.takes_of rfl rfl rfl rfl) rfl (aa_cons (ae_nameF (pv 3)) (aa_cons (ae_nameF (pv 4)) (aa_cons ae_str aa_nil)))) (ae_and (ae_call C__law_right (hr.mono (by decide)) (L2N.takes_of rfl rfl rfl rfl) rfl (aa_cons (ae_nameF (pv 3)) (aa_cons (ae_nameF (pv 4)) (aa_cons ae_str aa_nil)))) (ae_one (ae_call C__law_right (hr.mono (by decide)) (L2N.takes_of rfl rfl rfl rfl) rfl (aa_cons (ae_nameF (pv 3)) (aa_cons (ae_nameF (pv 4)) (aa_cons ae_str aa_nil)))))))))))))))),
    fun os Kd Ed _ h => by unfold F_law at h; exact h.2⟩
end T
namespace T
open PySem L2 AE AH
def df_Book___eq__ : He5.DefA := ⟨fun K => ma K (C K "Book") "__eq__", "__eq__", "Book.__eq__", defArgs s_Book___eq__, defBody s_Book___eq__, defScope s_Book___eq__, [], []⟩
def df_Word___eq__ : He5.DefA := ⟨fun K => ma K (C K "Word") "__eq__", "__eq__", "Word.__eq__", defArgs s_Word___eq__, defBody s_Word___eq__, defScope s_Word___eq__, [], []⟩
def df_Book_number_of : He5.DefA := ⟨fun K => ma K (C K "Book") "number_of", "number_of", "Book.number_of", defArgs s_Book_number_of, defBody s_Book_number_of, defScope s_Book_number_of, [], []⟩
def df_Word___init__ : He5.DefA := ⟨fun K => ma K (C K "Word") "__init__", "__init__", "Word.__init__", defArgs s_Word___init__, defBody s_Word___init__, defScope s_Word___init__, [], []⟩
def df_Word_text : He5.DefA := ⟨fun K => ma K (C K "Word") "text", "text", "Word.text", defArgs s_Word_text, defBody s_Word_text, defScope s_Word_text, [], []⟩
def df_Word_moves : He5.DefA := ⟨fun K => ma K (C K "Word") "moves", "moves", "Word.moves", defArgs s_Word_moves, defBody s_Word_moves, defScope s_Word_moves, [], []⟩
def df_Word_read : He5.DefA := ⟨wf "classmethod" "Word" "read", "read", "Word.read", defArgs s_Word_read, defBody s_Word_read, defScope s_Word_read, [], []⟩
def df__law_right : He5.DefA := ⟨fun K => C K "_law_right", "_law_right", "_law_right", defArgs s__law_right, defBody s__law_right, defScope s__law_right, [], []⟩
def df__law_take : He5.DefA := ⟨fun K => C K "_law_take", "_law_take", "_law_take", defArgs s__law_take, defBody s__law_take, defScope s__law_take, [], []⟩
def df__law_spoiled : He5.DefA := ⟨fun K => C K "_law_spoiled", "_law_spoiled", "_law_spoiled", defArgs s__law_spoiled, defBody s__law_spoiled, defScope s__law_spoiled, [], []⟩
def df__law_opposite : He5.DefA := ⟨fun K => C K "_law_opposite", "_law_opposite", "_law_opposite", defArgs s__law_opposite, defBody s__law_opposite, defScope s__law_opposite, [], []⟩
def df__law_signs : He5.DefA := ⟨fun K => C K "_law_signs", "_law_signs", "_law_signs", defArgs s__law_signs, defBody s__law_signs, defScope s__law_signs, [], []⟩
def df__law_moves : He5.DefA := ⟨fun K => C K "_law_moves", "_law_moves", "_law_moves", defArgs s__law_moves, defBody s__law_moves, defScope s__law_moves, [], []⟩
def df_pair_places : He5.DefA := ⟨fun K => C K "pair_places", "pair_places", "pair_places", defArgs s_pair_places, defBody s_pair_places, defScope s_pair_places, [], []⟩
def df_is_step_name : He5.DefA := ⟨fun K => C K "is_step_name", "is_step_name", "is_step_name", defArgs s_is_step_name, defBody s_is_step_name, defScope s_is_step_name, [], []⟩
def df_Book___init__ : He5.DefA := ⟨fun K => ma K (C K "Book") "__init__", "__init__", "Book.__init__", defArgs s_Book___init__, defBody s_Book___init__, defScope s_Book___init__, [.adr (dflA (fun K => ma K (C K "Book") "__init__") 0)], []⟩
def df__law_model : He5.DefA := ⟨fun K => C K "_law_model", "_law_model", "_law_model", defArgs s__law_model, defBody s__law_model, defScope s__law_model, [], []⟩
def df__law_cell : He5.DefA := ⟨fun K => C K "_law_cell", "_law_cell", "_law_cell", defArgs s__law_cell, defBody s__law_cell, defScope s__law_cell, [], []⟩
def df__law_box : He5.DefA := ⟨fun K => C K "_law_box", "_law_box", "_law_box", defArgs s__law_box, defBody s__law_box, defScope s__law_box, [], []⟩
def df_law : He5.DefA := ⟨fun K => C K "law", "law", "law", defArgs s_law, defBody s_law, defScope s_law, [], []⟩
abbrev s_BadName : Stmt := inClass (top 4) 0
def df_BadName : He5.DefA := ⟨fun K => ma K (C K "BadName") "__init__", "__init__", "BadName.__init__", defArgs s_BadName, defBody s_BadName, defScope s_BadName, [], []⟩
abbrev s_Repeated : Stmt := inClass (top 5) 0
def df_Repeated : He5.DefA := ⟨fun K => ma K (C K "Repeated") "__init__", "__init__", "Repeated.__init__", defArgs s_Repeated, defBody s_Repeated, defScope s_Repeated, [], []⟩
abbrev s_BadPair : Stmt := inClass (top 6) 0
def df_BadPair : He5.DefA := ⟨fun K => ma K (C K "BadPair") "__init__", "__init__", "BadPair.__init__", defArgs s_BadPair, defBody s_BadPair, defScope s_BadPair, [], []⟩
abbrev s_BadMove : Stmt := inClass (top 7) 0
def df_BadMove : He5.DefA := ⟨fun K => ma K (C K "BadMove") "__init__", "__init__", "BadMove.__init__", defArgs s_BadMove, defBody s_BadMove, defScope s_BadMove, [], []⟩
def fn : List He5.DefA := [df_Book___eq__, df_Word___eq__, df_Book_number_of, df_Word___init__, df_Word_text, df_Word_moves, df_Word_read, df__law_right, df__law_take, df__law_spoiled, df__law_opposite, df__law_signs, df__law_moves, df_pair_places, df_is_step_name, df_Book___init__, df__law_model, df__law_cell, df__law_box, df_law, df_BadName, df_Repeated, df_BadPair, df_BadMove]
def frees : List Str := ["abs", "all", "enumerate", "int", "isinstance", "len", "list", "range", "tuple"]
def glos : List Str := ["_law_right", "_law_take", "_law_spoiled", "_law_opposite", "_law_signs", "_law_moves", "pair_places", "is_step_name", "_law_model", "_law_cell", "_law_box", "law", "Word", "Book"]
def plains : List Str := ["StepError", "BadBook", "BadText"]
def onesL : List (Str × Str) := [("BadName", "name"), ("Repeated", "name"), ("BadPair", "pair"), ("BadMove", "move")]
def owns : List Str := ["Word", "Book"]
def flds : List (Str × Str) := [("Book", "names"), ("Book", "kept"), ("Book", "signs"), ("Book", "numbers"), ("Book", "apart"), ("Word", "numbers"), ("Word", "book"), ("Word", "kept")]
def mets : List (Str × Str) := [("Book", "number_of"), ("Word", "text"), ("Word", "moves"), ("Book", "__eq__"), ("Word", "__eq__")]
def props : List (Str × Str) := []
def cms : List (Str × Str) := [("Word", "read")]
def mks : List Str := ["Word", "Book"]
def consB (K : PySem.W.Frag) : Bool := conB K "LETTERS" (.str "abcdefghijklmnopqrstuvwxyz") && (conB K "MOST_LETTERS" (.int 6) && (conB K "MOST_STEPS" (.int 5) && ((gloB K "RESERVED" && He.tupB K "RESERVED" [.str "else", .str "can", .str "cannot", .str "skip"]) && (true))))
def kits : List (Str × Str) := [("Book", "Book"), ("Word", "Word"), ("BadText", "StepError")]
def kit (K : PySem.W.Frag) : Bool := decide (PySem.W.kitOne K (.type "tuple") (.type "tuple") = some true) && (kits.all (fun p => decide (PySem.W.kitOne K (.ref (C K p.1)) (.ref (C K p.2)) = some true)) && decide (PySem.W.exmOne K (.ref (C K "BadText")) (.ref (C K "BadText")) = some true))
def chk (K : PySem.W.Frag) : Bool := frees.all (freeB K) && (glos.all (gloB K) && (plains.all (fun x => gloB K x && (excB K (C K x) && plainB K (C K x))) && (onesL.all (fun p => gloB K p.1 && (excB K (C K p.1) && oneB K (C K p.1) p.2)) && (owns.all (fun x => clsB K (C K x) && insB K (C K x)) &&
  (flds.all (fun p => fldB K (C K p.1) p.2) && (mets.all (fun p => methB K (C K p.1) p.2) && (props.all (fun p => propB K (C K p.1) p.2) && (cms.all (fun p => creadB K (C K p.1) && cmetB K (C K p.1) p.2) && (mks.all (fun x => mkB K (C K x)) && (consB K && kit K))))))))))
def lo0 : List Str := ["_wall", "StepError", "BadBook", "BadName", "Repeated", "BadPair", "BadMove", "BadText", "UnlikeBooks", "check_books", "Word", "LETTERS", "RESERVED", "MOST_LETTERS", "MOST_STEPS", "is_step_name", "pair_places", "Book", "_law_cell", "_law_box", "_law_take", "_law_model", "_law_step", "_law_opposite", "_law_apart", "_law_signs", "_law_moves", "_law_spoiled", "_law_right"]
def lo : List Str := lo0
abbrev R : PySem.W.OpenRow := PySem.W.OpenLaw.row PySem.Challenge.rw_stephulls_k07_texts_of_words
abbrev hk : PySem.W.Hook := AH.hookC 6 chk fn
def ob (s : PySem.W.SharedT) : Bool × He.AlD := AH.seeC 6 chk fn (HandSHeadRun.getT s)
set_option maxHeartbeats 0 in
theorem run (w : World) : HandSHeadRun.RunEq R (PySem.W.view R.prog [33]) hk ob 12000 lo w := by
  intro os
  kernel_rfl
theorem facts {P : Program} {w : World} {K : PySem.W.Frag} {h : Heap} {mg : Str → Option Value} {fa : Addr} (X : K.In h) (G : h.Ns mainGlobals mg) (hfa : mg ("law" : Str) = some (.ref fa)) (c0 : AH.SaysC chk fn K) :
    ∃ fd : FuncData, (∀ (s : Shared) (v : Value), BindsTo s fd ⟨[v], []⟩ [("_law_script", v)]) ∧ ∀ base : Heap, K.In base → base.Ns mainGlobals mg → FnOk P w K mg base (L2N.CX P w) 8 fa fd ["_law_script"] (spA K 1 (F_law K)) := by
  obtain ⟨ck, c⟩ := c0
  obtain ⟨c1, ck⟩ := andB ck
  obtain ⟨c2, ck⟩ := andB ck
  obtain ⟨c3, ck⟩ := andB ck
  obtain ⟨c4, ck⟩ := andB ck
  obtain ⟨c5, ck⟩ := andB ck
  obtain ⟨c6, ck⟩ := andB ck
  obtain ⟨c7, ck⟩ := andB ck
  obtain ⟨c8, ck⟩ := andB ck
  obtain ⟨c9, ck⟩ := andB ck
  obtain ⟨c10, ck⟩ := andB ck
  obtain ⟨c11, ck⟩ := andB ck
  have fr : ∀ x ∈ frees, mg x = none := fun x hx => freeB_ok X G (List.all_eq_true.mp c1 x hx)
  have gl : ∀ x ∈ glos, mg x = some (.ref (C K x)) := fun x hx => gloB_ok X G (List.all_eq_true.mp c2 x hx)
  have cl : ∀ x ∈ owns, Cls K (C K x) := fun x hx => clsB_ok (andB (List.all_eq_true.mp c5 x hx)).1
  have me : ∀ p ∈ mets, Meth K (C K p.1) p.2 (ma K (C K p.1) p.2) := fun p hp => methB_ok (List.all_eq_true.mp c7 p hp)
  have pr : ∀ p ∈ props, PropOf K (C K p.1) p.2 (ma K (C K p.1) p.2) (He5.wf K (C K p.1) "property" p.2) := fun p hp => propB_ok (List.all_eq_true.mp c8 p hp)
  have mk : ∀ x ∈ mks, Mk K (C K x) (ma K (C K x) "__init__") := fun x hx => mkB_ok (List.all_eq_true.mp c10 x hx)
  have B : Blt mg := ⟨fr "abs" (by decide), fr "all" (by decide), fr "enumerate" (by decide), fr "int" (by decide), fr "isinstance" (by decide), fr "len" (by decide), fr "list" (by decide), fr "range" (by decide), fr "tuple" (by decide)⟩
  obtain ⟨fd_Book___eq__, D_Book___eq__⟩ := c.def_ 0 (d := df_Book___eq__) rfl
  obtain ⟨fd_Word___eq__, D_Word___eq__⟩ := c.def_ 1 (d := df_Word___eq__) rfl
  obtain ⟨fd_Book_number_of, D_Book_number_of⟩ := c.def_ 2 (d := df_Book_number_of) rfl
  obtain ⟨fd_Word___init__, D_Word___init__⟩ := c.def_ 3 (d := df_Word___init__) rfl
  obtain ⟨fd_Word_text, D_Word_text⟩ := c.def_ 4 (d := df_Word_text) rfl
  obtain ⟨fd_Word_moves, D_Word_moves⟩ := c.def_ 5 (d := df_Word_moves) rfl
  obtain ⟨fd_Word_read, D_Word_read⟩ := c.def_ 6 (d := df_Word_read) rfl
  obtain ⟨fd__law_right, D__law_right⟩ := c.def_ 7 (d := df__law_right) rfl
  obtain ⟨fd__law_take, D__law_take⟩ := c.def_ 8 (d := df__law_take) rfl
  obtain ⟨fd__law_spoiled, D__law_spoiled⟩ := c.def_ 9 (d := df__law_spoiled) rfl
  obtain ⟨fd__law_opposite, D__law_opposite⟩ := c.def_ 10 (d := df__law_opposite) rfl
  obtain ⟨fd__law_signs, D__law_signs⟩ := c.def_ 11 (d := df__law_signs) rfl
  obtain ⟨fd__law_moves, D__law_moves⟩ := c.def_ 12 (d := df__law_moves) rfl
  obtain ⟨fd_pair_places, D_pair_places⟩ := c.def_ 13 (d := df_pair_places) rfl
  obtain ⟨fd_is_step_name, D_is_step_name⟩ := c.def_ 14 (d := df_is_step_name) rfl
  obtain ⟨fd_Book___init__, D_Book___init__⟩ := c.def_ 15 (d := df_Book___init__) rfl
  obtain ⟨fd__law_model, D__law_model⟩ := c.def_ 16 (d := df__law_model) rfl
  obtain ⟨fd__law_cell, D__law_cell⟩ := c.def_ 17 (d := df__law_cell) rfl
  obtain ⟨fd__law_box, D__law_box⟩ := c.def_ 18 (d := df__law_box) rfl
  obtain ⟨fd_law, D_law⟩ := c.def_ 19 (d := df_law) rfl
  obtain ⟨fd_BadName, D_BadName⟩ := c.def_ 20 (d := df_BadName) rfl
  obtain ⟨fd_Repeated, D_Repeated⟩ := c.def_ 21 (d := df_Repeated) rfl
  obtain ⟨fd_BadPair, D_BadPair⟩ := c.def_ 22 (d := df_BadPair) rfl
  obtain ⟨fd_BadMove, D_BadMove⟩ := c.def_ 23 (d := df_BadMove) rfl
  obtain rfl : C K "law" = fa := by have e := (gl "law" (by decide)).symm.trans hfa; injection e with e; injection e with e
  refine ⟨fd_law, fun s v => FunD.bindsA (ps := ["_law_script"]) D_law (fun _ _ _ _ _ _ us hl => match us, hl with | [_], _ => rfl) s [v] rfl, fun base _ _ => ?_⟩
  have X_StepError : XPlain K mg "StepError" (C K "StepError") := by
    have z := List.all_eq_true.mp c3 "StepError" (by decide)
    obtain ⟨z1, z⟩ := andB z
    obtain ⟨z2, z3⟩ := andB z
    exact plain_ok X G z1 (excB_ok z2) z3
  have X_BadBook : XPlain K mg "BadBook" (C K "BadBook") := by
    have z := List.all_eq_true.mp c3 "BadBook" (by decide)
    obtain ⟨z1, z⟩ := andB z
    obtain ⟨z2, z3⟩ := andB z
    exact plain_ok X G z1 (excB_ok z2) z3
  have X_BadText : XPlain K mg "BadText" (C K "BadText") := by
    have z := List.all_eq_true.mp c3 "BadText" (by decide)
    obtain ⟨z1, z⟩ := andB z
    obtain ⟨z2, z3⟩ := andB z
    exact plain_ok X G z1 (excB_ok z2) z3
  have XX_BadName : XOneK P w K mg base "BadName" (C K "BadName") "name" "name" ∧ XfD K (C K "BadName") "name" := by
    have z := List.all_eq_true.mp c4 ("BadName", "name") (by decide)
    obtain ⟨z1, z⟩ := andB z
    obtain ⟨z2, z3⟩ := andB z
    exact (one_ok X G z1 (excB_ok z2) z3 (fun_of (st := s_BadName) D_BadName) ⟨rfl, rfl, rfl, by decide +kernel, rfl, by decide +kernel, by decide +kernel⟩ rfl (by decide) (by decide) (by first | exact .inl rfl | exact .inr rfl) (by first | exact .inl rfl | exact .inr rfl) (FunD.bindsN (ps := ["self", "name"]) D_BadName fun _ _ _ _ _ _ us hl => match us, hl with | [_, _], _ => rfl) (bindsK D_BadName fun _ _ _ _ _ _ a u => rfl))
  have X_BadName := XX_BadName.1
  have XF_BadName := XX_BadName.2
  have XX_Repeated : XOneK P w K mg base "Repeated" (C K "Repeated") "name" "name" ∧ XfD K (C K "Repeated") "name" := by
    have z := List.all_eq_true.mp c4 ("Repeated", "name") (by decide)
    obtain ⟨z1, z⟩ := andB z
    obtain ⟨z2, z3⟩ := andB z
    exact (one_ok X G z1 (excB_ok z2) z3 (fun_of (st := s_Repeated) D_Repeated) ⟨rfl, rfl, rfl, by decide +kernel, rfl, by decide +kernel, by decide +kernel⟩ rfl (by decide) (by decide) (by first | exact .inl rfl | exact .inr rfl) (by first | exact .inl rfl | exact .inr rfl) (FunD.bindsN (ps := ["self", "name"]) D_Repeated fun _ _ _ _ _ _ us hl => match us, hl with | [_, _], _ => rfl) (bindsK D_Repeated fun _ _ _ _ _ _ a u => rfl))
  have X_Repeated := XX_Repeated.1
  have XF_Repeated := XX_Repeated.2
  have XX_BadPair : XOneK P w K mg base "BadPair" (C K "BadPair") "pair" "pair" ∧ XfD K (C K "BadPair") "pair" := by
    have z := List.all_eq_true.mp c4 ("BadPair", "pair") (by decide)
    obtain ⟨z1, z⟩ := andB z
    obtain ⟨z2, z3⟩ := andB z
    exact (one_ok X G z1 (excB_ok z2) z3 (fun_of (st := s_BadPair) D_BadPair) ⟨rfl, rfl, rfl, by decide +kernel, rfl, by decide +kernel, by decide +kernel⟩ rfl (by decide) (by decide) (by first | exact .inl rfl | exact .inr rfl) (by first | exact .inl rfl | exact .inr rfl) (FunD.bindsN (ps := ["self", "pair"]) D_BadPair fun _ _ _ _ _ _ us hl => match us, hl with | [_, _], _ => rfl) (bindsK D_BadPair fun _ _ _ _ _ _ a u => rfl))
  have X_BadPair := XX_BadPair.1
  have XF_BadPair := XX_BadPair.2
  have XX_BadMove : XOneK P w K mg base "BadMove" (C K "BadMove") "move" "move" ∧ XfD K (C K "BadMove") "move" := by
    have z := List.all_eq_true.mp c4 ("BadMove", "move") (by decide)
    obtain ⟨z1, z⟩ := andB z
    obtain ⟨z2, z3⟩ := andB z
    exact (one_ok X G z1 (excB_ok z2) z3 (fun_of (st := s_BadMove) D_BadMove) ⟨rfl, rfl, rfl, by decide +kernel, rfl, by decide +kernel, by decide +kernel⟩ rfl (by decide) (by decide) (by first | exact .inl rfl | exact .inr rfl) (by first | exact .inl rfl | exact .inr rfl) (FunD.bindsN (ps := ["self", "move"]) D_BadMove fun _ _ _ _ _ _ us hl => match us, hl with | [_, _], _ => rfl) (bindsK D_BadMove fun _ _ _ _ _ _ a u => rfl))
  have X_BadMove := XX_BadMove.1
  have XF_BadMove := XX_BadMove.2
  have G_StepError : GlobD K mg "StepError" (.cl (C K "StepError")) := ⟨_, .ref _, X_StepError.mgC, rfl, fun _ => rfl⟩
  have G_BadBook : GlobD K mg "BadBook" (.cl (C K "BadBook")) := ⟨_, .ref _, X_BadBook.mgC, rfl, fun _ => rfl⟩
  have G_BadName : GlobD K mg "BadName" (.cl (C K "BadName")) := ⟨_, .ref _, X_BadName.mgC, rfl, fun _ => rfl⟩
  have G_Repeated : GlobD K mg "Repeated" (.cl (C K "Repeated")) := ⟨_, .ref _, X_Repeated.mgC, rfl, fun _ => rfl⟩
  have G_BadPair : GlobD K mg "BadPair" (.cl (C K "BadPair")) := ⟨_, .ref _, X_BadPair.mgC, rfl, fun _ => rfl⟩
  have G_BadMove : GlobD K mg "BadMove" (.cl (C K "BadMove")) := ⟨_, .ref _, X_BadMove.mgC, rfl, fun _ => rfl⟩
  have G_BadText : GlobD K mg "BadText" (.cl (C K "BadText")) := ⟨_, .ref _, X_BadText.mgC, rfl, fun _ => rfl⟩
  have G_Word : GlobD K mg "Word" (.cl (C K "Word")) := ⟨_, .ref _, gl "Word" (by decide), rfl, fun _ => rfl⟩
  have G_Book : GlobD K mg "Book" (.cl (C K "Book")) := ⟨_, .ref _, gl "Book" (by decide), rfl, fun _ => rfl⟩
  obtain ⟨d0, c11⟩ := andB c11
  have G_LETTERS : GlobD K mg "LETTERS" g_LETTERS := conB_ok X G d0 fun _ => rfl
  obtain ⟨d1, c11⟩ := andB c11
  have G_MOST_LETTERS : GlobD K mg "MOST_LETTERS" g_MOST_LETTERS := conB_ok X G d1 fun _ => rfl
  obtain ⟨d2, c11⟩ := andB c11
  have G_MOST_STEPS : GlobD K mg "MOST_STEPS" g_MOST_STEPS := conB_ok X G d2 fun _ => rfl
  obtain ⟨d3, c11⟩ := andB c11
  have G_RESERVED : GlobD K mg "RESERVED" g_RESERVED := tup_ok X G (andB d3).1 (andB d3).2 fun _ => ⟨_, _, rfl, rfl, ⟨_, _, rfl, rfl, ⟨_, _, rfl, rfl, ⟨_, _, rfl, rfl, rfl⟩⟩⟩⟩
  have O_Book___eq__ := ok_Book___eq__ (P := P) (w := w) (base := base) B G_Book D_Book___eq__
  have E_Book : EqO P w K mg base 1 (C K "Book") (F_Book___eq__ K) := ⟨⟨_, _, ["self", "other"], (me ("Book", "__eq__") (by decide)).at_, (me ("Book", "__eq__") (by decide)).fn, FunD.bindsN (ps := ["self", "other"]) D_Book___eq__ fun _ _ _ _ _ _ us hl => match us, hl with | [_, _], _ => rfl, rfl, O_Book___eq__⟩, fun _ _ _ h => by unfold F_Book___eq__ at h; exact h.1, by simp [PySem.W.notFirst]⟩
  have O_Word___eq__ := ok_Word___eq__ (P := P) (w := w) (base := base) B E_Book G_Word D_Word___eq__
  have E_Word : EqO P w K mg base 2 (C K "Word") (F_Word___eq__ K) := ⟨⟨_, _, ["self", "other"], (me ("Word", "__eq__") (by decide)).at_, (me ("Word", "__eq__") (by decide)).fn, FunD.bindsN (ps := ["self", "other"]) D_Word___eq__ fun _ _ _ _ _ _ us hl => match us, hl with | [_, _], _ => rfl, rfl, O_Word___eq__⟩, fun _ _ _ h => by unfold F_Word___eq__ at h; exact h.1, by simp [PySem.W.notFirst]⟩
  have O_Book_number_of := ok_Book_number_of (P := P) (w := w) (base := base) B X_BadMove D_Book_number_of
  have T_Book_number_of : Met P w K mg base 3 (C K "Book") "number_of" ["self", "move"] (F_Book_number_of K) := ⟨cl "Book" (by decide), ⟨_, _, me ("Book", "number_of") (by decide), FunD.bindsN (ps := ["self", "move"]) D_Book_number_of fun _ _ _ _ _ _ us hl => match us, hl with | [_, _], _ => rfl, O_Book_number_of⟩, fun _ _ _ h => by unfold F_Book_number_of at h; exact h.1⟩
  have O_Word___init__ := ok_Word___init__ (P := P) (w := w) (base := base) B T_Book_number_of D_Word___init__
  have M_Word : Mak P w K mg base 4 "Word" (C K "Word") ["self", "book", "moves"] (F_Word___init__ K) := ⟨gl "Word" (by decide), ⟨_, _, mk "Word" (by decide), FunD.bindsN (ps := ["self", "book", "moves"]) D_Word___init__ fun _ _ _ _ _ _ us hl => match us, hl with | [_, _, _], _ => rfl, O_Word___init__⟩, fun _ _ _ h => by unfold F_Word___init__ at h; exact h.1⟩
  have O_Word_text := ok_Word_text (P := P) (w := w) (base := base) B  D_Word_text
  have T_Word_text : Met P w K mg base 1 (C K "Word") "text" ["self"] (F_Word_text K) := ⟨cl "Word" (by decide), ⟨_, _, me ("Word", "text") (by decide), FunD.bindsN (ps := ["self"]) D_Word_text fun _ _ _ _ _ _ us hl => match us, hl with | [_], _ => rfl, O_Word_text⟩, fun _ _ _ h => by unfold F_Word_text at h; exact h.1⟩
  have O_Word_moves := ok_Word_moves (P := P) (w := w) (base := base) B  D_Word_moves
  have T_Word_moves : Met P w K mg base 1 (C K "Word") "moves" ["self"] (F_Word_moves K) := ⟨cl "Word" (by decide), ⟨_, _, me ("Word", "moves") (by decide), FunD.bindsN (ps := ["self"]) D_Word_moves fun _ _ _ _ _ _ us hl => match us, hl with | [_], _ => rfl, O_Word_moves⟩, fun _ _ _ h => by unfold F_Word_moves at h; exact h.1⟩
  have O_Word_read := ok_Word_read (P := P) (w := w) (base := base) B M_Word X_BadText D_Word_read
  have K_Word_read : CMt P w K mg base 6 (C K "Word") "read" ["cls", "book", "text"] (F_Word_read K) ["text", "book"] [1, 0] := by
    have z := andB (List.all_eq_true.mp c9 ("Word", "read") (by decide))
    exact ⟨⟨_, _, _, _, creadB_ok z.1, cmetB_ok z.2, FunD.bindsN (ps := ["cls", "book", "text"]) D_Word_read fun _ _ _ _ _ _ us hl => match us, hl with | [_, _, _], _ => rfl, .of D_Word_read fun _ _ _ _ _ _ us ws h1 h2 => match us, ws, h1, h2 with | [_], [_, _], _, _ => rfl, O_Word_read⟩, fun _ _ _ h => by unfold F_Word_read at h; exact h.1⟩
  have O__law_right := ok__law_right (P := P) (w := w) (base := base) B E_Word M_Word T_Word_text T_Word_moves K_Word_read G_Word X_BadText G_StepError D__law_right
  have C__law_right : Cal P w K mg base 7 "_law_right" ["_law_sheet", "_law_signs_here", "_law_line"] (F__law_right K) := ⟨⟨_, _, gl "_law_right" (by decide), D__law_right.kp, FunD.bindsN (ps := ["_law_sheet", "_law_signs_here", "_law_line"]) D__law_right fun _ _ _ _ _ _ us hl => match us, hl with | [_, _, _], _ => rfl, O__law_right⟩, fun _ _ _ h => by unfold F__law_right at h; exact h.1⟩
  have O__law_take := ok__law_take (P := P) (w := w) (base := base) B  D__law_take
  have C__law_take : Cal P w K mg base 1 "_law_take" ["_law_box_here", "_law_many"] (F__law_take K) := ⟨⟨_, _, gl "_law_take" (by decide), D__law_take.kp, FunD.bindsN (ps := ["_law_box_here", "_law_many"]) D__law_take fun _ _ _ _ _ _ us hl => match us, hl with | [_, _], _ => rfl, O__law_take⟩, fun _ _ _ h => by unfold F__law_take at h; exact h.1⟩
  have O__law_spoiled := ok__law_spoiled (P := P) (w := w) (base := base) B C__law_take D__law_spoiled
  have C__law_spoiled : Cal P w K mg base 2 "_law_spoiled" ["_law_box_here", "_law_line"] (F__law_spoiled K) := ⟨⟨_, _, gl "_law_spoiled" (by decide), D__law_spoiled.kp, FunD.bindsN (ps := ["_law_box_here", "_law_line"]) D__law_spoiled fun _ _ _ _ _ _ us hl => match us, hl with | [_, _], _ => rfl, O__law_spoiled⟩, fun _ _ _ h => by unfold F__law_spoiled at h; exact h.1⟩
  have O__law_opposite := ok__law_opposite (P := P) (w := w) (base := base) B  D__law_opposite
  have C__law_opposite : Cal P w K mg base 1 "_law_opposite" ["_law_move"] (F__law_opposite K) := ⟨⟨_, _, gl "_law_opposite" (by decide), D__law_opposite.kp, FunD.bindsN (ps := ["_law_move"]) D__law_opposite fun _ _ _ _ _ _ us hl => match us, hl with | [_], _ => rfl, O__law_opposite⟩, fun _ _ _ h => by unfold F__law_opposite at h; exact h.1⟩
  have O__law_signs := ok__law_signs (P := P) (w := w) (base := base) B  D__law_signs
  have C__law_signs : Cal P w K mg base 1 "_law_signs" ["_law_model_here"] (F__law_signs K) := ⟨⟨_, _, gl "_law_signs" (by decide), D__law_signs.kp, FunD.bindsN (ps := ["_law_model_here"]) D__law_signs fun _ _ _ _ _ _ us hl => match us, hl with | [_], _ => rfl, O__law_signs⟩, fun _ _ _ h => by unfold F__law_signs at h; exact h.1⟩
  have O__law_moves := ok__law_moves (P := P) (w := w) (base := base) B C__law_take C__law_opposite C__law_signs D__law_moves
  have C__law_moves : Cal P w K mg base 2 "_law_moves" ["_law_box_here", "_law_model_here", "_law_most"] (F__law_moves K) := ⟨⟨_, _, gl "_law_moves" (by decide), D__law_moves.kp, FunD.bindsN (ps := ["_law_box_here", "_law_model_here", "_law_most"]) D__law_moves fun _ _ _ _ _ _ us hl => match us, hl with | [_, _, _], _ => rfl, O__law_moves⟩, fun _ _ _ h => by unfold F__law_moves at h; exact h.1⟩
  have O_pair_places := ok_pair_places (P := P) (w := w) (base := base) B X_BadPair D_pair_places
  have C_pair_places : Cal P w K mg base 3 "pair_places" ["names", "pair"] (F_pair_places K) := ⟨⟨_, _, gl "pair_places" (by decide), D_pair_places.kp, FunD.bindsN (ps := ["names", "pair"]) D_pair_places fun _ _ _ _ _ _ us hl => match us, hl with | [_, _], _ => rfl, O_pair_places⟩, fun _ _ _ h => by unfold F_pair_places at h; exact h.1⟩
  have O_is_step_name := ok_is_step_name (P := P) (w := w) (base := base) B G_LETTERS G_RESERVED G_MOST_LETTERS D_is_step_name
  have C_is_step_name : Cal P w K mg base 1 "is_step_name" ["name"] (F_is_step_name K) := ⟨⟨_, _, gl "is_step_name" (by decide), D_is_step_name.kp, FunD.bindsN (ps := ["name"]) D_is_step_name fun _ _ _ _ _ _ us hl => match us, hl with | [_], _ => rfl, O_is_step_name⟩, fun _ _ _ h => by unfold F_is_step_name at h; exact h.1⟩
  have O_Book___init__ := ok_Book___init__ (P := P) (w := w) (base := base) B C_pair_places X_Repeated C_is_step_name X_BadName G_MOST_STEPS X_BadBook D_Book___init__
  have M_Book : Mak P w K mg base 4 "Book" (C K "Book") ["self", "steps", "independent"] (F_Book___init__ K) := ⟨gl "Book" (by decide), ⟨_, _, mk "Book" (by decide), bindsAll (ps := ["self", "steps", "independent"]) D_Book___init__ (by simp [He5.DefA.dvs, df_Book___init__]) (fun _ _ _ _ _ _ _ us its hl hi => match us, its, hl, hi with | [_, _, _], [_], _, _ => ⟨_, rfl, rfl⟩), O_Book___init__⟩, fun _ _ _ h => by unfold F_Book___init__ at h; exact h.1⟩
  have O__law_model := ok__law_model (P := P) (w := w) (base := base) B C__law_take D__law_model
  have C__law_model : Cal P w K mg base 2 "_law_model" ["_law_box_here", "_law_most"] (F__law_model K) := ⟨⟨_, _, gl "_law_model" (by decide), D__law_model.kp, FunD.bindsN (ps := ["_law_box_here", "_law_most"]) D__law_model fun _ _ _ _ _ _ us hl => match us, hl with | [_, _], _ => rfl, O__law_model⟩, fun _ _ _ h => by unfold F__law_model at h; exact h.1⟩
  have O__law_cell := ok__law_cell (P := P) (w := w) (base := base) B  D__law_cell
  have C__law_cell : Cal P w K mg base 1 "_law_cell" ["_law_script", "_law_k"] (F__law_cell K) := ⟨⟨_, _, gl "_law_cell" (by decide), D__law_cell.kp, FunD.bindsN (ps := ["_law_script", "_law_k"]) D__law_cell fun _ _ _ _ _ _ us hl => match us, hl with | [_, _], _ => rfl, O__law_cell⟩, fun _ _ _ h => by unfold F__law_cell at h; exact h.1⟩
  have O__law_box := ok__law_box (P := P) (w := w) (base := base) B C__law_cell D__law_box
  have C__law_box : Cal P w K mg base 2 "_law_box" ["_law_script", "_law_k"] (F__law_box K) := ⟨⟨_, _, gl "_law_box" (by decide), D__law_box.kp, FunD.bindsN (ps := ["_law_script", "_law_k"]) D__law_box fun _ _ _ _ _ _ us hl => match us, hl with | [_, _], _ => rfl, O__law_box⟩, fun _ _ _ h => by unfold F__law_box at h; exact h.1⟩
  have O_law := ok_law (P := P) (w := w) (base := base) B C__law_right C__law_spoiled C__law_moves C__law_signs M_Book C__law_model C__law_box D_law
  exact O_law
end T
namespace T
open PySem L2 AE AH
def letters : Str := "abcdefghijklmnopqrstuvwxyz"
structure StepName (x : Str) : Prop where
  l1 : 1 ≤ x.length
  l6 : x.length ≤ 6
  res : x ∉ (["else", "can", "cannot", "skip"] : List Str)
  abc : ∀ c ∈ x.cps.toList, c ∈ letters.cps.toList
theorem spec_is_step_name {K : PySem.W.Frag} {x : Str} {Kd : KO} {Ed : KXc} (hx : StepName x) (h : Kd (.fz (.bl true)) [some (.fz (.str x))]) : F_is_step_name K [.fz (.str x)] Kd Ed := by
  unfold F_is_step_name
  refine ⟨rfl, ?_⟩
  unfold t_is_step_name
  have z : x.length ≤ sizeLine := sz_le (Nat.le_trans hx.l6 (by omega))
  refine ⟨z, .inl rfl, iteB (fun e => ?_) (fun _ => ?_)⟩
  · have e : ((x.length : Int) == 0) = true := e
    have := hx.l1
    simp at e; omega
  refine ⟨z, iteB (fun e => ?_) (fun _ => ?_)⟩
  · have e := of_decide_eq_true e
    have := hx.l6
    omega
  refine ⟨⟨rfl, rfl⟩, iteB (fun e => ?_) (fun _ => ?_)⟩
  · have e : dIn (.str x) ((["else", "can", "cannot", "skip"] : List Str).map D.str) = true := e
    rw [dIn_str] at e
    exact absurd (of_decide_eq_true e) hx.res
  refine compMap (ρ0 := [some (.fz (.str x)), none]) (f := fun _ => .bl true) (fun I i d acc hd hl n => ?_) ?_
  · rw [List.getElem?_map] at hd
    obtain ⟨c, hc, rfl⟩ := Option.map_eq_some_iff.mp hd
    have hm : c ∈ x.cps.toList := List.mem_of_getElem? hc
    refine ⟨c, rfl, ?_⟩
    have hi : i < x.length := by
      have := (List.getElem?_eq_some_iff.mp hc).1
      show i < x.cps.size
      simpa using this
    refine ⟨sz_lt (by have := hx.l6; omega), ?_⟩
    have hb : decide (c ∈ (Str.ofString "abcdefghijklmnopqrstuvwxyz").cps.toList) = true := decide_eq_true (hx.abc c hm)
    rw [hb]
    exact n
  · refine ⟨List.replicate x.length true, ?_, ?_⟩
    · rw [List.map_map, List.map_replicate]
      apply List.ext_getElem <;> simp [Str.length]
    · rw [show (List.replicate x.length true).all id = true by simp]
      exact h

/-! ### pairs of numbers as data -/
def prD (p : Nat × Nat) : D := .tup [.int p.1, .int p.2]
theorem prs_ok : ∀ l : List (Nat × Nat), pyOks (l.map prD) = true ∧ dDeps (l.map prD) ≤ 2
  | [] => ⟨rfl, by decide⟩
  | p :: l => by
    obtain ⟨h1, h2⟩ := prs_ok l
    refine ⟨?_, ?_⟩
    · show (pyOk (prD p) && pyOks (l.map prD)) = true
      rw [h1]; rfl
    · show max (dDep (prD p)) (dDeps (l.map prD)) ≤ 2
      have : dDep (prD p) = 2 := rfl
      omega
theorem shp_prs (l : List (Nat × Nat)) : Shp (.lst (l.map prD)) := ⟨(prs_ok l).1, by
  have := (prs_ok l).2
  show dDeps (l.map prD) + 1 ≤ 60
  omega⟩
theorem shp_pr (p : Nat × Nat) : Shp (prD p) := ⟨rfl, by show 2 ≤ 60; omega⟩
theorem dEq_pr {p q : Nat × Nat} : dEq (prD p) (prD q) = decide (p = q) := by
  show (((p.1 : Int) == q.1) && (((p.2 : Int) == q.2) && true)) = _
  obtain ⟨a, b⟩ := p
  obtain ⟨c, d⟩ := q
  by_cases h : (a, b) = (c, d)
  · rw [decide_eq_true h]; cases h; simp
  · rw [decide_eq_false h]
    simp only [Prod.mk.injEq, not_and] at h
    simp only [Bool.and_true, Bool.and_eq_false_imp, beq_iff_eq]
    intro e
    have e : a = c := by omega
    have := h e
    simp; omega
theorem dIn_pr {p : Nat × Nat} {l : List (Nat × Nat)} : dIn (prD p) (l.map prD) = decide (p ∈ l) := by
  unfold dIn
  rw [List.any_map]
  by_cases h : p ∈ l
  · rw [decide_eq_true h, List.any_eq_true]
    exact ⟨p, h, by simp [dEq_pr]⟩
  · rw [decide_eq_false h, List.any_eq_false]
    intro y hy
    simp only [Function.comp, dEq_pr, decide_eq_true_eq]
    exact fun e => h (e ▸ hy)
/-! ### places of names -/
theorem idx_get {names : List Str} {a : Str} (h : a ∈ names) : names[names.idxOf a]? = some a := by
  have := List.idxOf_lt_length_iff.mpr h
  rw [List.getElem?_eq_getElem this, List.getElem_idxOf this]
theorem idx_min {names : List Str} {a z : Str} {m : Nat} (hm : m < names.idxOf a) (hz : names[m]? = some z) : z ≠ a := by
  intro e
  subst e
  have hl := (List.getElem?_eq_some_iff.mp hz).1
  have e := (List.getElem?_eq_some_iff.mp hz).2
  have := List.not_of_lt_findIdx (p := (· == z)) (xs := names) hm
  simp [e] at this
theorem ixS_get {names : List Str} {a : Str} (h : a ∈ names) : (names.map D.str)[names.idxOf a]? = some (.str a) := by rw [List.getElem?_map, idx_get h]; rfl
theorem ixS_eq {a : Str} : dEq (.str a) (.str a) = true := by simp [dEq]
theorem ixS_min {names : List Str} {a : Str} : ∀ (m : Nat) (z' : D), m < names.idxOf a → (names.map D.str)[m]? = some z' → dEq z' (.str a) = false := fun m z' hm hz => by
  rw [List.getElem?_map] at hz
  obtain ⟨z, hz', rfl⟩ := Option.map_eq_some_iff.mp hz
  have := idx_min hm hz'
  simp [dEq, this]
/-- the places of a pair, the smaller first -/
def plc (names : List Str) (p : Str × Str) : Nat × Nat := if names.idxOf p.1 < names.idxOf p.2 then (names.idxOf p.1, names.idxOf p.2) else (names.idxOf p.2, names.idxOf p.1)
def spD (p : Str × Str) : D := .tup [.str p.1, .str p.2]
structure GoodPair (names : List Str) (p : Str × Str) : Prop where
  a : p.1 ∈ names
  b : p.2 ∈ names
  ne : p.1 ≠ p.2
theorem spec_pair_places {K : PySem.W.Frag} {names : List Str} {p : Str × Str} {Kd : KO} {Ed : KXc} (hk : PySem.W.kitOne K (.type "tuple") (.type "tuple") = some true) (hp : GoodPair names p)
    (h : Kd (.fz (prD (plc names p))) [some (.fz (.lst (names.map D.str))), some (.fz (spD p))]) : F_pair_places K [.fz (.lst (names.map D.str)), .fz (spD p)] Kd Ed := by
  unfold F_pair_places
  refine ⟨rfl, ?_⟩
  unfold t_pair_places
  have notin : ∀ {a : Str}, a ∈ names → xorB true (dIn (.str a) (names.map D.str)) = true → False := fun ha e => by
    rw [dIn_str, xorB_true, decide_eq_true ha] at e; cases e
  refine ⟨_, _, _, rfl, rfl, hk, ⟨.inl rfl, ?_⟩⟩
  refine ⟨_, rfl, ⟨.inl ⟨rfl, flat_strs⟩, iteB (fun e => (notin hp.a e).elim) (fun _ => ?_)⟩⟩
  refine ⟨_, rfl, ⟨.inl ⟨rfl, flat_strs⟩, iteB (fun e => (notin hp.b e).elim) (fun _ => ?_)⟩⟩
  refine ⟨_, rfl, _, rfl, ⟨.inl rfl, iteB (fun e => ?_) (fun _ => ?_)⟩⟩
  · have e : (p.1 == p.2) = true := e
    exact absurd (beq_iff_eq.mp e) hp.ne
  refine ⟨trivial, _, rfl, rfl, flat_strs, _, _, ixS_get hp.a, ixS_eq, ixS_min, ?_⟩
  refine ⟨trivial, _, rfl, rfl, flat_strs, _, _, ixS_get hp.b, ixS_eq, ixS_min, ?_⟩
  unfold plc at h
  refine iteB (fun e => ?_) (fun e => ?_)
  · have e := of_decide_eq_true e
    rw [if_pos (by omega)] at h
    exact ⟨szB rfl, h⟩
  · have e := of_decide_eq_false e
    rw [if_neg (by omega)] at h
    exact ⟨szB rfl, h⟩
end T
namespace T
open PySem L2 AE AH
/-- the pairs of places, in order -/
def ordL (n : Nat) (found : List (Nat × Nat)) : List (Nat × Nat) := (List.range n).flatMap fun i => (List.range n).filterMap fun j => if (i, j) ∈ found then some (i, j) else none
theorem ordL_mem {n : Nat} {found : List (Nat × Nat)} {p : Nat × Nat} : p ∈ ordL n found ↔ p.1 < n ∧ p.2 < n ∧ p ∈ found := by
  unfold ordL
  rw [List.mem_flatMap]
  constructor
  · rintro ⟨i, hi, h⟩
    rw [List.mem_filterMap] at h
    obtain ⟨j, hj, e⟩ := h
    split at e
    · cases e; exact ⟨List.mem_range.mp hi, List.mem_range.mp hj, by assumption⟩
    · cases e
  · rintro ⟨h1, h2, h3⟩
    refine ⟨p.1, List.mem_range.mpr h1, ?_⟩
    rw [List.mem_filterMap]
    exact ⟨p.2, List.mem_range.mpr h2, by rw [if_pos h3]⟩
theorem ordL_len {n : Nat} {found : List (Nat × Nat)} : (ordL n found).length ≤ n * n := by
  unfold ordL
  rw [List.length_flatMap]
  have : ∀ l : List Nat, (l.map fun i => ((List.range n).filterMap fun j => if (i, j) ∈ found then some (i, j) else none).length).sum ≤ l.length * n := by
    intro l
    induction l with
    | nil => simp
    | cons a l ih =>
      simp only [List.map_cons, List.sum_cons, List.length_cons, Nat.succ_mul]
      have := List.length_filterMap_le (fun j => if (a, j) ∈ found then some (a, j) else none) (List.range n)
      rw [List.length_range] at this
      omega
  have := this (List.range n)
  rw [List.length_range] at this
  exact this
def sgn (x : Str) : List Str := [x, "-" ++ x]
def signsL (names : List Str) : List Str := names.flatMap sgn
theorem signsL_len {names : List Str} : (signsL names).length = 2 * names.length := by
  unfold signsL
  induction names with
  | nil => rfl
  | cons a l ih => simp [List.flatMap_cons, sgn, ih]; omega
def nf : D → Key × D
  | .tup [n, .str s] => (.inr s, n)
  | d => (.inl 0, d)
def numsL (signs : List Str) : List (Key × D) := (enumD (signs.map D.str)).foldl (fun acc d => putDk acc (nf d).1 (nf d).2) []
def bothL (ord : List (Nat × Nat)) : List (Nat × Nat) := ord ++ ord.map fun p => (p.2, p.1)
def apartL (m : Nat) (ord : List (Nat × Nat)) : List D := (List.range m).map fun a => .lst ((List.range m).map fun b => .bl (decide ((a / 2, b / 2) ∈ bothL ord)))
def ordOf (names : List Str) (prs : List (Str × Str)) : List (Nat × Nat) := ordL names.length (prs.map (plc names))
def keptL (names : List Str) (ord : List (Nat × Nat)) : List (Str × Str) := ord.map fun p => (names.getD p.1 "", names.getD p.2 "")
def bookO (K : PySem.W.Frag) (names : List Str) (prs : List (Str × Str)) : O := .ob (C K "Book") [("names", .fz (.tup (names.map D.str))), ("kept", .fz (.tup ((keptL names (ordOf names prs)).map spD))), ("signs", .fz (.tup ((signsL names).map D.str))), ("numbers", .dc (numsL (signsL names))), ("apart", .ls (apartL (signsL names).length (ordOf names prs)))]
structure GoodBook (names : List Str) (prs : List (Str × Str)) : Prop where
  l1 : 1 ≤ names.length
  l5 : names.length ≤ 5
  st : ∀ x ∈ names, StepName x
  nd : names.Nodup
  pr : ∀ p ∈ prs, GoodPair names p
  lp : prs.length ≤ 1000
structure BookK (K : PySem.W.Frag) : Prop where
  tt : PySem.W.kitOne K (.type "tuple") (.type "tuple") = some true
  fl : ∀ f ∈ (["names", "kept", "signs", "numbers", "apart"] : List Str), FldOk K (C K "Book") f
theorem rngD_get {n i : Nat} {d : D} (h : (rngD 0 n)[i]? = some d) : i < n ∧ d = .int (i : Nat) := by
  have hl := (List.getElem?_eq_some_iff.mp h).1
  rw [rngD_len] at hl
  unfold rngD at h
  rw [List.getElem?_map, List.getElem?_range hl] at h
  cases h
  exact ⟨hl, by simp⟩
theorem cutD_take {α : Type} {xs : List α} {i : Nat} (h : i ≤ xs.length) : cutD xs none (some (i : Int)) = xs.take i := by
  unfold cutD
  rw [HT.sIx_none, HT.sIx_nat, Nat.min_eq_left h]
  simp
theorem atS {names : List Str} {i : Nat} (hi : i < names.length) : atI (names.map D.str) (i : Int) = some (.str names[i]) := by
  unfold atI ixN
  rw [if_pos (by omega), if_pos (by rw [List.length_map]; omega)]
  simp [hi]
theorem str_nil_app (x : Str) : (("" : Str) ++ x) = x := by
  obtain ⟨c⟩ := x
  show (Str.mk ((#[] : Array Nat) ++ c)) = ⟨c⟩
  simp
theorem spec_book {K : PySem.W.Frag} (k : BookK K) {names : List Str} {prs : List (Str × Str)} (g : GoodBook names prs) {Kd : KO} {Ed : KXc}
    (h : Kd (.fz .non) [some (bookO K names prs), some (.fz (.lst (names.map D.str))), some (.fz (.lst (prs.map spD)))]) :
    F_Book___init__ K [.ob (C K "Book") [], .fz (.lst (names.map D.str)), .fz (.lst (prs.map spD))] Kd Ed := by
  unfold F_Book___init__
  refine ⟨rfl, ?_⟩
  unfold t_Book___init__
  have hln : (names.map D.str).length = names.length := List.length_map ..
  refine ⟨.inl rfl, iteB (fun e => ?_) (fun _ => ?_)⟩
  · have e : (((names.map D.str).length : Int) == 0) = true := e
    rw [hln] at e
    have := g.l1
    simp at e; simp [e] at this
  refine iteB (fun e => ?_) (fun _ => ?_)
  · have e := of_decide_eq_true e
    have := g.l5
    rw [hln] at e; omega
  -- names are steps
  refine forAll (Inv := fun ρ => ∃ x, ρ = [some (.ob (C K "Book") []), some (.fz (.lst (names.map D.str))), some (.fz (.lst (prs.map spD))), some (.fz (.lst (names.map D.str))), x, none, none, none, none, none, none, none, none, none, none, none, none]) ⟨none, rfl⟩ (fun I i d ρ hd hI n => ?_) (fun ρ hI => ?_)
  · obtain ⟨x0, rfl⟩ := hI
    rw [List.getElem?_map] at hd
    obtain ⟨x, hx, rfl⟩ := Option.map_eq_some_iff.mp hd
    refine spec_is_step_name (g.st x (List.mem_of_getElem? hx)) ?_
    exact n _ ⟨_, rfl⟩
  obtain ⟨x0, rfl⟩ := hI
  -- no name twice
  refine ⟨by omega, by have := g.l5; omega, ?_⟩
  refine forAll (Inv := fun ρ => ∃ y, ρ = [some (.ob (C K "Book") []), some (.fz (.lst (names.map D.str))), some (.fz (.lst (prs.map spD))), some (.fz (.lst (names.map D.str))), x0, y, none, none, none, none, none, none, none, none, none, none, none]) ⟨none, rfl⟩ (fun I i d ρ hd hI n => ?_) (fun ρ hI => ?_)
  · obtain ⟨y0, rfl⟩ := hI
    obtain ⟨hi, rfl⟩ := rngD_get hd
    have hi : i < names.length := by simpa using hi
    refine ⟨_, atS hi, ?_⟩
    have hc : cutD (names.map D.str) none (some (i : Int)) = (names.take i).map D.str := by rw [cutD_take (by rw [hln]; omega), List.map_take]
    refine ⟨.inl ⟨rfl, ?_⟩, iteB (fun e => ?_) (fun _ => ?_)⟩
    · rw [hc]; exact flat_strs
    · rw [hc, dIn_str, xorB_false] at e
      have e := of_decide_eq_true e
      obtain ⟨j, hj, ej⟩ := List.mem_iff_getElem.mp e
      rw [List.getElem_take] at ej
      have hj' : j < i := by rw [List.length_take] at hj; omega
      exact absurd ((List.getElem_inj g.nd).mp ej) (by omega)
    · exact n _ ⟨_, rfl⟩
  obtain ⟨y0, rfl⟩ := hI
  -- the places of the pairs
  refine compMap (ρ0 := [some (.ob (C K "Book") []), some (.fz (.lst (names.map D.str))), some (.fz (.lst (prs.map spD))), some (.fz (.lst (names.map D.str))), x0, y0, none, none, none, none, none, none, none, none, none, none, none])
    (f := fun d => match d with | .tup [.str a, .str b] => prD (plc names (a, b)) | d => d) (fun I i d acc hd hl n => ?_) ?_
  · rw [List.getElem?_map] at hd
    obtain ⟨p, hp, rfl⟩ := Option.map_eq_some_iff.mp hd
    have hi := (List.getElem?_eq_some_iff.mp hp).1
    refine spec_pair_places k.tt (g.pr p (List.mem_of_getElem? hp)) ?_
    exact ⟨sz_lt (by have := g.lp; omega), n⟩
  rw [List.map_map]
  have ef : ((fun d => match d with | D.tup [D.str a, D.str b] => prD (plc names (a, b)) | d => d) ∘ spD) = prD ∘ plc names := rfl
  rw [ef, ← List.map_map]
  generalize hf : prs.map (plc names) = found
  -- in order
  refine ⟨by omega, by have := g.l5; omega, ?_⟩
  refine compOut (ρ0 := [some (.ob (C K "Book") []), some (.fz (.lst (names.map D.str))), some (.fz (.lst (prs.map spD))), some (.fz (.lst (names.map D.str))), x0, y0, some (.ls (found.map prD)), none, none, none, none, none, none, none, none, none, none])
    (f := fun d => match d with | .int i => ((List.range names.length).filterMap fun j => if (i.toNat, j) ∈ found then some (prD (i.toNat, j)) else none) | _ => []) 5 ?_ (fun I i d acc hd hl n => ?_) ?_
  · intro d hd
    obtain ⟨j, hj⟩ := List.getElem?_of_mem hd
    obtain ⟨_, rfl⟩ := rngD_get hj
    have := List.length_filterMap_le (fun b => if ((j : Int).toNat, b) ∈ found then some (prD ((j : Int).toNat, b)) else none) (List.range names.length)
    rw [List.length_range] at this
    exact Nat.le_trans this g.l5
  · obtain ⟨hi, rfl⟩ := rngD_get hd
    have hi : i < names.length := by simpa using hi
    refine ⟨by omega, by have := g.l5; omega, ?_⟩
    refine compIn (ρ0 := [some (.ob (C K "Book") []), some (.fz (.lst (names.map D.str))), some (.fz (.lst (prs.map spD))), some (.fz (.lst (names.map D.str))), x0, y0, some (.ls (found.map prD)), none, none, some (.fz (.int (i : Nat))), none, none, none, none, none, none, none])
      (f := fun d => match d with | .int j => if (i, j.toNat) ∈ found then some (prD (i, j.toNat)) else none | _ => none) (fun I1 j d1 acc1 hd1 hl1 n1 => ?_) ?_
    · obtain ⟨hj, rfl⟩ := rngD_get hd1
      have hj : j < names.length := by simpa using hj
      have l5 := g.l5
      refine ⟨szB rfl, ⟨.inr ⟨shp_pr (i, j), shp_prs found⟩, ?_⟩⟩
      have eb : xorB false (dIn (prD (i, j)) (found.map prD)) = decide ((i, j) ∈ found) := dIn_pr
      refine iteB (fun e => ?_) (fun e => ?_)
      · have e : decide ((i, j) ∈ found) = true := eb.symm.trans e
        have e := of_decide_eq_true e
        refine ⟨szB rfl, sz_lt ?_, ?_⟩
        · have : acc.length ≤ 5 * i := hl
          omega
        · simp only [Int.toNat_natCast, e, if_true, Option.toList] at n1
          exact n1
      · have e : decide ((i, j) ∈ found) = false := eb.symm.trans e
        have e := of_decide_eq_false e
        simp only [Int.toNat_natCast, e, if_false, Option.toList, List.append_nil] at n1
        exact n1
    · have ee : (rngD 0 (((names.map D.str).length : Int).toNat)).filterMap (fun d => match d with | D.int j => if (i, j.toNat) ∈ found then some (prD (i, j.toNat)) else none | _ => none) = (List.range names.length).filterMap fun j => if (i, j) ∈ found then some (prD (i, j)) else none := by
        unfold rngD
        rw [List.filterMap_map]
        simp
        rfl
      rw [ee]
      simp only [Int.toNat_natCast] at n
      exact n
  have eo : (rngD 0 (((names.map D.str).length : Int).toNat)).flatMap (fun d => match d with | D.int i => ((List.range names.length).filterMap fun j => if (i.toNat, j) ∈ found then some (prD (i.toNat, j)) else none) | _ => []) = (ordL names.length found).map prD := by
    unfold rngD ordL
    rw [List.flatMap_map, List.map_flatMap]
    simp only [Int.toNat_natCast, List.length_map, Int.zero_add, List.map_filterMap]
    congr 1
    funext i
    congr 1
    funext j
    split <;> rfl
  rw [eo]
  generalize ho : ordL names.length found = ord
  have hb : ∀ p ∈ ord, p.1 < names.length ∧ p.2 < names.length := fun p hp => by
    rw [← ho, ordL_mem] at hp
    exact ⟨hp.1, hp.2.1⟩
  have hol : ord.length ≤ 25 := by
    rw [← ho]
    refine Nat.le_trans ordL_len (Nat.le_trans (Nat.mul_le_mul g.l5 g.l5) (by omega))
  -- fields
  refine ⟨k.fl "names" (by decide), by decide, ?_⟩
  refine compMap (ρ0 := [some (.ob (C K "Book") [("names", .fz (.tup (names.map D.str)))]), some (.fz (.lst (names.map D.str))), some (.fz (.lst (prs.map spD))), some (.fz (.lst (names.map D.str))), x0, y0, some (.ls (found.map prD)), none, some (.fz (.lst (ord.map prD))), none, none, none, none, none, none, none, none])
    (f := fun d => match d with | .tup [.int i, .int j] => .tup [.str (names.getD i.toNat ""), .str (names.getD j.toNat "")] | d => d) (fun I i d acc hd hl n => ?_) ?_
  · rw [List.getElem?_map] at hd
    obtain ⟨p, hp, rfl⟩ := Option.map_eq_some_iff.mp hd
    have hi := (List.getElem?_eq_some_iff.mp hp).1
    obtain ⟨b1, b2⟩ := hb p (List.mem_of_getElem? hp)
    refine ⟨rfl, ?_⟩
    refine ⟨_, atS b1, _, atS b2, szB rfl, sz_lt (by omega), ?_⟩
    have e1 : names.getD p.1 "" = names[p.1] := by simp [List.getD, b1]
    have e2 : names.getD p.2 "" = names[p.2] := by simp [List.getD, b2]
    have n' : I (i + 1) (acc ++ [D.tup [.str (names.getD p.1 ""), .str (names.getD p.2 "")]]) _ := n
    rw [e1, e2] at n'
    exact n'
  have ek : (ord.map prD).map (fun d => match d with | D.tup [.int i, .int j] => D.tup [.str (names.getD i.toNat ""), .str (names.getD j.toNat "")] | d => d) = (keptL names ord).map spD := by
    unfold keptL
    rw [List.map_map, List.map_map]
    rfl
  rw [ek]
  refine ⟨k.fl "kept" (by decide), by simp [putFO], ?_⟩
  -- signs
  refine compOut (ρ0 := [some (.ob (C K "Book") [("names", .fz (.tup (names.map D.str))), ("kept", .fz (.tup ((keptL names ord).map spD)))]), some (.fz (.lst (names.map D.str))), some (.fz (.lst (prs.map spD))), some (.fz (.lst (names.map D.str))), none, y0, some (.ls (found.map prD)), none, some (.fz (.lst (ord.map prD))), none, none, none, none, none, none, none, none])
    (f := fun d => match d with | .str x => (sgn x).map D.str | _ => []) 2 ?_ (fun I i d acc hd hl n => ?_) ?_
  · intro d hd
    obtain ⟨x, _, rfl⟩ := List.mem_map.mp hd
    exact Nat.le_refl _
  · rw [List.getElem?_map] at hd
    obtain ⟨x, hx, rfl⟩ := Option.map_eq_some_iff.mp hd
    have hi := (List.getElem?_eq_some_iff.mp hx).1
    have sx := g.st x (List.mem_of_getElem? hx)
    have l5 := g.l5
    refine ⟨szB rfl, ?_⟩
    refine compIn (ρ0 := [some (.ob (C K "Book") [("names", .fz (.tup (names.map D.str))), ("kept", .fz (.tup ((keptL names ord).map spD)))]), some (.fz (.lst (names.map D.str))), some (.fz (.lst (prs.map spD))), some (.fz (.lst (names.map D.str))), some (.fz (.str x)), y0, some (.ls (found.map prD)), none, some (.fz (.lst (ord.map prD))), none, none, none, none, none, none, none, none])
      (f := fun d => match d with | .str s => some (.str (s ++ x)) | _ => none) (fun I1 j d1 acc1 hd1 hl1 n1 => ?_) ?_
    · have hd1 : (([("" : Str), "-"] : List Str).map D.str)[j]? = some d1 := hd1
      rw [List.getElem?_map] at hd1
      obtain ⟨sg, hs, rfl⟩ := Option.map_eq_some_iff.mp hd1
      have hj := (List.getElem?_eq_some_iff.mp hs).1
      have hsl : sg.length ≤ 1 := by
        have := List.mem_of_getElem? hs
        simp only [List.mem_cons, List.not_mem_nil, or_false] at this
        rcases this with rfl | rfl <;> decide
      have hj : j < 2 := hj
      have hl : acc.length ≤ 2 * i := hl
      refine ⟨sz_le (by have := sx.l6; omega), sz_lt (by omega), n1⟩
    · have n' : I (i + 1) (acc ++ [D.str x, D.str ("-" ++ x)]) _ := n
      have e : (acc ++ [D.str (("" : Str) ++ x), D.str ("-" ++ x)]) = acc ++ [D.str x, D.str ("-" ++ x)] := by rw [str_nil_app]
      rw [← e] at n'
      exact n'
  have es : (names.map D.str).flatMap (fun d => match d with | D.str x => (sgn x).map D.str | _ => []) = (signsL names).map D.str := by
    unfold signsL
    rw [List.flatMap_map, List.map_flatMap]
  rw [es]
  have hsl : ((signsL names).map D.str).length = 2 * names.length := by rw [List.length_map, signsL_len]
  refine ⟨k.fl "signs" (by decide), by simp [putFO], ?_⟩
  -- numbers
  refine ⟨k.fl "signs" (by decide), _, rfl, ?_⟩
  refine compDict (ρ0 := [some (.ob (C K "Book") [("names", .fz (.tup (names.map D.str))), ("kept", .fz (.tup ((keptL names ord).map spD))), ("signs", .fz (.tup ((signsL names).map D.str)))]), some (.fz (.lst (names.map D.str))), some (.fz (.lst (prs.map spD))), some (.fz (.lst (names.map D.str))), x0, y0, some (.ls (found.map prD)), none, some (.fz (.lst (ord.map prD))), none, none, none, none, none, none, none, none])
    (f := nf) (fun I i d acc hd hl n => ?_) ?_
  · obtain ⟨y, hy, rfl⟩ := enumD_inv hd
    rw [List.getElem?_map] at hy
    obtain ⟨sg, hs, rfl⟩ := Option.map_eq_some_iff.mp hy
    have hi := (List.getElem?_eq_some_iff.mp hs).1
    rw [signsL_len] at hi
    exact ⟨rfl, sz_lt (by have := g.l5; omega), n⟩
  refine ⟨k.fl "numbers" (by decide), by simp [putFO], ?_⟩
  -- both
  refine compMap (ρ0 := [some (.ob (C K "Book") [("names", .fz (.tup (names.map D.str))), ("kept", .fz (.tup ((keptL names ord).map spD))), ("signs", .fz (.tup ((signsL names).map D.str))), ("numbers", .dc (numsL (signsL names)))]), some (.fz (.lst (names.map D.str))), some (.fz (.lst (prs.map spD))), some (.fz (.lst (names.map D.str))), x0, y0, some (.ls (found.map prD)), none, some (.fz (.lst (ord.map prD))), none, none, none, none, none, none, none, none])
    (f := fun d => match d with | .tup [a, b] => .tup [b, a] | d => d) (fun I i d acc hd hl n => ?_) ?_
  · rw [List.getElem?_map] at hd
    obtain ⟨p, hp, rfl⟩ := Option.map_eq_some_iff.mp hd
    have hi := (List.getElem?_eq_some_iff.mp hp).1
    exact ⟨rfl, szB rfl, sz_lt (by omega), n⟩
  have eb : (ord.map prD).map (fun d => match d with | D.tup [a, b] => D.tup [b, a] | d => d) = (ord.map fun p => (p.2, p.1)).map prD := by
    rw [List.map_map, List.map_map]; rfl
  rw [eb]
  have hst : storedD ((ord.map prD).map (fun d => EV.ow (.fz d)) ++ (((ord.map fun p => (p.2, p.1)).map prD).map (fun d => EV.ow (.fz d)) ++ [])) = some (ord.map prD ++ ((ord.map fun p => (p.2, p.1)).map prD ++ [])) := storedD_fz (ord.map prD) (storedD_fz ((ord.map fun p => (p.2, p.1)).map prD) rfl)
  show (match storedD ((ord.map prD).map (fun d => EV.ow (.fz d)) ++ (((ord.map fun p => (p.2, p.1)).map prD).map (fun d => EV.ow (.fz d)) ++ [])) with | some ds => ds.length ≤ sizeLine ∧ _ | none => False)
  rw [hst]
  refine ⟨?_, ?_⟩
  · refine sz_le ?_
    simp; omega
  have e2 : ord.map prD ++ ((ord.map fun p => (p.2, p.1)).map prD ++ []) = (bothL ord).map prD := by
    unfold bothL
    rw [List.append_nil, List.map_append]
  rw [e2]
  refine ⟨k.fl "signs" (by decide), _, rfl, ?_⟩
  -- apart
  have hm : (((signsL names).map D.str).length : Int).toNat = (signsL names).length := by simp
  have l5 := g.l5
  have l10 : (signsL names).length ≤ 10 := by rw [signsL_len]; omega
  refine ⟨by omega, by rw [hsl]; omega, ?_⟩
  refine compMap (ρ0 := [some (.ob (C K "Book") [("names", .fz (.tup (names.map D.str))), ("kept", .fz (.tup ((keptL names ord).map spD))), ("signs", .fz (.tup ((signsL names).map D.str))), ("numbers", .dc (numsL (signsL names)))]), some (.fz (.lst (names.map D.str))), some (.fz (.lst (prs.map spD))), some (.fz (.lst (names.map D.str))), x0, y0, some (.ls (found.map prD)), none, some (.fz (.lst (ord.map prD))), none, none, none, none, some (.ls ((bothL ord).map prD)), some (.fz (.int ((signsL names).map D.str).length)), none, none])
    (f := fun d => match d with | .int a => .lst ((List.range (signsL names).length).map fun b => .bl (decide ((a.toNat / 2, b / 2) ∈ bothL ord))) | d => d) (fun I i d acc hd hl n => ?_) ?_
  · obtain ⟨hi, rfl⟩ := rngD_get hd
    rw [hm] at hi
    refine ⟨by omega, by rw [hsl]; omega, ?_⟩
    refine compMap (ρ0 := [some (.ob (C K "Book") [("names", .fz (.tup (names.map D.str))), ("kept", .fz (.tup ((keptL names ord).map spD))), ("signs", .fz (.tup ((signsL names).map D.str))), ("numbers", .dc (numsL (signsL names)))]), some (.fz (.lst (names.map D.str))), some (.fz (.lst (prs.map spD))), some (.fz (.lst (names.map D.str))), x0, y0, some (.ls (found.map prD)), none, some (.fz (.lst (ord.map prD))), none, none, none, none, some (.ls ((bothL ord).map prD)), some (.fz (.int ((signsL names).map D.str).length)), none, some (.fz (.int (i : Nat)))])
      (f := fun d => match d with | .int b => .bl (decide ((i / 2, b.toNat / 2) ∈ bothL ord)) | d => d) (fun I1 j d1 acc1 hd1 hl1 n1 => ?_) ?_
    · obtain ⟨hj, rfl⟩ := rngD_get hd1
      rw [hm] at hj
      refine ⟨divW (by omega) (by decide), divW (by omega) (by decide), szB rfl, ?_⟩
      have ep : D.tup [.int ((i : Int) / 2), .int ((j : Int) / 2)] = prD (i / 2, j / 2) := by
        show _ = D.tup [.int ((i / 2 : Nat) : Int), .int ((j / 2 : Nat) : Int)]
        rw [Int.natCast_ediv, Int.natCast_ediv]; rfl
      have sp : Shp (D.tup [.int ((i : Int) / 2), .int ((j : Int) / 2)]) := by rw [ep]; exact shp_pr _
      refine ⟨.inr ⟨sp, shp_prs _⟩, sz_lt (by omega), ?_⟩
      have n1' : I1 (j + 1) (acc1 ++ [D.bl (decide ((i / 2, j / 2) ∈ bothL ord))]) _ := n1
      rw [← dIn_pr, ← ep] at n1'
      exact n1'
    · refine ⟨sz_lt (by omega), ?_⟩
      have e3 : (rngD 0 ((((signsL names).map D.str).length : Int).toNat)).map (fun d => match d with | D.int b => D.bl (decide ((i / 2, b.toNat / 2) ∈ bothL ord)) | d => d) = (List.range (signsL names).length).map fun b => .bl (decide ((i / 2, b / 2) ∈ bothL ord)) := by
        unfold rngD
        rw [hm, List.map_map]
        simp
      rw [e3]
      exact n
  refine ⟨k.fl "apart" (by decide), by simp [putFO], ?_⟩
  have e4 : (rngD 0 ((((signsL names).map D.str).length : Int).toNat)).map (fun d => match d with | D.int a => D.lst ((List.range (signsL names).length).map fun b => .bl (decide ((a.toNat / 2, b / 2) ∈ bothL ord))) | d => d) = apartL (signsL names).length ord := by
    unfold rngD apartL
    rw [hm, List.map_map]
    simp
  rw [e4]
  have : ordOf names prs = ord := by unfold ordOf; rw [hf, ho]
  unfold bookO at h
  rw [this] at h
  exact h
end T
namespace T
open PySem L2 AE AH
theorem num_mem {signs : List Str} : ∀ (l : List D) (acc : List (Key × D)), (∀ d ∈ l, ∃ (i : Nat) (s : Str), d = .tup [.int i, .str s] ∧ signs[i]? = some s) → (∀ s v, valD acc (.inr s) = some v → ∃ i : Nat, v = .int i ∧ signs[i]? = some s) →
    ∀ s v, valD (l.foldl (fun acc d => putDk acc (nf d).1 (nf d).2) acc) (.inr s) = some v → ∃ i : Nat, v = .int i ∧ signs[i]? = some s
  | [], acc, _, h => h
  | d :: l, acc, hl, h => by
    refine num_mem l _ (fun d hd => hl d (List.mem_cons_of_mem _ hd)) fun s v e => ?_
    obtain ⟨i, x, rfl, hx⟩ := hl d List.mem_cons_self
    have e1 : valD (putDk acc (.inr x) (.int i)) (.inr s) = some v := e
    rw [val_put] at e1
    by_cases z : x = s
    · subst z
      rw [if_pos rfl] at e1
      exact ⟨i, (Option.some.inj e1).symm, hx⟩
    · rw [if_neg (fun q => z (Sum.inr.inj q))] at e1
      exact h s v e1
theorem num_some {s : Str} : ∀ (l : List D) (acc : List (Key × D)), ((valD acc (.inr s)).isSome = true ∨ ∃ n : D, D.tup [n, .str s] ∈ l) → (valD (l.foldl (fun acc d => putDk acc (nf d).1 (nf d).2) acc) (.inr s)).isSome = true
  | [], acc, h => by
    rcases h with h | ⟨_, h⟩
    · exact h
    · cases h
  | d :: l, acc, h => by
    refine num_some l _ ?_
    rcases h with h | ⟨n, h⟩
    · left
      rw [val_put]
      split <;> simp [h]
    · rcases List.mem_cons.mp h with rfl | h
      · left
        show (valD (putDk acc (.inr s) n) (.inr s)).isSome = true
        rw [val_put, if_pos rfl]; rfl
      · exact .inr ⟨n, h⟩
def num (signs : List Str) (s : Str) : Nat := match valD (numsL signs) (.inr s) with | some (.int i) => i.toNat | _ => 0
theorem num_val {signs : List Str} {s : Str} (h : s ∈ signs) : valD (numsL signs) (.inr s) = some (.int (num signs s : Nat)) ∧ signs[num signs s]? = some s := by
  have h1 : (valD (numsL signs) (.inr s)).isSome = true := by
    refine num_some _ _ (.inr ?_)
    obtain ⟨i, hi⟩ := List.getElem?_of_mem h
    have : (signs.map D.str)[i]? = some (.str s) := by rw [List.getElem?_map, hi]; rfl
    exact ⟨_, List.mem_of_getElem? (enumD_get this)⟩
  obtain ⟨v, hv⟩ := Option.isSome_iff_exists.mp h1
  obtain ⟨i, rfl, hi⟩ := num_mem (signs := signs) (enumD (signs.map D.str)) [] (fun d hd => by
    obtain ⟨j, hj⟩ := List.getElem?_of_mem hd
    obtain ⟨x, hx, rfl⟩ := enumD_inv hj
    rw [List.getElem?_map] at hx
    obtain ⟨y, hy, rfl⟩ := Option.map_eq_some_iff.mp hx
    exact ⟨j, y, rfl, hy⟩) (fun s v e => by cases e) s v hv
  have : num signs s = i := by unfold num; rw [hv]; rfl
  rw [this]
  exact ⟨hv, hi⟩
def bookD (K : PySem.W.Frag) (names : List Str) (prs : List (Str × Str)) : D := .ins (C K "Book") [("names", .tup (names.map D.str)), ("kept", .tup ((keptL names (ordOf names prs)).map spD)), ("signs", .tup ((signsL names).map D.str)), ("numbers", .dic (numsL (signsL names))), ("apart", .lst (apartL (signsL names).length (ordOf names prs)))]
theorem frz_book {K : PySem.W.Frag} {names : List Str} {prs : List (Str × Str)} : frz (bookO K names prs) = bookD K names prs := rfl
def wordO (K : PySem.W.Frag) (names : List Str) (prs : List (Str × Str)) (ms : List Str) : O := .ob (C K "Word") [("numbers", .fz (.tup (ms.map fun m => .int (num (signsL names) m : Nat)))), ("book", .fz (bookD K names prs)), ("kept", .fz (.tup (ms.map D.str)))]
structure WordK (K : PySem.W.Frag) : Prop where
  book : BookK K
  wf : ∀ f ∈ (["numbers", "book", "kept"] : List Str), FldOk K (C K "Word") f
  iB : InsIs K (C K "Book")
  kB : PySem.W.kitOne K (.ref (C K "Book")) (.ref (C K "Book")) = some true
  iW : InsIs K (C K "Word")
  kW : PySem.W.kitOne K (.ref (C K "Word")) (.ref (C K "Word")) = some true
  xt : XIs K (C K "BadText")
  ks : PySem.W.kitOne K (.ref (C K "BadText")) (.ref (C K "StepError")) = some true
  em : PySem.W.exmOne K (.ref (C K "BadText")) (.ref (C K "BadText")) = some true
section
variable {K : PySem.W.Frag} {names : List Str} {prs : List (Str × Str)} {Kd : KO} {Ed : KXc}
theorem spec_number_of (k : WordK K) {m : Str} (hm : m ∈ signsL names) (h : Kd (.fz (.int (num (signsL names) m : Nat))) [some (.fz (bookD K names prs)), some (.fz (.str m))]) :
    F_Book_number_of K [.fz (bookD K names prs), .fz (.str m)] Kd Ed := by
  unfold F_Book_number_of
  refine ⟨rfl, ?_⟩
  unfold t_Book_number_of
  obtain ⟨h1, h2⟩ := num_val hm
  refine ⟨k.book.fl "numbers" (by decide), _, rfl, iteB (fun e => ?_) (fun _ => ?_)⟩
  · rw [h1] at e; cases e
  exact ⟨k.book.fl "numbers" (by decide), _, rfl, _, h1, h⟩
theorem spec_word (k : WordK K) {ms : List Str} (hm : ∀ m ∈ ms, m ∈ signsL names) (hl : ms.length ≤ 100000) (h : Kd (.fz .non) [some (wordO K names prs ms), some (.fz (bookD K names prs)), some (.fz (.lst (ms.map D.str)))]) :
    F_Word___init__ K [.ob (C K "Word") [], .fz (bookD K names prs), .fz (.lst (ms.map D.str))] Kd Ed := by
  unfold F_Word___init__
  refine ⟨rfl, ?_⟩
  unfold t_Word___init__
  refine compMap (ρ0 := [some (.ob (C K "Word") []), some (.fz (bookD K names prs)), some (.fz (.lst (ms.map D.str))), none, none])
    (f := fun d => match d with | .str m => .int (num (signsL names) m : Nat) | d => d) (fun I i d acc hd hl n => ?_) ?_
  · rw [List.getElem?_map] at hd
    obtain ⟨m, hx, rfl⟩ := Option.map_eq_some_iff.mp hd
    have hi := (List.getElem?_eq_some_iff.mp hx).1
    refine ⟨⟨rfl, rfl⟩, ?_⟩
    refine spec_number_of k (hm m (List.mem_of_getElem? hx)) ?_
    exact ⟨sz_lt (by omega), n⟩
  have e1 : (ms.map D.str).map (fun d => match d with | D.str m => D.int (num (signsL names) m : Nat) | d => d) = ms.map fun m => .int (num (signsL names) m : Nat) := by
    rw [List.map_map]; rfl
  rw [e1]
  refine ⟨k.wf "numbers" (by decide), by decide, ?_⟩
  refine ⟨k.wf "book" (by decide), by simp [putFO], ?_⟩
  refine ⟨k.wf "numbers" (by decide), _, rfl, ?_⟩
  refine compMap (ρ0 := [some (.ob (C K "Word") [("numbers", .fz (.tup (ms.map fun m => .int (num (signsL names) m : Nat)))), ("book", .fz (bookD K names prs))]), some (.fz (bookD K names prs)), some (.fz (.lst (ms.map D.str))), none, none])
    (f := fun d => match d with | .int j => .str ((signsL names).getD j.toNat "") | d => d) (fun I i d acc hd hl n => ?_) ?_
  · rw [List.getElem?_map] at hd
    obtain ⟨m, hx, rfl⟩ := Option.map_eq_some_iff.mp hd
    have hi := (List.getElem?_eq_some_iff.mp hx).1
    obtain ⟨h1, h2⟩ := num_val (hm m (List.mem_of_getElem? hx))
    have hj := (List.getElem?_eq_some_iff.mp h2).1
    refine ⟨k.book.fl "signs" (by decide), _, rfl, _, atS hj, sz_lt (by omega), ?_⟩
    have n' : I (i + 1) (acc ++ [D.str ((signsL names).getD (num (signsL names) m) "")]) _ := n
    rw [List.getD_eq_getElem?_getD, List.getElem?_eq_getElem hj] at n'
    exact n'
  have e2 : (ms.map fun m => D.int (num (signsL names) m : Nat)).map (fun d => match d with | .int j => D.str ((signsL names).getD j.toNat "") | d => d) = ms.map D.str := by
    rw [List.map_map]
    apply List.map_congr_left
    intro m hmm
    obtain ⟨h1, h2⟩ := num_val (hm m hmm)
    show D.str ((signsL names).getD (num (signsL names) m) "") = .str m
    rw [List.getD_eq_getElem?_getD, h2]; rfl
  rw [e2]
  exact ⟨k.wf "kept" (by decide), by simp [putFO], h⟩
theorem spec_text (k : WordK K) {ms : List Str} (hs : (ms.map (·.length)).sum + ms.length ≤ 1000000) (h : Kd (.fz (.str (Txt.join blank ms))) [some (wordO K names prs ms)]) :
    F_Word_text K [wordO K names prs ms] Kd Ed := by
  unfold F_Word_text
  refine ⟨rfl, ?_⟩
  unfold t_Word_text
  refine ⟨k.wf "kept" (by decide), _, rfl, ms, rfl, ?_, h⟩
  show (ms.map (·.length)).sum + ms.length * 1 ≤ _
  omega
theorem spec_moves (k : WordK K) {ms : List Str} (h : Kd (.ls (ms.map D.str)) [some (wordO K names prs ms)]) :
    F_Word_moves K [wordO K names prs ms] Kd Ed := by
  unfold F_Word_moves
  refine ⟨rfl, ?_⟩
  unfold t_Word_moves
  exact ⟨k.wf "kept" (by decide), _, rfl, h⟩
def wordsOf (line : Str) : List Str := if line = "" then [] else Txt.split line blank
def r_read (K : PySem.W.Frag) : TSD :=
    (tSeqF (tIfSD (tNotT (tVal (tN (pN gAll) (tConsD (tLcD (tISeq (tNameF 3)) [4] (gNameD 4) tYesD (t2 (p2 (gIn false)) (tName 4) (tFldD K "signs" (tName 1)))) tNilD)))) (tRaise0 (C K "BadText")) tNextD)
    (tRetD (tMakeL 0 (C K "Word") (F_Word___init__ K) (tConsD (tNameF 1) (tConsD (tNameF 3) tNilD)))))
theorem read_rest (k : WordK K) {ws : List Str} {x : Option O} (hlen : ws.length ≤ 1001) {E : EndsD} {Ed : XC}
    (h1 : (∀ m ∈ ws, m ∈ signsL names) → E.rt (wordO K names prs ws) [some (.fz (.cl (C K "Word"))), some (.fz (bookD K names prs)), x, some (.fz (.lst (ws.map D.str))), none])
    (h2 : ¬ (∀ m ∈ ws, m ∈ signsL names) → Ed ⟨.ref (C K "BadText"), []⟩ [some (.fz (.cl (C K "Word"))), some (.fz (bookD K names prs)), x, some (.fz (.lst (ws.map D.str))), none]) :
    r_read K E Ed [some (.fz (.cl (C K "Word"))), some (.fz (bookD K names prs)), x, some (.ls (ws.map D.str)), none] := by
  unfold r_read
  refine compMap (ρ0 := [some (.fz (.cl (C K "Word"))), some (.fz (bookD K names prs)), x, some (.fz (.lst (ws.map D.str))), none])
    (f := fun d => match d with | .str m => .bl (decide (m ∈ signsL names)) | d => d) (fun I i d acc hd hl n => ?_) ?_
  · rw [List.getElem?_map] at hd
    obtain ⟨m, hx, rfl⟩ := Option.map_eq_some_iff.mp hd
    have hi := (List.getElem?_eq_some_iff.mp hx).1
    refine ⟨k.book.fl "signs" (by decide), _, rfl, ⟨rfl, flat_strs⟩, sz_lt (by omega), ?_⟩
    have n' : I (i + 1) (acc ++ [D.bl (decide (m ∈ signsL names))]) _ := n
    rw [← dIn_str] at n'
    exact n'
  have e1 : (ws.map D.str).map (fun d => match d with | D.str m => D.bl (decide (m ∈ signsL names)) | d => d) = (ws.map fun m => decide (m ∈ signsL names)).map D.bl := by
    rw [List.map_map, List.map_map]; rfl
  refine ⟨_, e1, iteB (fun e => ?_) (fun e => ?_)⟩
  · have e : ¬ (ws.map fun m => decide (m ∈ signsL names)).all id = true := fun z => by rw [z] at e; cases e
    refine h2 fun hm => e ?_
    rw [List.all_eq_true]
    intro b hb
    obtain ⟨m, hm', rfl⟩ := List.mem_map.mp hb
    exact decide_eq_true (hm m hm')
  · refine ⟨rfl, ?_⟩
    have e : (ws.map fun m => decide (m ∈ signsL names)).all id = true := by
      cases q : (ws.map fun m => decide (m ∈ signsL names)).all id
      · rw [q] at e; cases e
      · rfl
    have hm : ∀ m ∈ ws, m ∈ signsL names := fun m hm => by
      have := List.all_eq_true.mp e (decide (m ∈ signsL names)) (List.mem_map.mpr ⟨m, hm, rfl⟩)
      exact of_decide_eq_true this
    refine spec_word k hm (by omega) ?_
    exact h1 hm
theorem words_len {line : Str} (hl : line.length ≤ 1000) : (wordsOf line).length ≤ 1001 := by
  unfold wordsOf
  split
  · simp
  · have := split_sum line
    omega
theorem spec_read (k : WordK K) {line : Str} (hl : line.length ≤ 1000) 
    (h1 : (∀ m ∈ wordsOf line, m ∈ signsL names) → Kd (wordO K names prs (wordsOf line)) [some (.fz (.cl (C K "Word"))), some (.fz (bookD K names prs)), some (.fz (.str line))])
    (h2 : ¬ (∀ m ∈ wordsOf line, m ∈ signsL names) → Ed ⟨.ref (C K "BadText"), []⟩ [some (.fz (.cl (C K "Word"))), some (.fz (bookD K names prs)), some (.fz (.str line))]) :
    F_Word_read K [.fz (.cl (C K "Word")), .fz (bookD K names prs), .fz (.str line)] Kd Ed := by
  unfold F_Word_read
  refine ⟨rfl, ?_⟩
  unfold t_Word_read
  have hlen := words_len hl
  have rest := read_rest (names := names) (prs := prs) k (ws := wordsOf line) (x := some (.fz (.str line))) hlen (E := { nx := fun ρ => Kd (.fz .non) (leftD pr_Word_read 0 [.fz (.cl (C K "Word")), .fz (bookD K names prs), .fz (.str line)] ρ), rt := fun o ρ => Kd o (leftD pr_Word_read 0 [.fz (.cl (C K "Word")), .fz (bookD K names prs), .fz (.str line)] ρ) })
    (Ed := fun x ρ => Ed x (leftD pr_Word_read 0 [.fz (.cl (C K "Word")), .fz (bookD K names prs), .fz (.str line)] ρ)) h1 h2
  refine ⟨sz_le (by omega), iteB (fun e => ?_) (fun e => ?_)⟩
  · have e : (0 : Int) < line.length := of_decide_eq_true e
    have en : ¬ line = "" := fun z => by rw [z] at e; exact absurd e (by decide)
    refine ⟨rfl, sz_le (by omega), ?_⟩
    unfold wordsOf at rest
    rw [if_neg en] at rest
    exact rest
  · have e : ¬ (0 : Int) < line.length := of_decide_eq_false e
    have en : line = "" := by
      apply TL.ext_tl
      have := TL.len_tl line
      have : (TL.tl line).length = 0 := by omega
      rw [List.length_eq_zero_iff.mp this]; rfl
    unfold wordsOf at rest
    rw [if_pos en] at rest
    exact ⟨sz_le (by decide), rest⟩
end
end T
namespace T
open PySem L2 AE AH
theorem okS_name {x : Str} (h : StepName x) : okS x := by
  rw [okS_iff]
  intro c hc
  have : ∀ c ∈ letters.cps.toList, c < 0x110000 := by decide +kernel
  exact this c (h.abc c hc)
theorem okS_signs {names : List Str} (h : ∀ x ∈ names, StepName x) : ∀ s ∈ signsL names, okS s := fun s hs => by
  unfold signsL at hs
  obtain ⟨x, hx, hs⟩ := List.mem_flatMap.mp hs
  have ox := okS_name (h x hx)
  unfold sgn at hs
  rcases List.mem_cons.mp hs with rfl | hs
  · exact ox
  · rw [List.mem_singleton.mp hs]
    exact okS_app (by rw [okS_iff]; decide +kernel) ox
theorem sps_ok : ∀ {l : List (Str × Str)}, (∀ p ∈ l, okS p.1 ∧ okS p.2) → pyOks (l.map spD) = true ∧ dDeps (l.map spD) ≤ 2
  | [], _ => ⟨rfl, by decide⟩
  | p :: l, h => by
    obtain ⟨h1, h2⟩ := sps_ok fun x hx => h x (List.mem_cons_of_mem _ hx)
    obtain ⟨a, b⟩ := h p List.mem_cons_self
    refine ⟨?_, ?_⟩
    · show ((PyData.strOk p.1 && (PyData.strOk p.2 && true)) && pyOks (l.map spD)) = true
      rw [h1, a, b]; rfl
    · show max 2 (dDeps (l.map spD)) ≤ 2
      omega
theorem shp_sps {l : List (Str × Str)} (h : ∀ p ∈ l, okS p.1 ∧ okS p.2) : Shp (.tup (l.map spD)) := ⟨(sps_ok h).1, by
  have := (sps_ok h).2
  show dDeps (l.map spD) + 1 ≤ 60
  omega⟩
theorem dEqs_sp : ∀ (l : List (Str × Str)), dEqs (l.map spD) (l.map spD) = true
  | [] => rfl
  | p :: l => by
    show ((p.1 == p.1 && (p.2 == p.2 && true)) && dEqs (l.map spD) (l.map spD)) = true
    rw [dEqs_sp l]; simp
theorem kept_ok {names : List Str} {ord : List (Nat × Nat)} (h : ∀ x ∈ names, okS x) : ∀ p ∈ keptL names ord, okS p.1 ∧ okS p.2 := fun p hp => by
  unfold keptL at hp
  obtain ⟨q, _, rfl⟩ := List.mem_map.mp hp
  have g : ∀ i, okS (names.getD i "") := fun i => by
    rw [List.getD_eq_getElem?_getD]
    cases e : names[i]? with
    | none => show okS ""; rw [okS_iff]; decide +kernel
    | some x => exact h x (List.mem_of_getElem? e)
  exact ⟨g _, g _⟩
section
variable {K : PySem.W.Frag} {names : List Str} {prs : List (Str × Str)} {Kd : KO} {Ed : KXc}
theorem spec_book_eq (k : WordK K) (g : GoodBook names prs) (h : Kd (.fz (.bl true)) [some (.fz (bookD K names prs)), some (.fz (bookD K names prs))]) :
    F_Book___eq__ K [.fz (bookD K names prs), .fz (bookD K names prs)] Kd Ed := by
  unfold F_Book___eq__
  refine ⟨rfl, ?_⟩
  unfold t_Book___eq__
  have on : ∀ x ∈ names, okS x := fun x hx => okS_name (g.st x hx)
  refine ⟨_, _, _, ⟨rfl, k.iB⟩, rfl, k.kB, ?_⟩
  refine ⟨k.book.fl "names" (by decide), _, rfl, k.book.fl "names" (by decide), _, rfl, .inr ⟨shp_tup on, shp_tup on⟩, ?_⟩
  show (if dEqs (names.map D.str) (names.map D.str) = true then _ else _)
  rw [dEqs_refl]
  refine ⟨k.book.fl "kept" (by decide), _, rfl, k.book.fl "kept" (by decide), _, rfl, .inr ⟨shp_sps (kept_ok on), shp_sps (kept_ok on)⟩, ?_⟩
  have e : dEq (.tup ((keptL names (ordOf names prs)).map spD)) (.tup ((keptL names (ordOf names prs)).map spD)) = true := dEqs_sp _
  rw [e]
  exact h
theorem spec_word_eq (k : WordK K) (g : GoodBook names prs) {ms : List Str} (hm : ∀ m ∈ ms, okS m) (h : Kd (.fz (.bl true)) [some (wordO K names prs ms), some (wordO K names prs ms)]) :
    F_Word___eq__ K [wordO K names prs ms, wordO K names prs ms] Kd Ed := by
  unfold F_Word___eq__
  refine ⟨rfl, ?_⟩
  unfold t_Word___eq__
  refine ⟨_, _, _, ⟨rfl, k.iW⟩, rfl, k.kW, ?_⟩
  refine ⟨k.wf "kept" (by decide), _, rfl, k.wf "kept" (by decide), _, rfl, .inr ⟨shp_tup hm, shp_tup hm⟩, ?_⟩
  show (if dEqs (ms.map D.str) (ms.map D.str) = true then _ else _)
  rw [dEqs_refl]
  refine ⟨k.wf "book" (by decide), _, rfl, k.wf "book" (by decide), _, rfl, rfl, rfl, ?_⟩
  refine spec_book_eq k g ?_
  exact h
def r_right (K : PySem.W.Frag) : TSD :=
    (tSeqF (tAsgD (t2 (p2 gEq) (tLcD (tISeq (tNameF 3)) [5] (gNameD 5) (tVal (t2 (p2 (gIn true)) (tName 5) (tName 1))) (tNameF 5)) (tDisp mkL tNilD)) (gNameD 4))
    (tSeqF (tTryD K (tAsgD (tCls (C K "Word") (tK (.cl (C K "Word"))) (tCallI (F_Word_read K) [.cl (C K "Word")] [1, 0] [] (tConsD (tNameF 2) (tConsD (tNameF 0) tNilD)))) (gNameD 6)) [⟨.ref (C K "BadText"), 7, fun a cls d => (tRetD (tAndE (tNotE (tName 4)) (tN (fIsX K a cls d) (tConsD (tName 7) (tConsD (tK (.cl (C K "StepError"))) tNilD)))))⟩])
    (tRetD (tAndE (tName 4) (tAndE (t2 (p2 gEq) (tMethA (C K "Word") "moves" (F_Word_moves K) (tName 6) tNilD) (tName 3)) (tAndE (t2 (p2 gEq) (tMethA (C K "Word") "text" (F_Word_text K) (tName 6) tNilD) (tName 2)) (t2 (fEqO (C K "Word") (F_Word___eq__ K)) (tName 6) (tMakeA (C K "Word") (F_Word___init__ K) (tConsD (tNameF 0) (tConsD (tNameF 3) tNilD))))))))))
theorem right_rest (k : WordK K) (g : GoodBook names prs) {line : Str} (hl : line.length ≤ 1000) (ok : okS line) {E : EndsD} {Ed : XC}
    (h : ∀ x, E.rt (.fz (.bl true)) (some (.fz (bookD K names prs)) :: some (.fz (.lst ((signsL names).map D.str))) :: some (.fz (.str line)) :: x)) :
    r_right K E Ed [some (.fz (bookD K names prs)), some (.fz (.lst ((signsL names).map D.str))), some (.fz (.str line)), some (.ls ((wordsOf line).map D.str)), none, none, none, none] := by
  unfold r_right
  have hlen := words_len hl
  have okw : ∀ m ∈ wordsOf line, okS m := by
    unfold wordsOf
    split
    · simp
    · exact split_ok ok
  refine compFM (ρ0 := [some (.fz (bookD K names prs)), some (.fz (.lst ((signsL names).map D.str))), some (.fz (.str line)), some (.fz (.lst ((wordsOf line).map D.str))), none, none, none, none])
    (f := fun d => match d with | .str m => if m ∈ signsL names then none else some (.str m) | _ => none) (fun I i d acc hd hl n => ?_) ?_
  · rw [List.getElem?_map] at hd
    obtain ⟨m, hx, rfl⟩ := Option.map_eq_some_iff.mp hd
    have hi := (List.getElem?_eq_some_iff.mp hx).1
    refine ⟨.inl ⟨rfl, flat_strs⟩, iteB (fun e => ?_) (fun e => ?_)⟩
    · rw [dIn_str, xorB_true] at e
      have e : ¬ m ∈ signsL names := fun z => by rw [decide_eq_true z] at e; cases e
      simp only [e, if_false, Option.toList] at n
      exact ⟨sz_lt (by omega), n⟩
    · rw [dIn_str, xorB_true] at e
      have e : m ∈ signsL names := Decidable.byContradiction fun z => by rw [decide_eq_false z] at e; cases e
      simp only [e, if_true, Option.toList, List.append_nil] at n
      exact n
  have e1 : ((wordsOf line).map D.str).filterMap (fun d => match d with | D.str m => if m ∈ signsL names then none else some (D.str m) | _ => none) = ((wordsOf line).filter fun m => !decide (m ∈ signsL names)).map D.str := by
    rw [List.filterMap_map]
    generalize wordsOf line = ws
    induction ws with
    | nil => rfl
    | cons a l ih =>
      simp only [List.filterMap_cons, Function.comp, List.filter_cons]
      by_cases z : a ∈ signsL names
      · simp [z]; exact ih
      · simp [z]; exact ih
  rw [e1]
  have e2 : dEq (.lst (((wordsOf line).filter fun m => !decide (m ∈ signsL names)).map D.str)) (.lst []) = decide (∀ m ∈ wordsOf line, m ∈ signsL names) := by
    show dEqs _ [] = _
    rw [dEqs_nil]
    congr 1
    simp [List.filter_eq_nil_iff]
  refine ⟨sz_le (by decide), .inr ⟨shp_lst fun m hm => okw m ((List.mem_filter.mp hm).1), ⟨rfl, by decide⟩⟩, ?_⟩
  generalize hb : dEq (.lst (((wordsOf line).filter fun m => !decide (m ∈ signsL names)).map D.str)) (.lst []) = b
  rw [e2] at hb
  refine ⟨rfl, rfl, ?_⟩
  refine spec_read k hl (fun hm => ?_) (fun hn => ?_)
  · rw [decide_eq_true hm] at hb
    subst hb
    refine ⟨⟨rfl, rfl⟩, ?_⟩
    refine spec_moves k ?_
    refine ⟨.inr ⟨shp_lst okw, shp_lst okw⟩, ?_⟩
    show (if dEqs ((wordsOf line).map D.str) ((wordsOf line).map D.str) = true then _ else _)
    rw [dEqs_refl]
    refine ⟨⟨rfl, rfl⟩, ?_⟩
    refine spec_text k ?_ ?_
    · unfold wordsOf
      split
      · simp
      · have := split_sum line
        omega
    have ej : Txt.join blank (wordsOf line) = line := by
      unfold wordsOf
      split
      · rename_i z; rw [z]; rfl
      · exact join_split line
    rw [ej]
    refine ⟨.inl rfl, ?_⟩
    show (if (line == line) = true then _ else _)
    rw [beq_self_eq_true]
    refine spec_word k hm (by omega) ?_
    refine ⟨rfl, rfl, ?_⟩
    refine spec_word_eq k g okw ?_
    exact h _
  · rw [decide_eq_false hn] at hb
    subst hb
    refine ⟨true, k.em, fun _ => ⟨by show 7 < 8; decide, fun a d => ?_⟩, fun z => by cases z⟩
    refine ⟨rfl, rfl, _, _, _, rfl, k.xt, rfl, k.ks, ?_⟩
    exact h _
theorem spec_right (k : WordK K) (g : GoodBook names prs) {line : Str} (hl : line.length ≤ 1000) (ok : okS line)
    (h : Kd (.fz (.bl true)) [some (.fz (bookD K names prs)), some (.fz (.lst ((signsL names).map D.str))), some (.fz (.str line))]) :
    F__law_right K [.fz (bookD K names prs), .fz (.lst ((signsL names).map D.str)), .fz (.str line)] Kd Ed := by
  unfold F__law_right
  refine ⟨rfl, ?_⟩
  unfold t__law_right
  have rest := right_rest (prs := prs) k g hl ok (E := { nx := fun ρ => Kd (.fz .non) (leftD pr__law_right 0 [.fz (bookD K names prs), .fz (.lst ((signsL names).map D.str)), .fz (.str line)] ρ), rt := fun o ρ => Kd o (leftD pr__law_right 0 [.fz (bookD K names prs), .fz (.lst ((signsL names).map D.str)), .fz (.str line)] ρ) })
    (Ed := fun x ρ => Ed x (leftD pr__law_right 0 [.fz (bookD K names prs), .fz (.lst ((signsL names).map D.str)), .fz (.str line)] ρ)) (fun _ => h)
  refine ⟨.inl rfl, iteB (fun e => ?_) (fun e => ?_)⟩
  · have en : ¬ line = "" := fun z => by rw [z] at e; exact absurd e (by decide)
    refine ⟨rfl, sz_le (by omega), ?_⟩
    unfold wordsOf at rest
    rw [if_neg en] at rest
    exact rest
  · have en : line = "" := by
      have e : (!(line == "")) = false := e
      simpa using e
    unfold wordsOf at rest
    rw [if_pos en] at rest
    exact ⟨sz_le (by decide), rest⟩
end
end T
namespace T
open PySem L2 AE AH
theorem cell_spec {K : PySem.W.Frag} {ns : List Int} {k : Int} {Kd : KO} {Ed : KXc} (hk : 0 ≤ k) (h : ∀ c : Int, Kd (.fz (.int c)) [some (.fz (.scr ns)), some (.fz (.int k))]) : F__law_cell K [.fz (.scr ns), .fz (.int k)] Kd Ed := by
  unfold F__law_cell
  refine ⟨rfl, ?_⟩
  unfold t__law_cell
  refine iteB (fun e => ?_) (fun e => ?_)
  · obtain ⟨x, _, hx⟩ := atI_lt hk (of_decide_eq_true e)
    exact ⟨x, hx, h x⟩
  · exact h 0
structure Bx (m : Nat) (c0 c1 b2 : Int) : Prop where
  a : 0 ≤ c0
  b : 0 ≤ c1
  c : c1 ≤ m
  d : 0 ≤ b2
  e : b2 ≤ 10 ^ 9
theorem Bx.mono {m m' : Nat} {c0 c1 b2 : Int} (h : Bx m c0 c1 b2) (hm : m ≤ m') : Bx m' c0 c1 b2 := ⟨h.a, h.b, by have := h.c; omega, h.d, h.e⟩
theorem box_spec {K : PySem.W.Frag} {ns : List Int} {k : Int} {Kd : KO} {Ed : KXc} (hk : 0 ≤ k) (hk2 : k ≤ 1000) (h : ∀ c : Int, Bx 0 c 0 (40503 * k + 911) → Kd (.ls [.int c, .int 0, .int (40503 * k + 911)]) [some (.fz (.scr ns)), some (.fz (.int k))]) : F__law_box K [.fz (.scr ns), .fz (.int k)] Kd Ed := by
  unfold F__law_box
  refine ⟨rfl, ?_⟩
  unfold t__law_box
  refine cell_spec hk fun c => ?_
  refine ⟨mulW (by decide) (by omega), ?_⟩
  refine ⟨szB rfl, ?_⟩
  refine h (if c < 0 then -c else c) ⟨?_, by omega, by omega, by omega, by omega⟩
  split <;> omega
theorem take_spec {K : PySem.W.Frag} {b0 b1 b2 n : Int} {m : Nat} {Kd : KO} {Ed : KXc} (hb : Bx m b0 b1 b2) (hm2 : m < 10 ^ 9) (hn : 0 < n) (hn2 : n ≤ 10 ^ 9)
    (h : ∀ v c0 c1 : Int, 0 ≤ v → v < n → Bx (m + 1) c0 c1 b2 → Kd (.fz (.int v)) [some (.ls [.int c0, .int c1, .int b2]), some (.fz (.int n))]) : F__law_take K [.ls [.int b0, .int b1, .int b2], .fz (.int n)] Kd Ed := by
  obtain ⟨h0, h1, hm, h2, h3⟩ := hb
  unfold F__law_take
  refine ⟨rfl, ?_⟩
  unfold t__law_take
  refine ⟨_, rfl, powW (by omega) (by omega) (by decide), ?_⟩
  refine iteB (fun e => ?_) (fun e => ?_)
  · refine ⟨_, rfl, hn, _, rfl, divW hn (by omega), _, rfl, ?_⟩
    exact h _ _ _ (Int.emod_nonneg _ (by omega)) (Int.emod_lt_of_pos _ hn) ⟨Int.ediv_nonneg h0 (by omega), h1, by omega, h2, h3⟩
  · have hb : b0 < 10 ^ 18 := by have := of_decide_eq_false e; simp only [Int.reduceToNat] at this; omega
    refine ⟨_, rfl, _, rfl, _, rfl, mulW (by omega) (by decide), _, rfl, mulW (by omega) (by decide), _, rfl, powW (by omega) (by omega) (by omega), by omega, ?_⟩
    generalize hg : ((b0 + 7) * 69069 + (b1 + 1) * 40692 + b2) ^ (3 : Int).toNat % 2147483647 = x
    have x0 : 0 ≤ x := by rw [← hg]; exact Int.emod_nonneg _ (by omega)
    have x1 : x < 2147483647 := by rw [← hg]; exact Int.emod_lt_of_pos _ (by omega)
    refine ⟨_, rfl, mulW (by omega) (by decide), powW (by omega) (by omega) (by omega), by omega, divW (by omega) (by decide), hn, ?_⟩
    exact h _ _ _ (Int.emod_nonneg _ (by omega)) (Int.emod_lt_of_pos _ hn) ⟨h0, by omega, by omega, h2, h3⟩
theorem cutS_tl {z : Str} {lo hi : Option Int} : TL.tl (cutS z lo hi) = (z.cps.toList.drop (HT.sIx z.length 0 lo)).take (HT.sIx z.length z.length hi - HT.sIx z.length 0 lo) := rfl
theorem cutS_len {z : Str} {lo hi : Option Int} : (cutS z lo hi).length ≤ z.length := by
  rw [TL.len_tl, TL.len_tl z, cutS_tl, List.length_take, List.length_drop]
  show _ ≤ z.cps.toList.length
  omega
theorem cutS_ok {z : Str} {lo hi : Option Int} (h : okS z) : okS (cutS z lo hi) := by
  rw [okS_iff] at h ⊢
  intro c hc
  rw [cutS_tl] at hc
  exact h c (List.mem_of_mem_drop (List.mem_of_mem_take hc))
theorem len_app {x y : Str} : (x ++ y).length = x.length + y.length := by
  rw [TL.len_tl, TL.tl_append, List.length_append, ← TL.len_tl, ← TL.len_tl]
theorem ok_dash : okS "-" := by rw [okS_iff]; decide +kernel
section
variable {K : PySem.W.Frag} {Kd : KO} {Ed : KXc}
theorem spec_opposite {m : Str} (hl : m.length ≤ 1000) (ho : okS m) (h : ∀ r : Str, r.length ≤ m.length + 1 → okS r → Kd (.fz (.str r)) [some (.fz (.str m))]) : F__law_opposite K [.fz (.str m)] Kd Ed := by
  unfold F__law_opposite
  refine ⟨rfl, ?_⟩
  unfold t__law_opposite
  refine ⟨sz_le (by omega), .inl rfl, iteB (fun e => ?_) (fun e => ?_)⟩
  · exact ⟨sz_le (by omega), h _ (Nat.le_succ_of_le cutS_len) (cutS_ok ho)⟩
  · refine ⟨sz_le (by show 1 + m.length ≤ _; omega), h _ ?_ (okS_app ok_dash ho)⟩
    rw [len_app]
    show 1 + m.length ≤ _
    omega
theorem signs_take {names : List Str} {i : Nat} {x : Str} (h : names[i]? = some x) : signsL (names.take (i + 1)) = signsL (names.take i) ++ sgn x := by
  unfold signsL
  rw [take_succ_of h, List.flatMap_append]; simp
theorem spec_signs {names : List Str} {a b : D} (hn : names.length ≤ 5) (hl : ∀ x ∈ names, x.length ≤ 6) (h : Kd (.ls ((signsL names).map D.str)) [some (.ls [.lst (names.map D.str), a, b])]) :
    F__law_signs K [.ls [.lst (names.map D.str), a, b]] Kd Ed := by
  unfold F__law_signs
  refine ⟨rfl, ?_⟩
  unfold t__law_signs
  refine ⟨sz_le (by decide), _, rfl, ?_⟩
  refine ⟨fun i ρ => ∃ x, ρ = [some (.ls [.lst (names.map D.str), a, b]), some (.ls ((signsL (names.take i)).map D.str)), x], ⟨none, rfl⟩, fun i d ρ hd hI => ?_, fun ρ hI => ?_⟩
  · obtain ⟨x0, rfl⟩ := hI
    rw [List.getElem?_map] at hd
    obtain ⟨x, hx, rfl⟩ := Option.map_eq_some_iff.mp hd
    have hi := (List.getElem?_eq_some_iff.mp hx).1
    have lx := hl x (List.mem_of_getElem? hx)
    refine ⟨sz_le (by show 1 + x.length ≤ _; omega), szB rfl, sz_le ?_, ?_⟩
    · rw [List.length_map, signsL_len, List.length_take]
      show _ + 2 ≤ _
      omega
    · exact ⟨some (.fz (.str x)), by rw [signs_take hx, List.map_append]; rfl⟩
  · obtain ⟨x0, rfl⟩ := hI
    have e : names.take (names.map D.str).length = names := by rw [List.length_map, List.take_length]
    rw [e]
    exact h
theorem shp_lst0 : Shp (.lst []) := ⟨rfl, by decide⟩
theorem moves_get {ms : List Str} {v : Int} (h0 : 0 ≤ v) (h1 : v < ms.length) : ∃ m, m ∈ ms ∧ atI (ms.map D.str) v = some (.str m) := by
  obtain ⟨x, hx, e⟩ := atI_lt (xs := ms.map D.str) h0 (by rw [List.length_map]; exact h1)
  obtain ⟨m, hm, rfl⟩ := List.mem_map.mp hx
  exact ⟨m, hm, e⟩
theorem len_signs {names : List Str} (h : ∀ x ∈ names, StepName x) : ∀ s ∈ signsL names, s.length ≤ 7 := fun s hs => by
  unfold signsL at hs
  obtain ⟨x, hx, hs⟩ := List.mem_flatMap.mp hs
  have ox := (h x hx).l6
  unfold sgn at hs
  rcases List.mem_cons.mp hs with rfl | hs
  · omega
  · rw [List.mem_singleton.mp hs, len_app]
    show 1 + x.length ≤ 7
    omega
theorem spec_moves_drawn {names : List Str} {prs : List (Str × Str)} (g : GoodBook names prs) {a b : D} {m : Nat} {c0 c1 b2 : Int} (hb : Bx m c0 c1 b2) (hm : m < 1000)
    (h : ∀ (ms : List Str) (e0 e1 : Int), ms.length ≤ 8 → (∀ x ∈ ms, x.length ≤ 15 ∧ okS x) → Bx (m + 30) e0 e1 b2 → Kd (.ls (ms.map D.str)) [some (.ls [.int e0, .int e1, .int b2]), some (.ls [.lst (names.map D.str), a, b]), some (.fz (.int 8))]) :
    F__law_moves K [.ls [.int c0, .int c1, .int b2], .ls [.lst (names.map D.str), a, b], .fz (.int 8)] Kd Ed := by
  unfold F__law_moves
  refine ⟨rfl, ?_⟩
  unfold t__law_moves
  refine spec_signs g.l5 (fun x hx => (g.st x hx).l6) ?_
  refine ⟨sz_le (by decide), ?_⟩
  refine take_spec hb (by omega) (by omega) (by omega) fun v e0 e1 v0 v1 hb1 => ?_
  refine ⟨by omega, by omega, ?_⟩
  have ls := len_signs g.st
  have os := okS_signs g.st
  have hsl : (signsL names).length = 2 * names.length := signsL_len
  have l1 := g.l1
  have l5 := g.l5
  refine ⟨fun i ρ => ∃ (ms : List Str) (c0 c1 : Int) (x : Option O), ms.length = i ∧ (∀ x ∈ ms, x.length ≤ 7 + i ∧ okS x) ∧ Bx (m + 1 + 3 * i) c0 c1 b2 ∧ ρ = [some (.ls [.int c0, .int c1, .int b2]), some (.ls [.lst (names.map D.str), a, b]), some (.fz (.int 8)), some (.ls ((signsL names).map D.str)), some (.ls (ms.map D.str)), x],
    ⟨[], e0, e1, none, rfl, by simp, hb1, rfl⟩, fun i d ρ hd hI => ?_, fun ρ hI => ?_⟩
  · obtain ⟨ms, p0, p1, x0, hl, hms, hbx, rfl⟩ := hI
    obtain ⟨hi, rfl⟩ := rngD_get hd
    have hi : i < 8 := by omega
    have big : ∀ (c0 c1 : Int), Bx (m + 1 + 3 * i + 2) c0 c1 b2 → ∀ (z : Str), z.length ≤ 8 + i → okS z → ∃ (ms' : List Str) (c0' c1' : Int) (x : Option O), ms'.length = i + 1 ∧ (∀ x ∈ ms', x.length ≤ 7 + (i + 1) ∧ okS x) ∧ Bx (m + 1 + 3 * (i + 1)) c0' c1' b2 ∧ [some (.ls [.int c0, .int c1, .int b2]), some (.ls [.lst (names.map D.str), a, b]), some (.fz (.int 8)), some (.ls ((signsL names).map D.str)), some (.ls (ms.map D.str ++ [.str z])), some (.fz (.int (i : Nat)))] = [some (.ls [.int c0', .int c1', .int b2]), some (.ls [.lst (names.map D.str), a, b]), some (.fz (.int 8)), some (.ls ((signsL names).map D.str)), some (.ls (ms'.map D.str)), x] := fun c0 c1 hq z hz oz => by
      refine ⟨ms ++ [z], c0, c1, _, by simp [hl], fun x hx => ?_, hq.mono (by omega), by rw [List.map_append]; rfl⟩
      rcases List.mem_append.mp hx with h | h
      · exact ⟨by have := (hms x h).1; omega, (hms x h).2⟩
      · rw [List.mem_singleton.mp h]; exact ⟨by omega, oz⟩
    have other : ∀ (c0 c1 : Int), Bx (m + 1 + 3 * i + 1) c0 c1 b2 → True := fun _ _ _ => trivial
    refine ⟨sz_le (by decide), .inr ⟨shp_lst fun x hx => (hms x hx).2, shp_lst0⟩, iteB (fun e => ?_) (fun e => ?_)⟩
    · have hne : ms ≠ [] := fun z => by rw [z] at e; cases e
      have hpos : 0 < ms.length := List.length_pos_iff.mpr hne
      refine take_spec hbx (by omega) (by omega) (by omega) fun w q0 q1 w0 w1 hb2 => ?_
      refine ⟨.inl rfl, iteB (fun e => ?_) (fun e => ?_)⟩
      · refine ⟨trivial, ?_⟩
        refine take_spec hb2 (by omega) (by rw [List.length_map]; omega) (by rw [List.length_map]; omega) fun u r0 r1 u0 u1 hb3 => ?_
        rw [List.length_map] at u1
        obtain ⟨y, hy, ey⟩ := moves_get u0 u1
        refine ⟨_, ey, ?_⟩
        refine spec_opposite (by have := (hms y hy).1; omega) (hms y hy).2 fun r hr or => ?_
        refine ⟨sz_lt (by rw [List.length_map]; omega), ?_⟩
        exact big r0 r1 hb3 r (by have := (hms y hy).1; omega) or
      · refine ⟨trivial, ?_⟩
        refine take_spec hb2 (by omega) (by rw [List.length_map]; omega) (by rw [List.length_map]; omega) fun u r0 r1 u0 u1 hb3 => ?_
        rw [List.length_map] at u1
        obtain ⟨y, hy, ey⟩ := moves_get u0 u1
        refine ⟨_, ey, sz_lt (by rw [List.length_map]; omega), ?_⟩
        exact big r0 r1 hb3 y (by have := ls y hy; omega) (os y hy)
    · refine ⟨trivial, ?_⟩
      refine take_spec hbx (by omega) (by rw [List.length_map]; omega) (by rw [List.length_map]; omega) fun u r0 r1 u0 u1 hb3 => ?_
      rw [List.length_map] at u1
      obtain ⟨y, hy, ey⟩ := moves_get u0 u1
      refine ⟨_, ey, sz_lt (by rw [List.length_map]; omega), ?_⟩
      exact big r0 r1 (hb3.mono (by omega)) y (by have := ls y hy; omega) (os y hy)
  · obtain ⟨ms, p0, p1, x0, hl, hms, hbx, rfl⟩ := hI
    have hl : ms.length ≤ 8 := by rw [rngD_len] at hl; omega
    refine h ms p0 p1 hl (fun x hx => ⟨?_, (hms x hx).2⟩) (hbx.mono ?_)
    · have := (hms x hx).1
      rw [rngD_len] at this; omega
    · rw [rngD_len]; omega
end
end T
namespace T
open PySem L2 AE AH
def charsL : Str := " -abgopux!&'()*+,./0123456789:;<=>?@ABCXYZ[]^_{|}~cdefhijklmnqrstvwyz"
theorem chars_ok : okS charsL := by rw [okS_iff]; decide +kernel
theorem chars_len : charsL.length = 69 := by decide +kernel
theorem chars_get {v : Int} (h0 : 0 ≤ v) (h1 : v < 69) : ∃ c, c ∈ charsL.cps.toList ∧ atI charsL.cps.toList v = some c := by
  refine atI_lt h0 ?_
  have : charsL.cps.toList.length = 69 := by decide +kernel
  rw [this]; exact h1
theorem one_ok {c : Nat} (h : c ∈ charsL.cps.toList) : okS (⟨#[c]⟩ : Str) := by
  rw [okS_iff]
  intro d hd
  have : d = c := by simpa [TL.tl] using hd
  rw [this]
  exact okS_iff.mp chars_ok c h
section
variable {K : PySem.W.Frag} {Kd : KO} {Ed : KXc}
structure Sp (line : Str) (c : Nat) : Prop where
  two : ∀ {lo hi lo' hi' : Option Int}, (cutS line lo hi ++ cutS line lo' hi').length ≤ 2 * line.length + 1 ∧ okS (cutS line lo hi ++ cutS line lo' hi')
  three : ∀ {lo hi lo' hi' : Option Int}, (cutS line lo hi ++ (⟨#[c]⟩ : Str) ++ cutS line lo' hi').length ≤ 2 * line.length + 1 ∧ okS (cutS line lo hi ++ (⟨#[c]⟩ : Str) ++ cutS line lo' hi')
  s2 : ∀ {lo hi lo' hi' : Option Int}, (cutS line lo hi).length + (cutS line lo' hi').length ≤ sizeLine
  s1 : ∀ {lo hi : Option Int}, (cutS line lo hi).length + (⟨#[c]⟩ : Str).length ≤ sizeLine
  s3 : ∀ {lo hi lo' hi' : Option Int}, (cutS line lo hi ++ (⟨#[c]⟩ : Str)).length + (cutS line lo' hi').length ≤ sizeLine
  sl : line.length ≤ sizeLine
theorem sp_of {line : Str} (hl : line.length ≤ 400) (ho : okS line) {c : Nat} (hc : c ∈ charsL.cps.toList) : Sp line c := by
  have oc := one_ok hc
  have l1 : (⟨#[c]⟩ : Str).length = 1 := rfl
  have cl : ∀ {lo hi : Option Int}, (cutS line lo hi).length ≤ line.length := cutS_len
  have co : ∀ {lo hi : Option Int}, okS (cutS line lo hi) := cutS_ok ho
  refine ⟨fun {lo hi lo' hi'} => ⟨?_, okS_app co co⟩, fun {lo hi lo' hi'} => ⟨?_, okS_app (okS_app co oc) co⟩, fun {lo hi lo' hi'} => ?_, fun {lo hi} => ?_, fun {lo hi lo' hi'} => ?_, sz_le (by omega)⟩
  · rw [len_app]
    have := cl (lo := lo) (hi := hi); have := cl (lo := lo') (hi := hi')
    omega
  · rw [len_app, len_app, l1]
    have := cl (lo := lo) (hi := hi); have := cl (lo := lo') (hi := hi')
    omega
  · have := cl (lo := lo) (hi := hi); have := cl (lo := lo') (hi := hi')
    exact sz_le (by omega)
  · have := cl (lo := lo) (hi := hi)
    exact sz_le (by omega)
  · have := cl (lo := lo) (hi := hi); have := cl (lo := lo') (hi := hi')
    rw [len_app]
    exact sz_le (by omega)
theorem spec_spoiled {line : Str} (hl : line.length ≤ 400) (ho : okS line) {m : Nat} {c0 c1 b2 : Int} (hb : Bx m c0 c1 b2) (hm : m < 1000)
    (h : ∀ (r : Str) (e0 e1 : Int), r.length ≤ 2 * line.length + 1 → okS r → Bx (m + 4) e0 e1 b2 → Kd (.fz (.str r)) [some (.ls [.int e0, .int e1, .int b2]), some (.fz (.str line))]) :
    F__law_spoiled K [.ls [.int c0, .int c1, .int b2], .fz (.str line)] Kd Ed := by
  unfold F__law_spoiled
  refine ⟨rfl, ?_⟩
  unfold t__law_spoiled
  have hz : charsL = (" -abgopux!&'()*+,./0123456789:;<=>?@ABCXYZ[]^_{|}~cdefhijklmnqrstvwyz" : Str) := by unfold charsL; rfl
  generalize (" -abgopux!&'()*+,./0123456789:;<=>?@ABCXYZ[]^_{|}~cdefhijklmnqrstvwyz" : Str) = z at hz ⊢
  have zl : z.length = 69 := by rw [← hz]; exact chars_len
  have zg : ∀ {v : Int}, 0 ≤ v → v < 69 → ∃ c, c ∈ charsL.cps.toList ∧ atI z.cps.toList v = some c := fun {v} h0 h1 => by
    rw [← hz]; exact chars_get h0 h1
  clear hz
  refine ⟨sz_le (by omega), ?_⟩
  refine take_spec hb (by omega) (by omega) (by omega) fun at_ d0 d1 v0 v1 hb1 => ?_
  refine take_spec hb1 (by omega) (by omega) (by omega) fun w p0 p1 w0 w1 hb2 => ?_
  have cl : z.length ≤ sizeLine := sz_le (by omega)
  refine ⟨.inl rfl, iteB (fun e => ?_) (fun e => ?_)⟩
  · refine ⟨cl, ?_⟩
    refine take_spec hb2 (by omega) (by omega) (by omega) fun u q0 q1 u0 u1 hb3 => ?_
    obtain ⟨c, hc, ec⟩ := zg u0 (by omega)
    refine ⟨cl, c, ec, ?_⟩
    obtain ⟨two, three, s2, s1, s3, sl⟩ := sp_of hl ho hc
    refine take_spec hb3 (by omega) (by omega) (by omega) fun w p0 p1 w0 w1 hb4 => ?_
    refine ⟨.inl rfl, iteB (fun e => ?_) (fun e => ?_)⟩
    · exact ⟨sl, s1, sl, s3, h _ _ _ three.1 three.2 hb4⟩
    refine ⟨.inl rfl, iteB (fun e => ?_) (fun e => ?_)⟩
    · exact ⟨sl, sl, s2, h _ _ _ two.1 two.2 hb4⟩
    · exact ⟨sl, s1, sl, s3, h _ _ _ three.1 three.2 hb4⟩
  · refine take_spec hb2 (by omega) (by omega) (by omega) fun u q0 q1 u0 u1 hb3 => ?_
    obtain ⟨c, hc, ec⟩ := zg u0 (by omega)
    refine ⟨cl, c, ec, ?_⟩
    obtain ⟨two, three, s2, s1, s3, sl⟩ := sp_of hl ho hc
    refine take_spec hb3 (by omega) (by omega) (by omega) fun w p0 p1 w0 w1 hb4 => ?_
    refine ⟨.inl rfl, iteB (fun e => ?_) (fun e => ?_)⟩
    · exact ⟨sl, s1, sl, s3, h _ _ _ three.1 three.2 hb4⟩
    refine ⟨.inl rfl, iteB (fun e => ?_) (fun e => ?_)⟩
    · exact ⟨sl, sl, s2, h _ _ _ two.1 two.2 hb4⟩
    · exact ⟨sl, s1, sl, s3, h _ _ _ three.1 three.2 hb4⟩
end
end T
namespace AE
open PySem L2
/-- a comprehension whose values do not matter -/
theorem compAny {items : List D} {ρ0 : Env} {step : (Nat → List D → Env → Prop) → Nat → D → List D → Env → Prop} {Kd : List D → Env → Prop}
    (hstep : ∀ I i d acc, items[i]? = some d → acc.length ≤ i → (∀ acc', acc'.length ≤ i + 1 → I (i + 1) acc' ρ0) → step I i d acc ρ0) (fin : ∀ acc, Kd acc ρ0) :
    ∃ I : Nat → List D → Env → Prop, I 0 [] ρ0 ∧ (∀ i d acc ρ, items[i]? = some d → I i acc ρ → step I i d acc ρ) ∧ ∀ acc ρ, I items.length acc ρ → Kd acc ρ := by
  refine ⟨fun i acc ρ => acc.length ≤ i ∧ ρ = ρ0, ⟨by simp, rfl⟩, ?_, ?_⟩
  · rintro i d acc ρ hd ⟨hl, rfl⟩
    exact hstep _ i d acc hd hl fun acc' h' => ⟨h', rfl⟩
  · rintro acc ρ ⟨_, rfl⟩
    exact fin acc
theorem erase_perm {α : Type} : ∀ {l : List α} {n : Nat} (h : n < l.length), (l[n] :: l.eraseIdx n).Perm l
  | [], n, h => by simp at h
  | a :: l, 0, h => .refl _
  | a :: l, n + 1, h => by
    have := erase_perm (l := l) (n := n) (by simpa using h)
    simp only [List.getElem_cons_succ, List.eraseIdx_cons_succ]
    exact (List.Perm.swap _ _ _).trans (this.cons a)
theorem erase_map {α β : Type} {f : α → β} : ∀ {l : List α} {n : Nat}, (l.map f).eraseIdx n = (l.eraseIdx n).map f
  | [], n => by simp
  | a :: l, 0 => rfl
  | a :: l, n + 1 => by simp only [List.map_cons, List.eraseIdx_cons_succ]; rw [erase_map]
end AE
namespace T
open PySem L2 AE AH
def fixedL : List Str := ["a", "ab", "b", "go", "up", "quartz"]
theorem fixed_nd : fixedL.Nodup := by decide +kernel
theorem fixed_st : ∀ x ∈ fixedL, StepName x := by
  intro x hx
  have h : ∀ x ∈ fixedL, 1 ≤ x.length ∧ x.length ≤ 6 ∧ x ∉ (["else", "can", "cannot", "skip"] : List Str) ∧ ∀ c ∈ x.cps.toList, c ∈ letters.cps.toList := by decide +kernel
  obtain ⟨a, b, c, d⟩ := h x hx
  exact ⟨a, b, c, d⟩
/-- what is taken of the fixed names -/
structure Took (taken left : List Str) : Prop where
  pm : (taken ++ left).Perm fixedL
theorem Took.len {taken left : List Str} (h : Took taken left) : taken.length + left.length = 6 := by
  have := h.pm.length_eq
  rw [List.length_append] at this
  exact this
theorem Took.next {taken left : List Str} (h : Took taken left) {n : Nat} (hn : n < left.length) : Took (taken ++ [left[n]]) (left.eraseIdx n) := ⟨by
  have p : (left[n] :: left.eraseIdx n).Perm left := erase_perm hn
  rw [List.append_assoc]
  exact (p.append_left taken).trans h.pm⟩
theorem Took.nd {taken left : List Str} (h : Took taken left) : taken.Nodup := by
  have := h.pm.nodup_iff.mpr fixed_nd
  exact (List.nodup_append.mp this).1
theorem Took.st {taken left : List Str} (h : Took taken left) : ∀ x ∈ taken, StepName x := fun x hx => fixed_st x (h.pm.mem_iff.mp (List.mem_append_left _ hx))
theorem shp_sp {p : Str × Str} (h : okS p.1 ∧ okS p.2) : Shp (spD p) := by
  have := sps_ok (l := [p]) (fun q hq => by rw [List.mem_singleton.mp hq]; exact h)
  refine ⟨?_, by show 2 ≤ 60; omega⟩
  have h1 : (pyOk (spD p) && true) = true := this.1
  rwa [Bool.and_true] at h1
theorem shp_spl {l : List (Str × Str)} (h : ∀ p ∈ l, okS p.1 ∧ okS p.2) : Shp (.lst (l.map spD)) := ⟨(sps_ok h).1, by
  have := (sps_ok h).2
  show dDeps (l.map spD) + 1 ≤ 60
  omega⟩
section
variable {K : PySem.W.Frag} {Kd : KO} {Ed : KXc}
theorem spec_model {c0 c1 b2 : Int} (hb : Bx 0 c0 c1 b2)
    (h : ∀ (names : List Str) (prs : List (Str × Str)) (z : D) (e0 e1 : Int), GoodBook names prs → Bx 100 e0 e1 b2 → Kd (.ls [.lst (names.map D.str), .lst (prs.map spD), z]) [some (.ls [.int e0, .int e1, .int b2]), some (.fz (.int 5))]) :
    F__law_model K [.ls [.int c0, .int c1, .int b2], .fz (.int 5)] Kd Ed := by
  unfold F__law_model
  refine ⟨rfl, ?_⟩
  unfold t__law_model
  refine ⟨szB rfl, ?_⟩
  refine take_spec hb (by omega) (by omega) (by omega) fun v d0 d1 v0 v1 hb1 => ?_
  refine ⟨by omega, by omega, ?_⟩
  refine ⟨fun i acc ρ => ∃ (taken left : List Str) (c0 c1 : Int), acc = taken.map D.str ∧ taken.length = i ∧ Took taken left ∧ Bx (1 + i) c0 c1 b2 ∧ ρ = [some (.ls [.int c0, .int c1, .int b2]), some (.fz (.int 5)), some (.ls (left.map D.str)), none, none, none, none, none, none, none, none, none],
    ⟨[], fixedL, d0, d1, rfl, rfl, ⟨.refl _⟩, hb1, rfl⟩, fun i d acc ρ hd hI => ?_, fun acc ρ hI => ?_⟩
  · obtain ⟨taken, left, p0, p1, rfl, hl, tk, hbx, rfl⟩ := hI
    obtain ⟨hi, rfl⟩ := rngD_get hd
    have hi : i < 5 := by omega
    have ll := tk.len
    refine ⟨trivial, ?_⟩
    refine take_spec hbx (by omega) (by rw [List.length_map]; omega) (by rw [List.length_map]; omega) fun u q0 q1 u0 u1 hb2 => ?_
    rw [List.length_map] at u1
    have hu : u.toNat < left.length := by omega
    have eu : ixN (left.map D.str).length u = some u.toNat := by
      unfold ixN
      rw [if_pos (by omega), if_pos (by rw [List.length_map]; omega)]
    have eg : (left.map D.str)[u.toNat]? = some (.str left[u.toNat]) := by rw [List.getElem?_map, List.getElem?_eq_getElem hu]; rfl
    refine ⟨⟨by omega, by omega⟩, u.toNat, _, eu, eg, ?_⟩
    refine ⟨sz_lt (by rw [List.length_map]; omega), taken ++ [left[u.toNat]], left.eraseIdx u.toNat, q0, q1, by rw [List.map_append]; rfl, by simp [hl], tk.next hu, hb2.mono (by omega), ?_⟩
    rw [← erase_map]; rfl
  obtain ⟨names, left, p0, p1, rfl, hl, tk, hbx, rfl⟩ := hI
  rw [rngD_len] at hl hbx
  have ln1 : 1 ≤ names.length := by omega
  have ln5 : names.length ≤ 5 := by omega
  have nd := tk.nd
  have st := tk.st
  have on : ∀ x ∈ names, okS x := fun x hx => okS_name (st x hx)
  have hbx : Bx 6 p0 p1 b2 := hbx.mono (by omega)
  refine take_spec hbx (by omega) (by omega) (by omega) fun way q0 q1 w0 w1 hb2 => ?_
  refine ⟨sz_le (by decide), ?_⟩
  have hln : (names.map D.str).length = names.length := List.length_map ..
  refine ⟨by omega, by omega, ?_⟩
  -- pairs
  refine ⟨fun i ρ => ∃ (prs : List (Str × Str)) (c0 c1 : Int) (x y : Option O), (∀ p ∈ prs, GoodPair names p) ∧ prs.length ≤ 5 * i ∧ Bx (7 + 5 * i) c0 c1 b2 ∧ ρ = [some (.ls [.int c0, .int c1, .int b2]), some (.fz (.int 5)), some (.ls (left.map D.str)), some (.ls (names.map D.str)), none, some (.fz (.int way)), some (.ls (prs.map spD)), x, y, none, none, none],
    ⟨[], q0, q1, none, none, by simp, by simp, hb2, rfl⟩, fun i d ρ hd hI => ?_, fun ρ hI => ?_⟩
  · obtain ⟨prs, r0, r1, x, y, hp, hpl, hb3, rfl⟩ := hI
    obtain ⟨hi, rfl⟩ := rngD_get hd
    have hi : i < names.length := by omega
    refine ⟨by omega, by omega, ?_⟩
    refine ⟨fun j ρ => ∃ (prs : List (Str × Str)) (c0 c1 : Int) (y : Option O), (∀ p ∈ prs, GoodPair names p) ∧ prs.length ≤ 5 * i + j ∧ Bx (7 + 5 * i + j) c0 c1 b2 ∧ ρ = [some (.ls [.int c0, .int c1, .int b2]), some (.fz (.int 5)), some (.ls (left.map D.str)), some (.ls (names.map D.str)), none, some (.fz (.int way)), some (.ls (prs.map spD)), some (.fz (.int (i : Nat))), y, none, none, none],
      ⟨prs, r0, r1, y, hp, hpl, hb3, rfl⟩, fun j d ρ hd hI => ?_, fun ρ hI => ?_⟩
    · obtain ⟨prs, r0, r1, y, hp, hpl, hb3, rfl⟩ := hI
      obtain ⟨hj, rfl⟩ := rngD_get hd
      have hj : j < i := by omega
      have hj' : j < names.length := by omega
      have good : GoodPair names (names[j], names[i]) := ⟨List.getElem_mem _, List.getElem_mem _, fun e => by
        have := (List.getElem_inj nd).mp e
        omega⟩
      have add : ∀ (c0 c1 : Int), Bx (7 + 5 * i + j + 1) c0 c1 b2 → ∃ (prs' : List (Str × Str)) (c0' c1' : Int) (y : Option O), (∀ p ∈ prs', GoodPair names p) ∧ prs'.length ≤ 5 * i + (j + 1) ∧ Bx (7 + 5 * i + (j + 1)) c0' c1' b2 ∧ [some (.ls [.int c0, .int c1, .int b2]), some (.fz (.int 5)), some (.ls (left.map D.str)), some (.ls (names.map D.str)), none, some (.fz (.int way)), some (.ls (prs.map spD ++ [.tup [.str names[j], .str names[i]]])), some (.fz (.int (i : Nat))), some (.fz (.int (j : Nat))), none, none, none] = [some (.ls [.int c0', .int c1', .int b2]), some (.fz (.int 5)), some (.ls (left.map D.str)), some (.ls (names.map D.str)), none, some (.fz (.int way)), some (.ls (prs'.map spD)), some (.fz (.int (i : Nat))), y, none, none, none] := fun c0 c1 hq =>
        ⟨prs ++ [(names[j], names[i])], c0, c1, _, fun p hpp => by
          rcases List.mem_append.mp hpp with h | h
          · exact hp p h
          · rw [List.mem_singleton.mp h]; exact good, by simp; omega, hq.mono (by omega), by rw [List.map_append]; rfl⟩
      refine ⟨.inl rfl, iteB (fun e => ?_) (fun e => ?_)⟩
      · refine ⟨trivial, _, atS hj', _, atS hi, szB rfl, sz_lt (by rw [List.length_map]; omega), ?_⟩
        exact add r0 r1 (hb3.mono (by omega))
      refine iteB (fun e => ?_) (fun e => ?_)
      · refine take_spec hb3 (by omega) (by omega) (by omega) fun u s0 s1 u0 u1 hb4 => ?_
        refine ⟨.inl rfl, iteB (fun e => ?_) (fun e => ?_)⟩
        · refine ⟨trivial, _, atS hj', _, atS hi, szB rfl, sz_lt (by rw [List.length_map]; omega), ?_⟩
          exact add s0 s1 hb4
        · exact ⟨prs, s0, s1, _, hp, by omega, hb4.mono (by omega), rfl⟩
      · exact ⟨prs, r0, r1, _, hp, by omega, hb3.mono (by omega), rfl⟩
    · obtain ⟨prs, r0, r1, y, hp, hpl, hb3, rfl⟩ := hI
      rw [rngD_len] at hpl hb3
      exact ⟨prs, r0, r1, _, _, hp, by omega, hb3.mono (by omega), rfl⟩
  obtain ⟨prs, r0, r1, x, y, hp, hpl, hb3, rfl⟩ := hI
  rw [rngD_len] at hpl hb3
  have hpl : prs.length ≤ 25 := by omega
  have hb3 : Bx 100 r0 r1 b2 := hb3.mono (by omega)
  have op : ∀ p ∈ prs, okS p.1 ∧ okS p.2 := fun p hpp => ⟨on _ (hp p hpp).a, on _ (hp p hpp).b⟩
  have sp := shp_spl op
  -- beside
  refine ⟨fun i ρ => ∃ (kvs : List (Key × D)) (x10 : Option O), kvs.length ≤ i ∧ ρ = [some (.ls [.int r0, .int r1, .int b2]), some (.fz (.int 5)), some (.ls (left.map D.str)), some (.fz (.lst (names.map D.str))), none, some (.fz (.int way)), some (.ls (prs.map spD)), x, y, some (.dc kvs), x10, none],
    ⟨[], none, by simp, rfl⟩, fun i d ρ hd hI => ?_, fun ρ hI => ?_⟩
  · obtain ⟨kvs, x10, hk, rfl⟩ := hI
    rw [List.getElem?_map] at hd
    obtain ⟨one, hx, rfl⟩ := Option.map_eq_some_iff.mp hd
    have hi := (List.getElem?_eq_some_iff.mp hx).1
    have o1 := on one (List.mem_of_getElem? hx)
    refine compAny (ρ0 := [some (.ls [.int r0, .int r1, .int b2]), some (.fz (.int 5)), some (.ls (left.map D.str)), some (.fz (.lst (names.map D.str))), none, some (.fz (.int way)), some (.ls (prs.map spD)), x, y, some (.dc kvs), some (.fz (.str one)), none]) (fun I j d acc hd hl n => ?_) (fun acc => ?_)
    · rw [List.getElem?_map] at hd
      obtain ⟨nm, hx2, rfl⟩ := Option.map_eq_some_iff.mp hd
      have hj := (List.getElem?_eq_some_iff.mp hx2).1
      have o2 := on nm (List.mem_of_getElem? hx2)
      refine ⟨.inl rfl, iteB (fun e => ?_) (fun e => ?_)⟩
      · refine ⟨szB rfl, .inr ⟨shp_sp (p := (nm, one)) ⟨o2, o1⟩, sp⟩, iteB (fun e => ?_) (fun e => ?_)⟩
        · exact n _ (by omega)
        · refine ⟨szB rfl, .inr ⟨shp_sp (p := (one, nm)) ⟨o1, o2⟩, sp⟩, iteB (fun e => ?_) (fun e => ?_)⟩
          all_goals first
            | exact ⟨sz_lt (by omega), n _ (by simp; omega)⟩
            | exact n acc (by omega)
      · exact n _ (by omega)
    · refine ⟨sz_lt (by omega), _, _, ?_, rfl⟩
      show (putDk kvs _ _).length ≤ i + 1
      unfold putDk
      split <;> simp <;> omega
  · obtain ⟨kvs, x10, hk, rfl⟩ := hI
    refine ⟨szB rfl, ?_⟩
    exact h names prs _ r0 r1 ⟨ln1, ln5, st, nd, hp, by omega⟩ hb3
end
end T
namespace T
open PySem L2 AE AH
theorem join_len : ∀ (l : List (List Nat)), (TL.joinL [32] l).length ≤ (l.map List.length).sum + l.length
  | [] => by simp [TL.joinL]
  | p :: l => by
    cases l with
    | nil => simp [TL.joinL]
    | cons q r =>
      rw [joinL_cons (by simp)]
      have := join_len (q :: r)
      simp only [List.length_append, List.map_cons, List.sum_cons, List.length_cons, List.length_nil] at this ⊢
      omega
theorem join_mem : ∀ (l : List (List Nat)), ∀ c ∈ TL.joinL [32] l, c = 32 ∨ ∃ p ∈ l, c ∈ p
  | [] => by intro c h; simp [TL.joinL] at h
  | p :: l => by
    intro c hc
    cases l with
    | nil => exact .inr ⟨p, List.mem_cons_self, by simpa [TL.joinL] using hc⟩
    | cons q r =>
      rw [joinL_cons (by simp)] at hc
      rcases List.mem_append.mp hc with h | h
      · exact .inr ⟨p, List.mem_cons_self, h⟩
      · rcases List.mem_append.mp h with h | h
        · exact .inl (List.mem_singleton.mp h)
        · rcases join_mem (q :: r) c h with h | ⟨z, hz, h⟩
          · exact .inl h
          · exact .inr ⟨z, List.mem_cons_of_mem _ hz, h⟩
theorem tl_joinB (l : List Str) : TL.tl (Txt.join blank l) = TL.joinL [32] (l.map TL.tl) := by rw [TL.join_eq, TL.tl_join, tl_blank]
theorem joinB_len {l : List Str} : (Txt.join blank l).length ≤ (l.map (·.length)).sum + l.length := by
  have := join_len (l.map TL.tl)
  rw [← tl_joinB, ← map_len, ← TL.len_tl, List.length_map] at this
  exact this
theorem joinB_ok {l : List Str} (h : ∀ x ∈ l, okS x) : okS (Txt.join blank l) := by
  rw [okS_iff]
  intro c hc
  rw [tl_joinB] at hc
  rcases join_mem _ c hc with rfl | ⟨p, hp, h2⟩
  · omega
  · obtain ⟨x, hx, rfl⟩ := List.mem_map.mp hp
    exact okS_iff.mp (h x hx) c h2
theorem sum_le : ∀ {l : List Str} {w : Nat}, (∀ x ∈ l, x.length ≤ w) → (l.map (·.length)).sum ≤ l.length * w
  | [], w, h => by simp
  | a :: l, w, h => by
    have := sum_le (l := l) (w := w) fun x hx => h x (List.mem_cons_of_mem _ hx)
    have := h a List.mem_cons_self
    simp only [List.map_cons, List.sum_cons, List.length_cons, Nat.succ_mul]
    omega
theorem law_spec {K : PySem.W.Frag} (k : WordK K) {ns : List Int} : F_law K [.fz (.scr ns)] (fun o _ => o = .fz (.bl true)) (fun _ _ => False) := by
  unfold F_law
  refine ⟨rfl, ?_⟩
  unfold t_law
  refine box_spec (by omega) (by omega) fun c hc => ?_
  refine spec_model hc fun names prs z e0 e1 g hb => ?_
  refine ⟨_, rfl, _, rfl, ?_⟩
  refine spec_book k.book g ?_
  refine spec_signs g.l5 (fun x hx => (g.st x hx).l6) ?_
  refine spec_moves_drawn g hb (by omega) fun ms d0 d1 hl hm hb1 => ?_
  have hs := sum_le (w := 15) fun x hx => (hm x hx).1
  have e15 : ms.length * 15 ≤ 120 := by omega
  refine ⟨ms, rfl, ?_, ?_⟩
  · show (ms.map (·.length)).sum + ms.length * 1 ≤ _
    omega
  have jl : (Txt.join blank ms).length ≤ 128 := Nat.le_trans joinB_len (by omega)
  have jo : okS (Txt.join blank ms) := joinB_ok fun x hx => (hm x hx).2
  show _
  generalize hline : Txt.join blank ms = line at jl jo
  refine spec_right k g (line := Txt.join blank ms) (by rw [hline]; omega) (by rw [hline]; exact jo) ?_
  refine ⟨by omega, by omega, ?_⟩
  refine ⟨fun i ρ => ∃ (c0 c1 : Int) (x y : Option O), Bx (200 + 8 * i) c0 c1 911 ∧ ρ = [some (.fz (.scr ns)), some (.ls [.int c0, .int c1, .int 911]), some (.ls [.lst (names.map D.str), .lst (prs.map spD), z]), some (.fz (bookD K names prs)), some (.fz (.lst ((signsL names).map D.str))), some (.fz (.str (Txt.join blank ms))), x, y],
    ⟨d0, d1, none, none, hb1.mono (by omega), rfl⟩, fun i d ρ hd hI => ?_, fun ρ hI => ?_⟩
  · obtain ⟨c0, c1, x, y, hb2, rfl⟩ := hI
    obtain ⟨hi, rfl⟩ := rngD_get hd
    have hi : i < 8 := hi
    refine spec_spoiled (by rw [hline]; omega) (by rw [hline]; exact jo) hb2 (by omega) fun r p0 p1 hr or hb3 => ?_
    rw [hline] at hr
    refine spec_right k g (by omega) or ?_
    refine spec_spoiled (by omega) or hb3 (by omega) fun r2 q0 q1 hr2 or2 hb4 => ?_
    refine spec_right k g (by omega) or2 ?_
    exact ⟨q0, q1, _, _, hb4.mono (by omega), rfl⟩
  · obtain ⟨c0, c1, x, y, hb2, rfl⟩ := hI
    have o0 : okS "" := by rw [okS_iff]; decide +kernel
    have o1 : okS " " := by rw [okS_iff]; decide +kernel
    refine spec_right k g (line := "") (by decide) o0 ?_
    refine spec_right k g (line := " ") (by decide) o1 ?_
    refine spec_right k g (line := "-") (by decide) ok_dash ?_
    rfl
end T
namespace T
open PySem L2 AE AH
theorem wk_of {K : PySem.W.Frag} (c : chk K = true) : WordK K := by
  obtain ⟨c1, c⟩ := andB c
  obtain ⟨c2, c⟩ := andB c
  obtain ⟨c3, c⟩ := andB c
  obtain ⟨c4, c⟩ := andB c
  obtain ⟨c5, c⟩ := andB c
  obtain ⟨c6, c⟩ := andB c
  obtain ⟨c7, c⟩ := andB c
  obtain ⟨c8, c⟩ := andB c
  obtain ⟨c9, c⟩ := andB c
  obtain ⟨c10, c⟩ := andB c
  obtain ⟨c11, c⟩ := andB c
  obtain ⟨k1, c⟩ := andB c
  obtain ⟨k2, k3⟩ := andB c
  have cl : ∀ x ∈ owns, Cls K (C K x) := fun x hx => clsB_ok (andB (List.all_eq_true.mp c5 x hx)).1
  have ins : ∀ x ∈ owns, InsIs K (C K x) := fun x hx => insB_ok (cl x hx) (andB (List.all_eq_true.mp c5 x hx)).2
  have fl : ∀ (x : Str) (l : List Str), x ∈ owns → (∀ f ∈ l, (x, f) ∈ flds) → ∀ f ∈ l, FldOk K (C K x) f := fun x l hx hl f hf => fldB_ok (cl x hx) (List.all_eq_true.mp c6 (x, f) (hl f hf))
  have kk : ∀ p ∈ kits, PySem.W.kitOne K (.ref (C K p.1)) (.ref (C K p.2)) = some true := fun p hp => of_decide_eq_true (List.all_eq_true.mp k2 p hp)
  have ex : XIs K (C K "BadText") := by
    have z := List.all_eq_true.mp c3 "BadText" (by decide)
    obtain ⟨z1, z⟩ := andB z
    exact (excB_ok (andB z).1).xi
  exact ⟨⟨of_decide_eq_true k1, fl "Book" _ (by decide) (by decide)⟩, fl "Word" _ (by decide) (by decide), ins "Book" (by decide), kk ("Book", "Book") (by decide), ins "Word" (by decide), kk ("Word", "Word") (by decide), ex, kk ("BadText", "StepError") (by decide), of_decide_eq_true k3⟩
theorem pure_law (K : PySem.W.Frag) (c : chk K = true) (ns : List Int) (_ : ns.length ≤ 63) : F_law K [.fz (.scr ns)] (fun o _ => o = .fz (.bl true)) (fun _ _ => False) := law_spec (wk_of c)
end T
open PySem PySem.W PySem.Calls PyProof.Rows
set_option maxRecDepth 100000 in
set_option maxHeartbeats 0 in
theorem PySem.Challenge.cw_stephulls_k07_texts_of_words_holds : PySem.Challenge.rw_stephulls_k07_texts_of_words.Holds := by
  w_on; o_law
  refine HandSHeadRun.head_any (r := OpenLaw.row PySem.Challenge.rw_stephulls_k07_texts_of_words) (q := view (OpenLaw.row PySem.Challenge.rw_stephulls_k07_texts_of_words).prog [33]) (H := T.hk) (ob := T.ob) (M := 12000) (loose := T.lo) (d := HandSHeadRun.topDef (OpenLaw.row PySem.Challenge.rw_stephulls_k07_texts_of_words).prog 33) (kwd := []) AH.seeC_eq
    (by kernel_rfl) (fun s => by kernel_rfl) T.run (by kernel_rfl) (by kernel_rfl) (by kernel_rfl) (by rfl) (by first | assumption | decide +kernel) (by decide +kernel) ⟨rfl, rfl, rfl, rfl, rfl, by decide +kernel⟩ ?hw ?hc
  case hw => w_witness2
  case hc =>
    refine AH.walk_ofW (l := PySem.Challenge.rw_stephulls_k07_texts_of_words) (n := 63) (k := 8) (x := "_law_script") (CX := fun w => L2N.CX (PySem.Challenge.rw_stephulls_k07_texts_of_words).prog w) rfl (by decide) (by kernel_rfl) ⟨rfl, by decide, by decide⟩ ?F (fun _ _ _ _ _ z => AH.noCX z)
    intro w mg fa h Y G hmg0
    obtain ⟨K, KX, c⟩ := Y
    have hmg : mg ("law" : PySem.Str) = some (.ref fa) := by
      have e : (HandSHeadRun.topDef (OpenLaw.row PySem.Challenge.rw_stephulls_k07_texts_of_words).prog 33).name = ("law" : PySem.Str) := by kernel_rfl
      rw [← e]
      exact hmg0
    obtain ⟨fd, hb, hF⟩ := T.facts (P := (PySem.Challenge.rw_stephulls_k07_texts_of_words).prog) (w := w) KX G hmg c
    exact ⟨K, fd, _, KX, hb, fun H a ns hl _ hS => AH.spLaw (T.pure_law K c.1) H a ns hl hS, hF⟩

